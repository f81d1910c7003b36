import PyProof.Rows.All
import Wide.All
import OpenK.AllK
import Wide.FinOn
import HandS.ForMost
import HandS.ForExc
import HandS.IsInst
import HandS.Flow
import HandS.Deep
import HandS.DictComp
import HandS.Conv
import HandS.Strs
import HandS.TupAny
import HandS.TryMany
import HandS.Zip
import HandS.Wide
import PySem.Challenge.RW_evenback_k02_names_and_periods_judged
set_option Elab.async false
set_option linter.all false
set_option maxRecDepth 100000
set_option maxHeartbeats 4000000
namespace DL
open PySem L2 PySem.Spec PyProof.Rows

/-! ### data -/
inductive D where
  | non | bl (b : Bool) | int (i : Int) | str (x : Str) | lst (xs : List D) | tup (xs : List D)
  | dic (kvs : List (Key × D)) | dit (kvs : List (List Key × D)) | obj (c : Str) (fs : List (Str × D)) | drw | ty (n : String) | scr (ns : List Int)

structure Exc where
  cls : Str
  fs : List (Str × D)

/-! ### the monad: none is stuck -/
abbrev M (S A : Type) := S → Option (Except Exc A × S)
section
variable {S A B C : Type}
def ret (a : A) : M S A := fun s => some (.ok a, s)
def stk : M S A := fun _ => none
def thr (x : Exc) : M S A := fun s => some (.error x, s)
def bnd (m : M S A) (f : A → M S B) : M S B := fun s => match m s with
  | none => none
  | some (.error e, s') => some (.error e, s')
  | some (.ok a, s') => f a s'
def lft : Option A → M S A
  | some a => ret a
  | none => stk
/-- a pure run within another state -/
def pur (m : M Unit A) : M S A := fun s => match m () with
  | none => none
  | some (r, _) => some (r, s)
@[simp] theorem bnd_ret (a : A) (f : A → M S B) : bnd (ret a) f = f a := rfl
@[simp] theorem bnd_stk (f : A → M S B) : bnd (stk : M S A) f = stk := rfl
@[simp] theorem bnd_thr (x : Exc) (f : A → M S B) : bnd (thr x : M S A) f = thr x := rfl
@[simp] theorem lft_some (a : A) : (lft (some a) : M S A) = ret a := rfl
@[simp] theorem lft_none : (lft (none : Option A) : M S A) = stk := rfl
@[simp] theorem pur_ret (a : A) : (pur (ret a) : M S A) = ret a := rfl
@[simp] theorem pur_thr (x : Exc) : (pur (thr x) : M S A) = thr x := rfl
@[simp] theorem pur_stk : (pur stk : M S A) = stk := rfl
theorem bnd_assoc (m : M S A) (f : A → M S B) (g : B → M S C) : bnd (bnd m f) g = bnd m fun a => bnd (f a) g := by
  funext s
  unfold bnd
  cases m s with
  | none => rfl
  | some p => obtain ⟨r, s'⟩ := p; cases r <;> rfl
end

/-! ### what stands for a datum -/
def TupAt (K : PySem.W.Frag) (Z : Addr → Prop) (H : Hp) (a : Addr) (vs : List V) : Prop := (Z a ∧ H a = some (.tup vs)) ∨ ∀ H', SqT K H' a vs
def ScrAt (K : PySem.W.Frag) (Z : Addr → Prop) (H : Hp) (a : Addr) (vs : List V) : Prop := (Z a ∧ Rd H a (.lst vs)) ∨ ∀ H', SqL K H' a vs
theorem TupAt.sq {K : PySem.W.Frag} {Z : Addr → Prop} {H : Hp} {a : Addr} {vs : List V} (h : TupAt K Z H a vs) : SqT K H a vs := by
  rcases h with ⟨_, h⟩ | h
  · exact .inl (.inl h)
  · exact h H
theorem ScrAt.sq {K : PySem.W.Frag} {Z : Addr → Prop} {H : Hp} {a : Addr} {vs : List V} (h : ScrAt K Z H a vs) : SqL K H a vs := by
  rcases h with ⟨_, h⟩ | h
  · exact .inl h
  · exact h H
theorem rdAt {H H' : Hp} {a : Addr} {u : HO} (h : Rd H a u) (e : H' a = H a) : Rd H' a u := by
  rcases h with h | ⟨o, h⟩
  · exact .inl (e.trans h)
  · exact .inr ⟨o, e.trans h⟩

/-- the fixed surroundings: the written part, the module's names, where the draws lie -/
structure Cn where
  K : PySem.W.Frag
  mg : Str → Option Value
  da : Addr → Prop

inductive Fz (c : Cn) (Z : Addr → Prop) (H : Hp) : V → D → Prop
  | non : Fz c Z H .non .non
  | bl (b : Bool) : Fz c Z H (.bl b) (.bl b)
  | int (i : Int) : Fz c Z H (.int i) (.int i)
  | str (x : Str) : Fz c Z H (.str x) (.str x)
  | ty (n : String) : Fz c Z H (.ty n) (.ty n)
  | scr {a : Addr} {ns : List Int} : ScrAt c.K Z H a (ns.map V.int) → ns.length ≤ 63 → Fz c Z H (.ref a) (.scr ns)
  | drw {a : Addr} : c.da a → Fz c Z H (.ref a) .drw
  | lst {a : Addr} {vs : List V} {ds : List D} : Z a → H a = some (.lst vs) → vs.length = ds.length → vs.length ≤ sizeLine →
      (∀ (i : Nat) (v : V) (d : D), vs[i]? = some v → ds[i]? = some d → Fz c Z H v d) → Fz c Z H (.ref a) (.lst ds)
  | tup {a : Addr} {vs : List V} {ds : List D} : TupAt c.K Z H a vs → vs.length = ds.length → vs.length ≤ sizeLine →
      (∀ (i : Nat) (v : V) (d : D), vs[i]? = some v → ds[i]? = some d → Fz c Z H v d) → Fz c Z H (.ref a) (.tup ds)
  | dic {a : Addr} {kvs : List (Key × V)} {des : List (Key × D)} : Z a → H a = some (.dK kvs) → kvs.length = des.length → kvs.length ≤ sizeLine →
      (∀ (i : Nat) (p : Key × V) (q : Key × D), kvs[i]? = some p → des[i]? = some q → p.1 = q.1) →
      (∀ (i : Nat) (p : Key × V) (q : Key × D), kvs[i]? = some p → des[i]? = some q → Fz c Z H p.2 q.2) → Fz c Z H (.ref a) (.dic des)
  | dit {a : Addr} {kvs : List (List Key × V)} {des : List (List Key × D)} : Z a → H a = some (.dT kvs) → kvs.length = des.length → kvs.length ≤ sizeLine →
      (∀ (i : Nat) (p : List Key × V) (q : List Key × D), kvs[i]? = some p → des[i]? = some q → p.1 = q.1) →
      (∀ (i : Nat) (p : List Key × V) (q : List Key × D), kvs[i]? = some p → des[i]? = some q → Fz c Z H p.2 q.2) → Fz c Z H (.ref a) (.dit des)
  | obj {a dx C : Addr} {x : Str} {fs : List (Str × V)} {des : List (Str × D)} : Z a → H a = some (.ins C dx fs) → c.mg x = some (.ref C) → fs.length = des.length →
      (∀ (i : Nat) (p : Str × V) (q : Str × D), fs[i]? = some p → des[i]? = some q → p.1 = q.1) →
      (∀ (i : Nat) (p : Str × V) (q : Str × D), fs[i]? = some p → des[i]? = some q → Fz c Z H p.2 q.2) → Fz c Z H (.ref a) (.obj x des)

def FzAll (c : Cn) (Z : Addr → Prop) (H : Hp) (vs : List V) (ds : List D) : Prop :=
  vs.length = ds.length ∧ ∀ (i : Nat) (v : V) (d : D), vs[i]? = some v → ds[i]? = some d → Fz c Z H v d

/-- more is frozen, what was frozen stands -/
structure Grow (Z : Addr → Prop) (H : Hp) (Z' : Addr → Prop) (H' : Hp) : Prop where
  z : ∀ a, Z a → Z' a
  h : ∀ a, Z a → H' a = H a

theorem ScrAt.grow {K : PySem.W.Frag} {Z Z' : Addr → Prop} {H H' : Hp} {a : Addr} {vs : List V} (g : Grow Z H Z' H') (h : ScrAt K Z H a vs) : ScrAt K Z' H' a vs := by
  rcases h with ⟨z, h⟩ | h
  · exact .inl ⟨g.z a z, rdAt h (g.h a z)⟩
  · exact .inr h
theorem TupAt.grow {K : PySem.W.Frag} {Z Z' : Addr → Prop} {H H' : Hp} {a : Addr} {vs : List V} (g : Grow Z H Z' H') (h : TupAt K Z H a vs) : TupAt K Z' H' a vs := by
  rcases h with ⟨z, h⟩ | h
  · exact .inl ⟨g.z a z, (g.h a z).trans h⟩
  · exact .inr h
theorem Fz.grow {c : Cn} {Z Z' : Addr → Prop} {H H' : Hp} {v : V} {d : D} (g : Grow Z H Z' H') (h : Fz c Z H v d) : Fz c Z' H' v d := by
  induction h with
  | non => exact .non
  | bl b => exact .bl b
  | int i => exact .int i
  | str x => exact .str x
  | ty n => exact .ty n
  | drw h => exact .drw h
  | scr h h2 => exact .scr (h.grow g) h2
  | lst h1 h2 h3 h4 _ ih => exact .lst (g.z _ h1) ((g.h _ h1).trans h2) h3 h4 ih
  | tup h1 h2 h3 _ ih => exact .tup (h1.grow g) h2 h3 ih
  | dic h1 h2 h3 h4 h5 _ ih => exact .dic (g.z _ h1) ((g.h _ h1).trans h2) h3 h4 h5 ih
  | dit h1 h2 h3 h4 h5 _ ih => exact .dit (g.z _ h1) ((g.h _ h1).trans h2) h3 h4 h5 ih
  | obj h1 h2 h3 h4 h5 _ ih => exact .obj (g.z _ h1) ((g.h _ h1).trans h2) h3 h4 h5 ih
theorem FzAll.grow {c : Cn} {Z Z' : Addr → Prop} {H H' : Hp} {vs : List V} {ds : List D} (g : Grow Z H Z' H') (h : FzAll c Z H vs ds) : FzAll c Z' H' vs ds :=
  ⟨h.1, fun i v d a b => (h.2 i v d a b).grow g⟩
theorem Grow.refl (Z : Addr → Prop) (H : Hp) : Grow Z H Z H := ⟨fun _ h => h, fun _ _ => rfl⟩
theorem Grow.trans {Z Z1 Z2 : Addr → Prop} {H H1 H2 : Hp} (a : Grow Z H Z1 H1) (b : Grow Z1 H1 Z2 H2) : Grow Z H Z2 H2 :=
  ⟨fun x h => b.z x (a.z x h), fun x h => (b.h x (a.z x h)).trans (a.h x h)⟩
theorem FzAll.nil {c : Cn} {Z : Addr → Prop} {H : Hp} : FzAll c Z H [] [] := ⟨rfl, fun i v d a _ => by simp at a⟩
theorem FzAll.cons {c : Cn} {Z : Addr → Prop} {H : Hp} {v : V} {d : D} {vs : List V} {ds : List D} (h : Fz c Z H v d) (t : FzAll c Z H vs ds) : FzAll c Z H (v :: vs) (d :: ds) := by
  refine ⟨by simp [t.1], fun i w e a b => ?_⟩
  cases i with
  | zero => simp at a b; subst a; subst b; exact h
  | succ i => exact t.2 i w e (by simpa using a) (by simpa using b)
theorem FzAll.inv {c : Cn} {Z : Addr → Prop} {H : Hp} {v : V} {d : D} {vs : List V} {ds : List D} (h : FzAll c Z H (v :: vs) (d :: ds)) : Fz c Z H v d ∧ FzAll c Z H vs ds :=
  ⟨h.2 0 v d rfl rfl, by simpa using h.1, fun i w e a b => h.2 (i + 1) w e (by simpa using a) (by simpa using b)⟩
theorem FzAll.snoc {c : Cn} {Z : Addr → Prop} {H : Hp} {v : V} {d : D} {vs : List V} {ds : List D} (t : FzAll c Z H vs ds) (h : Fz c Z H v d) : FzAll c Z H (vs ++ [v]) (ds ++ [d]) := by
  have hl := t.1
  refine ⟨by simp [hl], fun i w e a b => ?_⟩
  by_cases hi : i < vs.length
  · rw [List.getElem?_append_left hi] at a
    rw [List.getElem?_append_left (by omega)] at b
    exact t.2 i w e a b
  · rw [List.getElem?_append_right (by omega)] at a
    rw [List.getElem?_append_right (by omega), ← hl] at b
    cases e0 : i - vs.length with
    | zero => rw [e0] at a b; simp at a b; subst a; subst b; exact h
    | succ n => rw [e0] at a; simp at a
theorem FzAll.app {c : Cn} {Z : Addr → Prop} {H : Hp} {vs us : List V} {ds es : List D} (t : FzAll c Z H vs ds) (h : FzAll c Z H us es) : FzAll c Z H (vs ++ us) (ds ++ es) := by
  have hl := t.1
  have hl2 := h.1
  refine ⟨by simp [hl, hl2], fun i w e a b => ?_⟩
  by_cases hi : i < vs.length
  · rw [List.getElem?_append_left hi] at a
    rw [List.getElem?_append_left (by omega)] at b
    exact t.2 i w e a b
  · rw [List.getElem?_append_right (by omega)] at a
    rw [List.getElem?_append_right (by omega), ← hl] at b
    exact h.2 _ w e a b

/-! ### the state that runs along, as a kind of memory of its own -/
structure Md (S : Type) where
  da : Addr → Prop
  adr : Addr → Prop
  ok : S → Hp → Prop
  frame : ∀ s H H', ok s H → (∀ b, adr b → H' b = H b) → ok s H'
  dom : ∀ s H b, ok s H → adr b → H b ≠ none
def Md.unit : Md Unit := ⟨fun _ => False, fun _ => False, fun _ _ => True, fun _ _ _ _ _ => trivial, fun _ _ _ _ h => h.elim⟩

/-- a def's run: its kind of memory, what was frozen and what stood at its entry -/
structure Fc (S : Type) where
  K : PySem.W.Frag
  mg : Str → Option Value
  md : Md S
  Z0 : Addr → Prop
  H0 : Hp
abbrev Fc.cn {S : Type} (F : Fc S) : Cn := ⟨F.K, F.mg, F.md.da⟩

/-- owned: a list, a dict, an instance that nothing else holds -/
def Ow (c : Cn) (Z : Addr → Prop) (H : Hp) (a : Addr) : D → Prop
  | .lst ds => ∃ vs, H a = some (.lst vs) ∧ vs.length ≤ sizeLine ∧ FzAll c Z H vs ds
  | .dic des => ∃ kvs, H a = some (.dK kvs) ∧ kvs.length ≤ sizeLine ∧ kvs.map (·.1) = des.map (·.1) ∧ FzAll c Z H (kvs.map (·.2)) (des.map (·.2))
  | .dit des => ∃ kvs, H a = some (.dT kvs) ∧ kvs.length ≤ sizeLine ∧ kvs.map (·.1) = des.map (·.1) ∧ FzAll c Z H (kvs.map (·.2)) (des.map (·.2))
  | .obj x des => ∃ C dx fs, H a = some (.ins C dx fs) ∧ c.mg x = some (.ref C) ∧ fs.map (·.1) = des.map (·.1) ∧ FzAll c Z H (fs.map (·.2)) (des.map (·.2))
  | _ => False
theorem Ow.grow {c : Cn} {Z Z' : Addr → Prop} {H H' : Hp} {a : Addr} {d : D} (g : Grow Z H Z' H') (e : H' a = H a) (h : Ow c Z H a d) : Ow c Z' H' a d := by
  cases d with
  | lst ds => obtain ⟨vs, h1, h2, h3⟩ := h; exact ⟨vs, e.trans h1, h2, h3.grow g⟩
  | dic des => obtain ⟨vs, h1, h2, h3, h4⟩ := h; exact ⟨vs, e.trans h1, h2, h3, h4.grow g⟩
  | dit des => obtain ⟨vs, h1, h2, h3, h4⟩ := h; exact ⟨vs, e.trans h1, h2, h3, h4.grow g⟩
  | obj x des => obtain ⟨C, dx, fs, h1, h2, h3, h4⟩ := h; exact ⟨C, dx, fs, e.trans h1, h2, h3, h4.grow g⟩
  | _ => exact h.elim
theorem Ow.there {c : Cn} {Z : Addr → Prop} {H : Hp} {a : Addr} {d : D} (h : Ow c Z H a d) : H a ≠ none := by
  cases d with
  | lst ds => obtain ⟨vs, h1, _⟩ := h; rw [h1]; simp
  | dic des => obtain ⟨vs, h1, _⟩ := h; rw [h1]; simp
  | dit des => obtain ⟨vs, h1, _⟩ := h; rw [h1]; simp
  | obj x des => obtain ⟨C, dx, fs, h1, _⟩ := h; rw [h1]; simp
  | _ => exact h.elim
theorem pair_keys {κ α β : Type} {xs : List (κ × α)} {ys : List (κ × β)} (h : xs.map (·.1) = ys.map (·.1)) (i : Nat) (p : κ × α) (q : κ × β) (a : xs[i]? = some p) (b : ys[i]? = some q) : p.1 = q.1 := by
  have h1 : (xs.map (·.1))[i]? = some p.1 := by rw [List.getElem?_map, a]; rfl
  have h2 : (ys.map (·.1))[i]? = some q.1 := by rw [List.getElem?_map, b]; rfl
  rw [h, h2] at h1
  exact (Option.some.inj h1).symm
theorem FzAll.snd {κ : Type} {c : Cn} {Z : Addr → Prop} {H : Hp} {xs : List (κ × V)} {ys : List (κ × D)} (h : FzAll c Z H (xs.map (·.2)) (ys.map (·.2))) (i : Nat) (p : κ × V) (q : κ × D) (a : xs[i]? = some p) (b : ys[i]? = some q) : Fz c Z H p.2 q.2 :=
  h.2 i p.2 q.2 (by rw [List.getElem?_map, a]; rfl) (by rw [List.getElem?_map, b]; rfl)
/-- what is owned, once frozen -/
theorem Ow.fz {c : Cn} {Z : Addr → Prop} {H : Hp} {a : Addr} {d : D} (z : Z a) (h : Ow c Z H a d) : Fz c Z H (.ref a) d := by
  cases d with
  | lst ds => obtain ⟨vs, h1, h2, h3⟩ := h; exact .lst z h1 h3.1 h2 h3.2
  | dic des => obtain ⟨vs, h1, h2, h3, h4⟩ := h; exact .dic z h1 (by simpa using h4.1) h2 (pair_keys h3) h4.snd
  | dit des => obtain ⟨vs, h1, h2, h3, h4⟩ := h; exact .dit z h1 (by simpa using h4.1) h2 (pair_keys h3) h4.snd
  | obj x des => obtain ⟨C, dx, fs, h1, h2, h3, h4⟩ := h; exact .obj z h1 h2 (by simpa using h4.1) (pair_keys h3) h4.snd
  | _ => exact h.elim

abbrev Env := List (Option D)

/-- what holds of a run's memory, whatever the names hold -/
structure Bs {S : Type} (F : Fc S) (Z : Addr → Prop) (H : Hp) (s : S) : Prop where
  st : F.md.ok s H
  zd : ∀ a, Z a → H a ≠ none ∧ ¬ F.md.adr a
  z0 : ∀ a, F.Z0 a → Z a
  zn : ∀ a, Z a → F.Z0 a ∨ F.H0 a = none
  sm : ∀ a o, F.H0 a = some o → ¬ F.md.adr a → H a = some o

structure Ok {S : Type} (F : Fc S) (own : List Nat) (Z : Addr → Prop) (H : Hp) (σ : L2.St) (ρ : Env) (s : S) : Prop extends Bs F Z H s where
  fz : ∀ i d, i ∉ own → ρ[i]? = some (some d) → ∃ v, σ[i]? = some (some v) ∧ Fz F.cn Z H v d
  ow : ∀ i d, i ∈ own → ρ[i]? = some (some d) → ∃ a, σ[i]? = some (some (.ref a)) ∧ ¬ Z a ∧ ¬ F.md.adr a ∧ F.H0 a = none ∧ Ow F.cn Z H a d
  sp : ∀ i j d d' a, i ∈ own → j ∈ own → ρ[i]? = some (some d) → ρ[j]? = some (some d') → σ[i]? = some (some (V.ref a)) → σ[j]? = some (some (V.ref a)) → i = j
  ln : ρ.length = σ.length

/-- a step that leaves all that is tracked but the run's own memory -/
structure Ext {S : Type} (F : Fc S) (Z : Addr → Prop) (H : Hp) (Z' : Addr → Prop) (H' : Hp) : Prop where
  z : ∀ a, Z a → Z' a
  zn : ∀ a, Z' a → Z a ∨ H a = none ∨ F.md.adr a
  h : ∀ a o, H a = some o → ¬ F.md.adr a → H' a = some o
section
variable {S : Type} {F : Fc S} {Z Z' Z1 Z2 : Addr → Prop} {H H' H1 H2 : Hp} {σ : L2.St} {ρ : Env} {own : List Nat} {s s' : S} {p : Addr} {o : HO} {v : V} {d : D}
theorem Ext.refl : Ext F Z H Z H := ⟨fun _ h => h, fun _ h => .inl h, fun _ _ h _ => h⟩
theorem Ext.trans (a : Ext F Z H Z1 H1) (b : Ext F Z1 H1 Z2 H2) : Ext F Z H Z2 H2 := ⟨fun x h => b.z x (a.z x h), fun x h => by
    rcases b.zn x h with q | q | q
    · exact a.zn x q
    · cases e : H x with
      | none => exact .inr (.inl rfl)
      | some o =>
        by_cases ha : F.md.adr x
        · exact .inr (.inr ha)
        · rw [a.h x o e ha] at q; cases q
    · exact .inr (.inr q), fun x o h n => b.h x o (a.h x o h n) n⟩
theorem Bs.grow (f : Bs F Z H s) (e : Ext F Z H Z' H') : Grow Z H Z' H' := ⟨e.z, fun a z => by
  obtain ⟨h1, h2⟩ := f.zd a z
  cases q : H a with
  | none => exact absurd q h1
  | some o => exact e.h a o q h2⟩
theorem Bs.nadr (f : Bs F Z H s) (n : H p = none) : ¬ F.md.adr p := fun h => F.md.dom s H p f.st h n
theorem Bs.entry (f : Bs F Z H s) (n : H p = none) : F.H0 p = none := by
  cases q : F.H0 p with
  | none => rfl
  | some o => rw [f.sm p o q (f.nadr n)] at n; cases n
theorem upd_old {q : Addr} (n : H p = none) (h : H q ≠ none) : upd H p o q = H q := upd_ne fun e => by subst e; exact h n
/-- a new object, frozen at once -/
theorem Bs.newZ (f : Bs F Z H s) (n : H p = none) : Bs F (fun a => Z a ∨ a = p) (upd H p o) s where
  st := F.md.frame s H _ f.st fun b hb => upd_old n (F.md.dom s H b f.st hb)
  zd := fun a h => by
    rcases h with h | rfl
    · rw [upd_old n (f.zd a h).1]; exact f.zd a h
    · exact ⟨by rw [upd_same]; simp, f.nadr n⟩
  z0 := fun a h => .inl (f.z0 a h)
  zn := fun a h => by
    rcases h with h | rfl
    · exact f.zn a h
    · exact .inr (f.entry n)
  sm := fun a u h k => by
    have := f.sm a u h k
    rw [upd_old n (by rw [this]; simp)]; exact this
theorem Bs.newO (f : Bs F Z H s) (n : H p = none) : Bs F Z (upd H p o) s where
  st := F.md.frame s H _ f.st fun b hb => upd_old n (F.md.dom s H b f.st hb)
  zd := fun a h => by rw [upd_old n (f.zd a h).1]; exact f.zd a h
  z0 := f.z0
  zn := f.zn
  sm := fun a u h k => by
    have := f.sm a u h k
    rw [upd_old n (by rw [this]; simp)]; exact this
theorem Ext.newZ (n : H p = none) : Ext F Z H (fun a => Z a ∨ a = p) (upd H p o) := ⟨fun _ h => .inl h, fun a h => h.elim .inl fun e => .inr (.inl (by rw [e]; exact n)), fun a u h _ => by rw [upd_old n (by rw [h]; simp)]; exact h⟩
theorem Ext.newO (n : H p = none) : Ext F Z H Z (upd H p o) := ⟨fun _ h => h, fun _ h => .inl h, fun a u h _ => by rw [upd_old n (by rw [h]; simp)]; exact h⟩
/-- the names are as they were behind a step that leaves them -/
theorem Ok.carry (k : Ok F own Z H σ ρ s) (e : Ext F Z H Z' H') (f : Bs F Z' H' s') : Ok F own Z' H' σ ρ s' where
  toBs := f
  fz := fun i d h1 h2 => by
    obtain ⟨v, h3, h4⟩ := k.fz i d h1 h2
    exact ⟨v, h3, h4.grow (k.toBs.grow e)⟩
  ow := fun i d h1 h2 => by
    obtain ⟨a, h3, h4, h5, h6, h7⟩ := k.ow i d h1 h2
    have hs := h7.there
    refine ⟨a, h3, fun z => ?_, h5, h6, h7.grow (k.toBs.grow e) ?_⟩
    · rcases e.zn a z with q | q | q
      · exact h4 q
      · exact hs q
      · exact h5 q
    · cases q : H a with
      | none => exact absurd q hs
      | some o => exact e.h a o q h5
  sp := k.sp
  ln := k.ln
theorem Ok.newZ (k : Ok F own Z H σ ρ s) (n : H p = none) : Ok F own (fun a => Z a ∨ a = p) (upd H p o) σ ρ s :=
  k.carry (Ext.newZ n) (k.toBs.newZ n)
theorem Ok.newO (k : Ok F own Z H σ ρ s) (n : H p = none) : Ok F own Z (upd H p o) σ ρ s :=
  k.carry (Ext.newO n) (k.toBs.newO n)

/-- frozen, or at the top an owned thing that is only looked at -/
def Bz (c : Cn) (adr : Addr → Prop) (Z : Addr → Prop) (H : Hp) (v : V) (d : D) : Prop := Fz c Z H v d ∨ ∃ a, v = .ref a ∧ ¬ adr a ∧ Ow c Z H a d
theorem Bz.ext (f : Bs F Z H s) (e : Ext F Z H Z' H') (h : Bz F.cn F.md.adr Z H v d) : Bz F.cn F.md.adr Z' H' v d := by
  rcases h with h | ⟨a, rfl, n, h⟩
  · exact .inl (h.grow (f.grow e))
  · refine .inr ⟨a, rfl, n, h.grow (f.grow e) ?_⟩
    cases q : H a with
    | none => exact absurd q h.there
    | some o => exact e.h a o q n
/-- new, and held by nothing else -/
def Frs (F : Fc S) (own : List Nat) (σ : L2.St) (ρ : Env) (Hs : Hp) (Z : Addr → Prop) (H : Hp) (v : V) (d : D) : Prop :=
  ∃ a, v = .ref a ∧ ¬ Z a ∧ ¬ F.md.adr a ∧ F.H0 a = none ∧ Ow F.cn Z H a d ∧ Hs a = none ∧ ∀ i d', i ∈ own → ρ[i]? = some (some d') → σ[i]? ≠ some (some (.ref a))
end
inductive Mo where
  | fz | bz | fr
/-- what is known of a value: frozen; looked at; new -/
def Vz {S : Type} (m : Mo) (F : Fc S) (own : List Nat) (σ : L2.St) (ρ : Env) (Hs : Hp) (Z : Addr → Prop) (H : Hp) (v : V) (d : D) : Prop := match m with
  | .fz => Fz F.cn Z H v d
  | .bz => Bz F.cn F.md.adr Z H v d
  | .fr => Frs F own σ ρ Hs Z H v d
section
variable {S : Type} {F : Fc S} {Z Z' Z1 Z2 : Addr → Prop} {H H' H1 H2 : Hp} {σ : L2.St} {ρ : Env} {own : List Nat} {s s' : S} {p : Addr} {o : HO} {v : V} {d : D} {m : Mo}
theorem Vz.bz {Hs : Hp} (h : Vz m F own σ ρ Hs Z H v d) : Bz F.cn F.md.adr Z H v d := by
  cases m with
  | fz => exact .inl h
  | bz => exact h
  | fr => obtain ⟨a, h1, h2, h3, h4, h5, _⟩ := h; exact .inr ⟨a, h1, h3, h5⟩
end

/-! ### exceptions as data -/
def ExcAt (c : Cn) (Z : Addr → Prop) (H : Hp) (x : Exc) (cls : Value) (dd : Option Addr) : Prop :=
  ∃ C, cls = .ref C ∧ c.mg x.cls = some (.ref C) ∧ ((x.fs = [] ∧ dd = none) ∨
    ∃ a fs, dd = some a ∧ H a = some (.xd fs) ∧ fs.map (·.1) = x.fs.map (·.1) ∧ FzAll c Z H (fs.map (·.2)) (x.fs.map (·.2)))

/-! ### judgements -/
inductive Fl where
  | nx | rt (d : D) | bk | ct

section
variable {S : Type}
def PostE (F : Fc S) (own : List Nat) (W : WX) (m : Mo) (Z : Addr → Prop) (H : Hp) (σ : L2.St) (ρ : Env) (Q : VK) : Option (Except Exc D × S) → Prop
  | some (.ok d, s') => ∀ v H' Z', Ext F Z H Z' H' → Ok F own Z' H' σ ρ s' → Vz m F own σ ρ H Z' H' v d → Q v H'
  | some (.error x, s') => ∀ cls dd H' Z', Bs F Z' H' s' → ExcAt F.cn Z' H' x cls dd → W cls dd σ H'
  | none => False
/-- the reading t of an expression is the function f of the names' data -/
def Ev (F : Fc S) (own : List Nat) (W : WX) (m : Mo) (t : TE) (f : Env → M S D) : Prop :=
  ∀ σ H Z ρ s Q, Ok F own Z H σ ρ s → PostE F own W m Z H σ ρ Q (f ρ s) → t σ H Q
structure DE (X : Cx) (F : Fc S) (own : List Nat) (W : WX) (m : Mo) (e : Expr) (t : TE) (f : Env → M S D) : Prop where
  pe : PE X e t
  ev : Ev F own W m t f
def PostT (F : Fc S) (own : List Nat) (W : WX) (Z : Addr → Prop) (H : Hp) (σ : L2.St) (ρ : Env) (Q : Bool → Hp → Prop) : Option (Except Exc Bool × S) → Prop
  | some (.ok b, s') => ∀ H' Z', Ext F Z H Z' H' → Ok F own Z' H' σ ρ s' → Q b H'
  | some (.error x, s') => ∀ cls dd H' Z', Bs F Z' H' s' → ExcAt F.cn Z' H' x cls dd → W cls dd σ H'
  | none => False
def EvT (F : Fc S) (own : List Nat) (W : WX) (t : TT) (f : Env → M S Bool) : Prop :=
  ∀ σ H Z ρ s Q, Ok F own Z H σ ρ s → PostT F own W Z H σ ρ Q (f ρ s) → t σ H Q
structure DT (X : Cx) (F : Fc S) (own : List Nat) (W : WX) (e : Expr) (t : TT) (f : Env → M S Bool) : Prop where
  pt : PT X e t
  ev : EvT F own W t f
def PostA (F : Fc S) (own : List Nat) (W : WX) (Z : Addr → Prop) (H : Hp) (σ : L2.St) (ρ : Env) (Q : List V → Hp → Prop) : Option (Except Exc (List D) × S) → Prop
  | some (.ok ds, s') => ∀ vs H' Z', Ext F Z H Z' H' → Ok F own Z' H' σ ρ s' → FzAll F.cn Z' H' vs ds → Q vs H'
  | some (.error x, s') => ∀ cls dd H' Z', Bs F Z' H' s' → ExcAt F.cn Z' H' x cls dd → W cls dd σ H'
  | none => False
def EvA (F : Fc S) (own : List Nat) (W : WX) (t : TA) (f : Env → M S (List D)) : Prop :=
  ∀ σ H Z ρ s Q, Ok F own Z H σ ρ s → PostA F own W Z H σ ρ Q (f ρ s) → t σ H Q
structure DA (X : Cx) (F : Fc S) (own : List Nat) (W : WX) (es : List Expr) (t : TA) (f : Env → M S (List D)) : Prop where
  pa : PA X es t
  ev : EvA F own W t f
/-- what comes back of a def: frozen, or new and owned -/
def Res (fr : Bool) (F : Fc S) (Z : Addr → Prop) (H : Hp) (v : V) (d : D) : Prop :=
  if fr then ∃ a, v = .ref a ∧ ¬ Z a ∧ ¬ F.md.adr a ∧ F.H0 a = none ∧ Ow F.cn Z H a d else Fz F.cn Z H v d
def PostS (F : Fc S) (own' oL : List Nat) (W : WX) (fr : Bool) (Z : Addr → Prop) (H : Hp) (D : Ends) : Option (Except Exc (Fl × Env) × S) → Prop
  | some (.ok (.nx, ρ'), s') => ∀ σ' H' Z', Grow Z H Z' H' → Ok F own' Z' H' σ' ρ' s' → D.nx σ' H'
  | some (.ok (.bk, ρ'), s') => ∀ σ' H' Z', Grow Z H Z' H' → Ok F oL Z' H' σ' ρ' s' → D.bk σ' H'
  | some (.ok (.ct, ρ'), s') => ∀ σ' H' Z', Grow Z H Z' H' → Ok F oL Z' H' σ' ρ' s' → D.ct σ' H'
  | some (.ok (.rt d, _), s') => ∀ v H' Z', Bs F Z' H' s' → Res fr F Z' H' v d → D.rt v H'
  | some (.error x, s') => ∀ cls dd σ' H' Z', Bs F Z' H' s' → ExcAt F.cn Z' H' x cls dd → W cls dd σ' H'
  | none => False
def EvS (F : Fc S) (own own' oL : List Nat) (W : WX) (fr : Bool) (t : TS) (f : Env → M S (Fl × Env)) : Prop :=
  ∀ σ H Z ρ s D, Ok F own Z H σ ρ s → PostS F own' oL W fr Z H D (f ρ s) → t D σ H
structure DS (X : Cx) (F : Fc S) (own own' oL : List Nat) (W : WX) (fr : Bool) (st : Stmt) (t : TS) (f : Env → M S (Fl × Env)) : Prop where
  ps : PS X st t
  ev : EvS F own own' oL W fr t f
structure DSs (X : Cx) (F : Fc S) (own own' oL : List Nat) (W : WX) (fr : Bool) (sts : List Stmt) (t : TS) (f : Env → M S (Fl × Env)) : Prop where
  ps : PSs X sts t
  ev : EvS F own own' oL W fr t f
end
end DL

namespace DL
open PySem L2 PySem.Spec PyProof.Rows

section
variable {S : Type} {X : Cx} {F : Fc S} {Z Z' Z1 Z2 : Addr → Prop} {H H' H1 H2 : Hp} {σ : L2.St} {ρ : Env} {own : List Nat} {s s' : S} {p : Addr} {o : HO} {v : V} {d : D} {m m' m1 m2 : Mo} {W : WX} {Q : VK}
variable {a b c e : Expr} {ta tb tc te : TE} {fa fb fc fe : Env → M S D} {pos : Pos}

theorem PostE.from (x : Ext F Z H Z1 H1) {r : Option (Except Exc D × S)} (h : PostE F own W m Z H σ ρ Q r) : PostE F own W m Z1 H1 σ ρ Q r := by
  match r, h with
  | none, h => exact h
  | some (.ok d, s'), h =>
    intro v H' Z' e k z
    refine h v H' Z' (x.trans e) k ?_
    cases m with
    | fz => exact z
    | bz => exact z
    | fr =>
      obtain ⟨a, h1, h2, h3, h4, h5, h6, h7⟩ := z
      refine ⟨a, h1, h2, h3, h4, h5, ?_, h7⟩
      cases q : H a with
      | none => rfl
      | some o => rw [x.h a o q h3] at h6; cases h6
  | some (.error y, s'), h => exact h
theorem PostT.from (x : Ext F Z H Z1 H1) {Q : Bool → Hp → Prop} {r : Option (Except Exc Bool × S)} (h : PostT F own W Z H σ ρ Q r) : PostT F own W Z1 H1 σ ρ Q r := by
  match r, h with
  | none, h => exact h
  | some (.ok d, s'), h => exact fun H' Z' e => h H' Z' (x.trans e)
  | some (.error y, s'), h => exact h
theorem PostA.from (x : Ext F Z H Z1 H1) {Q : List V → Hp → Prop} {r : Option (Except Exc (List D) × S)} (h : PostA F own W Z H σ ρ Q r) : PostA F own W Z1 H1 σ ρ Q r := by
  match r, h with
  | none, h => exact h
  | some (.ok d, s'), h => exact fun v H' Z' e => h v H' Z' (x.trans e)
  | some (.error y, s'), h => exact h
/-- a value at hand -/
theorem PostE.val (h : PostE F own W m Z H σ ρ Q (ret d s)) (k : Ok F own Z H σ ρ s) (z : Vz m F own σ ρ H Z H v d) : Q v H := h v H Z Ext.refl k z
/-- two in a row -/
theorem Ev.bind {m' : Mo} {g : Env → D → M S D} {K : V → L2.St → Hp → VK → Prop} (ha : Ev F own W m ta fa)
    (hk : ∀ v d Hs Z H σ ρ s Q, Ok F own Z H σ ρ s → Vz m F own σ ρ Hs Z H v d → PostE F own W m' Z H σ ρ Q (g ρ d s) → K v σ H Q) :
    Ev F own W m' (fun σ H Q => ta σ H fun x H1 => K x σ H1 Q) (fun ρ => bnd (fa ρ) (g ρ)) := by
  intro σ H Z ρ s Q k h
  refine ha σ H Z ρ s _ k ?_
  dsimp only [bnd] at h
  match e : fa ρ s, h with
  | none, h => exact h
  | some (.error y, s'), h => exact h
  | some (.ok d, s'), h => exact fun v H' Z' x k' z => hk v d _ Z' H' σ ρ s' Q k' z (h.from x)
theorem Ev.bindT {fT : Env → M S Bool} {t : TT} {m' : Mo} {g : Env → Bool → M S D} {K : Bool → L2.St → Hp → VK → Prop} (ha : EvT F own W t fT)
    (hk : ∀ d Z H σ ρ s Q, Ok F own Z H σ ρ s → PostE F own W m' Z H σ ρ Q (g ρ d s) → K d σ H Q) :
    Ev F own W m' (fun σ H Q => t σ H fun x H1 => K x σ H1 Q) (fun ρ => bnd (fT ρ) (g ρ)) := by
  intro σ H Z ρ s Q k h
  refine ha σ H Z ρ s _ k ?_
  dsimp only [bnd] at h
  match e : fT ρ s, h with
  | none, h => exact h
  | some (.error y, s'), h => exact h
  | some (.ok d, s'), h => exact fun H' Z' x k' => hk d Z' H' σ ρ s' Q k' (h.from x)
theorem Ev.bindA {fA : Env → M S (List D)} {t : TA} {m' : Mo} {g : Env → List D → M S D} {K : List V → L2.St → Hp → VK → Prop} (ha : EvA F own W t fA)
    (hk : ∀ vs ds Z H σ ρ s Q, Ok F own Z H σ ρ s → FzAll F.cn Z H vs ds → PostE F own W m' Z H σ ρ Q (g ρ ds s) → K vs σ H Q) :
    Ev F own W m' (fun σ H Q => t σ H fun x H1 => K x σ H1 Q) (fun ρ => bnd (fA ρ) (g ρ)) := by
  intro σ H Z ρ s Q k h
  refine ha σ H Z ρ s _ k ?_
  dsimp only [bnd] at h
  match e : fA ρ s, h with
  | none, h => exact h
  | some (.error y, s'), h => exact h
  | some (.ok d, s'), h => exact fun vs H' Z' x k' z => hk vs d Z' H' σ ρ s' Q k' z (h.from x)
theorem EvT.bind {g : Env → D → M S Bool} {K : V → L2.St → Hp → (Bool → Hp → Prop) → Prop} (ha : Ev F own W m ta fa)
    (hk : ∀ v d Hs Z H σ ρ s Q, Ok F own Z H σ ρ s → Vz m F own σ ρ Hs Z H v d → PostT F own W Z H σ ρ Q (g ρ d s) → K v σ H Q) :
    EvT F own W (fun σ H Q => ta σ H fun x H1 => K x σ H1 Q) (fun ρ => bnd (fa ρ) (g ρ)) := by
  intro σ H Z ρ s Q k h
  refine ha σ H Z ρ s _ k ?_
  dsimp only [bnd] at h
  match e : fa ρ s, h with
  | none, h => exact h
  | some (.error y, s'), h => exact h
  | some (.ok d, s'), h => exact fun v H' Z' x k' z => hk v d _ Z' H' σ ρ s' Q k' z (h.from x)
theorem EvT.bindT {fT : Env → M S Bool} {t : TT} {g : Env → Bool → M S Bool} {K : Bool → L2.St → Hp → (Bool → Hp → Prop) → Prop} (ha : EvT F own W t fT)
    (hk : ∀ d Z H σ ρ s Q, Ok F own Z H σ ρ s → PostT F own W Z H σ ρ Q (g ρ d s) → K d σ H Q) :
    EvT F own W (fun σ H Q => t σ H fun x H1 => K x σ H1 Q) (fun ρ => bnd (fT ρ) (g ρ)) := by
  intro σ H Z ρ s Q k h
  refine ha σ H Z ρ s _ k ?_
  dsimp only [bnd] at h
  match e : fT ρ s, h with
  | none, h => exact h
  | some (.error y, s'), h => exact h
  | some (.ok d, s'), h => exact fun H' Z' x k' => hk d Z' H' σ ρ s' Q k' (h.from x)
theorem EvA.bind {g : Env → D → M S (List D)} {K : V → L2.St → Hp → (List V → Hp → Prop) → Prop} (ha : Ev F own W m ta fa)
    (hk : ∀ v d Hs Z H σ ρ s Q, Ok F own Z H σ ρ s → Vz m F own σ ρ Hs Z H v d → PostA F own W Z H σ ρ Q (g ρ d s) → K v σ H Q) :
    EvA F own W (fun σ H Q => ta σ H fun x H1 => K x σ H1 Q) (fun ρ => bnd (fa ρ) (g ρ)) := by
  intro σ H Z ρ s Q k h
  refine ha σ H Z ρ s _ k ?_
  dsimp only [bnd] at h
  match e : fa ρ s, h with
  | none, h => exact h
  | some (.error y, s'), h => exact h
  | some (.ok d, s'), h => exact fun v H' Z' x k' z => hk v d _ Z' H' σ ρ s' Q k' z (h.from x)

/-! ### changes of mode -/
theorem Bs.freeze (f : Bs F Z H s) (h : H p ≠ none) (n : ¬ F.md.adr p) (h0 : F.H0 p = none) : Bs F (fun a => Z a ∨ a = p) H s where
  st := f.st
  zd := fun a z => by
    rcases z with z | rfl
    · exact f.zd a z
    · exact ⟨h, n⟩
  z0 := fun a z => .inl (f.z0 a z)
  zn := fun a z => by
    rcases z with z | rfl
    · exact f.zn a z
    · exact .inr h0
  sm := f.sm
theorem Grow.freeze : Grow Z H (fun a => Z a ∨ a = p) H := ⟨fun _ h => .inl h, fun _ _ => rfl⟩
/-- a new thing is frozen -/
theorem Ok.freezeNew (k : Ok F own Z H σ ρ s) (h : H p ≠ none) (n : ¬ F.md.adr p) (h0 : F.H0 p = none) (hs : ∀ i d', i ∈ own → ρ[i]? = some (some d') → σ[i]? ≠ some (some (.ref p))) : Ok F own (fun a => Z a ∨ a = p) H σ ρ s where
  toBs := k.toBs.freeze h n h0
  fz := fun i d h1 h2 => by
    obtain ⟨v, h3, h4⟩ := k.fz i d h1 h2
    exact ⟨v, h3, h4.grow Grow.freeze⟩
  ow := fun i d h1 h2 => by
    obtain ⟨a, h3, h4, h5, h6, h7⟩ := k.ow i d h1 h2
    refine ⟨a, h3, fun z => ?_, h5, h6, h7.grow Grow.freeze rfl⟩
    rcases z with z | rfl
    · exact h4 z
    · exact hs i d h1 h2 h3
  sp := k.sp
  ln := k.ln
theorem Ev.frz {t : TE} {f : Env → M S D} (h : Ev F own W .fr t f) : Ev F own W .fz t f := by
  intro σ H Z ρ s Q k q
  refine h σ H Z ρ s Q k ?_
  match e : f ρ s, q with
  | none, q => exact q
  | some (.error y, s'), q => exact q
  | some (.ok d, s'), q =>
    intro v H' Z' x k' z
    obtain ⟨a, rfl, h2, h3, h4, h5, h6, h7⟩ := z
    refine q _ H' (fun b => Z' b ∨ b = a) ⟨fun b hb => .inl (x.z b hb), fun b hb => ?_, x.h⟩ (k'.freezeNew h5.there h3 h4 h7) (Ow.fz (.inr rfl) (h5.grow Grow.freeze rfl))
    rcases hb with hb | rfl
    · exact x.zn b hb
    · exact .inr (.inl h6)
theorem Ev.look {t : TE} {f : Env → M S D} (h : Ev F own W m t f) : Ev F own W .bz t f := by
  intro σ H Z ρ s Q k q
  refine h σ H Z ρ s Q k ?_
  match e : f ρ s, q with
  | none, q => exact q
  | some (.error y, s'), q => exact q
  | some (.ok d, s'), q => exact fun v H' Z' x k' z => q v H' Z' x k' z.bz
theorem DE.frz {t : TE} {f : Env → M S D} (h : DE X F own W .fr e t f) : DE X F own W .fz e t f := ⟨h.pe, h.ev.frz⟩
theorem DE.look {t : TE} {f : Env → M S D} (h : DE X F own W m e t f) : DE X F own W .bz e t f := ⟨h.pe, h.ev.look⟩
/-- one of two readings -/
def tEither (t u : TE) : TE := fun σ H Q => t σ H Q ∨ u σ H Q
theorem pe_either {t u : TE} (h1 : PE X e t) (h2 : PE X e u) : PE X e (tEither t u) := ⟨fun pins s σ H Q I h => h.elim (h1.run pins s σ H Q I) (h2.run pins s σ H Q I)⟩

/-! ### names, constants -/
def vr (i : Nat) : Env → M S D := fun ρ => match ρ[i]? with
  | some (some d) => ret d
  | _ => stk
def cst (d : D) : Env → M S D := fun _ => ret d
theorem ev_var {i : Nat} (hi : i ∉ own) : Ev F own W .fz (tVar i) (vr i) := by
  intro σ H Z ρ s Q k h
  dsimp only [vr] at h
  match e : ρ[i]?, h with
  | none, h => exact h.elim
  | some none, h => exact h.elim
  | some (some d), h =>
    obtain ⟨v, h1, h2⟩ := k.fz i d hi e
    exact ⟨v, h1, h v H Z Ext.refl k h2⟩
theorem ev_varO {i : Nat} (hi : i ∈ own) : Ev F own W .bz (tVar i) (vr i) := by
  intro σ H Z ρ s Q k h
  dsimp only [vr] at h
  match e : ρ[i]?, h with
  | none, h => exact h.elim
  | some none, h => exact h.elim
  | some (some d), h =>
    obtain ⟨a, h1, h2, h3, h4, h5⟩ := k.ow i d hi e
    exact ⟨_, h1, h _ H Z Ext.refl k (.inr ⟨a, rfl, h3, h5⟩)⟩
theorem de_var {i : Nat} {x : Str} (hi : i ∉ own := by decide) (hN : X.N[i]? = some x := by rfl) (hv : Vis X.env.scope x := by first | exact Or.inl rfl | exact Or.inr (Or.inl rfl) | exact Or.inr (Or.inr rfl)) (hd : (x == ("__debug__" : Str)) = false := by decide)
    (hcd : (x == ("__classdict__" : Str)) = false := by decide) : DE X F own W .fz (.Name x pos) (tVar i) (vr i) := ⟨pe_var hN hv hd hcd, ev_var hi⟩
theorem de_varO {i : Nat} {x : Str} (hi : i ∈ own := by decide) (hN : X.N[i]? = some x := by rfl) (hv : Vis X.env.scope x := by first | exact Or.inl rfl | exact Or.inr (Or.inl rfl) | exact Or.inr (Or.inr rfl)) (hd : (x == ("__debug__" : Str)) = false := by decide)
    (hcd : (x == ("__classdict__" : Str)) = false := by decide) : DE X F own W .bz (.Name x pos) (tVar i) (vr i) := ⟨pe_var hN hv hd hcd, ev_varO hi⟩
theorem ev_cst (h : ∀ Z H, Fz F.cn Z H v d) : Ev F own W .fz (tC v) (cst d) := fun σ H Z ρ s Q k q => q v H Z Ext.refl k (h Z H)
theorem de_int {i : Int} {j : Nat} : DE X F own W .fz (.Constant (.int i) j pos) (tC (.int i)) (cst (.int i)) := ⟨pe_int, ev_cst fun _ _ => .int i⟩
theorem de_bl {i : Bool} {j : Nat} : DE X F own W .fz (.Constant (.bool i) j pos) (tC (.bl i)) (cst (.bl i)) := ⟨pe_bl, ev_cst fun _ _ => .bl i⟩
theorem de_non {j : Nat} : DE X F own W .fz (.Constant .none j pos) (tC .non) (cst .non) := ⟨pe_non, ev_cst fun _ _ => .non⟩
theorem de_str {x : Str} {j : Nat} : DE X F own W .fz (.Constant (.str x) j pos) (tC (.str x)) (cst (.str x)) := ⟨pe_str, ev_cst fun _ _ => .str x⟩
/-- a constant of the module -/
theorem de_glob {x : Str} {u : Value} (hg : Gl X x) (hm : X.mg x = some u) (r : RelV v u) (h : ∀ Z H, Fz F.cn Z H v d) (hd : (x == ("__debug__" : Str)) = false := by decide) : DE X F own W .fz (.Name x pos) (tC v) (cst d) := ⟨pe_glob hg hm r hd, ev_cst h⟩
/-- a built-in class as a value -/
theorem de_bty {x : Str} {n : String} (hg : Gl X x) (hm : X.mg x = none) (hv : bootBuiltins x = some (.type n)) (hn : x ≠ "__name__" := by decide) (hd : (x == ("__debug__" : Str)) = false := by decide) :
    DE X F own W .fz (.Name x pos) (tC (.ty n)) (cst (.ty n)) := ⟨pe_bltn hg hm hv rfl hn hd, ev_cst fun _ _ => .ty n⟩

/-! ### operators -/
def o2 (g : D → D → Option D) (fa fb : Env → M S D) : Env → M S D := fun ρ => bnd (fa ρ) fun x => bnd (fb ρ) fun y => lft (g x y)
def o1 (g : D → Option D) (fa : Env → M S D) : Env → M S D := fun ρ => bnd (fa ρ) fun x => lft (g x)
/-- the rule r does what g says -/
def Op2 (F : Fc S) (own : List Nat) (W : WX) (m : Mo) (r : R2) (g : D → D → Option D) : Prop :=
  ∀ v u x y d Z H σ ρ s Q, g x y = some d → Ok F own Z H σ ρ s → Bz F.cn F.md.adr Z H v x → Bz F.cn F.md.adr Z H u y → PostE F own W m Z H σ ρ Q (ret d s) → r v u H Q
def Op1 (F : Fc S) (own : List Nat) (W : WX) (m : Mo) (r : V → Hp → VK → Prop) (g : D → Option D) : Prop :=
  ∀ v x d Z H σ ρ s Q, g x = some d → Ok F own Z H σ ρ s → Bz F.cn F.md.adr Z H v x → PostE F own W m Z H σ ρ Q (ret d s) → r v H Q
theorem Ev.carry2 (ha : Ev F own W m1 ta fa) (hb : Ev F own W m2 tb fb) {g : D → D → M S D} {K : V → V → Hp → VK → Prop}
    (hk : ∀ v u x y Z H σ ρ s Q, Ok F own Z H σ ρ s → Bz F.cn F.md.adr Z H v x → Bz F.cn F.md.adr Z H u y → PostE F own W m Z H σ ρ Q (g x y s) → K v u H Q) :
    Ev F own W m (fun σ H Q => ta σ H fun x H1 => tb σ H1 fun y H2 => K x y H2 Q) (fun ρ => bnd (fa ρ) fun x => bnd (fb ρ) fun y => g x y) := by
  refine ha.bind (g := fun ρ x => bnd (fb ρ) fun y => g x y) (K := fun x σ H1 Q => tb σ H1 fun y H2 => K x y H2 Q) fun v x Hs Z H σ ρ s Q k z h => ?_
  have zb := z.bz
  refine hb σ H Z ρ s _ k ?_
  dsimp only [bnd] at h
  match e : fb ρ s, h with
  | none, h => exact h
  | some (.error y, s'), h => exact h
  | some (.ok d, s'), h => exact fun u H' Z' x' k' z' => hk v u x d Z' H' σ ρ s' Q k' (zb.ext k.toBs x') z'.bz (h.from x')
theorem ev_op2 {r : R2} {g : D → D → Option D} (hr : Op2 F own W m r g) (ha : Ev F own W m1 ta fa) (hb : Ev F own W m2 tb fb) : Ev F own W m (tOp r ta tb) (o2 g fa fb) := by
  refine ha.carry2 hb (g := fun x y => lft (g x y)) (K := r) fun v u x y Z H σ ρ s Q k z1 z2 h => ?_
  match e : g x y, h with
  | none, h => exact h.elim
  | some d, h => exact hr v u x y d Z H σ ρ s Q e k z1 z2 h
theorem de_op {op : Operator} {r : R2} {g : D → D → Option D} (ho : OpR X (binaryOp op) r) (hr : Op2 F own W m r g) (ha : DE X F own W m1 a ta fa) (hb : DE X F own W m2 b tb fb) : DE X F own W m (.BinOp a op b pos) (tOp r ta tb) (o2 g fa fb) :=
  ⟨pe_op ho ha.pe hb.pe, ev_op2 hr ha.ev hb.ev⟩
theorem ev_op1 {r : V → Hp → VK → Prop} {g : D → Option D} (hr : Op1 F own W m r g) (ha : Ev F own W m1 ta fa) : Ev F own W m (tUn r ta) (o1 g fa) := by
  refine ha.bind (g := fun _ x => lft (g x)) (K := fun x _ H Q => r x H Q) fun v x Hs Z H σ ρ s Q k z h => ?_
  match e : g x, h with
  | none, h => exact h.elim
  | some d, h => exact hr v x d Z H σ ρ s Q e k z.bz h
theorem Op2.or {r r' : R2} {g g' : D → D → Option D} (h : Op2 F own W m r g) (h' : Op2 F own W m r' g') : Op2 F own W m (fun x y H Q => r x y H Q ∨ r' x y H Q) (fun x y => (g x y).or (g' x y)) := by
  intro v u x y d Z H σ ρ s Q e k z1 z2 q
  dsimp only at e
  cases e1 : g x y with
  | some w => rw [e1] at e; cases e; exact .inl (h v u x y _ Z H σ ρ s Q e1 k z1 z2 q)
  | none => rw [e1] at e; exact .inr (h' v u x y d Z H σ ρ s Q e k z1 z2 q)

/-! what is looked at, by kind -/
theorem Bz.int_ {adr : Addr → Prop} {c : Cn} {i : Int} (h : Bz c adr Z H v (.int i)) : v = .int i := by
  rcases h with h | ⟨a, _, _, h⟩
  · cases h; rfl
  · exact h.elim
theorem Bz.bl_ {adr : Addr → Prop} {c : Cn} {i : Bool} (h : Bz c adr Z H v (.bl i)) : v = .bl i := by
  rcases h with h | ⟨a, _, _, h⟩
  · cases h; rfl
  · exact h.elim
theorem Bz.str_ {adr : Addr → Prop} {c : Cn} {i : Str} (h : Bz c adr Z H v (.str i)) : v = .str i := by
  rcases h with h | ⟨a, _, _, h⟩
  · cases h; rfl
  · exact h.elim
theorem Bz.non_ {adr : Addr → Prop} {c : Cn} (h : Bz c adr Z H v .non) : v = .non := by
  rcases h with h | ⟨a, _, _, h⟩
  · cases h; rfl
  · exact h.elim
theorem Bz.ty_ {adr : Addr → Prop} {c : Cn} {n : String} (h : Bz c adr Z H v (.ty n)) : v = .ty n := by
  rcases h with h | ⟨a, _, _, h⟩
  · cases h; rfl
  · exact h.elim
theorem Bz.lst_ {adr : Addr → Prop} {c : Cn} {ds : List D} (h : Bz c adr Z H v (.lst ds)) : ∃ a vs, v = .ref a ∧ H a = some (.lst vs) ∧ vs.length ≤ sizeLine ∧ FzAll c Z H vs ds := by
  rcases h with h | ⟨a, e, _, vs, h1, h2, h3⟩
  · cases h with
    | lst h1 h2 h3 h4 h5 => exact ⟨_, _, rfl, h2, h4, h3, h5⟩
  · exact ⟨a, vs, e, h1, h2, h3⟩
theorem Bz.tup_ {adr : Addr → Prop} {c : Cn} {ds : List D} (h : Bz c adr Z H v (.tup ds)) : ∃ a vs, v = .ref a ∧ TupAt c.K Z H a vs ∧ vs.length ≤ sizeLine ∧ FzAll c Z H vs ds := by
  rcases h with h | ⟨a, e, _, h1⟩
  · cases h with
    | tup h1 h2 h3 h4 => exact ⟨_, _, rfl, h1, h3, h2, h4⟩
  · exact h1.elim
theorem Bz.scr_ {adr : Addr → Prop} {c : Cn} {ns : List Int} (h : Bz c adr Z H v (.scr ns)) : ∃ a, v = .ref a ∧ ScrAt c.K Z H a (ns.map V.int) ∧ ns.length ≤ 63 := by
  rcases h with h | ⟨a, e, _, h1⟩
  · cases h with
    | scr h1 h2 => exact ⟨_, rfl, h1, h2⟩
  · exact h1.elim
/-- a new tuple -/
theorem PostE.newT {vs : List V} {ds : List D} (h : PostE F own W .fz Z H σ ρ Q (ret (.tup ds) s)) (k : Ok F own Z H σ ρ s) (z : FzAll F.cn Z H vs ds) (hl : vs.length ≤ sizeLine) : ∀ p, H p = none → Q (.ref p) (upd H p (.tup vs)) := fun p n =>
  h (.ref p) _ _ (Ext.newZ n) (k.newZ n) (by
    have z' := z.grow (k.toBs.grow (Ext.newZ (o := .tup vs) n))
    exact .tup (.inl ⟨.inr rfl, upd_same⟩) z'.1 hl z'.2)
/-- a new list -/
theorem PostE.newL {vs : List V} {ds : List D} (h : PostE F own W .fr Z H σ ρ Q (ret (.lst ds) s)) (k : Ok F own Z H σ ρ s) (z : FzAll F.cn Z H vs ds) (hl : vs.length ≤ sizeLine) : ∀ p, H p = none → Q (.ref p) (upd H p (.lst vs)) := fun p n =>
  h (.ref p) _ Z (Ext.newO n) (k.newO n) ⟨p, rfl, fun z => (k.zd p z).1 n, k.toBs.nadr n, k.toBs.entry n, ⟨vs, upd_same, hl, z.grow (k.toBs.grow (Ext.newO n))⟩, n, fun i d' h1 h2 h3 => by
    obtain ⟨a, q1, _, _, _, q5⟩ := k.ow i d' h1 h2
    rw [h3] at q1
    cases q1
    exact q5.there n⟩
end
end DL

namespace DL
open PySem L2 PySem.Spec PyProof.Rows

/-! ### the operators on data -/
def okLen (n : Nat) : Bool := decide (n ≤ sizeLine)
def okMul (i j : Int) : Bool := decide ((-(2 ^ 64) < i ∧ i < 2 ^ 64) ∨ (-(2 ^ 64) < j ∧ j < 2 ^ 64))
def dAdd : D → D → Option D
  | .int i, .int j => some (.int (i + j))
  | .str a, .str b => if a.length + b.length ≤ sizeLine then some (.str (a ++ b)) else none
  | .tup a, .tup b => if a.length + b.length ≤ sizeLine then some (.tup (a ++ b)) else none
  | .lst a, .lst b => if a.length + b.length ≤ sizeLine then some (.lst (a ++ b)) else none
  | _, _ => none
def dCat : D → D → Option D
  | .lst a, .lst b => if a.length + b.length ≤ sizeLine then some (.lst (a ++ b)) else none
  | _, _ => none
def dSub : D → D → Option D
  | .int i, .int j => some (.int (i - j))
  | _, _ => none
def dMul : D → D → Option D
  | .int i, .int j => if okMul i j = true then some (.int (i * j)) else none
  | _, _ => none
def dDiv : D → D → Option D
  | .int i, .int j => if 0 < j ∧ j < 1073741824 then some (.int (i / j)) else none
  | _, _ => none
def dMod : D → D → Option D
  | .int i, .int j => if 0 < j then some (.int (i % j)) else none
  | _, _ => none
def dPow : D → D → Option D
  | .int i, .int j => if 0 ≤ j ∧ j ≤ 1000000 ∧ i.natAbs < 2 ^ 64 then some (.int (i ^ j.toNat)) else none
  | _, _ => none
def dNeg : D → Option D
  | .int i => some (.int (-i))
  | _ => none
def sLt (a b : Str) : Bool := decide (a.cps.toList < b.cps.toList)
def dLt : D → D → Option D
  | .int i, .int j => some (.bl (decide (i < j)))
  | .str a, .str b => some (.bl (sLt a b))
  | _, _ => none
def dLe : D → D → Option D
  | .int i, .int j => some (.bl (decide (i ≤ j)))
  | .str a, .str b => some (.bl (!sLt b a))
  | _, _ => none
def dGt : D → D → Option D
  | .int i, .int j => some (.bl (decide (j < i)))
  | .str a, .str b => some (.bl (sLt b a))
  | _, _ => none
def dGe : D → D → Option D
  | .int i, .int j => some (.bl (decide (j ≤ i)))
  | .str a, .str b => some (.bl (!sLt a b))
  | _, _ => none
def dIsN : D → D → Option D
  | .non, .non => some (.bl true)
  | _, .non => some (.bl false)
  | _, _ => none
def dNotN : D → D → Option D
  | .non, .non => some (.bl false)
  | _, .non => some (.bl true)
  | _, _ => none
mutual
def toPy : D → Option PyData
  | .non => some .none
  | .bl b => some (.bool b)
  | .int i => some (.int i)
  | .str x => some (.str x)
  | .lst ds => match toPys ds with
    | some xs => some (.list xs)
    | none => none
  | .tup ds => match toPys ds with
    | some xs => some (.tuple xs)
    | none => none
  | _ => none
def toPys : List D → Option (List PyData)
  | [] => some []
  | d :: ds => match toPy d, toPys ds with
    | some x, some xs => some (x :: xs)
    | _, _ => none
end
/-- == of plain data; an instance is no plain datum -/
def strs2 : D → D → Option Bool
  | .str a, .str b => some (a == b)
  | _, _ => none
def dEqG (x y : D) : Option Bool := match toPy x, toPy y with
  | some a, some b => if SeqAt.shaped a = true ∧ SeqAt.shaped b = true then some (PyData.eqv a b) else none
  | _, _ => none
def dEqB (x y : D) : Option Bool := match strs2 x y with
  | some r => some r
  | none => dEqG x y
def dEq (x y : D) : Option D := (dEqB x y).map .bl
def dNe (x y : D) : Option D := (dEqB x y).map fun b => .bl (!b)

section
variable {S : Type} {X : Cx} {F : Fc S} {Z Z' Z1 Z2 : Addr → Prop} {H H' H1 H2 : Hp} {σ : L2.St} {ρ : Env} {own : List Nat} {s s' : S} {p : Addr} {o : HO} {v : V} {d : D} {m m' m1 m2 : Mo} {W : WX} {Q : VK}
variable {a b c e : Expr} {ta tb tc te : TE} {fa fb fc fe : Env → M S D} {pos : Pos}
theorem PostE.newLz {vs : List V} {ds : List D} (h : PostE F own W .fz Z H σ ρ Q (ret (.lst ds) s)) (k : Ok F own Z H σ ρ s) (z : FzAll F.cn Z H vs ds) (hl : vs.length ≤ sizeLine) : ∀ p, H p = none → Q (.ref p) (upd H p (.lst vs)) := fun p n =>
  h (.ref p) _ _ (Ext.newZ n) (k.newZ n) (by
    have z' := z.grow (k.toBs.grow (Ext.newZ (o := .lst vs) n))
    exact .lst (.inr rfl) upd_same z'.1 hl z'.2)
theorem len_of {c : Cn} {vs : List V} {ds : List D} (h : FzAll c Z H vs ds) {n : Nat} (hl : ds.length ≤ n) : vs.length ≤ n := by rw [h.1]; exact hl
theorem nil_of {c : Cn} {vs : List V} {ds : List D} (h : FzAll c Z H vs ds) (e : vs = []) : ds = [] := by subst e; exact List.length_eq_zero_iff.mp h.1.symm

abbrev rAll : PySem.W.Frag → R2 := fun K x y H Q => rI0 (fun i j => .int (i + j)) x y H Q ∨ (∃ i j, x = .str i ∧ y = .str j ∧ i.length + j.length ≤ sizeLine ∧ Q (.str (i ++ j)) H) ∨ rCatA K x y H Q ∨ rCat x y H Q
theorem op_addAll : OpR X (binaryOp .Add) (rAll X.K) := op_add.or (op_add_str.or (op_catA.or op_cat))
theorem d_add : Op2 F own W .fz (rAll F.K) dAdd := by
  intro v u x y d Z H σ ρ s Q e k z1 z2 q
  cases x <;> cases y <;> simp only [dAdd] at e <;> try cases e
  · rename_i i j
    exact .inl ⟨i, j, z1.int_, z2.int_, q.val k (.int _)⟩
  · rename_i i j
    split at e
    · rename_i hl
      cases e
      exact .inr (.inl ⟨i, j, z1.str_, z2.str_, hl, q.val k (.str _)⟩)
    · cases e
  · rename_i i j
    split at e
    · rename_i hl
      cases e
      obtain ⟨a, vs, rfl, h1, h2, h3⟩ := z1.lst_
      obtain ⟨b, us, rfl, h4, h5, h6⟩ := z2.lst_
      have hz : vs.length + us.length ≤ sizeLine := by rw [h3.1, h6.1]; exact hl
      exact .inr (.inr (.inr ⟨a, b, vs, us, rfl, rfl, h1, h4, hz, q.newLz k (h3.app h6) (by rw [List.length_append]; exact hz)⟩))
    · cases e
  · rename_i i j
    split at e
    · rename_i hl
      cases e
      obtain ⟨a, vs, rfl, h1, h2, h3⟩ := z1.tup_
      obtain ⟨b, us, rfl, h4, h5, h6⟩ := z2.tup_
      have hz : vs.length + us.length ≤ sizeLine := by rw [h3.1, h6.1]; exact hl
      refine .inr (.inr (.inl ⟨a, b, vs, us, rfl, rfl, h1.sq, h4.sq, hz, fun e0 => ?_, fun _ e0 => ?_, fun _ _ => q.newT k (h3.app h6) (by rw [List.length_append]; exact hz)⟩))
      · rw [nil_of h3 e0, List.nil_append] at q
        exact q.val k (.tup h4 h6.1 h5 h6.2)
      · rw [nil_of h6 e0, List.append_nil] at q
        exact q.val k (.tup h1 h3.1 h2 h3.2)
    · cases e
theorem d_cat : Op2 F own W .fr rCat dCat := by
  intro v u x y d Z H σ ρ s Q e k z1 z2 q
  cases x <;> cases y <;> simp only [dCat] at e <;> try cases e
  rename_i i j
  split at e
  · rename_i hl
    cases e
    obtain ⟨a, vs, rfl, h1, h2, h3⟩ := z1.lst_
    obtain ⟨b, us, rfl, h4, h5, h6⟩ := z2.lst_
    have hz : vs.length + us.length ≤ sizeLine := by rw [h3.1, h6.1]; exact hl
    exact ⟨a, b, vs, us, rfl, rfl, h1, h4, hz, q.newL k (h3.app h6) (by rw [List.length_append]; exact hz)⟩
  · cases e
theorem de_add (hK : X.K = F.K) (ha : DE X F own W m1 a ta fa) (hb : DE X F own W m2 b tb fb) : DE X F own W .fz (.BinOp a .Add b pos) (tOp (rAll F.K) ta tb) (o2 dAdd fa fb) := de_op (hK ▸ op_addAll) d_add ha hb
theorem de_cat (ha : DE X F own W m1 a ta fa) (hb : DE X F own W m2 b tb fb) : DE X F own W .fr (.BinOp a .Add b pos) (tOp rCat ta tb) (o2 dCat fa fb) := de_op op_cat d_cat ha hb
theorem de_sub (ha : DE X F own W m1 a ta fa) (hb : DE X F own W m2 b tb fb) : DE X F own W .fz (.BinOp a .Sub b pos) (tOp (rI0 fun i j => .int (i - j)) ta tb) (o2 dSub fa fb) := by
  refine de_op op_sub (fun v u x y d Z H σ ρ s Q e k z1 z2 q => ?_) ha hb
  cases x <;> cases y <;> simp only [dSub] at e <;> try cases e
  exact ⟨_, _, z1.int_, z2.int_, q.val k (.int _)⟩
theorem de_mul (ha : DE X F own W m1 a ta fa) (hb : DE X F own W m2 b tb fb) : DE X F own W .fz (.BinOp a .Mult b pos) (tOp (rI CMul fun i j => .int (i * j)) ta tb) (o2 dMul fa fb) := by
  refine de_op op_mul (fun v u x y d Z H σ ρ s Q e k z1 z2 q => ?_) ha hb
  cases x <;> cases y <;> simp only [dMul] at e <;> try cases e
  split at e
  · rename_i h
    cases e
    exact ⟨_, _, z1.int_, z2.int_, (by unfold okMul at h; have h2 := of_decide_eq_true h; exact h2), q.val k (.int _)⟩
  · cases e
theorem de_div (ha : DE X F own W m1 a ta fa) (hb : DE X F own W m2 b tb fb) : DE X F own W .fz (.BinOp a .FloorDiv b pos) (tOp (rI CDiv fun i j => .int (i / j)) ta tb) (o2 dDiv fa fb) := by
  refine de_op op_fdiv (fun v u x y d Z H σ ρ s Q e k z1 z2 q => ?_) ha hb
  cases x <;> cases y <;> simp only [dDiv] at e <;> try cases e
  split at e
  · rename_i h
    cases e
    exact ⟨_, _, z1.int_, z2.int_, h, q.val k (.int _)⟩
  · cases e
theorem de_mod (ha : DE X F own W m1 a ta fa) (hb : DE X F own W m2 b tb fb) : DE X F own W .fz (.BinOp a .Mod b pos) (tOp (rI (fun _ j => 0 < j) fun i j => .int (i % j)) ta tb) (o2 dMod fa fb) := by
  refine de_op op_mod (fun v u x y d Z H σ ρ s Q e k z1 z2 q => ?_) ha hb
  cases x <;> cases y <;> simp only [dMod] at e <;> try cases e
  split at e
  · rename_i h
    cases e
    exact ⟨_, _, z1.int_, z2.int_, h, q.val k (.int _)⟩
  · cases e
theorem de_pow (ha : DE X F own W m1 a ta fa) (hb : DE X F own W m2 b tb fb) : DE X F own W .fz (.BinOp a .Pow b pos) (tOp (rI CPow fun i j => .int (i ^ j.toNat)) ta tb) (o2 dPow fa fb) := by
  refine de_op op_pow (fun v u x y d Z H σ ρ s Q e k z1 z2 q => ?_) ha hb
  cases x <;> cases y <;> simp only [dPow] at e <;> try cases e
  split at e
  · rename_i h
    cases e
    exact ⟨_, _, z1.int_, z2.int_, h, q.val k (.int _)⟩
  · cases e
theorem de_neg (ha : DE X F own W m1 a ta fa) : DE X F own W .fz (.UnaryOp .USub a pos) (tUn (rU fun i => .int (-i)) ta) (o1 dNeg fa) := by
  refine ⟨pe_un un_neg ha.pe, ev_op1 (fun v x d Z H σ ρ s Q e k z1 q => ?_) ha.ev⟩
  cases x <;> simp only [dNeg] at e <;> try cases e
  exact ⟨_, z1.int_, q.val k (.int _)⟩

/-! ### comparisons -/
abbrev rCp (g : Int → Int → Bool) (h : Str → Str → Bool) : R2 := fun x y H Q => rI0 (fun i j => .bl (g i j)) x y H Q ∨ (∃ i j, x = .str i ∧ y = .str j ∧ Q (.bl (h i j)) H)
theorem d_cp {g : Int → Int → Bool} {h : Str → Str → Bool} {f : D → D → Option D} (h1 : ∀ i j, f (.int i) (.int j) = some (.bl (g i j))) (h2 : ∀ i j, f (.str i) (.str j) = some (.bl (h i j)))
    (h3 : ∀ x y d, f x y = some d → (∃ i j, x = .int i ∧ y = .int j) ∨ ∃ i j, x = .str i ∧ y = .str j) : Op2 F own W .fz (rCp g h) f := by
  intro v u x y d Z H σ ρ s Q e k z1 z2 q
  rcases h3 x y d e with ⟨i, j, rfl, rfl⟩ | ⟨i, j, rfl, rfl⟩
  · rw [h1] at e; cases e
    exact .inl ⟨i, j, z1.int_, z2.int_, q.val k (.bl _)⟩
  · rw [h2] at e; cases e
    exact .inr ⟨i, j, z1.str_, z2.str_, q.val k (.bl _)⟩
theorem d_lt : Op2 F own W .fz (rCp (fun i j => decide (i < j)) fun i j => decide (i.cps.toList < j.cps.toList)) dLt := d_cp (fun _ _ => rfl) (fun _ _ => rfl) fun x y d e => by
  cases x <;> cases y <;> simp only [dLt] at e <;> first | exact .inl ⟨_, _, rfl, rfl⟩ | exact .inr ⟨_, _, rfl, rfl⟩ | cases e
theorem d_le : Op2 F own W .fz (rCp (fun i j => decide (i ≤ j)) fun i j => !decide (j.cps.toList < i.cps.toList)) dLe := d_cp (fun _ _ => rfl) (fun _ _ => rfl) fun x y d e => by
  cases x <;> cases y <;> simp only [dLe] at e <;> first | exact .inl ⟨_, _, rfl, rfl⟩ | exact .inr ⟨_, _, rfl, rfl⟩ | cases e
theorem d_gt : Op2 F own W .fz (rCp (fun i j => decide (j < i)) fun i j => decide (j.cps.toList < i.cps.toList)) dGt := d_cp (fun _ _ => rfl) (fun _ _ => rfl) fun x y d e => by
  cases x <;> cases y <;> simp only [dGt] at e <;> first | exact .inl ⟨_, _, rfl, rfl⟩ | exact .inr ⟨_, _, rfl, rfl⟩ | cases e
theorem d_ge : Op2 F own W .fz (rCp (fun i j => decide (j ≤ i)) fun i j => !decide (i.cps.toList < j.cps.toList)) dGe := d_cp (fun _ _ => rfl) (fun _ _ => rfl) fun x y d e => by
  cases x <;> cases y <;> simp only [dGe] at e <;> first | exact .inl ⟨_, _, rfl, rfl⟩ | exact .inr ⟨_, _, rfl, rfl⟩ | cases e
theorem c_lt : OpR X (compareOp .Lt) (rCp (fun i j => decide (i < j)) fun i j => decide (i.cps.toList < j.cps.toList)) := op_lt.or op_lt_str
theorem c_le : OpR X (compareOp .LtE) (rCp (fun i j => decide (i ≤ j)) fun i j => !decide (j.cps.toList < i.cps.toList)) := op_le.or op_le_str
theorem c_gt : OpR X (compareOp .Gt) (rCp (fun i j => decide (j < i)) fun i j => decide (j.cps.toList < i.cps.toList)) := op_gt.or op_gt_str
theorem c_ge : OpR X (compareOp .GtE) (rCp (fun i j => decide (j ≤ i)) fun i j => !decide (i.cps.toList < j.cps.toList)) := op_ge.or op_ge_str

theorem toPys_all {K : PySem.W.Frag} : ∀ (ds : List D) (vs : List V) (xs : List PyData), vs.length = ds.length → (∀ (i : Nat) (v : V) (d : D), vs[i]? = some v → ds[i]? = some d → ∀ x, toPy d = some x → Dp K H v x) → toPys ds = some xs → DpAll K H vs xs
  | [], [], xs, _, _, e => by
    simp only [toPys] at e
    cases e
    exact .nil
  | [], _ :: _, _, hl, _, _ => by simp at hl
  | _ :: _, [], _, hl, _, _ => by simp at hl
  | d :: ds, v :: vs, xs, hl, h, e => by
    simp only [toPys] at e
    split at e
    · rename_i x xs' e1 e2
      cases e
      exact .cons (h 0 v d rfl rfl x e1) (toPys_all ds vs _ (by simpa using hl) (fun i w q a b => h (i + 1) w q (by simpa using a) (by simpa using b)) e2)
    · cases e
theorem Fz.dp {c : Cn} (h : Fz c Z H v d) : ∀ x, toPy d = some x → Dp c.K H v x := by
  induction h with
  | non => intro x e; simp only [toPy] at e; cases e; exact .non
  | bl b => intro x e; simp only [toPy] at e; cases e; exact .bl b
  | int b => intro x e; simp only [toPy] at e; cases e; exact .int b
  | str b => intro x e; simp only [toPy] at e; cases e; exact .str b
  | lst h1 h2 h3 h4 h5 ih =>
    intro x e
    simp only [toPy] at e
    split at e
    · rename_i xs e1
      cases e
      exact .lst (SqL.of h2) (toPys_all _ _ _ h3 ih e1)
    · cases e
  | tup h1 h2 h3 h5 ih =>
    intro x e
    simp only [toPy] at e
    split at e
    · rename_i xs e1
      cases e
      exact .tup h1.sq (toPys_all _ _ _ h2 ih e1)
    · cases e
  | _ => intro x e; simp only [toPy] at e; cases e
end
end DL

namespace DL
open PySem L2 PySem.Spec PyProof.Rows

/-- what a place in a def brings along -/
structure Amb {S : Type} (X : Cx) (F : Fc S) (k : Nat) : Prop where
  K : X.K = F.K
  mg : X.mg = F.mg
  rm : Room k X.A
  gd : X.A.guards = some []
  calm : X.calm = true
  po : PassesOwn (model X.prog X.w) X.A X.env X.xe

def asB : D → Option Bool
  | .bl b => some b
  | _ => none
def dTru : D → Option Bool
  | .non => some false
  | .bl b => some b
  | .int i => some (i != 0)
  | .str x => if x.length ≤ sizeLine then some ((x.length : Int) != 0) else none
  | .lst ds => some (!ds.isEmpty)
  | .tup ds => some (!ds.isEmpty)
  | .dic ds => some (!ds.isEmpty)
  | _ => none

section
variable {S : Type} {X : Cx} {F : Fc S} {Z Z' Z1 Z2 : Addr → Prop} {H H' H1 H2 : Hp} {σ : L2.St} {ρ : Env} {own : List Nat} {s s' : S} {p : Addr} {o : HO} {v : V} {d : D} {m m' m1 m2 m3 : Mo} {W : WX} {Q : VK} {k : Nat}
variable {a b c e : Expr} {ta tb tc te : TE} {fa fb fc fe : Env → M S D} {pos : Pos}

/-! ### == and != of plain data -/
theorem Ow.dp {c : Cn} (h : Ow c Z H p d) : ∀ x, toPy d = some x → Dp c.K H (.ref p) x := by
  intro x e
  cases d with
  | lst ds =>
    obtain ⟨vs, h1, h2, h3⟩ := h
    simp only [toPy] at e
    split at e
    · rename_i xs e1
      cases e
      exact .lst (SqL.of h1) (toPys_all _ _ _ h3.1 (fun i v d a b => (h3.2 i v d a b).dp) e1)
    · cases e
  | dic _ => simp only [toPy] at e; cases e
  | dit _ => simp only [toPy] at e; cases e
  | obj _ _ => simp only [toPy] at e; cases e
  | _ => exact h.elim
theorem Bz.dp {c : Cn} {adr : Addr → Prop} (h : Bz c adr Z H v d) : ∀ x, toPy d = some x → Dp c.K H v x := by
  rcases h with h | ⟨a, rfl, _, h⟩
  · exact h.dp
  · exact h.dp
theorem dEqG_some {x y : D} {r : Bool} (h : dEqG x y = some r) : ∃ a b, toPy x = some a ∧ toPy y = some b ∧ SeqAt.shaped a = true ∧ SeqAt.shaped b = true ∧ r = PyData.eqv a b := by
  unfold dEqG at h
  split at h
  · rename_i a b e1 e2
    split at h
    · rename_i hs
      cases h
      exact ⟨a, b, e1, e2, hs.1, hs.2, rfl⟩
    · cases h
  · cases h
theorem dEqB_some {x y : D} {r : Bool} (h : dEqB x y = some r) : (∃ a b, x = .str a ∧ y = .str b ∧ r = (a == b)) ∨ ∃ a b, toPy x = some a ∧ toPy y = some b ∧ SeqAt.shaped a = true ∧ SeqAt.shaped b = true ∧ r = PyData.eqv a b := by
  unfold dEqB at h
  split at h
  · rename_i b e
    cases h
    cases x <;> cases y <;> simp only [strs2] at e <;> cases e
    exact .inl ⟨_, _, rfl, rfl, rfl⟩
  · exact .inr (dEqG_some h)
abbrev rEqX (K : PySem.W.Frag) : R2 := fun x y H Q => rEqD K x y H Q ∨ rEq x y H Q
abbrev rNeX (K : PySem.W.Frag) : R2 := fun x y H Q => rNeD K x y H Q ∨ rNe x y H Q
theorem op_eqX (A : Amb X F k) : OpR X (compareOp .Eq) (rEqX X.K) := (op_eqD A.rm.units).or op_eq
theorem op_neX (A : Amb X F k) : OpR X (compareOp .NotEq) (rNeX X.K) := (op_neD A.rm.units).or op_ne
theorem d_eq (hK : X.K = F.K) : Op2 F own W .fz (rEqX X.K) dEq := by
  intro v u x y d Z H σ ρ s Q e k z1 z2 q
  unfold dEq at e
  obtain ⟨r, e1, rfl⟩ := Option.map_eq_some_iff.mp e
  rw [hK]
  rcases dEqB_some e1 with ⟨a, b, rfl, rfl, rfl⟩ | ⟨a, b, h1, h2, h3, h4, rfl⟩
  · rw [z1.str_, z2.str_]
    refine .inr ⟨rfl, ?_⟩
    rw [L2.dec_str]
    exact q.val k (.bl _)
  · exact .inl ⟨a, b, z1.dp a h1, z2.dp b h2, h3, h4, q.val k (.bl _)⟩
theorem d_ne (hK : X.K = F.K) : Op2 F own W .fz (rNeX X.K) dNe := by
  intro v u x y d Z H σ ρ s Q e k z1 z2 q
  unfold dNe at e
  obtain ⟨r, e1, rfl⟩ := Option.map_eq_some_iff.mp e
  rw [hK]
  rcases dEqB_some e1 with ⟨a, b, rfl, rfl, rfl⟩ | ⟨a, b, h1, h2, h3, h4, rfl⟩
  · rw [z1.str_, z2.str_]
    refine .inr ⟨rfl, ?_⟩
    rw [L2.dec_str]
    exact q.val k (.bl _)
  · exact .inl ⟨a, b, z1.dp a h1, z2.dp b h2, h3, h4, q.val k (.bl _)⟩
theorem d_isN : Op2 F own W .fz (fun x y H Q => y = .non ∧ Q (.bl (decide (x = .non))) H) dIsN := by
  intro v u x y d Z H σ ρ s Q e k z1 z2 q
  have hy : y = .non := by cases x <;> cases y <;> simp only [dIsN] at e <;> first | rfl | cases e
  subst hy
  refine ⟨z2.non_, ?_⟩
  by_cases hx : x = .non
  · subst hx
    simp only [dIsN] at e
    cases e
    rw [z1.non_]
    exact q.val k (.bl _)
  · have e2 : d = .bl false := by cases x <;> simp only [dIsN] at e <;> first | exact absurd rfl hx | (cases e; rfl)
    subst e2
    have hv : ¬ v = .non := by
      intro hv
      subst hv
      rcases z1 with h | ⟨a, h, _⟩
      · cases h; exact hx rfl
      · cases h
    rw [decide_eq_false hv]
    exact q.val k (.bl _)
theorem d_notN : Op2 F own W .fz (fun x y H Q => y = .non ∧ Q (.bl (!decide (x = .non))) H) dNotN := by
  intro v u x y d Z H σ ρ s Q e k z1 z2 q
  have hy : y = .non := by cases x <;> cases y <;> simp only [dNotN] at e <;> first | rfl | cases e
  subst hy
  refine ⟨z2.non_, ?_⟩
  by_cases hx : x = .non
  · subst hx
    simp only [dNotN] at e
    cases e
    rw [z1.non_]
    exact q.val k (.bl _)
  · have e2 : d = .bl true := by cases x <;> simp only [dNotN] at e <;> first | exact absurd rfl hx | (cases e; rfl)
    subst e2
    have hv : ¬ v = .non := by
      intro hv
      subst hv
      rcases z1 with h | ⟨a, h, _⟩
      · cases h; exact hx rfl
      · cases h
    rw [decide_eq_false hv]
    exact q.val k (.bl _)
theorem de_cmp {op : CmpOp} {r : R2} {g : D → D → Option D} (ho : OpR X (compareOp op) r) (hr : Op2 F own W .fz r g) (ha : DE X F own W m1 a ta fa) (hb : DE X F own W m2 b tb fb) (hm : behindInMarks op b = false) :
    DE X F own W .fz (.Compare a [op] [b] pos) (tOp r ta tb) (o2 g fa fb) := ⟨pe_cmpR ho ha.pe hb.pe hm, ev_op2 hr ha.ev hb.ev⟩
def tsb (f : Env → M S D) : Env → M S Bool := fun ρ => bnd (f ρ) fun x => lft (asB x)
theorem ev_tsb {t : TE} {f : Env → M S D} (h : Ev F own W m t f) : EvT F own W (tTest t) (tsb f) := by
  refine EvT.bind (g := fun _ x => lft (asB x)) (K := fun x _ H' Q => ∃ k, x = .bl k ∧ Q k H') h fun v d Hs Z H σ ρ s Q k z q => ?_
  match d, q, z with
  | .bl b, q, z => exact ⟨b, z.bz.bl_, q H Z Ext.refl k⟩
  | .non, q, _ => exact q.elim
  | .int _, q, _ => exact q.elim
  | .str _, q, _ => exact q.elim
  | .lst _, q, _ => exact q.elim
  | .tup _, q, _ => exact q.elim
  | .dic _, q, _ => exact q.elim
  | .dit _, q, _ => exact q.elim
  | .obj _ _, q, _ => exact q.elim
  | .drw, q, _ => exact q.elim
  | .ty _, q, _ => exact q.elim
  | .scr _, q, _ => exact q.elim
theorem dt_cmp {op : CmpOp} {r : R2} {g : D → D → Option D} (ho : OpR X (compareOp op) r) (hr : Op2 F own W .fz r g) (ha : DE X F own W m1 a ta fa) (hb : DE X F own W m2 b tb fb) (hm : behindInMarks op b = false) :
    DT X F own W (.Compare a [op] [b] pos) (tTest (tOp r ta tb)) (tsb (o2 g fa fb)) := ⟨pt_cmpR ho ha.pe hb.pe hm, ev_tsb (ev_op2 hr ha.ev hb.ev)⟩

/-! ### truth -/
theorem tru_of (hK : X.K = F.K) {b : Bool} (h : dTru d = some b) (z : Bz F.cn F.md.adr Z H v d) : TruV X.K v H b := by
  cases d <;> simp only [dTru] at h <;> try cases h
  · rw [z.non_]; rfl
  · rw [z.bl_]; rfl
  · rw [z.int_]; rfl
  · split at h
    · rename_i hl
      cases h
      rw [z.str_]
      exact ⟨hl, rfl⟩
    · cases h
  · obtain ⟨a, vs, rfl, h1, h2, h3⟩ := z.lst_
    exact .inl ⟨vs, SqL.of h1, by
      have := h3.1
      rename_i ds
      cases ds <;> cases vs <;> first | rfl | (simp at this)⟩
  · obtain ⟨a, vs, rfl, h1, h2, h3⟩ := z.tup_
    exact .inr (.inl ⟨vs, by rw [hK]; exact h1.sq, by
      have := h3.1
      rename_i ds
      cases ds <;> cases vs <;> first | rfl | (simp at this)⟩)
  · rename_i des
    have : ∃ a kvs, v = .ref a ∧ H a = some (.dK kvs) ∧ kvs.length = des.length := by
      rcases z with z | ⟨a, e, _, kvs, h1, h2, h3, h4⟩
      · cases z with
        | dic h1 h2 h3 h4 h5 h6 => exact ⟨_, _, rfl, h2, h3⟩
      · exact ⟨a, kvs, e, h1, by simpa using congrArg List.length h3⟩
    obtain ⟨a, kvs, rfl, h1, h2⟩ := this
    exact .inr (.inr ⟨kvs, h1, by cases kvs <;> cases des <;> first | rfl | (simp at h2)⟩)
def tru (f : Env → M S D) : Env → M S Bool := fun ρ => bnd (f ρ) fun x => lft (dTru x)
theorem dt_tru (A : Amb X F k) (ha : DE X F own W m1 a ta fa) (he : ∀ whole, isTrue a X.env whole = (do let v ← whole; standAt a.pos; holding [v] (truthy v)) := by intro _; rfl) :
    DT X F own W a (fun σ H Q => ta σ H fun x H1 => ∃ k, TruV X.K x H1 k ∧ Q k H1) (tru fa) := by
  refine ⟨pt_truth ha.pe he, EvT.bind (g := fun _ x => lft (dTru x)) (K := fun x _ H1 Q => ∃ k, TruV X.K x H1 k ∧ Q k H1) ha.ev fun v d Hs Z H σ ρ s Q k z q => ?_⟩
  match e : dTru d, q with
  | none, q => exact q.elim
  | some b, q => exact ⟨b, tru_of A.K e z.bz, q H Z Ext.refl k⟩

/-! ### not, and, or -/
structure DW (X : Cx) (F : Fc S) (own : List Nat) (W : WX) (e : Expr) (t : TT) (f : Env → M S Bool) : Prop where
  pw : PW X e t
  ev : EvT F own W t f
def nt (f : Env → M S Bool) : Env → M S Bool := fun ρ => bnd (f ρ) fun b => ret (!b)
def an (f g : Env → M S Bool) : Env → M S Bool := fun ρ => bnd (f ρ) fun b => if b = true then g ρ else ret false
def orr (f g : Env → M S Bool) : Env → M S Bool := fun ρ => bnd (f ρ) fun b => if b = true then ret true else g ρ
variable {t u : TT} {f g h : Env → M S Bool} {rest : List Expr}
theorem DW.dt (x : DW X F own W e t f) : DT X F own W e t f := ⟨x.pw.pt, x.ev⟩
theorem dt_not (x : DT X F own W a t f) : DT X F own W (.UnaryOp .Not a pos) (tNot t) (nt f) :=
  ⟨pt_not x.pt, EvT.bindT (g := fun _ b => ret (!b)) (K := fun b _ H Q => Q (!b) H) x.ev fun b Z H σ ρ s Q k q => q H Z Ext.refl k⟩
theorem dw_and1 (x : DT X F own W a t f) : DW X F own W (.BoolOp .And [a] pos) t f := ⟨pw_and1 x.pt, x.ev⟩
theorem dw_or1 (x : DT X F own W a t f) : DW X F own W (.BoolOp .Or [a] pos) t f := ⟨pw_or1 x.pt, x.ev⟩
theorem dw_and (x : DT X F own W a t f) (y : DW X F own W (.BoolOp .And (b :: rest) pos) u g) : DW X F own W (.BoolOp .And (a :: b :: rest) pos) (tAnd t u) (an f g) :=
  ⟨pw_and x.pt y.pw, EvT.bindT (g := fun ρ b => if b = true then g ρ else ret false) (K := fun c σ H1 Q => if c = true then u σ H1 Q else Q false H1) x.ev fun b Z H σ ρ s Q k q => by
    cases b with
    | true => exact y.ev σ H Z ρ s Q k q
    | false => exact q H Z Ext.refl k⟩
theorem dw_or (x : DT X F own W a t f) (y : DW X F own W (.BoolOp .Or (b :: rest) pos) u g) : DW X F own W (.BoolOp .Or (a :: b :: rest) pos) (tOr t u) (orr f g) :=
  ⟨pw_or x.pt y.pw, EvT.bindT (g := fun ρ b => if b = true then ret true else g ρ) (K := fun c σ H1 Q => if c = true then Q true H1 else u σ H1 Q) x.ev fun b Z H σ ρ s Q k q => by
    cases b with
    | false => exact y.ev σ H Z ρ s Q k q
    | true => exact q H Z Ext.refl k⟩
/-- as values, by truth -/
def anV (fa fb : Env → M S D) : Env → M S D := fun ρ => bnd (fa ρ) fun x => match dTru x with
  | some true => fb ρ
  | some false => ret x
  | none => stk
def orV (fa fb : Env → M S D) : Env → M S D := fun ρ => bnd (fa ρ) fun x => match dTru x with
  | some true => ret x
  | some false => fb ρ
  | none => stk
def ntV (fa : Env → M S D) : Env → M S D := fun ρ => bnd (fa ρ) fun x => match dTru x with
  | some b => ret (.bl (!b))
  | none => stk
theorem de_one {op : BoolOp} (x : DE X F own W m a ta fa) : DE X F own W m (.BoolOp op [a] pos) ta fa := ⟨pe_one x.pe, x.ev⟩
theorem de_and (A : Amb X F k) (x : DE X F own W .fz a ta fa) (y : DE X F own W .fz (.BoolOp .And (b :: rest) pos) tb fb) : DE X F own W .fz (.BoolOp .And (a :: b :: rest) pos) (tAndT X.K ta tb) (anV fa fb) := by
  refine ⟨pe_andT x.pe y.pe, Ev.bind (g := fun ρ x => match dTru x with | some true => fb ρ | some false => ret x | none => stk) (K := fun x σ H1 Q => ∃ k, TruV X.K x H1 k ∧ if k = true then tb σ H1 Q else Q x H1) x.ev fun v d Hs Z H σ ρ s Q k z q => ?_⟩
  match e : dTru d, q with
  | none, q => exact q.elim
  | some true, q => exact ⟨true, tru_of A.K e z.bz, y.ev σ H Z ρ s Q k q⟩
  | some false, q => exact ⟨false, tru_of A.K e z.bz, q.val k z⟩
theorem de_or (A : Amb X F k) (x : DE X F own W .fz a ta fa) (y : DE X F own W .fz (.BoolOp .Or (b :: rest) pos) tb fb) : DE X F own W .fz (.BoolOp .Or (a :: b :: rest) pos) (tOrT X.K ta tb) (orV fa fb) := by
  refine ⟨pe_orT x.pe y.pe, Ev.bind (g := fun ρ x => match dTru x with | some true => ret x | some false => fb ρ | none => stk) (K := fun x σ H1 Q => ∃ k, TruV X.K x H1 k ∧ if k = true then Q x H1 else tb σ H1 Q) x.ev fun v d Hs Z H σ ρ s Q k z q => ?_⟩
  match e : dTru d, q with
  | none, q => exact q.elim
  | some false, q => exact ⟨false, tru_of A.K e z.bz, y.ev σ H Z ρ s Q k q⟩
  | some true, q => exact ⟨true, tru_of A.K e z.bz, q.val k z⟩
theorem de_not (A : Amb X F k) (x : DE X F own W m a ta fa) : DE X F own W .fz (.UnaryOp .Not a pos) (tNotT X.K ta) (ntV fa) := by
  refine ⟨pe_notT x.pe, Ev.bind (g := fun ρ x => match dTru x with | some b => ret (.bl (!b)) | none => stk) (K := fun x σ H1 Q => ∃ k, TruV X.K x H1 k ∧ Q (.bl (!k)) H1) x.ev fun v d Hs Z H σ ρ s Q k z q => ?_⟩
  match e : dTru d, q with
  | none, q => exact q.elim
  | some b, q => exact ⟨b, tru_of A.K e z.bz, q.val k (.bl _)⟩
/-- a if t else b -/
def ife (f : Env → M S Bool) (fa fb : Env → M S D) : Env → M S D := fun ρ => bnd (f ρ) fun b => if b = true then fa ρ else fb ρ
theorem de_if (x : DT X F own W c t f) (y : DE X F own W m a ta fa) (z : DE X F own W m b tb fb) : DE X F own W m (.IfExp c a b pos) (tIf t ta tb) (ife f fa fb) :=
  ⟨pe_ifExp x.pt y.pe z.pe, Ev.bindT (g := fun ρ b => if b = true then fa ρ else fb ρ) (K := fun c σ H1 Q => if c = true then ta σ H1 Q else tb σ H1 Q) x.ev fun b Z H σ ρ s Q k q => by
    cases b with
    | true => exact y.ev σ H Z ρ s Q k q
    | false => exact z.ev σ H Z ρ s Q k q⟩

/-! ### a < b < c -/
def chn (g g' : D → D → Option D) (fa fb fc : Env → M S D) : Env → M S D := fun ρ => bnd (fa ρ) fun x => bnd (fb ρ) fun y => match (g x y).bind asB with
  | some true => bnd (fc ρ) fun z => lft (g' y z)
  | some false => ret (.bl false)
  | none => stk
theorem asB_some {d : D} {b : Bool} (h : asB d = some b) : d = .bl b := by cases d <;> simp only [asB] at h <;> first | cases h; rfl | cases h
theorem ev_chain {r r' : R2} {g g' : D → D → Option D} (hr : Op2 F own W .fz r g) (hr' : Op2 F own W .fz r' g') (x : Ev F own W m1 ta fa) (y : Ev F own W m2 tb fb) (z : Ev F own W m3 tc fc) : Ev F own W .fz (tChain r r' ta tb tc) (chn g g' fa fb fc) := by
  refine Ev.bind (g := fun ρ x => bnd (fb ρ) fun y => match (g x y).bind asB with | some true => bnd (fc ρ) fun z => lft (g' y z) | some false => ret (.bl false) | none => stk)
    (K := fun x σ H1 Q => tb σ H1 fun y H2 => r x y H2 fun z H3 => ∃ k, z = .bl k ∧ (if k = true then tc σ H3 fun w' H4 => r' y w' H4 Q else Q (.bl false) H3)) x fun v d1 Hs Z H σ ρ s Q k z1 q => ?_
  refine y σ H Z ρ s _ k ?_
  dsimp only [bnd] at q
  match e : fb ρ s, q with
  | none, q => exact q
  | some (.error _, s'), q => exact q
  | some (.ok d2, s'), q =>
    intro u H' Z' x' k' z2
    have z1' := z1.bz.ext k.toBs x'
    have q := PostE.from x' q
    dsimp only at q
    cases e1 : g d1 d2 with
    | none => rw [e1] at q; exact (show False from q).elim
    | some r1 =>
      rw [e1] at q
      dsimp only [Option.bind] at q
      cases e2 : asB r1 with
      | none => rw [e2] at q; exact (show False from q).elim
      | some bb =>
        rw [e2] at q
        rw [asB_some e2] at e1
        cases bb with
        | true =>
          refine hr v u d1 d2 _ Z' H' σ ρ s' _ e1 k' z1' z2.bz ?_
          intro v' H3 Z3 x3 k3 z3
          have q3 := PostE.from x3 q
          refine ⟨true, (Bz.bl_ (adr := F.md.adr) (.inl z3)), ?_⟩
          rw [if_pos rfl]
          refine z σ H3 Z3 ρ s' _ k3 ?_
          dsimp only [bnd] at q3
          cases e3 : fc ρ s' with
          | none => rw [e3] at q3; exact q3
          | some p3 =>
            rw [e3] at q3
            obtain ⟨r3, s4⟩ := p3
            cases r3 with
            | error _ => exact q3
            | ok d3 =>
              intro w' H4 Z4 x4 k4 z4
              have q4 := PostE.from x4 q3
              dsimp only at q4
              cases e5 : g' d2 d3 with
              | none => rw [e5] at q4; exact (show False from q4).elim
              | some r2 =>
                rw [e5] at q4
                exact hr' u w' d2 d3 r2 Z4 H4 σ ρ s4 Q e5 k4 ((z2.bz.ext k'.toBs x3).ext k3.toBs x4) z4.bz q4
        | false =>
          refine hr v u d1 d2 _ Z' H' σ ρ s' _ e1 k' z1' z2.bz ?_
          intro v' H3 Z3 x3 k3 z3
          refine ⟨false, (Bz.bl_ (adr := F.md.adr) (.inl z3)), ?_⟩
          rw [if_neg Bool.false_ne_true]
          exact PostE.val (PostE.from x3 q) k3 (.bl _)
theorem de_chain {op op' : CmpOp} {r r' : R2} {g g' : D → D → Option D} (ho : OpR X (compareOp op) r) (ho' : OpR X (compareOp op') r') (hr : Op2 F own W .fz r g) (hr' : Op2 F own W .fz r' g') (x : DE X F own W m1 a ta fa) (y : DE X F own W m2 b tb fb) (z : DE X F own W m3 c tc fc)
    (hm : lastMarks [op, op'] [b, c] = false := by with_unfolding_all rfl) : DE X F own W .fz (.Compare a [op, op'] [b, c] pos) (tChain r r' ta tb tc) (chn g g' fa fb fc) := ⟨pe_chain ho ho' x.pe y.pe z.pe hm, ev_chain hr hr' x.ev y.ev z.ev⟩
theorem dt_chain {op op' : CmpOp} {r r' : R2} {g g' : D → D → Option D} (ho : OpR X (compareOp op) r) (ho' : OpR X (compareOp op') r') (hr : Op2 F own W .fz r g) (hr' : Op2 F own W .fz r' g') (x : DE X F own W m1 a ta fa) (y : DE X F own W m2 b tb fb) (z : DE X F own W m3 c tc fc)
    (hm : lastMarks [op, op'] [b, c] = false := by with_unfolding_all rfl) : DT X F own W (.Compare a [op, op'] [b, c] pos) (tTest (tChain r r' ta tb tc)) (tsb (chn g g' fa fb fc)) := ⟨pt_chain ho ho' x.pe y.pe z.pe hm, ev_tsb (ev_chain hr hr' x.ev y.ev z.ev)⟩
end
end DL

namespace DL
open PySem L2 PySem.Spec PyProof.Rows

section
variable {S : Type} {X : Cx} {F : Fc S} {Z Z' Z1 Z2 : Addr → Prop} {H H' H1 H2 : Hp} {σ : L2.St} {ρ : Env} {own : List Nat} {s s' : S} {p : Addr} {o : HO} {v : V} {d : D} {m m' m1 m2 m3 : Mo} {W : WX} {Q : VK} {k : Nat}
variable {a b c e : Expr} {ta tb tc te : TE} {fa fb fc fe : Env → M S D} {pos : Pos} {es : List Expr} {t : TA} {f : Env → M S (List D)}

/-! ### arguments, displays -/
def aNil : Env → M S (List D) := fun _ => ret []
def aCons (fa : Env → M S D) (fr : Env → M S (List D)) : Env → M S (List D) := fun ρ => bnd (fa ρ) fun x => bnd (fr ρ) fun xs => ret (x :: xs)
/-- as many as are written -/
def Cnt (f : Env → M S (List D)) (n : Nat) : Prop := ∀ ρ s ds s', f ρ s = some (.ok ds, s') → ds.length = n
theorem cnt_nil : Cnt (aNil : Env → M S (List D)) 0 := fun ρ s ds s' e => by cases e; rfl
theorem cnt_cons {n : Nat} (h : Cnt f n) : Cnt (aCons fa f) (n + 1) := fun ρ s ds s' e => by
  dsimp only [aCons, bnd, ret] at e
  split at e
  · cases e
  · cases e
  · split at e
    · cases e
    · cases e
    · rename_i q
      cases e
      rw [List.length_cons, h _ _ _ _ q]
theorem da_nil : DA X F own W [] tNil aNil := ⟨pa_nil, fun σ H Z ρ s Q k h => h [] H Z Ext.refl k .nil⟩
theorem da_cons (x : DE X F own W .fz e te fe) (y : DA X F own W es t f) (hs : starEach (e :: es) X.env = (false, eval e X.env) :: starEach es X.env := by rfl) : DA X F own W (e :: es) (tCons te t) (aCons fe f) := by
  refine ⟨pa_cons x.pe y.pa hs, EvA.bind (g := fun ρ x => bnd (f ρ) fun xs => ret (x :: xs)) (K := fun x σ H1 Q => t σ H1 fun xs H2 => Q (x :: xs) H2) x.ev fun v d Hs Z H σ ρ s Q k z q => ?_⟩
  refine y.ev σ H Z ρ s _ k ?_
  dsimp only [bnd] at q
  cases e1 : f ρ s with
  | none => rw [e1] at q; exact q
  | some p1 =>
    rw [e1] at q
    obtain ⟨r1, s1⟩ := p1
    cases r1 with
    | error _ => exact q
    | ok ds => exact fun vs H' Z' x' k' z' => q (v :: vs) H' Z' x' k' (.cons (Fz.grow (k.toBs.grow x') z) z')
def mTup (f : Env → M S (List D)) : Env → M S D := fun ρ => bnd (f ρ) fun ds => ret (.tup ds)
def mLst (f : Env → M S (List D)) : Env → M S D := fun ρ => bnd (f ρ) fun ds => ret (.lst ds)
theorem ev_cnt {n : Nat} {g : Env → List D → M S D} {K : List V → L2.St → Hp → VK → Prop} (x : EvA F own W t f) (hn : Cnt f n)
    (hk : ∀ vs ds Z H σ ρ s Q, ds.length = n → Ok F own Z H σ ρ s → FzAll F.cn Z H vs ds → PostE F own W m Z H σ ρ Q (g ρ ds s) → K vs σ H Q) :
    Ev F own W m (fun σ H Q => t σ H fun x H1 => K x σ H1 Q) (fun ρ => bnd (f ρ) (g ρ)) := by
  intro σ H Z ρ s Q k h
  refine x σ H Z ρ s _ k ?_
  dsimp only [bnd] at h
  match e : f ρ s, h with
  | none, h => exact h
  | some (.error y, s'), h => exact h
  | some (.ok d, s'), h => exact fun vs H' Z' x k' z => hk vs d Z' H' σ ρ s' Q (hn _ _ _ _ e) k' z (h.from x)
theorem de_tup {n x1 : Nat} (x : DA X F own W es t f) (hn : Cnt f n) (h : n ≤ 1000 := by decide) : DE X F own W .fz (.Tuple es x1 pos) (tTup t) (mTup f) :=
  ⟨pe_tup x.pa, ev_cnt (g := fun _ ds => ret (.tup ds)) (K := fun xs _ H1 Q => xs.length ≤ sizeLine ∧ ∀ p, H1 p = none → Q (.ref p) (upd H1 p (.tup xs))) x.ev hn fun vs ds Z H σ ρ s Q hl k z q => by
    have : vs.length ≤ sizeLine := by rw [z.1, hl]; exact Nat.le_trans h (by decide)
    exact ⟨this, q.newT k z this⟩⟩
theorem de_lst {n : Nat} (x : DA X F own W es t f) (hn : Cnt f n) (h : n ≤ 1000 := by decide) : DE X F own W .fr (.List es pos) (tLst t) (mLst f) :=
  ⟨pe_lst x.pa, ev_cnt (g := fun _ ds => ret (.lst ds)) (K := fun xs _ H1 Q => xs.length ≤ sizeLine ∧ ∀ p, H1 p = none → Q (.ref p) (upd H1 p (.lst xs))) x.ev hn fun vs ds Z H σ ρ s Q hl k z q => by
    have : vs.length ≤ sizeLine := by rw [z.1, hl]; exact Nat.le_trans h (by decide)
    exact ⟨this, q.newL k z this⟩⟩

/-! ### one and two operands of a built-in -/
theorem CallR.or {fv : Value} {r r' : List V → Hp → VK → Prop} (h : CallR X fv r) (h' : CallR X fv r') : CallR X fv (fun xs H Q => r xs H Q ∨ r' xs H Q) := by
  intro pins s σ H xs us Q I rx q
  exact q.elim (h pins s σ H xs us Q I rx) (h' pins s σ H xs us Q I rx)
theorem de_b1 {x : Str} {id : String} {r : List V → Hp → VK → Prop} {g : D → Option D} {p : Pos} (hc : CallR X (.builtin id) r) (hr : Op1 F own W m (fun x H Q => r [x] H Q) g) (hg : Gl X x) (hm : X.mg x = none) (hv : bootBuiltins x = some (.builtin id)) (ha : DE X F own W m1 e te fe)
    (hn : x ≠ "__name__" := by decide) (hdb : (x == ("__debug__" : Str)) = false := by decide) (hs : starEach [e] X.env = [(false, eval e X.env)] := by rfl) : DE X F own W m (.Call (.Name x p) [e] [] pos) (tCB r (tCons te tNil)) (o1 g fe) :=
  ⟨pe_callB hc hg hm hv (pa_cons ha.pe pa_nil (by rw [hs]; rfl)) hn hdb (by rw [hs]; rfl) (by rfl), ev_op1 hr ha.ev⟩
theorem de_ty1 {x : Str} {T : String} {r : List V → Hp → VK → Prop} {g : D → Option D} {p : Pos} (hc : CallR X (.type T) r) (hr : Op1 F own W m (fun x H Q => r [x] H Q) g) (hg : Gl X x) (hm : X.mg x = none) (hv : bootBuiltins x = some (.type T)) (ha : DE X F own W m1 e te fe)
    (hn : x ≠ "__name__" := by decide) (hdb : (x == ("__debug__" : Str)) = false := by decide) (hs : starEach [e] X.env = [(false, eval e X.env)] := by rfl) : DE X F own W m (.Call (.Name x p) [e] [] pos) (tCB r (tCons te tNil)) (o1 g fe) :=
  ⟨pe_callTy hc hg hm hv (pa_cons ha.pe pa_nil (by rw [hs]; rfl)) hn hdb (by rw [hs]; rfl) (by rfl), ev_op1 hr ha.ev⟩
theorem de_b2 {x : Str} {id : String} {r : List V → Hp → VK → Prop} {g : D → D → Option D} {p : Pos} (hc : CallR X (.builtin id) r) (hr : Op2 F own W m (fun x y H Q => r [x, y] H Q) g) (hg : Gl X x) (hm : X.mg x = none) (hv : bootBuiltins x = some (.builtin id)) (ha : DE X F own W m1 a ta fa) (hb : DE X F own W m2 b tb fb)
    (hn : x ≠ "__name__" := by decide) (hdb : (x == ("__debug__" : Str)) = false := by decide) (hs : starEach [a, b] X.env = [(false, eval a X.env), (false, eval b X.env)] := by rfl) (hs2 : starEach [b] X.env = [(false, eval b X.env)] := by rfl) :
    DE X F own W m (.Call (.Name x p) [a, b] [] pos) (tCB r (tCons ta (tCons tb tNil))) (o2 g fa fb) :=
  ⟨pe_callB hc hg hm hv (pa_cons ha.pe (pa_cons hb.pe pa_nil (by rw [hs2]; rfl)) (by rw [hs, hs2])) hn hdb (by rw [hs, hs2]) (by rw [hs2]; rfl), ev_op2 hr ha.ev hb.ev⟩

/-! ### len, abs, min, max, int, all, any, list, tuple -/
def dLen : D → Option D
  | .str x => if x.length ≤ sizeLine then some (.int x.length) else none
  | .lst ds => some (.int ds.length)
  | .tup ds => some (.int ds.length)
  | .scr ns => some (.int ns.length)
  | .dic ds => some (.int ds.length)
  | _ => none
def dAbs : D → Option D
  | .int i => some (.int (if i < 0 then -i else i))
  | _ => none
def dMin2 : D → D → Option D
  | .int i, .int j => some (.int (if j < i then j else i))
  | _, _ => none
def dMax2 : D → D → Option D
  | .int i, .int j => some (.int (if j > i then j else i))
  | _, _ => none
def dInt : D → Option D
  | .int i => some (.int i)
  | .bl b => some (.int (if b then 1 else 0))
  | _ => none
def bls : List D → Option (List Bool)
  | [] => some []
  | .bl b :: ds => (bls ds).map (b :: ·)
  | _ => none
def dAll : D → Option D
  | .lst ds => (bls ds).map fun bs => .bl (bs.all id)
  | _ => none
def dAny : D → Option D
  | .lst ds => (bls ds).map fun bs => .bl (bs.any id)
  | _ => none
def dList : D → Option D
  | .lst ds => some (.lst ds)
  | .tup ds => some (.lst ds)
  | _ => none
def dTuple : D → Option D
  | .lst ds => some (.tup ds)
  | .tup ds => some (.tup ds)
  | _ => none
theorem Bz.dic_ {adr : Addr → Prop} {c : Cn} {des : List (Key × D)} (z : Bz c adr Z H v (.dic des)) : ∃ a kvs, v = .ref a ∧ H a = some (.dK kvs) ∧ kvs.length ≤ sizeLine ∧ kvs.map (·.1) = des.map (·.1) ∧ FzAll c Z H (kvs.map (·.2)) (des.map (·.2)) := by
  rcases z with z | ⟨a, e, _, kvs, h1, h2, h3, h4⟩
  · cases z with
    | dic h1 h2 h3 h4 h5 h6 =>
      refine ⟨_, _, rfl, h2, h4, ?_, by simpa using h3, fun i w q a b => ?_⟩
      · apply List.ext_getElem?
        intro i
        rw [List.getElem?_map, List.getElem?_map]
        rename_i a0 kvs
        cases e1 : kvs[i]? with
        | none =>
          have : des[i]? = none := by rw [List.getElem?_eq_none_iff] at e1 ⊢; omega
          rw [this]; rfl
        | some p =>
          have hi : i < des.length := by have := (List.getElem?_eq_some_iff.mp e1).1; omega
          have e2 : des[i]? = some des[i] := List.getElem?_eq_getElem hi
          rw [e2]
          show some p.1 = some des[i].1
          rw [h5 i p _ e1 e2]
      · rw [List.getElem?_map] at a b
        obtain ⟨p, hp, rfl⟩ := Option.map_eq_some_iff.mp a
        obtain ⟨q', hq, rfl⟩ := Option.map_eq_some_iff.mp b
        exact h6 i p q' hp hq
  · exact ⟨a, kvs, e, h1, h2, h3, h4⟩
abbrev rLenA (K : PySem.W.Frag) : List V → Hp → VK → Prop := fun xs H Q => (∃ x n, xs = [x] ∧ LenV K x H n ∧ Q (.int n) H) ∨ ∃ d kvs, xs = [V.ref d] ∧ H d = some (.dK kvs) ∧ Q (.int kvs.length) H
theorem d_len : Op1 F own W .fz (fun x H Q => rLenA F.K [x] H Q) dLen := by
  intro v x d Z H σ ρ s Q e k z q
  cases x <;> simp only [dLen] at e <;> try cases e
  · split at e
    · rename_i hl
      cases e
      rw [z.str_]
      exact .inl ⟨_, _, rfl, ⟨hl, rfl⟩, q.val k (.int _)⟩
    · cases e
  · obtain ⟨a, vs, rfl, h1, h2, h3⟩ := z.lst_
    exact .inl ⟨_, _, rfl, .inl ⟨vs, SqL.of h1, rfl⟩, by rw [h3.1]; exact q.val k (.int _)⟩
  · obtain ⟨a, vs, rfl, h1, h2, h3⟩ := z.tup_
    exact .inl ⟨_, _, rfl, .inr ⟨vs, h1.sq, rfl⟩, by rw [h3.1]; exact q.val k (.int _)⟩
  · obtain ⟨a, vs, rfl, h1, h2, h3, h4⟩ := z.dic_
    exact .inr ⟨a, vs, rfl, h1, by
      have := congrArg List.length h3
      simp only [List.length_map] at this
      rw [this]; exact q.val k (.int _)⟩
  · obtain ⟨a, rfl, h1, h2⟩ := z.scr_
    exact .inl ⟨_, _, rfl, .inl ⟨_, h1.sq, rfl⟩, by rw [List.length_map]; exact q.val k (.int _)⟩
theorem d_abs : Op1 F own W .fz (fun x H Q => ∃ i, [x] = [V.int i] ∧ Q (.int (if i < 0 then -i else i)) H) dAbs := by
  intro v x d Z H σ ρ s Q e k z q
  cases x <;> simp only [dAbs] at e <;> try cases e
  rw [z.int_]
  exact ⟨_, rfl, q.val k (.int _)⟩
theorem d_min2 : Op2 F own W .fz (fun x y H Q => ∃ i j, [x, y] = [V.int i, V.int j] ∧ Q (.int (if j < i then j else i)) H) dMin2 := by
  intro v u x y d Z H σ ρ s Q e k z1 z2 q
  cases x <;> cases y <;> simp only [dMin2] at e <;> try cases e
  rw [z1.int_, z2.int_]
  exact ⟨_, _, rfl, q.val k (.int _)⟩
theorem d_max2 : Op2 F own W .fz (fun x y H Q => ∃ i j, [x, y] = [V.int i, V.int j] ∧ Q (.int (if j > i then j else i)) H) dMax2 := by
  intro v u x y d Z H σ ρ s Q e k z1 z2 q
  cases x <;> cases y <;> simp only [dMax2] at e <;> try cases e
  rw [z1.int_, z2.int_]
  exact ⟨_, _, rfl, q.val k (.int _)⟩
theorem d_int : Op1 F own W .fz (fun x H Q => (∃ i, [x] = [V.int i] ∧ Q (.int i) H) ∨ ∃ k, [x] = [V.bl k] ∧ Q (.int (if k then 1 else 0)) H) dInt := by
  intro v x d Z H σ ρ s Q e k z q
  cases x <;> simp only [dInt] at e <;> try cases e
  · rw [z.bl_]; exact .inr ⟨_, rfl, q.val k (.int _)⟩
  · rw [z.int_]; exact .inl ⟨_, rfl, q.val k (.int _)⟩
theorem bls_vals {c : Cn} : ∀ (ds : List D) (vs : List V) (bs : List Bool), FzAll c Z H vs ds → bls ds = some bs → vs = bs.map V.bl
  | [], vs, bs, h, e => by
    simp only [bls] at e
    cases e
    exact List.length_eq_zero_iff.mp h.1
  | d :: ds, [], bs, h, e => by have := h.1; simp at this
  | d :: ds, v :: vs, bs, h, e => by
    obtain ⟨h1, h2⟩ := h.inv
    cases d <;> simp only [bls] at e <;> try cases e
    obtain ⟨bs', e1, rfl⟩ := Option.map_eq_some_iff.mp e
    rw [bls_vals ds vs bs' h2 e1]
    cases h1
    rfl
theorem d_all : Op1 F own W .fz (fun x H Q => L2.rAll F.K [x] H Q) dAll := by
  intro v x d Z H σ ρ s Q e k z q
  cases x <;> simp only [dAll] at e <;> try cases e
  obtain ⟨bs, e1, rfl⟩ := Option.map_eq_some_iff.mp e
  obtain ⟨a, vs, rfl, h1, h2, h3⟩ := z.lst_
  rw [bls_vals _ _ _ h3 e1] at h1
  exact ⟨a, bs, rfl, SqL.of h1, q.val k (.bl _)⟩
theorem d_any : Op1 F own W .fz (fun x H Q => L2.rAny F.K [x] H Q) dAny := by
  intro v x d Z H σ ρ s Q e k z q
  cases x <;> simp only [dAny] at e <;> try cases e
  obtain ⟨bs, e1, rfl⟩ := Option.map_eq_some_iff.mp e
  obtain ⟨a, vs, rfl, h1, h2, h3⟩ := z.lst_
  rw [bls_vals _ _ _ h3 e1] at h1
  exact ⟨a, bs, rfl, SqL.of h1, q.val k (.bl _)⟩
theorem d_list : Op1 F own W .fr (fun x H Q => ∃ p ys, [x] = [V.ref p] ∧ (SqL F.K H p ys ∨ SqT F.K H p ys) ∧ ∀ l, H l = none → Q (.ref l) (upd H l (.lst ys))) dList := by
  intro v x d Z H σ ρ s Q e k z q
  cases x <;> simp only [dList] at e <;> try cases e
  · obtain ⟨a, vs, rfl, h1, h2, h3⟩ := z.lst_
    exact ⟨a, vs, rfl, .inl (SqL.of h1), q.newL k h3 h2⟩
  · obtain ⟨a, vs, rfl, h1, h2, h3⟩ := z.tup_
    exact ⟨a, vs, rfl, .inr h1.sq, q.newL k h3 h2⟩
theorem d_tuple : Op1 F own W .fz (fun x H Q => ∃ p ys, [x] = [V.ref p] ∧ ((SqL F.K H p ys ∧ ∀ l, H l = none → Q (.ref l) (upd H l (.tup ys))) ∨ (SqT F.K H p ys ∧ Q (.ref p) H))) dTuple := by
  intro v x d Z H σ ρ s Q e k z q
  cases x <;> simp only [dTuple] at e <;> try cases e
  · obtain ⟨a, vs, rfl, h1, h2, h3⟩ := z.lst_
    exact ⟨a, vs, rfl, .inl ⟨SqL.of h1, q.newT k h3 h2⟩⟩
  · obtain ⟨a, vs, rfl, h1, h2, h3⟩ := z.tup_
    exact ⟨a, vs, rfl, .inr ⟨h1.sq, q.val k (.tup h1 h3.1 h2 h3.2)⟩⟩
variable {p : Pos}
theorem de_len (A : Amb X F k) (hg : Gl X "len") (hm : X.mg "len" = none) (ha : DE X F own W m1 e te fe) (hs : starEach [e] X.env = [(false, eval e X.env)] := by rfl) : DE X F own W .fz (.Call (.Name "len" p) [e] [] pos) (tCB (rLenA X.K) (tCons te tNil)) (o1 dLen fe) :=
  de_b1 (call_len.or call_lenD) (A.K ▸ d_len) hg hm PySem.boot_len ha (hs := hs)
theorem de_abs (hg : Gl X "abs") (hm : X.mg "abs" = none) (ha : DE X F own W m1 e te fe) (hs : starEach [e] X.env = [(false, eval e X.env)] := by rfl) : DE X F own W .fz (.Call (.Name "abs" p) [e] [] pos) (tCB (fun xs H Q => ∃ i, xs = [.int i] ∧ Q (.int (if i < 0 then -i else i)) H) (tCons te tNil)) (o1 dAbs fe) :=
  de_b1 call_abs d_abs hg hm (by decide +kernel) ha (hs := hs)
theorem de_min2 (A : Amb X F k) (hg : Gl X "min") (hm : X.mg "min" = none) (ha : DE X F own W m1 a ta fa) (hb : DE X F own W m2 b tb fb) (hs : starEach [a, b] X.env = [(false, eval a X.env), (false, eval b X.env)] := by rfl) (hs2 : starEach [b] X.env = [(false, eval b X.env)] := by rfl) :
    DE X F own W .fz (.Call (.Name "min" p) [a, b] [] pos) (tCB (fun xs H Q => ∃ i j, xs = [.int i, .int j] ∧ Q (.int (if j < i then j else i)) H) (tCons ta (tCons tb tNil))) (o2 dMin2 fa fb) := de_b2 (call_min2 A.calm) d_min2 hg hm (by decide +kernel) ha hb (hs := hs) (hs2 := hs2)
theorem de_max2 (A : Amb X F k) (hg : Gl X "max") (hm : X.mg "max" = none) (ha : DE X F own W m1 a ta fa) (hb : DE X F own W m2 b tb fb) (hs : starEach [a, b] X.env = [(false, eval a X.env), (false, eval b X.env)] := by rfl) (hs2 : starEach [b] X.env = [(false, eval b X.env)] := by rfl) :
    DE X F own W .fz (.Call (.Name "max" p) [a, b] [] pos) (tCB (fun xs H Q => ∃ i j, xs = [.int i, .int j] ∧ Q (.int (if j > i then j else i)) H) (tCons ta (tCons tb tNil))) (o2 dMax2 fa fb) := de_b2 (call_max2 A.calm) d_max2 hg hm (by decide +kernel) ha hb (hs := hs) (hs2 := hs2)
theorem de_toint (hg : Gl X "int") (hm : X.mg "int" = none) (ha : DE X F own W m1 e te fe) (hs : starEach [e] X.env = [(false, eval e X.env)] := by rfl) : DE X F own W .fz (.Call (.Name "int" p) [e] [] pos) (tCB (fun xs H Q => (∃ i, xs = [.int i] ∧ Q (.int i) H) ∨ ∃ k, xs = [.bl k] ∧ Q (.int (if k then 1 else 0)) H) (tCons te tNil)) (o1 dInt fe) :=
  de_ty1 call_int1 d_int hg hm (by decide +kernel) ha (hs := hs)
theorem de_all (A : Amb X F k) (hg : Gl X "all") (hm : X.mg "all" = none) (ha : DE X F own W m1 e te fe) (hs : starEach [e] X.env = [(false, eval e X.env)] := by rfl) : DE X F own W .fz (.Call (.Name "all" p) [e] [] pos) (tCB (L2.rAll X.K) (tCons te tNil)) (o1 dAll fe) :=
  de_b1 (cr_all A.calm) (A.K ▸ d_all) hg hm (by decide +kernel) ha (hs := hs)
theorem de_any (A : Amb X F k) (hg : Gl X "any") (hm : X.mg "any" = none) (ha : DE X F own W m1 e te fe) (hs : starEach [e] X.env = [(false, eval e X.env)] := by rfl) : DE X F own W .fz (.Call (.Name "any" p) [e] [] pos) (tCB (L2.rAny X.K) (tCons te tNil)) (o1 dAny fe) :=
  de_b1 (cr_any A.calm) (A.K ▸ d_any) hg hm (by decide +kernel) ha (hs := hs)
theorem de_list (A : Amb X F k) (hg : Gl X "list") (hm : X.mg "list" = none) (ha : DE X F own W m1 e te fe) (hs : starEach [e] X.env = [(false, eval e X.env)] := by rfl) : DE X F own W .fr (.Call (.Name "list" p) [e] [] pos) (tCB (fun xs H Q => ∃ p ys, xs = [.ref p] ∧ (SqL X.K H p ys ∨ SqT X.K H p ys) ∧ ∀ l, H l = none → Q (.ref l) (upd H l (.lst ys))) (tCons te tNil)) (o1 dList fe) :=
  de_ty1 call_list_of (A.K ▸ d_list) hg hm (by decide +kernel) ha (hs := hs)
theorem de_tuple (A : Amb X F k) (hg : Gl X "tuple") (hm : X.mg "tuple" = none) (ha : DE X F own W m1 e te fe) (hs : starEach [e] X.env = [(false, eval e X.env)] := by rfl) : DE X F own W .fz (.Call (.Name "tuple" p) [e] [] pos) (tCB (fun xs H Q => ∃ p ys, xs = [.ref p] ∧ ((SqL X.K H p ys ∧ ∀ l, H l = none → Q (.ref l) (upd H l (.tup ys))) ∨ (SqT X.K H p ys ∧ Q (.ref p) H))) (tCons te tNil)) (o1 dTuple fe) :=
  de_ty1 call_tuple_of (A.K ▸ d_tuple) hg hm (by decide +kernel) ha (hs := hs)
end
end DL

namespace DL
open PySem L2 PySem.Spec PyProof.Rows

/-! ### repr -/
def keyPy : Key → PyData
  | .inl i => .int i
  | .inr x => .str x
mutual
def toPyR : D → Option PyData
  | .non => some .none
  | .bl b => some (.bool b)
  | .int i => some (.int i)
  | .str x => some (.str x)
  | .lst ds => match toPyRs ds with
    | some xs => some (.list xs)
    | none => none
  | .tup ds => match toPyRs ds with
    | some xs => some (.tuple xs)
    | none => none
  | .dic kvs => match toPyRk kvs with
    | some xs => some (.dict xs)
    | none => none
  | _ => none
def toPyRs : List D → Option (List PyData)
  | [] => some []
  | d :: ds => match toPyR d, toPyRs ds with
    | some x, some xs => some (x :: xs)
    | _, _ => none
def toPyRk : List (Key × D) → Option (List (PyData × PyData))
  | [] => some []
  | (k, d) :: ds => match toPyR d, toPyRk ds with
    | some x, some xs => some ((keyPy k, x) :: xs)
    | _, _ => none
end
/-- no address is met within -/
def flatPy : PyData → Bool
  | .none => true
  | .bool _ => true
  | .int _ => true
  | .str _ => true
  | _ => false
/-- what repr is served of: no dict within; or a dict of flat values -/
def reprOk (x : PyData) : Bool := x.showable && decide (x.depth ≤ 64) && decide (x.shown.length ≤ sizeLine) && (!x.hasDict || match x with
  | .dict kvs => kvs.all fun p => flatPy p.1 && flatPy p.2
  | _ => false)
def dRepr (d : D) : Option D := match toPyR d with
  | some x => if reprOk x = true then some (.str x.shown) else none
  | none => none

section
variable {S : Type} {X : Cx} {F : Fc S} {Z Z' Z1 Z2 : Addr → Prop} {H H' H1 H2 : Hp} {σ : L2.St} {ρ : Env} {own : List Nat} {s s' : S} {p : Addr} {o : HO} {v : V} {d : D} {m m' m1 m2 m3 : Mo} {W : WX} {Q : VK} {k : Nat}
variable {a b c e : Expr} {ta tb tc te : TE} {fa fb fc fe : Env → M S D} {pos : Pos} {es : List Expr} {t : TA} {f : Env → M S (List D)}

theorem readsAll_of {h : Heap} : ∀ (ds : List D) (vs : List V) (us : List Value) (xs : List PyData), vs.length = ds.length → Vals vs us →
    (∀ (i : Nat) (v : V) (d : D), vs[i]? = some v → ds[i]? = some d → ∀ x u, toPyR d = some x → RelV v u → ∃ as, Reads h u x as) → toPyRs ds = some xs → ∃ as, ReadsAll h us xs as
  | [], [], us, xs, _, r, _, e => by
    simp only [toPyRs] at e
    cases e
    cases r
    exact ⟨_, .nil⟩
  | [], _ :: _, _, _, hl, _, _, _ => by simp at hl
  | _ :: _, [], _, _, hl, _, _, _ => by simp at hl
  | d :: ds, v :: vs, us, xs, hl, r, h, e => by
    simp only [toPyRs] at e
    split at e
    · rename_i x xs' e1 e2
      cases e
      cases r with
      | cons r1 r2 =>
        obtain ⟨as, h1⟩ := h 0 v d rfl rfl x _ e1 r1
        obtain ⟨bs, h2⟩ := readsAll_of ds vs _ _ (by simpa using hl) r2 (fun i w q a b => h (i + 1) w q (by simpa using a) (by simpa using b)) e2
        exact ⟨_, .cons h1 h2⟩
    · cases e
theorem keyReads {h : Heap} {k : Key} {u : Value} (e : keyIs k u = true) : Reads h u (keyPy k) [] := by
  rcases keyIs_shape e with ⟨i, t, rfl, rfl⟩ | ⟨x, t, rfl, rfl⟩
  · exact .int i t
  · exact .str x t
theorem readsKv_of {P : Program} {w : World} {h : Heap} : ∀ (des : List (Key × D)) (kvs : List (Key × V)) (ws : List (Key × Value)) (es : List DictEntry) (xs : List (PyData × PyData)), kvs.map (·.1) = des.map (·.1) → KV kvs ws → Pairs (mixKind P w) es ws →
    (∀ (i : Nat) (p : Key × V) (q : Key × D), kvs[i]? = some p → des[i]? = some q → ∀ x u, toPyR q.2 = some x → RelV p.2 u → ∃ as, Reads h u x as) → toPyRk des = some xs →
    (∃ as, ReadsAll h (es.map (·.key)) (xs.map (·.1)) as) ∧ ∃ bs, ReadsAll h (es.map (·.val)) (xs.map (·.2)) bs
  | [], kvs, ws, es, xs, hk, r, pr, _, e => by
    simp only [toPyRk] at e
    cases e
    obtain rfl : kvs = [] := by simpa using hk
    cases r
    cases pr
    exact ⟨⟨_, .nil⟩, _, .nil⟩
  | (k, d) :: des, [], _, _, _, hk, _, _, _, _ => by simp at hk
  | (k, d) :: des, (k', v) :: kvs, ws, es, xs, hk, r, pr, h, e => by
    simp only [toPyRk] at e
    split at e
    · rename_i x xs' e1 e2
      cases e
      cases r with
      | cons r1 r2 =>
        cases pr with
        | cons p1 p2 p3 =>
          simp only [List.map_cons, List.cons.injEq] at hk
          obtain ⟨⟨as, q1⟩, bs, q2⟩ := readsKv_of des kvs _ _ _ hk.2 r2 p3 (fun i p q a b => h (i + 1) p q (by simpa using a) (by simpa using b)) e2
          obtain ⟨cs, q3⟩ := h 0 _ _ rfl rfl x _ e1 r1.2
          rw [← p2] at q3
          refine ⟨⟨_, .cons (keyReads (k := k) ?_) q1⟩, _, .cons q3 q2⟩
          rw [← hk.1]
          have := r1.1
          simp only at this
          rw [this]
          exact p1
    · cases e
theorem dk_parts {P : Program} {w : World} {h : Heap} {a : Addr} {kvs : List (Key × V)} (hok : HOk P w H h) (e : H a = some (.dK kvs)) :
    ∃ (ws : List (Key × Value)) (o : Obj) (es : Array DictEntry) (ep : Nat), KV kvs ws ∧ h.get? a = some o ∧ o.cls = .type "dict" ∧ o.data = .dict es ep ∧ Pairs (mixKind P w) es.toList ws ∧ (a == sysModules) = false := by
  obtain ⟨_, h1, ws, h2, o, es, ep, h3, h4, h5, h6, h7, h8⟩ := hok a _ e
  exact ⟨ws, o, es, ep, h2, h3, h4.1, h5, h7, h1⟩
theorem Fz.reads {pins : List (Addr × Obj)} {sh : Shared} {c : Cn} (I : Inv X pins σ H sh) (hK : X.K = c.K) (h : Fz c Z H v d) : ∀ x u, toPyR d = some x → RelV v u → ∃ as, Reads sh.heap u x as := by
  induction h with
  | non => intro x u e r; simp only [toPyR] at e; cases e; cases r; exact ⟨_, .none⟩
  | bl b => intro x u e r; simp only [toPyR] at e; cases e; cases r; exact ⟨_, .bool b⟩
  | int b => intro x u e r; simp only [toPyR] at e; cases e; obtain ⟨t, rfl⟩ := r; exact ⟨_, .int b t⟩
  | str b => intro x u e r; simp only [toPyR] at e; cases e; obtain ⟨t, rfl⟩ := r; exact ⟨_, .str b t⟩
  | lst h1 h2 h3 h4 h5 ih =>
    intro x u e r
    simp only [toPyR] at e
    split at e
    · rename_i xs e1
      cases e
      cases r
      obtain ⟨its, rv, ⟨o, n, q1, q2, q3, q4⟩, _⟩ := I.list (SqL.of h2)
      obtain ⟨as, q5⟩ := readsAll_of _ _ _ _ h3 rv ih e1
      exact ⟨_, .list q1 q2 q4 (by simpa using q5)⟩
    · cases e
  | tup h1 h2 h3 h5 ih =>
    intro x u e r
    simp only [toPyR] at e
    split at e
    · rename_i xs e1
      cases e
      cases r
      obtain ⟨its, rv, ⟨o, q1, q2, n, q4⟩, _⟩ := I.tuple (hK ▸ h1.sq)
      obtain ⟨as, q5⟩ := readsAll_of _ _ _ _ h2 rv ih e1
      exact ⟨_, .tuple q1 q2 q4 (by simpa using q5)⟩
    · cases e
  | dic h1 h2 h3 h4 h5 h6 ih =>
    intro x u e r
    simp only [toPyR] at e
    split at e
    · rename_i xs e1
      cases e
      cases r
      obtain ⟨ws, o, es, ep, q1, q2, q3, q4, q5, q6⟩ := dk_parts I.hok h2
      obtain ⟨_, kvs', e0, q7, _, q8, _⟩ := Bz.dic_ (adr := fun _ => False) (.inl (Fz.dic (c := c) h1 h2 h3 h4 h5 h6))
      cases e0
      rw [h2] at q7
      cases q7
      obtain ⟨⟨as, r1⟩, bs, r2⟩ := readsKv_of _ _ ws es.toList xs q8 q1 q5 ih e1
      exact ⟨_, .dict q2 q3 q4 r1 r2⟩
    · cases e
  | _ => intro x u e r; simp only [toPyR] at e; cases e
theorem Bz.reads {pins : List (Addr × Obj)} {sh : Shared} {c : Cn} {adr : Addr → Prop} (I : Inv X pins σ H sh) (hK : X.K = c.K) (h : Bz c adr Z H v d) : ∀ x u, toPyR d = some x → RelV v u → ∃ as, Reads sh.heap u x as := by
  rcases h with h | ⟨a, rfl, _, h⟩
  · exact h.reads I hK
  · have g : Grow Z H (fun _ => True) H := ⟨fun _ _ => trivial, fun _ _ => rfl⟩
    exact (Ow.fz (c := c) (Z := fun _ => True) trivial (h.grow g rfl)).reads I hK
/-- a dict of flat values has no address within but its own -/
theorem flat_reads {h : Heap} : ∀ (xs : List PyData) (us : List Value) (as : List Addr), xs.all flatPy = true → ReadsAll h us xs as → as = []
  | [], _, _, _, .nil => rfl
  | x :: xs, _, _, e, .cons (as := as) r1 r2 => by
    rw [List.all_cons, Bool.and_eq_true] at e
    rw [flat_reads xs _ _ e.2 r2]
    cases r1 <;> first | rfl | (simp [flatPy] at e)
theorem repr_ok {pins : List (Addr × Obj)} {sh : Shared} {x : PyData} {u : Value} {c : Cn} {adr : Addr → Prop} {Qv : Value → Shared → Prop} (I : Inv X pins σ H sh) (hK : X.K = c.K) (hr : Room k X.A) (hg : X.A.guards = some []) (z : Bz c adr Z H v d) (e : toPyR d = some x) (ok : reprOk x = true) (r : RelV v u)
    (h : ∀ s' tk, Inv X pins σ H s' → Qv (.str x.shown tk) s') : wpAny (model X.prog X.w) X.A (call (.builtin "repr") [u]) Qv X.xe sh := by
  obtain ⟨as, rd⟩ := z.reads I hK x u e r
  unfold reprOk at ok
  simp only [Bool.and_eq_true, decide_eq_true_eq] at ok
  obtain ⟨⟨⟨s1, s2⟩, s3⟩, s4⟩ := ok
  have hu : X.A.units + (x.depth + 1) < cLine := by have := hr.units; have := hr.un; omega
  cases rd with
  | none => exact PySem.P.repr_of_none (h _ _ (I.tok _))
  | bool b => exact PySem.P.repr_of_bool (h _ _ (I.tok _))
  | int i t => exact PySem.P.repr_of_int (by simpa [PyData.showable] using s1) (h _ _ (I.tok _))
  | str i t => exact PySem.P.repr_of_str (h _ _ (I.tok _)) (by simpa [PyData.shown] using s3)
  | list q1 q2 q3 q4 =>
    rename_i xs0 _
    have nd : (PyData.list xs0).hasDict = false := by simpa using s4
    exact repr_of_reads' (.list q1 q2 q3 q4) s1 (PyData.noDict_hsm nd) hg hu (fun _ _ q => q) (fun h' u' tk hk => h _ _ (I.kept hk)) s3
  | tuple q1 q2 q3 q4 =>
    rename_i xs0
    have nd : (PyData.tuple xs0).hasDict = false := by simpa using s4
    exact repr_of_reads' (.tuple q1 q2 q3 q4) s1 (PyData.noDict_hsm nd) hg hu (fun _ _ q => q) (fun h' u' tk hk => h _ _ (I.kept hk)) s3
  | dict q1 q2 q3 q4 q5 =>
    rename_i a o es n kvs as1 bs1
    have fl : ∀ p ∈ kvs, flatPy p.1 = true ∧ flatPy p.2 = true := by
      have q : (kvs.all fun p => flatPy p.1 && flatPy p.2) = true := by simpa [PyData.hasDict] using s4
      intro p hp
      have := List.all_eq_true.mp q p hp
      rwa [Bool.and_eq_true] at this
    have e1 : as1 = [] := flat_reads _ _ _ (by rw [List.all_map]; exact List.all_eq_true.mpr fun p hp => (fl p hp).1) q4
    have e2 : bs1 = [] := flat_reads _ _ _ (by rw [List.all_map]; exact List.all_eq_true.mpr fun p hp => (fl p hp).2) q5
    have na : a ≠ sysModules := by
      have : ∃ kvs', H a = some (.dK kvs') := by
        cases d <;> simp only [toPyR] at e <;> try cases e
        · split at e <;> cases e
        · split at e <;> cases e
        · obtain ⟨a', kvs', rfl, h1, _⟩ := z.dic_
          cases r
          exact ⟨_, h1⟩
      obtain ⟨kvs', h1⟩ := this
      obtain ⟨_, _, _, _, _, _, _, _, _, q6⟩ := dk_parts I.hok h1
      exact beq_eq_false_iff_ne.mp q6
    refine repr_of_reads' (.dict q1 q2 q3 q4 q5) s1 (fun _ hm => ?_) hg hu (fun _ _ q => q) (fun h' u' tk hk => h _ _ (I.kept hk)) s3
    rw [e1, e2] at hm
    simp at hm
    exact na hm.symm
theorem dRepr_some {x d : D} (h : dRepr x = some d) : ∃ y, toPyR x = some y ∧ reprOk y = true ∧ d = .str y.shown := by
  unfold dRepr at h
  split at h
  · rename_i y e
    split at h
    · rename_i ok
      cases h
      exact ⟨y, e, ok, rfl⟩
    · cases h
  · cases h
def rRepr (c : Cn) : List V → Hp → VK → Prop := fun xs H Q => ∃ (v : V) (Z : Addr → Prop) (adr : Addr → Prop) (d : D) (x : PyData), xs = [v] ∧ Bz c adr Z H v d ∧ toPyR d = some x ∧ reprOk x = true ∧ Q (.str x.shown) H
theorem call_repr (A : Amb X F k) : CallR X (.builtin "repr") (rRepr F.cn) := by
  intro pins sh σ H xs us Q I r h
  obtain ⟨v, Z, adr, d, x, rfl, z, e1, ok, q⟩ := h
  obtain ⟨u, rfl, r1⟩ := vals1 r
  exact repr_ok I A.K A.rm A.gd z e1 ok r1 fun s' tk I' => ⟨.str _, H, I', ⟨tk, rfl⟩, q⟩
theorem d_repr : Op1 F own W .fz (fun x H Q => rRepr F.cn [x] H Q) dRepr := by
  intro v x d Z H σ ρ s Q e k z q
  obtain ⟨y, e1, ok, rfl⟩ := dRepr_some e
  exact ⟨v, Z, _, x, y, rfl, z, e1, ok, q.val k (.str _)⟩
theorem de_repr {p : Pos} (A : Amb X F k) (hg : Gl X "repr") (hm : X.mg "repr" = none) (ha : DE X F own W m1 e te fe) (hs : starEach [e] X.env = [(false, eval e X.env)] := by rfl) : DE X F own W .fz (.Call (.Name "repr" p) [e] [] pos) (tCB (rRepr F.cn) (tCons te tNil)) (o1 dRepr fe) :=
  de_b1 (call_repr A) d_repr hg hm boot_repr ha (hs := hs)
end
end DL

namespace DL
open PySem L2 PySem.Spec PyProof.Rows

section
variable {S : Type} {X : Cx} {F : Fc S} {Z Z' Z1 Z2 : Addr → Prop} {H H' H1 H2 : Hp} {σ : L2.St} {ρ : Env} {own : List Nat} {s s' : S} {p : Addr} {o : HO} {v : V} {d : D} {m m' m1 m2 m3 : Mo} {W : WX} {Q : VK} {k : Nat}
variable {a b c e : Expr} {ta tb tc te : TE} {fa fb fc fe : Env → M S D} {pos : Pos} {es : List Expr} {t : TA} {f : Env → M S (List D)}

/-! ### x in y -/
def flatD : D → Bool
  | .non => true
  | .bl _ => true
  | .int _ => true
  | .str _ => true
  | _ => false
def eqF : D → D → Bool
  | .non, .non => true
  | .bl a, .bl b => a == b
  | .bl a, .int b => (if a then 1 else 0) == b
  | .int a, .bl b => a == (if b then 1 else 0)
  | .int a, .int b => a == b
  | .str a, .str b => a == b
  | _, _ => false
def dInB : D → D → Option Bool
  | .str x, .str y => match x.cps.toList with
    | [c] => some (decide (c ∈ y.cps.toList))
    | _ => none
  | x, .lst ys => if flatD x = true ∧ ys.all flatD = true then some (ys.any fun y => eqF y x) else match toPy x, toPys ys with
    | some a, some bs => if SeqAt.shaped a = true ∧ SeqAt.shaped (.list bs) = true then some (bs.any fun z => PyData.eqv z a) else none
    | _, _ => none
  | x, .tup ys => if flatD x = true ∧ ys.all flatD = true then some (ys.any fun y => eqF y x) else none
  | .int i, .dic kvs => some ((kvs.find? fun kv => decide (kv.1 = .inl i)).isSome)
  | .str x, .dic kvs => some ((kvs.find? fun kv => decide (kv.1 = .inr x)).isSome)
  | _, _ => none
def dIn (x y : D) : Option D := (dInB x y).map .bl
def dNotIn (x y : D) : Option D := (dInB x y).map fun b => .bl (!b)
theorem flat_V {c : Cn} (h : Fz c Z H v d) (hf : flatD d = true) : flatV v = true := by
  cases h <;> first | rfl | cases hf
theorem flat_eq {c : Cn} {v' : V} {d' : D} (h : Fz c Z H v d) (h' : Fz c Z H v' d') (hf : flatD d = true) (hf' : flatD d' = true) : eqV v v' = eqF d d' := by
  cases h <;> cases h' <;> first | rfl | cases hf | cases hf'
theorem flat_all {c : Cn} : ∀ (vs : List V) (ds : List D), FzAll c Z H vs ds → ds.all flatD = true → vs.all flatV = true ∧ ∀ v' d', Fz c Z H v' d' → flatD d' = true → (vs.any fun y => eqV y v') = ds.any fun y => eqF y d'
  | [], [], _, _ => ⟨rfl, fun _ _ _ _ => rfl⟩
  | [], _ :: _, h, _ => by have := h.1; simp at this
  | _ :: _, [], h, _ => by have := h.1; simp at this
  | v :: vs, d :: ds, h, e => by
    rw [List.all_cons, Bool.and_eq_true] at e
    obtain ⟨h1, h2⟩ := h.inv
    obtain ⟨i1, i2⟩ := flat_all vs ds h2 e.2
    refine ⟨by rw [List.all_cons, flat_V h1 e.1, i1]; rfl, fun v' d' z f' => ?_⟩
    rw [List.any_cons, List.any_cons, flat_eq h1 z e.1 f', i2 v' d' z f']
theorem Bz.flat {c : Cn} {adr : Addr → Prop} (h : Bz c adr Z H v d) (hf : flatD d = true) : Fz c Z H v d := by
  rcases h with h | ⟨a, _, _, h⟩
  · exact h
  · cases d <;> first | exact h.elim | cases hf
/-- the four rules -/
abbrev rInA (K : PySem.W.Frag) (neg : Bool) : R2 := fun x y H Q => (∃ (c : Nat) (z : Str), x = .str ⟨#[c]⟩ ∧ y = .str z ∧ Q (.bl (if neg then !decide (c ∈ z.cps.toList) else decide (c ∈ z.cps.toList))) H) ∨ rIn K neg x y H Q ∨
  ∃ d ds, Dp K H x d ∧ Dp K H y (.list ds) ∧ SeqAt.shaped d = true ∧ SeqAt.shaped (.list ds) = true ∧ Q (.bl (if neg then !(ds.any fun z => PyData.eqv z d) else ds.any fun z => PyData.eqv z d)) H
theorem op_inA (hu : X.A.units + 65 < cLine) : OpR X (compareOp .In) (rInA X.K false) := op_in_sign.or (op_in_seq.or (op_inD hu))
theorem op_notInA (hu : X.A.units + 65 < cLine) : OpR X (compareOp .NotIn) (rInA X.K true) := op_notIn_sign.or (op_notIn_seq.or (op_notInD hu))
def inX (td ty : TE) (neg : Bool) : TE := fun σ H Q => ty σ H fun y H1 => td σ H1 fun x H2 => ∃ a o, x = .ref a ∧ DGet H2 a y o ∧ Q (.bl (if neg then !o.isSome else o.isSome)) H2
theorem val_find {κ : Type} [DecidableEq κ] {kvs : List (κ × V)} {des : List (κ × D)} (h : kvs.map (·.1) = des.map (·.1)) (x : κ) : (valV kvs x).isSome = (des.find? fun kv => decide (kv.1 = x)).isSome := by
  induction kvs generalizing des with
  | nil => cases des with
    | nil => rfl
    | cons q r => simp at h
  | cons p r ih => cases des with
    | nil => simp at h
    | cons q r' =>
      simp only [List.map_cons, List.cons.injEq] at h
      unfold valV
      rw [List.find?_cons, List.find?_cons, h.1]
      by_cases e : q.1 = x
      · simp [e]
      · simp only [e, decide_false]
        exact ih h.2
theorem one_sign {x : Str} {c : Nat} (h : x.cps.toList = [c]) : x = ⟨#[c]⟩ := by
  obtain ⟨cps⟩ := x
  simp only at h
  congr 1
  exact Array.toList_inj.mp h
/-- one of two rules, by what the operands are -/
theorem Ev.either2 {g : D → D → Option D} {K1 K2 : V → V → Hp → VK → Prop} (pick : D → D → Bool) (ha : Ev F own W m1 ta fa) (hb : Ev F own W m2 tb fb)
    (h1 : ∀ v u x y d Z H σ ρ s Q, pick x y = false → g x y = some d → Ok F own Z H σ ρ s → Bz F.cn F.md.adr Z H v x → Bz F.cn F.md.adr Z H u y → PostE F own W m Z H σ ρ Q (ret d s) → K1 v u H Q)
    (h2 : ∀ v u x y d Z H σ ρ s Q, pick x y = true → g x y = some d → Ok F own Z H σ ρ s → Bz F.cn F.md.adr Z H v x → Bz F.cn F.md.adr Z H u y → PostE F own W m Z H σ ρ Q (ret d s) → K2 v u H Q) :
    Ev F own W m (tEither (fun σ H Q => ta σ H fun x H1 => tb σ H1 fun y H2 => K1 x y H2 Q) (fun σ H Q => ta σ H fun x H1 => tb σ H1 fun y H2 => K2 x y H2 Q)) (o2 g fa fb) := by
  intro σ H Z ρ s Q k q
  have both : ∀ K : V → V → Hp → VK → Prop, (∀ v u x y d Z H s1 s2, fa ρ s = some (.ok x, s1) → fb ρ s1 = some (.ok y, s2) → g x y = some d → Ok F own Z H σ ρ s2 → Bz F.cn F.md.adr Z H v x → Bz F.cn F.md.adr Z H u y → PostE F own W m Z H σ ρ Q (ret d s2) → K v u H Q) →
      ta σ H fun x H1 => tb σ H1 fun y H2 => K x y H2 Q := by
    intro K hk
    dsimp only [o2, bnd] at q
    refine ha σ H Z ρ s _ k ?_
    cases e1 : fa ρ s with
    | none => rw [e1] at q; exact q
    | some p1 =>
      obtain ⟨r1, s1⟩ := p1
      rw [e1] at q
      cases r1 with
      | error y => exact q
      | ok x =>
        intro v H1 Z1 x1 k1 z1
        refine hb σ H1 Z1 ρ s1 _ k1 ?_
        dsimp only at q
        cases e2 : fb ρ s1 with
        | none => rw [e2] at q; exact q
        | some p2 =>
          obtain ⟨r2, s2⟩ := p2
          rw [e2] at q
          cases r2 with
          | error y => exact q
          | ok y =>
            intro u H2 Z2 x2 k2 z2
            dsimp only at q
            have q2 := PostE.from (x1.trans x2) q
            cases e3 : g x y with
            | none => rw [e3] at q2; exact (show False from q2).elim
            | some d =>
              rw [e3] at q2
              exact hk v u x y d Z2 H2 s1 s2 e1 e2 e3 k2 (z1.bz.ext k1.toBs x2) z2.bz q2
  by_cases hp : ∃ x s1 y s2, fa ρ s = some (.ok x, s1) ∧ fb ρ s1 = some (.ok y, s2) ∧ pick x y = true
  · obtain ⟨x, s1, y, s2, e1, e2, e3⟩ := hp
    refine .inr (both K2 fun v u x' y' d Z H s1' s2' q1 q2 q3 k z1 z2 q4 => ?_)
    rw [e1] at q1
    cases q1
    rw [e2] at q2
    cases q2
    exact h2 v u _ _ d Z H σ ρ _ Q e3 q3 k z1 z2 q4
  · refine .inl (both K1 fun v u x' y' d Z H s1' s2' q1 q2 q3 k z1 z2 q4 => ?_)
    have e3 : pick x' y' = false := by
      cases e : pick x' y' with
      | false => rfl
      | true => exact absurd ⟨_, _, _, _, q1, q2, e⟩ hp
    exact h1 v u _ _ d Z H σ ρ _ Q e3 q3 k z1 z2 q4
def isDic : D → Bool
  | .dic _ => true
  | .dit _ => true
  | _ => false
theorem ev_in (A : Amb X F k) (neg : Bool) (ha : Ev F own W m1 ta fa) (hb : Ev F own W m2 tb fb) :
    Ev F own W .fz (tEither (tOp (rInA X.K neg) ta tb) (inX tb ta neg)) (o2 (fun x y => (dInB x y).map fun b => .bl (if neg then !b else b)) fa fb) := by
  refine Ev.either2 (g := fun x y => (dInB x y).map fun b => .bl (if neg then !b else b)) (K1 := rInA X.K neg) (K2 := fun y x H2 Q => ∃ a o, x = .ref a ∧ DGet H2 a y o ∧ Q (.bl (if neg then !o.isSome else o.isSome)) H2) (fun _ y => isDic y) ha hb (fun v u x y d Z H σ ρ s Q hp e k z1 z2 h => ?_) fun v u x y d Z H σ ρ s Q hp e k z1 z2 h => ?_
  · obtain ⟨r, eB, e2⟩ := Option.map_eq_some_iff.mp e
    subst e2
    clear e
    have e := eB
    clear eB
    cases y with
    | str y =>
      cases x <;> simp only [dInB] at e <;> try cases e
      split at e
      · rename_i c e2
        cases e
        rw [z1.str_, z2.str_, one_sign e2]
        exact .inl ⟨c, y, rfl, rfl, h.val k (.bl _)⟩
      · cases e
    | lst ys =>
      have e' : (if flatD x = true ∧ ys.all flatD = true then some (ys.any fun y => eqF y x) else match toPy x, toPys ys with
        | some a, some bs => if SeqAt.shaped a = true ∧ SeqAt.shaped (.list bs) = true then some (bs.any fun z => PyData.eqv z a) else none
        | _, _ => none) = some r := by cases x <;> exact e
      obtain ⟨b, us, rfl, h1, h2, h3⟩ := z2.lst_
      split at e'
      · rename_i hf
        cases e'
        obtain ⟨i1, i2⟩ := flat_all us ys h3 hf.2
        have z := z1.flat hf.1
        refine .inr (.inl ⟨b, us, rfl, .inl (SqL.of h1), flat_V z hf.1, i1, ?_⟩)
        unfold inV
        rw [i2 v x z hf.1]
        exact h.val k (.bl _)
      · split at e'
        · rename_i a bs q1 q2
          split at e'
          · rename_i hs
            cases e'
            refine .inr (.inr ⟨a, bs, A.K ▸ z1.dp a q1, A.K ▸ z2.dp (.list bs) (by simp only [toPy]; rw [q2]), hs.1, hs.2, h.val k (.bl _)⟩)
          · cases e'
        · cases e'
    | tup ys =>
      have e' : (if flatD x = true ∧ ys.all flatD = true then some (ys.any fun y => eqF y x) else none) = some r := by cases x <;> exact e
      obtain ⟨b, us, rfl, h1, h2, h3⟩ := z2.tup_
      split at e'
      · rename_i hf
        cases e'
        obtain ⟨i1, i2⟩ := flat_all us ys h3 hf.2
        have z := z1.flat hf.1
        refine .inr (.inl ⟨b, us, rfl, .inr (A.K ▸ h1.sq), flat_V z hf.1, i1, ?_⟩)
        unfold inV
        rw [i2 v x z hf.1]
        exact h.val k (.bl _)
      · cases e'
    | dic des => cases hp
    | _ => cases x <;> simp only [dInB] at e <;> cases e
  · obtain ⟨r, eB, e2⟩ := Option.map_eq_some_iff.mp e
    subst e2
    clear e
    have e := eB
    clear eB
    cases y with
    | dic des =>
      obtain ⟨a, kvs, rfl, h1, h2, h3, h4⟩ := z2.dic_
      cases x <;> simp only [dInB] at e <;> try cases e
      · rw [z1.int_]
        refine ⟨a, valV kvs (.inl _), rfl, DGet.k (k := .inl _) h1, ?_⟩
        rw [val_find h3]
        exact h.val k (.bl _)
      · rw [z1.str_]
        refine ⟨a, valV kvs (.inr _), rfl, DGet.k (k := .inr _) h1, ?_⟩
        rw [val_find h3]
        exact h.val k (.bl _)
    | dit des => cases x <;> simp only [dInB] at e <;> cases e
    | _ => cases hp
theorem pe_inX (hu : X.A.units + 65 < cLine) (ha : PE X a ta) (hb : PE X b tb) (hm : behindInMarks .In b = false) : PE X (.Compare a [.In] [b] pos) (tEither (tOp (rInA X.K false) ta tb) (inX tb ta false)) :=
  pe_either (pe_cmpR (op_inA hu) ha hb hm) (pe_cmp (pc_din (by omega) ha hb) hm)
theorem pe_notInX (hu : X.A.units + 65 < cLine) (ha : PE X a ta) (hb : PE X b tb) (hm : behindInMarks .NotIn b = false) : PE X (.Compare a [.NotIn] [b] pos) (tEither (tOp (rInA X.K true) ta tb) (inX tb ta true)) :=
  pe_either (pe_cmpR (op_notInA hu) ha hb hm) (pe_cmp (pc_dnotin (by omega) ha hb) hm)
theorem Amb.u65 (A : Amb X F k) : X.A.units + 65 < cLine := by have := A.rm.un; omega
theorem de_in (A : Amb X F k) (ha : DE X F own W m1 a ta fa) (hb : DE X F own W m2 b tb fb) (hm : behindInMarks .In b = false := by rfl) : DE X F own W .fz (.Compare a [.In] [b] pos) (tEither (tOp (rInA X.K false) ta tb) (inX tb ta false)) (o2 dIn fa fb) :=
  ⟨pe_inX A.u65 ha.pe hb.pe hm, ev_in A false ha.ev hb.ev⟩
theorem de_notin (A : Amb X F k) (ha : DE X F own W m1 a ta fa) (hb : DE X F own W m2 b tb fb) (hm : behindInMarks .NotIn b = false := by rfl) : DE X F own W .fz (.Compare a [.NotIn] [b] pos) (tEither (tOp (rInA X.K true) ta tb) (inX tb ta true)) (o2 dNotIn fa fb) :=
  ⟨pe_notInX A.u65 ha.pe hb.pe hm, ev_in A true ha.ev hb.ev⟩
/-- a comparison whose value is a bool, as a test -/
theorem dt_of {t : TE} {g : D → D → Option D} (h : DE X F own W .fz e t (o2 g fa fb)) (hp : PT X e (tTest t)) : DT X F own W e (tTest t) (tsb (o2 g fa fb)) := ⟨hp, ev_tsb h.ev⟩
theorem pt_either {t u : TE} (h1 : PT X e (tTest t)) (h2 : PT X e (tTest u)) : PT X e (tTest (tEither t u)) := ⟨fun pins s σ H Q I h => h.elim (fun q => h1.run pins s σ H Q I q) (fun q => h2.run pins s σ H Q I q)⟩
theorem dt_in (A : Amb X F k) (ha : DE X F own W m1 a ta fa) (hb : DE X F own W m2 b tb fb) (hm : behindInMarks .In b = false := by rfl) : DT X F own W (.Compare a [.In] [b] pos) (tTest (tEither (tOp (rInA X.K false) ta tb) (inX tb ta false))) (tsb (o2 dIn fa fb)) :=
  ⟨pt_either (pt_cmpR (op_inA A.u65) ha.pe hb.pe hm) (pt_cmp (pc_din (by have := A.u65; omega) ha.pe hb.pe) hm), ev_tsb (ev_in A false ha.ev hb.ev)⟩
theorem dt_notin (A : Amb X F k) (ha : DE X F own W m1 a ta fa) (hb : DE X F own W m2 b tb fb) (hm : behindInMarks .NotIn b = false := by rfl) : DT X F own W (.Compare a [.NotIn] [b] pos) (tTest (tEither (tOp (rInA X.K true) ta tb) (inX tb ta true))) (tsb (o2 dNotIn fa fb)) :=
  ⟨pt_either (pt_cmpR (op_notInA A.u65) ha.pe hb.pe hm) (pt_cmp (pc_dnotin (by have := A.u65; omega) ha.pe hb.pe) hm), ev_tsb (ev_in A true ha.ev hb.ev)⟩

/-! ### x[i] -/
def dSubs : D → D → Option D
  | .lst ds, .int i => atI ds i
  | .tup ds, .int i => atI ds i
  | .str x, .int i => if x.length ≤ sizeLine then (atI x.cps.toList i).map fun c => .str ⟨#[c]⟩ else none
  | .dic kvs, .int i => (kvs.find? fun kv => decide (kv.1 = .inl i)).map (·.2)
  | .dic kvs, .str x => (kvs.find? fun kv => decide (kv.1 = .inr x)).map (·.2)
  | _, _ => none
theorem atI_map {α β : Type} {xs : List α} {ys : List β} (hl : xs.length = ys.length) {i : Int} {y : β} (h : atI ys i = some y) : ∃ (j : Nat) (x : α), atI xs i = some x ∧ xs[j]? = some x ∧ ys[j]? = some y := by
  unfold atI at h ⊢
  rw [hl]
  cases e : ixN ys.length i with
  | none => rw [e] at h; cases h
  | some j =>
    rw [e] at h
    have h' : ys[j]? = some y := h
    have hj : j < xs.length := by rw [hl]; exact (List.getElem?_eq_some_iff.mp h').1
    exact ⟨j, xs[j], by show xs[j]? = _; exact List.getElem?_eq_getElem hj, List.getElem?_eq_getElem hj, h'⟩
theorem find_val {κ : Type} [DecidableEq κ] {c : Cn} {kvs : List (κ × V)} {des : List (κ × D)} (h : kvs.map (·.1) = des.map (·.1)) (hz : FzAll c Z H (kvs.map (·.2)) (des.map (·.2))) (x : κ) {d : D} (e : (des.find? fun kv => decide (kv.1 = x)).map (·.2) = some d) : ∃ v, valV kvs x = some v ∧ Fz c Z H v d := by
  induction kvs generalizing des with
  | nil => cases des with
    | nil => cases e
    | cons q r => simp at h
  | cons p r ih => cases des with
    | nil => simp at h
    | cons q r' =>
      simp only [List.map_cons, List.cons.injEq] at h
      rw [List.map_cons, List.map_cons] at hz
      obtain ⟨h1, h2⟩ := hz.inv
      unfold valV
      rw [List.find?_cons] at e ⊢
      rw [h.1]
      by_cases e0 : q.1 = x
      · simp only [e0, decide_true] at e ⊢
        cases e
        exact ⟨p.2, rfl, h1⟩
      · simp only [e0, decide_false] at e ⊢
        exact ih h.2 h2 e
theorem ev_sub (A : Amb X F k) (ha : Ev F own W m1 ta fa) (hb : Ev F own W m2 tb fb) : Ev F own W .fz (tEither (tOp (rIx X.K) ta tb) (tDGet ta tb)) (o2 dSubs fa fb) := by
  refine Ev.either2 (g := dSubs) (K1 := rIx X.K) (K2 := fun x y H2 Q => ∃ a v, x = .ref a ∧ DGet H2 a y (some v) ∧ Q v H2) (fun x _ => isDic x) ha hb (fun v u x y d Z H σ ρ s Q hp e k z1 z2 h => ?_) fun v u x y d Z H σ ρ s Q hp e k z1 z2 h => ?_
  · cases x <;> cases y <;> simp only [dSubs] at e <;> try cases e
    · split at e
      · rename_i hl
        obtain ⟨c, e1, rfl⟩ := Option.map_eq_some_iff.mp e
        rw [z1.str_, z2.int_]
        exact .inr (.inr ⟨_, _, c, rfl, rfl, hl, e1, h.val k (.str _)⟩)
      · cases e
    · obtain ⟨b, us, rfl, h1, h2, h3⟩ := z1.lst_
      obtain ⟨j, w, q1, q2, q3⟩ := atI_map h3.1 e
      rw [z2.int_]
      exact .inl ⟨b, us, _, w, rfl, rfl, SqL.of h1, q1, h.val k (h3.2 j w d q2 q3)⟩
    · obtain ⟨b, us, rfl, h1, h2, h3⟩ := z1.tup_
      obtain ⟨j, w, q1, q2, q3⟩ := atI_map h3.1 e
      rw [z2.int_]
      exact .inr (.inl ⟨b, us, _, w, rfl, rfl, A.K ▸ h1.sq, q1, h.val k (h3.2 j w d q2 q3)⟩)
    · cases hp
    · cases hp
  · cases x <;> cases y <;> simp only [dSubs] at e <;> try cases e
    all_goals try cases hp
    · obtain ⟨a, kvs, rfl, h1, h2, h3, h4⟩ := z1.dic_
      obtain ⟨w, q1, q2⟩ := find_val h3 h4 _ e
      rw [z2.int_]
      exact ⟨a, w, rfl, by rw [← q1]; exact DGet.k (k := .inl _) h1, h.val k q2⟩
    · obtain ⟨a, kvs, rfl, h1, h2, h3, h4⟩ := z1.dic_
      obtain ⟨w, q1, q2⟩ := find_val h3 h4 _ e
      rw [z2.str_]
      exact ⟨a, w, rfl, by rw [← q1]; exact DGet.k (k := .inr _) h1, h.val k q2⟩
theorem de_subs (A : Amb X F k) (ha : DE X F own W m1 a ta fa) (hb : DE X F own W m2 b tb fb) (hs : PlainIx b := by exact (fun _ _ => rfl)) (hn : NoSl b := by exact (fun _ _ => rfl)) : DE X F own W .fz (.Subscript a b pos) (tEither (tOp (rIx X.K) ta tb) (tDGet ta tb)) (o2 dSubs fa fb) :=
  ⟨pe_either (pe_ix ix_seq ha.pe hb.pe hs) (pe_dget (by have := A.u65; omega) ha.pe hb.pe hn), ev_sub A ha.ev hb.ev⟩
end
end DL

namespace DL
open PySem L2 PySem.Spec PyProof.Rows

section
variable {S : Type} {X : Cx} {F : Fc S} {Z Z' Z1 Z2 : Addr → Prop} {H H' H1 H2 : Hp} {σ : L2.St} {ρ : Env} {own : List Nat} {s s' : S} {p : Addr} {o : HO} {v : V} {d : D} {m m' m1 m2 m3 : Mo} {W : WX} {Q : VK} {k : Nat}
variable {a b c e : Expr} {ta tb tc te : TE} {fa fb fc fe : Env → M S D} {pos : Pos} {es : List Expr} {t : TA} {f : Env → M S (List D)}

/-! ### a text repeated -/
def repS (x : Str) (n : Nat) : Str := ⟨(List.replicate n x.cps).foldl (· ++ ·) #[]⟩
def rMulS : R2 := fun x y H Q => ∃ a n, x = .str a ∧ y = .int n ∧ 2 ≤ n ∧ n ≤ 1000000 ∧ 1 ≤ a.length ∧ a.length * n.toNat ≤ sizeLine ∧ (repS a n.toNat).length ≤ sizeLine ∧ Q (.str (repS a n.toNat)) H
theorem op_mulS : OpR X (binaryOp .Mult) rMulS := by
  intro pins s σ H x y v u Q I rx ry h
  obtain ⟨a, n, rfl, rfl, h1, h2, h3, h4, h5, q⟩ := h
  obtain ⟨t, rfl⟩ := rx
  obtain ⟨t', rfl⟩ := ry
  have hn1 : (n == 1 || a.length == 0) = false := by
    have e1 : (n == 1) = false := beq_eq_false_iff_ne.mpr (by omega)
    have e2 : (a.length == 0) = false := beq_eq_false_iff_ne.mpr (by omega)
    rw [e1, e2]; rfl
  have hz := sizeLine_eq
  refine PySem.P.mul_str (by
      have e1 : ¬ n < -(2 ^ 63 : Int) := by omega
      have e2 : ¬ n ≥ 2 ^ 63 := by omega
      rw [decide_eq_false e1, decide_eq_false e2]; rfl) (fun _ _ q => ?_) (fun _ _ => ?_) ?_
  · have e1 : (a.length : Int) ≤ 16777216 := by
      have : a.length ≤ a.length * n.toNat := Nat.le_mul_of_pos_right _ (by omega)
      omega
    have e2 : (16777216 : Int) ≤ (2 ^ 63 - 1) / n := by
      refine Int.le_ediv_of_mul_le (by omega) ?_
      have : (16777216 : Int) * n ≤ 16777216 * 1000000 := Int.mul_le_mul_of_nonneg_left h2 (by decide)
      omega
    omega
  · unfold Builtin.Str.tooLong
    exact decide_eq_false (Nat.not_lt.mpr h4)
  · rw [if_neg (show ¬ n < 1 by omega), if_neg (by rw [hn1]; decide)]
    exact ⟨h5, ⟨.str _, H, I.tok _, ⟨_, rfl⟩, q⟩⟩
def dMulS : D → D → Option D
  | .int i, .int j => if okMul i j = true then some (.int (i * j)) else none
  | .str a, .int n => if 2 ≤ n ∧ n ≤ 1000000 ∧ 1 ≤ a.length ∧ a.length * n.toNat ≤ sizeLine ∧ (repS a n.toNat).length ≤ sizeLine then some (.str (repS a n.toNat)) else none
  | _, _ => none
abbrev rMulA : R2 := fun x y H Q => rI CMul (fun i j => .int (i * j)) x y H Q ∨ rMulS x y H Q
theorem de_mulS (ha : DE X F own W m1 a ta fa) (hb : DE X F own W m2 b tb fb) : DE X F own W .fz (.BinOp a .Mult b pos) (tOp rMulA ta tb) (o2 dMulS fa fb) := by
  refine de_op (op_mul.or op_mulS) (fun v u x y d Z H σ ρ s Q e k z1 z2 q => ?_) ha hb
  cases x <;> cases y <;> simp only [dMulS] at e <;> try cases e
  · split at e
    · rename_i h
      cases e
      exact .inl ⟨_, _, z1.int_, z2.int_, (by unfold okMul at h; have h2 := of_decide_eq_true h; exact h2), q.val k (.int _)⟩
    · cases e
  · split at e
    · rename_i h
      cases e
      exact .inr ⟨_, _, z1.str_, z2.int_, h.1, h.2.1, h.2.2.1, h.2.2.2.1, h.2.2.2.2, q.val k (.str _)⟩
    · cases e

/-! ### x[a:b] -/
def cut {α : Type} (xs : List α) (lo hi : Option Int) : List α := (xs.drop (HT.sIx xs.length 0 lo)).take (HT.sIx xs.length xs.length hi - HT.sIx xs.length 0 lo)
theorem cut_map {α β : Type} (f : α → β) (xs : List α) (lo hi : Option Int) : cut (xs.map f) lo hi = (cut xs lo hi).map f := by unfold cut; rw [List.length_map, List.map_take, List.map_drop]
theorem FzAll.cut {c : Cn} {vs : List V} {ds : List D} (h : FzAll c Z H vs ds) (lo hi : Option Int) : FzAll c Z H (DL.cut vs lo hi) (DL.cut ds lo hi) := by
  have hl := h.1
  refine ⟨by unfold DL.cut; rw [hl]; simp [List.length_take, List.length_drop, hl], fun i v d a b => ?_⟩
  unfold DL.cut at a b
  rw [hl] at a
  rw [List.getElem?_take] at a b
  split at a
  · rename_i hi
    rw [if_pos hi] at b
    rw [List.getElem?_drop] at a b
    exact h.2 _ v d a b
  · cases a
structure DP (X : Cx) (F : Fc S) (own : List Nat) (W : WX) (e : Option Expr) (t : TO) (f : Env → M S (Option Int)) : Prop where
  po : PO X e t
  ev : ∀ σ H Z ρ s (Q : Option Int → Hp → Prop), Ok F own Z H σ ρ s → (match f ρ s with
    | some (.ok i, s') => ∀ H' Z', Ext F Z H Z' H' → Ok F own Z' H' σ ρ s' → Q i H'
    | some (.error x, s') => ∀ cls dd H' Z', Bs F Z' H' s' → ExcAt F.cn Z' H' x cls dd → W cls dd σ H'
    | none => False) → t σ H Q
def pNone : Env → M S (Option Int) := fun _ => ret none
def asI : D → Option Int
  | .int i => some i
  | _ => none
theorem asI_some {x : D} {i : Int} (h : asI x = some i) : x = .int i := by cases x <;> simp only [asI] at h <;> first | cases h; rfl | cases h
def pSome (fe : Env → M S D) : Env → M S (Option Int) := fun ρ => bnd (fe ρ) fun x => match asI x with
  | some i => ret (some i)
  | none => stk
theorem dp_none : DP X F own W none tNoPart pNone := ⟨po_none, fun σ H Z ρ s Q k h => h H Z Ext.refl k⟩
theorem dp_some (x : DE X F own W m1 e te fe) : DP X F own W (some e) (tPart te) (pSome fe) := by
  refine ⟨po_some x.pe, fun σ H Z ρ s Q k h => ?_⟩
  refine x.ev σ H Z ρ s _ k ?_
  dsimp only [pSome, bnd] at h
  cases e1 : fe ρ s with
  | none => rw [e1] at h; exact h
  | some p1 =>
    obtain ⟨r1, s1⟩ := p1
    rw [e1] at h
    cases r1 with
    | error y => exact h
    | ok d =>
      intro v H' Z' x' k' z
      dsimp only at h
      cases e2 : asI d with
      | none => rw [e2] at h; exact (show False from h).elim
      | some i =>
        rw [e2] at h
        obtain rfl := asI_some e2
        exact ⟨i, z.bz.int_, h H' Z' x' k'⟩
def dSlc (x : D) (lo hi : Option Int) : Option D := match x with
  | .lst ds => some (.lst (cut ds lo hi))
  | .tup ds => some (.tup (cut ds lo hi))
  | .str x => if x.length ≤ sizeLine then some (.str (cutS x lo hi)) else none
  | _ => none
def dSlcL (x : D) (lo hi : Option Int) : Option D := match x with
  | .lst ds => some (.lst (cut ds lo hi))
  | .scr ns => some (.lst ((cut ns lo hi).map .int))
  | _ => none
def slc (g : D → Option Int → Option Int → Option D) (fe : Env → M S D) (fl fh : Env → M S (Option Int)) : Env → M S D := fun ρ => bnd (fe ρ) fun x => bnd (fl ρ) fun l => bnd (fh ρ) fun h => lft (g x l h)
theorem cut_len {α : Type} (xs : List α) (lo hi : Option Int) : (cut xs lo hi).length ≤ xs.length := by unfold cut; rw [List.length_take, List.length_drop]; omega
theorem cut_all {α : Type} {xs : List α} {lo hi : Option Int} (h : HT.sIx xs.length 0 lo = 0 ∧ HT.sIx xs.length xs.length hi = xs.length) : cut xs lo hi = xs := by
  unfold cut
  rw [h.1, h.2]
  simp
abbrev rSlX (K : PySem.W.Frag) : V → Option Int → Option Int → Hp → VK → Prop := fun x lo hi H Q => rSlL K x lo hi H Q ∨ rSlA K x lo hi H Q ∨ rSlS x lo hi H Q
theorem ev_slc {r : V → Option Int → Option Int → Hp → VK → Prop} {g : D → Option Int → Option Int → Option D} {lo hi : Option Expr} {tl th : TO} {fl fh : Env → M S (Option Int)}
    (hr : ∀ v x i j d Z H σ ρ s Q, g x i j = some d → Ok F own Z H σ ρ s → Bz F.cn F.md.adr Z H v x → PostE F own W m Z H σ ρ Q (ret d s) → r v i j H Q)
    (x : Ev F own W m1 te fe) (yl : DP X F own W lo tl fl) (yh : DP X F own W hi th fh) : Ev F own W m (tSl r te tl th) (slc g fe fl fh) := by
  intro σ H Z ρ s Q k q
  refine x σ H Z ρ s _ k ?_
  dsimp only [slc, bnd] at q
  cases e1 : fe ρ s with
  | none => rw [e1] at q; exact q
  | some p1 =>
    obtain ⟨r1, s1⟩ := p1
    rw [e1] at q
    cases r1 with
    | error y => exact q
    | ok d1 =>
      intro v H1 Z1 x1 k1 z1
      refine yl.ev σ H1 Z1 ρ s1 _ k1 ?_
      dsimp only at q
      cases e2 : fl ρ s1 with
      | none => rw [e2] at q; exact q
      | some p2 =>
        obtain ⟨r2, s2⟩ := p2
        rw [e2] at q
        cases r2 with
        | error y => exact q
        | ok l =>
          intro H2 Z2 x2 k2
          refine yh.ev σ H2 Z2 ρ s2 _ k2 ?_
          dsimp only at q
          cases e3 : fh ρ s2 with
          | none => rw [e3] at q; exact q
          | some p3 =>
            obtain ⟨r3, s3⟩ := p3
            rw [e3] at q
            cases r3 with
            | error y => exact q
            | ok h =>
              intro H3 Z3 x3 k3
              dsimp only at q
              have q3 := PostE.from ((x1.trans x2).trans x3) q
              cases e4 : g d1 l h with
              | none => rw [e4] at q3; exact (show False from q3).elim
              | some d =>
                rw [e4] at q3
                exact hr v d1 l h d Z3 H3 σ ρ s3 Q e4 k3 ((z1.bz.ext k1.toBs x2).ext k2.toBs x3) q3
theorem de_slc (A : Amb X F k) {lo hi : Option Expr} {tl th : TO} {fl fh : Env → M S (Option Int)} {p2 : Pos} (x : DE X F own W m1 e te fe) (yl : DP X F own W lo tl fl) (yh : DP X F own W hi th fh) : DE X F own W .fz (.Subscript e (.Slice lo hi none p2) pos) (tSl (rSlX X.K) te tl th) (slc dSlc fe fl fh) := by
  refine ⟨pe_slice (sl_list.or (sl_tupA.or sl_str)) x.pe yl.po yh.po, ev_slc (fun v x i j d Z H σ ρ s Q e k z q => ?_) x.ev yl yh⟩
  cases x <;> simp only [dSlc] at e <;> try cases e
  · split at e
    · rename_i hl
      cases e
      rw [z.str_]
      exact .inr (.inr ⟨_, rfl, hl, q.val k (.str _)⟩)
    · cases e
  · obtain ⟨b, us, rfl, h1, h2, h3⟩ := z.lst_
    exact .inl ⟨b, us, rfl, SqL.of h1, q.newLz k (h3.cut i j) (Nat.le_trans (cut_len us i j) h2)⟩
  · obtain ⟨b, us, rfl, h1, h2, h3⟩ := z.tup_
    refine .inr (.inl ⟨b, us, rfl, A.K ▸ h1.sq, fun hw => ?_, fun _ => q.newT k (h3.cut i j) (Nat.le_trans (cut_len us i j) h2)⟩)
    rw [h3.1] at hw
    rw [cut_all hw] at q
    exact q.val k (.tup h1 h3.1 h2 h3.2)
theorem de_slcL (A : Amb X F k) {lo hi : Option Expr} {tl th : TO} {fl fh : Env → M S (Option Int)} {p2 : Pos} (x : DE X F own W m1 e te fe) (yl : DP X F own W lo tl fl) (yh : DP X F own W hi th fh) : DE X F own W .fr (.Subscript e (.Slice lo hi none p2) pos) (tSl (rSlL X.K) te tl th) (slc dSlcL fe fl fh) := by
  refine ⟨pe_slice sl_list x.pe yl.po yh.po, ev_slc (fun v x i j d Z H σ ρ s Q e k z q => ?_) x.ev yl yh⟩
  cases x <;> simp only [dSlcL] at e <;> try cases e
  · obtain ⟨b, us, rfl, h1, h2, h3⟩ := z.lst_
    exact ⟨b, us, rfl, SqL.of h1, q.newL k (h3.cut i j) (Nat.le_trans (cut_len us i j) h2)⟩
  · rename_i ns
    obtain ⟨b, rfl, h1, h2⟩ := z.scr_
    have hz : FzAll F.cn Z H (ns.map V.int) (ns.map D.int) := ⟨by simp, fun i v d a b => by
      rw [List.getElem?_map] at a b
      obtain ⟨n, hn, rfl⟩ := Option.map_eq_some_iff.mp a
      rw [hn] at b
      cases b
      exact .int n⟩
    refine ⟨b, _, rfl, (by rw [A.K]; exact h1.sq), q.newL k ?_ ?_⟩
    · rw [← cut_map]
      exact hz.cut i j
    · refine Nat.le_trans (cut_len _ i j) ?_
      rw [List.length_map]
      exact Nat.le_trans h2 (by decide)

/-! ### isinstance by built-in classes -/
def tyN : D → Option String
  | .non => some "NoneType"
  | .bl _ => some "bool"
  | .int _ => some "int"
  | .str _ => some "str"
  | .lst _ => some "list"
  | .tup _ => some "tuple"
  | .dic _ => some "dict"
  | .dit _ => some "dict"
  | .scr _ => some "list"
  | _ => none
def tyKnown : List String := ["NoneType", "bool", "int", "str", "list", "tuple", "dict"]
def isTy (a b : String) : Option Bool := if a ∈ tyKnown ∧ b ∈ tyKnown.drop 1 then some (decide (a = b ∨ a = "bool" ∧ b = "int")) else none
theorem isTy_kit {a b : String} {r : Bool} (h : isTy a b = some r) : kitB a b = some r := by
  unfold isTy at h
  split at h
  · rename_i hm
    cases h
    obtain ⟨h1, h2⟩ := hm
    unfold tyKnown at h1 h2
    simp only [List.mem_cons, List.not_mem_nil, or_false, List.drop] at h1 h2
    rcases h1 with rfl | rfl | rfl | rfl | rfl | rfl | rfl <;> rcases h2 with rfl | rfl | rfl | rfl | rfl | rfl <;> decide +kernel
  · cases h
def tys : List D → Option (List String)
  | [] => some []
  | .ty n :: r => (tys r).map (n :: ·)
  | _ => none
def isAny (a : String) : List String → Option Bool
  | [] => some false
  | c :: r => match isTy a c with
    | some true => some true
    | some false => isAny a r
    | none => none
def dIsi : D → D → Option D
  | x, .ty n => match tyN x with
    | some a => (isTy a n).map .bl
    | none => none
  | x, .tup cs => match tyN x, tys cs with
    | some a, some ns => (isAny a ns).map .bl
    | _, _ => none
  | _, _ => none
theorem ty_of {c : Cn} {adr : Addr → Prop} {a : String} (h : tyN d = some a) (z : Bz c adr Z H v d) : TyX c.K H v (.type a) := by
  cases d <;> simp only [tyN] at h <;> try cases h
  · rw [z.non_]; exact .base .non
  · rw [z.bl_]; exact .base (.bl _)
  · rw [z.int_]; exact .base (.int _)
  · rw [z.str_]; exact .base (.str _)
  · obtain ⟨b, us, rfl, h1, _⟩ := z.lst_; exact .base (.lst h1)
  · obtain ⟨b, us, rfl, h1, _⟩ := z.tup_
    rcases h1 with ⟨_, h1⟩ | h1
    · exact .base (.tup h1)
    · rcases h1 (fun _ => none) with (h2 | ⟨_, h2⟩) | ⟨o, its, n, q1, q2, _⟩
      · cases h2
      · cases h2
      · exact .kTuple q1 q2
  · obtain ⟨b, us, rfl, h1, _⟩ := z.dic_; exact .base (.dK h1)
  · rcases z with z | ⟨b, rfl, _, us, h1, _⟩
    · cases z with
      | dit h1 h2 h3 h4 h5 h6 => exact .base (.dT h2)
    · exact .base (.dT h1)
  · obtain ⟨b, rfl, h1, _⟩ := z.scr_
    rcases h1 with ⟨_, h1 | ⟨o, h1⟩⟩ | h1
    · exact .base (.lst h1)
    · exact .base (.frz h1)
    · rcases h1 (fun _ => none) with (h2 | ⟨_, h2⟩) | ⟨o, its, n, q1, q2, _⟩
      · cases h2
      · cases h2
      · exact .kList q1 q2
theorem tys_vals {c : Cn} : ∀ (cs : List D) (vs : List V) (ns : List String), FzAll c Z H vs cs → tys cs = some ns → Paired ClsV vs (ns.map Value.type)
  | [], vs, ns, h, e => by
    simp only [tys] at e
    cases e
    rw [List.length_eq_zero_iff.mp h.1]
    exact .nil
  | d :: cs, [], ns, h, e => by have := h.1; simp at this
  | d :: cs, v :: vs, ns, h, e => by
    obtain ⟨h1, h2⟩ := h.inv
    cases d <;> simp only [tys] at e <;> try cases e
    obtain ⟨ns', e1, rfl⟩ := Option.map_eq_some_iff.mp e
    cases h1
    exact .cons (.ty _) (tys_vals cs vs ns' h2 e1)
theorem isAny_kit {K : PySem.W.Frag} {a : String} : ∀ (ns : List String) (r : Bool), isAny a ns = some r → PySem.W.kitAny K (.type a) (ns.map Value.type) = some r
  | [], r, e => by simp only [isAny] at e; cases e; rfl
  | n :: ns, r, e => by
    simp only [isAny] at e
    unfold PySem.W.kitAny
    show (match PySem.W.kitOne K (.type a) (.type n) with | some true => some true | some false => PySem.W.kitAny K (.type a) (ns.map Value.type) | none => none) = some r
    split at e
    · rename_i h; cases e; rw [kit_ty (isTy_kit h)]
    · rename_i h; rw [kit_ty (isTy_kit h)]; exact isAny_kit ns r e
    · cases e
abbrev rIsiA (K : PySem.W.Frag) : List V → Hp → VK → Prop := fun xs H Q => rIsi K xs H Q ∨ rIsiT K xs H Q ∨ rIsiK K xs H Q
theorem d_isi : Op2 F own W .fz (fun x y H Q => rIsiA F.K [x, y] H Q) dIsi := by
  intro v u x y d Z H σ ρ s Q e k z1 z2 q
  cases y with
  | ty n =>
    have e' : (match tyN x with | some a => (isTy a n).map D.bl | none => none) = some d := by cases x <;> exact e
    split at e'
    · rename_i a ea
      obtain ⟨r, e1, rfl⟩ := Option.map_eq_some_iff.mp e'
      rw [z2.ty_]
      exact .inl ⟨v, _, _, _, r, rfl, .ty n, ty_of ea z1, kit_ty (isTy_kit e1), q.val k (.bl _)⟩
    · cases e'
  | tup cs =>
    have e' : (match tyN x, tys cs with | some a, some ns => (isAny a ns).map D.bl | _, _ => none) = some d := by cases x <;> exact e
    split at e'
    · rename_i a ns ea en
      obtain ⟨r, e1, rfl⟩ := Option.map_eq_some_iff.mp e'
      obtain ⟨b, us, rfl, h1, h2, h3⟩ := z2.tup_
      have pr := tys_vals cs us ns h3 en
      rcases h1 with ⟨_, h1⟩ | h1
      · exact .inr (.inl ⟨v, b, us, _, _, r, rfl, h1, pr, ty_of ea z1, isAny_kit ns r e1, q.val k (.bl _)⟩)
      · rcases h1 (fun _ => none) with (h2 | ⟨_, h2⟩) | ⟨o, its, n, q1, q2, q3, q4, q5⟩
        · cases h2
        · cases h2
        · obtain ⟨oc, od, dt, sl⟩ := o
          simp only at q2 q3
          subst q2 q3
          have e5 := ClsV.all pr q5
          refine .inr (.inr ⟨v, b, od, ns.map Value.type, n, sl, _, r, rfl, ?_, ty_of ea z1, isAny_kit ns r e1, q.val k (.bl _)⟩)
          rw [q1, ← e5]
    · cases e'
  | _ => cases x <;> simp only [dIsi] at e <;> cases e
theorem de_isi {p : Pos} (A : Amb X F k) (hg : Gl X "isinstance") (hm : X.mg "isinstance" = none) (ha : DE X F own W m1 a ta fa) (hb : DE X F own W m2 b tb fb) (hs : starEach [a, b] X.env = [(false, eval a X.env), (false, eval b X.env)] := by rfl) (hs2 : starEach [b] X.env = [(false, eval b X.env)] := by rfl) :
    DE X F own W .fz (.Call (.Name "isinstance" p) [a, b] [] pos) (tCB (rIsiA X.K) (tCons ta (tCons tb tNil))) (o2 dIsi fa fb) :=
  de_b2 (call_isi.or (call_isiT.or call_isiK)) (A.K ▸ d_isi) hg hm (by decide +kernel) ha hb (hs := hs) (hs2 := hs2)

/-! ### sep.join(xs) -/
def txts : List D → Option (List Str)
  | [] => some []
  | .str x :: r => (txts r).map (x :: ·)
  | _ => none
theorem txts_vals {c : Cn} : ∀ (ds : List D) (vs : List V) (ys : List Str), FzAll c Z H vs ds → txts ds = some ys → vs = ys.map V.str
  | [], vs, ys, h, e => by
    simp only [txts] at e
    cases e
    exact List.length_eq_zero_iff.mp h.1
  | d :: ds, [], ys, h, e => by have := h.1; simp at this
  | d :: ds, v :: vs, ys, h, e => by
    obtain ⟨h1, h2⟩ := h.inv
    cases d <;> simp only [txts] at e <;> try cases e
    obtain ⟨ys', e1, rfl⟩ := Option.map_eq_some_iff.mp e
    rw [txts_vals ds vs ys' h2 e1]
    cases h1
    rfl
def dJoin : D → D → Option D
  | .str a, .lst ds => match txts ds with
    | some ys => if (ys.map (·.length)).sum + ys.length * a.length ≤ 16777216 then some (.str (Str.join a ys)) else none
    | none => none
  | _, _ => none
def asS : D → Option Str
  | .str x => some x
  | _ => none
theorem asS_some {x : D} {i : Str} (h : asS x = some i) : x = .str i := by cases x <;> simp only [asS] at h <;> first | cases h; rfl | cases h
def joi (fa fe : Env → M S D) : Env → M S D := fun ρ => bnd (fa ρ) fun x => match asS x with
  | some a => bnd (fe ρ) fun y => lft (dJoin (.str a) y)
  | none => stk
theorem de_join {apos : Pos} (x : DE X F own W m1 a ta fa) (y : DE X F own W m2 e te fe) (hs : starEach [e] X.env = [(false, eval e X.env)] := by rfl) (hbase : attributeBase a "join" X.env (eval a X.env) = eval a X.env := by rfl) (hline : (apos.endLine == pos.line) = true := by rfl) :
    DE X F own W .fz (.Call (.Attribute a "join" apos) [e] [] pos) (tM1 (fun x xs H Q => ∃ a p, ∃ ys : List Str, x = .str a ∧ xs = [.ref p] ∧ (SqL X.K H p (ys.map V.str) ∨ SqT X.K H p (ys.map V.str)) ∧
      (ys.map (·.length)).sum + ys.length * a.length ≤ 16777216 ∧ Q (.str (Txt.join a ys)) H) ta te) (joi fa fe) := by
  refine ⟨pe_join x.pe y.pe hs hbase hline, ?_⟩
  refine Ev.bind (g := fun ρ x => match asS x with | some a => bnd (fe ρ) fun y => lft (dJoin (.str a) y) | none => stk) (K := fun x σ H1 Q => (∃ a, x = .str a) ∧ te σ H1 fun y H2 => ∃ a p, ∃ ys : List Str, x = .str a ∧ [y] = [.ref p] ∧ (SqL X.K H2 p (ys.map V.str) ∨ SqT X.K H2 p (ys.map V.str)) ∧
      (ys.map (·.length)).sum + ys.length * a.length ≤ 16777216 ∧ Q (.str (Txt.join a ys)) H2) x.ev fun v d1 Hs Z1 H1 σ ρ s1 Q k1 z1 q => ?_
  cases e0 : asS d1 with
  | none => rw [e0] at q; exact (show False from q).elim
  | some sep =>
    rw [e0] at q
    obtain rfl := asS_some e0
    refine ⟨⟨_, z1.bz.str_⟩, y.ev σ H1 Z1 ρ s1 _ k1 ?_⟩
    dsimp only [bnd] at q
    cases e2 : fe ρ s1 with
    | none => rw [e2] at q; exact q
    | some p2 =>
      obtain ⟨r2, s2⟩ := p2
      rw [e2] at q
      cases r2 with
      | error w => exact q
      | ok d2 =>
        intro u H2 Z2 x2 k2 z2
        dsimp only at q
        have q2 := PostE.from x2 q
        cases e3 : dJoin (.str sep) d2 with
        | none => rw [e3] at q2; exact (show False from q2).elim
        | some d3 =>
          rw [e3] at q2
          cases d2 <;> simp only [dJoin] at e3 <;> try cases e3
          rename_i ds
          split at e3
          · rename_i ys eys
            split at e3
            · rename_i hl
              cases e3
              obtain ⟨b, us, rfl, h1, h2, h3⟩ := z2.bz.lst_
              rw [txts_vals ds us ys h3 eys] at h1
              refine ⟨sep, b, ys, z1.bz.str_, rfl, .inl (SqL.of h1), hl, ?_⟩
              rw [TL.join_eq]
              exact PostE.val q2 k2 (.str _)
            · cases e3
          · cases e3

/-! ### {} -/
def mDnew : Env → M S D := fun _ => ret (.dic [])
theorem de_dnew : DE X F own W .fr (.Dict [] [] pos) tDNewK mDnew := ⟨pe_dnewK, fun σ H Z ρ s Q k q p n =>
  q (.ref p) _ Z (Ext.newO n) (k.newO n) ⟨p, rfl, fun z => (k.zd p z).1 n, k.toBs.nadr n, k.toBs.entry n, ⟨[], upd_same, Nat.zero_le _, rfl, FzAll.nil⟩, n, fun i d' h1 h2 h3 => by
    obtain ⟨a, q1, _, _, _, q5⟩ := k.ow i d' h1 h2
    rw [h3] at q1
    cases q1
    exact q5.there n⟩⟩
end
end DL

namespace DL
open PySem L2 PySem.Spec PyProof.Rows

section
variable {S : Type} {X : Cx} {F : Fc S} {Z Z' Z1 Z2 : Addr → Prop} {H H' H1 H2 : Hp} {σ σ' : L2.St} {ρ : Env} {own own1 own2 own' oL : List Nat} {s s' : S} {p : Addr} {o : HO} {v : V} {d : D} {m m' m1 m2 m3 : Mo} {W : WX} {Q : VK} {k : Nat} {fr : Bool} {D0 : Ends}
variable {a b c e : Expr} {ta tb tc te : TE} {fa fb fc fe : Env → M S D} {pos pos' : Pos} {es : List Expr} {t : TA} {f : Env → M S (List D)}
variable {st : Stmt} {sts : List Stmt} {ts us : TS} {fs gs : Env → M S (Fl × Env)} {tt : TT} {ft : Env → M S Bool}

theorem PostS.from (g : Grow Z H Z1 H1) {r : Option (Except Exc (Fl × Env) × S)} (h : PostS F own' oL W fr Z H D0 r) : PostS F own' oL W fr Z1 H1 D0 r := by
  match r, h with
  | none, h => exact h
  | some (.ok (.nx, ρ'), s'), h => exact fun σ' H' Z' e => h σ' H' Z' (g.trans e)
  | some (.ok (.bk, ρ'), s'), h => exact fun σ' H' Z' e => h σ' H' Z' (g.trans e)
  | some (.ok (.ct, ρ'), s'), h => exact fun σ' H' Z' e => h σ' H' Z' (g.trans e)
  | some (.ok (.rt d, ρ'), s'), h => exact h
  | some (.error y, s'), h => exact h
/-- an expression, then the rest of a statement -/
theorem EvS.bind {g : Env → D → M S (Fl × Env)} {K : V → L2.St → Hp → Ends → Prop} (ha : Ev F own W m ta fa)
    (hk : ∀ v d Hs Z H σ ρ s D0, Ok F own Z H σ ρ s → Vz m F own σ ρ Hs Z H v d → PostS F own' oL W fr Z H D0 (g ρ d s) → K v σ H D0) :
    EvS F own own' oL W fr (fun D0 σ H => ta σ H fun x H1 => K x σ H1 D0) (fun ρ => bnd (fa ρ) (g ρ)) := by
  intro σ H Z ρ s D0 k h
  refine ha σ H Z ρ s _ k ?_
  dsimp only [bnd] at h
  cases e : fa ρ s with
  | none => rw [e] at h; exact h
  | some p1 =>
    obtain ⟨r1, s1⟩ := p1
    rw [e] at h
    cases r1 with
    | error y => exact fun cls dd H' Z' => h cls dd σ H' Z'
    | ok d => exact fun v H' Z' x k' z => hk v d _ Z' H' σ ρ s1 D0 k' z (h.from (k.toBs.grow x))
theorem EvS.bindT {g : Env → Bool → M S (Fl × Env)} {K : Bool → L2.St → Hp → Ends → Prop} (ha : EvT F own W tt ft)
    (hk : ∀ d Z H σ ρ s D0, Ok F own Z H σ ρ s → PostS F own' oL W fr Z H D0 (g ρ d s) → K d σ H D0) :
    EvS F own own' oL W fr (fun D0 σ H => tt σ H fun x H1 => K x σ H1 D0) (fun ρ => bnd (ft ρ) (g ρ)) := by
  intro σ H Z ρ s D0 k h
  refine ha σ H Z ρ s _ k ?_
  dsimp only [bnd] at h
  cases e : ft ρ s with
  | none => rw [e] at h; exact h
  | some p1 =>
    obtain ⟨r1, s1⟩ := p1
    rw [e] at h
    cases r1 with
    | error y => exact fun cls dd H' Z' => h cls dd σ H' Z'
    | ok d => exact fun H' Z' x k' => hk d Z' H' σ ρ s1 D0 k' (h.from (k.toBs.grow x))

/-! ### owned things are let go: frozen -/
def Zd (own own2 : List Nat) (σ : L2.St) (ρ : Env) (Z : Addr → Prop) : Addr → Prop := fun a => Z a ∨ ∃ i d, i ∈ own ∧ i ∉ own2 ∧ ρ[i]? = some (some d) ∧ σ[i]? = some (some (V.ref a))
theorem Ok.drop (k : Ok F own Z H σ ρ s) (sub : ∀ i ∈ own2, i ∈ own) : Grow Z H (Zd own own2 σ ρ Z) H ∧ Ok F own2 (Zd own own2 σ ρ Z) H σ ρ s := by
  have g : Grow Z H (Zd own own2 σ ρ Z) H := ⟨fun _ h => .inl h, fun _ _ => rfl⟩
  refine ⟨g, ⟨⟨k.st, fun a z => ?_, fun a z => .inl (k.z0 a z), fun a z => ?_, k.sm⟩, fun i d h1 h2 => ?_, fun i d h1 h2 => ?_, fun i j d d' a h1 h2 => k.sp i j d d' a (sub i h1) (sub j h2), k.ln⟩⟩
  · rcases z with z | ⟨i, d, h1, h2, h3, h4⟩
    · exact k.zd a z
    · obtain ⟨a', q1, q2, q3, q4, q5⟩ := k.ow i d h1 h3
      rw [h4] at q1; cases q1
      exact ⟨q5.there, q3⟩
  · rcases z with z | ⟨i, d, h1, h2, h3, h4⟩
    · exact k.zn a z
    · obtain ⟨a', q1, q2, q3, q4, q5⟩ := k.ow i d h1 h3
      rw [h4] at q1; cases q1
      exact .inr q4
  · by_cases hi : i ∈ own
    · obtain ⟨a', q1, q2, q3, q4, q5⟩ := k.ow i d hi h2
      exact ⟨_, q1, Ow.fz (.inr ⟨i, d, hi, h1, h2, q1⟩) (q5.grow g rfl)⟩
    · obtain ⟨v, q1, q2⟩ := k.fz i d hi h2
      exact ⟨v, q1, q2.grow g⟩
  · obtain ⟨a, q1, q2, q3, q4, q5⟩ := k.ow i d (sub i h1) h2
    refine ⟨a, q1, fun z => ?_, q3, q4, q5.grow g rfl⟩
    rcases z with z | ⟨j, d', h3, h4, h5, h6⟩
    · exact q2 z
    · exact h4 (k.sp i j d d' a (sub i h1) h3 h2 h5 q1 h6 ▸ h1)
theorem EvS.pre (h : EvS F own1 own' oL W fr ts fs) (sub : ∀ i ∈ own1, i ∈ own) : EvS F own own' oL W fr ts fs := by
  intro σ H Z ρ s D0 k q
  obtain ⟨g, k'⟩ := k.drop sub
  exact h σ H _ ρ s D0 k' (q.from g)
theorem EvS.post (h : EvS F own own1 oL W fr ts fs) (sub : ∀ i ∈ own', i ∈ own1) : EvS F own own' oL W fr ts fs := by
  intro σ H Z ρ s D0 k q
  refine h σ H Z ρ s D0 k ?_
  match e : fs ρ s, q with
  | none, q => exact q
  | some (.ok (.nx, ρ'), s'), q =>
    intro σ' H' Z' g k'
    obtain ⟨g2, k2⟩ := k'.drop sub
    exact q σ' H' _ (g.trans g2) k2
  | some (.ok (.bk, ρ'), s'), q => exact q
  | some (.ok (.ct, ρ'), s'), q => exact q
  | some (.ok (.rt d, ρ'), s'), q => exact q
  | some (.error y, s'), q => exact q
theorem DS.pre (h : DS X F own1 own' oL W fr st ts fs) (sub : ∀ i ∈ own1, i ∈ own := by decide) : DS X F own own' oL W fr st ts fs := ⟨h.ps, h.ev.pre sub⟩
theorem DS.to (h : DS X F own own1 oL W fr st ts fs) (sub : ∀ i ∈ own', i ∈ own1 := by decide) : DS X F own own' oL W fr st ts fs := ⟨h.ps, h.ev.post sub⟩
theorem DSs.to (h : DSs X F own own1 oL W fr sts ts fs) (sub : ∀ i ∈ own', i ∈ own1 := by decide) : DSs X F own own' oL W fr sts ts fs := ⟨h.ps, h.ev.post sub⟩
theorem DSs.pre (h : DSs X F own1 own' oL W fr sts ts fs) (sub : ∀ i ∈ own1, i ∈ own := by decide) : DSs X F own own' oL W fr sts ts fs := ⟨h.ps, h.ev.pre sub⟩

/-! ### blocks -/
def sNx : Env → M S (Fl × Env) := fun ρ => ret (.nx, ρ)
def sSeq (f g : Env → M S (Fl × Env)) : Env → M S (Fl × Env) := fun ρ => bnd (f ρ) fun x => match x.1 with
  | .nx => g x.2
  | _ => ret x
theorem dss_nil : DSs X F own own oL W fr [] tNext sNx := ⟨pss_nil, fun σ H Z ρ s D0 k q => q σ H Z (Grow.refl Z H) k⟩
theorem dss_one (h : DS X F own own' oL W fr st ts fs) : DSs X F own own' oL W fr [st] ts fs := ⟨pss_one h.ps, h.ev⟩
theorem dss_cons (h : DS X F own own1 oL W fr st ts fs) (h2 : DSs X F own1 own' oL W fr sts us gs) : DSs X F own own' oL W fr (st :: sts) (tSeq ts us) (sSeq fs gs) := by
  refine ⟨pss_cons h.ps h2.ps, fun σ H Z ρ s D0 k q => ?_⟩
  refine h.ev σ H Z ρ s _ k ?_
  dsimp only [sSeq, bnd] at q
  match e : fs ρ s, q with
  | none, q => exact q
  | some (.ok (.nx, ρ'), s'), q => exact fun σ' H' Z' g k' => h2.ev σ' H' Z' ρ' s' D0 k' (PostS.from g q)
  | some (.ok (.bk, ρ'), s'), q => exact q
  | some (.ok (.ct, ρ'), s'), q => exact q
  | some (.ok (.rt d, ρ'), s'), q => exact q
  | some (.error y, s'), q => exact q
theorem ds_pass : DS X F own own oL W fr (.Pass pos) tNext sNx := ⟨ps_pass, fun σ H Z ρ s D0 k q => q σ H Z (Grow.refl Z H) k⟩
theorem ds_doc {x : Str} {j : Nat} : DS X F own own oL W fr (.Expr (.Constant (.str x) j pos) pos') tNext sNx := ⟨ps_doc, fun σ H Z ρ s D0 k q => q σ H Z (Grow.refl Z H) k⟩
def sBk : Env → M S (Fl × Env) := fun ρ => ret (.bk, ρ)
def sCt : Env → M S (Fl × Env) := fun ρ => ret (.ct, ρ)
theorem ds_break (sub : ∀ i ∈ oL, i ∈ own := by decide) : DS X F own own' oL W fr (.Break pos) tBreak sBk := ⟨ps_break, fun σ H Z ρ s D0 k q => by
  obtain ⟨g, k'⟩ := k.drop sub
  exact q σ H _ g k'⟩
theorem ds_cont (sub : ∀ i ∈ oL, i ∈ own := by decide) : DS X F own own' oL W fr (.Continue pos) tCont sCt := ⟨ps_continue, fun σ H Z ρ s D0 k q => by
  obtain ⟨g, k'⟩ := k.drop sub
  exact q σ H _ g k'⟩
def sExp (fe : Env → M S D) : Env → M S (Fl × Env) := fun ρ => bnd (fe ρ) fun _ => ret (.nx, ρ)
theorem ds_expr (h : DE X F own W m e te fe) (hs : swapsWith e none pos.line X.env = pure false := by rfl) : DS X F own own oL W fr (.Expr e pos) (tDrop te) (sExp fe) :=
  ⟨ps_expr h.pe hs, EvS.bind (g := fun ρ _ => ret (.nx, ρ)) (K := fun _ σ H1 D0 => D0.nx σ H1) h.ev fun v d Hs Z H σ ρ s D0 k z q => q σ H Z (Grow.refl Z H) k⟩
def sRet (fe : Env → M S D) : Env → M S (Fl × Env) := fun ρ => bnd (fe ρ) fun d => ret (.rt d, ρ)
theorem ds_ret (h : DE X F own W .fz e te fe) : DS X F own own' oL W false (.Return (some e) pos) (tRet te) (sRet fe) :=
  ⟨ps_ret h.pe, EvS.bind (g := fun ρ d => ret (.rt d, ρ)) (K := fun v _ H1 D0 => D0.rt v H1) h.ev fun v d Hs Z H σ ρ s D0 k z q => q v H Z k.toBs z⟩
theorem ds_retF (h : DE X F own W .fr e te fe) : DS X F own own' oL W true (.Return (some e) pos) (tRet te) (sRet fe) :=
  ⟨ps_ret h.pe, EvS.bind (g := fun ρ d => ret (.rt d, ρ)) (K := fun v _ H1 D0 => D0.rt v H1) h.ev fun v d Hs Z H σ ρ s D0 k z q => q v H Z k.toBs (by
    obtain ⟨a, h1, h2, h3, h4, h5, h6⟩ := z
    exact ⟨a, h1, h2, h3, h4, h5⟩)⟩
theorem ds_retO {i : Nat} {x : Str} (hi : i ∈ own := by decide) (hN : X.N[i]? = some x := by rfl) (hv : Vis X.env.scope x := by first | exact Or.inl rfl | exact Or.inr (Or.inl rfl) | exact Or.inr (Or.inr rfl)) (hd : (x == ("__debug__" : Str)) = false := by decide)
    (hcd : (x == ("__classdict__" : Str)) = false := by decide) : DS X F own own' oL W true (.Return (some (.Name x pos')) pos) (tRet (tVar i)) (sRet (vr i)) := by
  refine ⟨ps_ret (pe_var hN hv hd hcd), fun σ H Z ρ s D0 k q => ?_⟩
  dsimp only [sRet, vr] at q
  cases e : ρ[i]? with
  | none => rw [e] at q; exact (show False from q).elim
  | some o =>
    rw [e] at q
    cases o with
    | none => exact (show False from q).elim
    | some d =>
      obtain ⟨a, q1, q2, q3, q4, q5⟩ := k.ow i d hi e
      exact ⟨_, q1, q _ H Z k.toBs ⟨a, rfl, q2, q3, q4, q5⟩⟩
def sRetN : Env → M S (Fl × Env) := fun ρ => ret (.rt .non, ρ)
theorem ds_retN : DS X F own own' oL W false (.Return none pos) tRetN sRetN := ⟨ps_retN, fun σ H Z ρ s D0 k q => q .non H Z k.toBs .non⟩
def sIf (f : Env → M S Bool) (g h : Env → M S (Fl × Env)) : Env → M S (Fl × Env) := fun ρ => bnd (f ρ) fun b => if b = true then g ρ else h ρ
theorem ds_if {c : Expr} {xs ys : List Stmt} (h : DT X F own W c tt ft) (h1 : DSs X F own own' oL W fr xs ts fs) (h2 : DSs X F own own' oL W fr ys us gs) : DS X F own own' oL W fr (.If c xs ys pos) (tIfS tt ts us) (sIf ft fs gs) :=
  ⟨ps_if h.pt h1.ps h2.ps, EvS.bindT (g := fun ρ b => if b = true then fs ρ else gs ρ) (K := fun b σ H1 D0 => if b = true then ts D0 σ H1 else us D0 σ H1) h.ev fun b Z H σ ρ s D0 k q => by
    cases b with
    | true => exact h1.ev σ H Z ρ s D0 k q
    | false => exact h2.ev σ H Z ρ s D0 k q⟩

/-! ### x = e -/
theorem set_get {α : Type} {xs : List (Option α)} {i j : Nat} {x : Option α} {y : α} (h : (xs.set i x)[j]? = some (some y)) : (j = i ∧ x = some y ∧ i < xs.length) ∨ (j ≠ i ∧ xs[j]? = some (some y)) := by
  by_cases e : i = j
  · subst e
    rw [List.getElem?_set_self'] at h
    cases q : xs[i]? with
    | none => rw [q] at h; cases h
    | some z =>
      rw [q] at h
      exact .inl ⟨rfl, by simpa using h, (List.getElem?_eq_some_iff.mp q).1⟩
  · rw [List.getElem?_set_ne e] at h
    exact .inr ⟨fun q => e q.symm, h⟩
theorem set_at {α : Type} {xs : List (Option α)} {i : Nat} {x : Option α} (h : i < xs.length) : (xs.set i x)[i]? = some x := List.getElem?_set_self h
def less (own : List Nat) (i : Nat) : List Nat := own.filter (fun j => !(j == i))
theorem mem_less {own : List Nat} {i j : Nat} : j ∈ less own i ↔ j ∈ own ∧ j ≠ i := by
  unfold less
  rw [List.mem_filter]
  simp
theorem Ok.set {i : Nat} (k : Ok F own Z H σ ρ s) (z : Fz F.cn Z H v d) : Ok F (less own i) Z H (σ.set i (some v)) (ρ.set i (some d)) s where
  toBs := k.toBs
  fz := fun j d' h1 h2 => by
    rcases set_get h2 with ⟨rfl, e, hi⟩ | ⟨hj, h3⟩
    · cases e
      exact ⟨v, set_at (by rw [← k.ln]; exact hi), z⟩
    · by_cases hm : j ∈ own
      · exact absurd (mem_less.mpr ⟨hm, hj⟩) h1
      · obtain ⟨w, q1, q2⟩ := k.fz j d' hm h3
        exact ⟨w, by rw [List.getElem?_set_ne (Ne.symm hj)]; exact q1, q2⟩
  ow := fun j d' h1 h2 => by
    obtain ⟨h1, hj⟩ := mem_less.mp h1
    rw [List.getElem?_set_ne (Ne.symm hj)] at h2
    obtain ⟨w, q⟩ := k.ow j d' h1 h2
    exact ⟨w, by rw [List.getElem?_set_ne (Ne.symm hj)]; exact q⟩
  sp := fun j l d1 d2 w h1 h2 h3 h4 h5 h6 => by
    obtain ⟨h1, n1⟩ := mem_less.mp h1
    obtain ⟨h2, n2⟩ := mem_less.mp h2
    rw [List.getElem?_set_ne (Ne.symm n1)] at h3 h5
    rw [List.getElem?_set_ne (Ne.symm n2)] at h4 h6
    exact k.sp j l d1 d2 w h1 h2 h3 h4 h5 h6
  ln := by rw [List.length_set, List.length_set]; exact k.ln
theorem Ok.setO {i : Nat} (k : Ok F own Z H σ ρ s) {Hs : Hp} (z : Frs F own σ ρ Hs Z H v d) : Ok F (i :: less own i) Z H (σ.set i (some v)) (ρ.set i (some d)) s where
  toBs := k.toBs
  fz := fun j d' h1 h2 => by
    have n1 : j ≠ i := fun e => h1 (by rw [e]; exact List.mem_cons_self)
    have n2 : j ∉ own := fun e => h1 (List.mem_cons_of_mem _ (mem_less.mpr ⟨e, n1⟩))
    rw [List.getElem?_set_ne (Ne.symm n1)] at h2
    obtain ⟨w, q1, q2⟩ := k.fz j d' n2 h2
    exact ⟨w, by rw [List.getElem?_set_ne (Ne.symm n1)]; exact q1, q2⟩
  ow := fun j d' h1 h2 => by
    rcases set_get h2 with ⟨rfl, e, hi⟩ | ⟨hj, h3⟩
    · cases e
      obtain ⟨a, rfl, h2, h3, h4, h5, h6⟩ := z
      exact ⟨a, set_at (by rw [← k.ln]; exact hi), h2, h3, h4, h5⟩
    · rcases List.mem_cons.mp h1 with e | h1
      · exact absurd e hj
      · obtain ⟨w, q⟩ := k.ow j d' (mem_less.mp h1).1 h3
        exact ⟨w, by rw [List.getElem?_set_ne (Ne.symm hj)]; exact q⟩
  sp := fun j l d1 d2 w h1 h2 h3 h4 h5 h6 => by
    obtain ⟨a, rfl, g2, g3, g4, g5, _, g6⟩ := z
    rcases set_get h3 with ⟨rfl, e, hi⟩ | ⟨hj, h3'⟩
    · rcases set_get h4 with ⟨rfl, e', hi'⟩ | ⟨hl, h4⟩
      · rfl
      · rw [set_at (by rw [← k.ln]; exact hi)] at h5
        cases h5
        rw [List.getElem?_set_ne (Ne.symm hl)] at h6
        rcases List.mem_cons.mp h2 with e' | h2
        · exact absurd e' hl
        · exact absurd h6 (g6 l d2 (mem_less.mp h2).1 h4)
    · rw [List.getElem?_set_ne (Ne.symm hj)] at h5
      rcases List.mem_cons.mp h1 with e' | h1
      · exact absurd e' hj
      · rcases set_get h4 with ⟨rfl, e', hi'⟩ | ⟨hl, h4⟩
        · rw [set_at (by rw [← k.ln]; exact hi')] at h6
          cases h6
          exact absurd h5 (g6 j d1 (mem_less.mp h1).1 h3')
        · rw [List.getElem?_set_ne (Ne.symm hl)] at h6
          rcases List.mem_cons.mp h2 with e' | h2
          · exact absurd e' hl
          · exact k.sp j l d1 d2 w (mem_less.mp h1).1 (mem_less.mp h2).1 h3' h4 h5 h6
  ln := by rw [List.length_set, List.length_set]; exact k.ln
def sSet (i : Nat) (fe : Env → M S D) : Env → M S (Fl × Env) := fun ρ => bnd (fe ρ) fun d => ret (.nx, ρ.set i (some d))
theorem ds_set {i : Nat} {x : Str} (nd : X.N.Nodup) (h : DE X F own W .fz e te fe) (hi : X.N[i]? = some x := by rfl) (hx : Loc X.env.scope x := by first | exact Or.inl rfl | exact Or.inr rfl) (hs : swapsWith e (some (.Name x pos')) pos.line X.env = pure false := by rfl) (hf : X.fn x = true ∨ X.env.scope.names.lookup x = some .local := by first | exact .inl rfl | exact .inr rfl) :
    DS X F own (less own i) oL W fr (.Assign [.Name x pos'] e pos) (tAsg te (gName i)) (sSet i fe) :=
  ⟨ps_set nd hi hx h.pe hs hf, EvS.bind (g := fun ρ d => ret (.nx, ρ.set i (some d))) (K := fun v σ H1 D0 => D0.nx (σ.set i (some v)) H1) h.ev fun v d Hs Z H σ ρ s D0 k z q => q _ H Z (Grow.refl Z H) (k.set z)⟩
theorem ds_setO {i : Nat} {x : Str} (nd : X.N.Nodup) (h : DE X F own W .fr e te fe) (hi : X.N[i]? = some x := by rfl) (hx : Loc X.env.scope x := by first | exact Or.inl rfl | exact Or.inr rfl) (hs : swapsWith e (some (.Name x pos')) pos.line X.env = pure false := by rfl) (hf : X.fn x = true ∨ X.env.scope.names.lookup x = some .local := by first | exact .inl rfl | exact .inr rfl) :
    DS X F own (i :: less own i) oL W fr (.Assign [.Name x pos'] e pos) (tAsg te (gName i)) (sSet i fe) :=
  ⟨ps_set nd hi hx h.pe hs hf, EvS.bind (g := fun ρ d => ret (.nx, ρ.set i (some d))) (K := fun v σ H1 D0 => D0.nx (σ.set i (some v)) H1) h.ev fun v d Hs Z H σ ρ s D0 k z q => q _ H Z (Grow.refl Z H) (k.setO z)⟩
end
end DL

namespace DL
open PySem L2 PySem.Spec PyProof.Rows

/-! ### targets -/
def wipeD (ρ : Env) : List Nat → Env
  | [] => ρ
  | v :: vs => (wipeD ρ vs).set v none
section
variable {S : Type} {X : Cx} {F : Fc S} {Z Z' Z1 Z2 : Addr → Prop} {H H' H1 H2 : Hp} {σ σ' : L2.St} {ρ : Env} {own own1 own2 own' oL : List Nat} {s s' : S} {p : Addr} {o : HO} {v : V} {d : D} {m m' m1 m2 m3 : Mo} {W : WX} {Q : VK} {k : Nat} {fr : Bool} {D0 : Ends}
variable {a b c e : Expr} {ta tb tc te : TE} {fa fb fc fe : Env → M S D} {pos pos' : Pos} {es : List Expr} {t : TA} {f : Env → M S (List D)}
variable {st : Stmt} {sts : List Stmt} {ts us : TS} {fs gs : Env → M S (Fl × Env)} {tt : TT} {ft : Env → M S Bool}

/-- the slots that are stored: tg -/
def PostG (F : Fc S) (own tgs : List Nat) (Z : Addr → Prop) (H : Hp) (σ : L2.St) (s : S) (Q : L2.St → Hp → Prop) : Option Env → Prop
  | some ρ' => ∀ σ', (∀ vs : List Nat, (∀ i ∈ tgs, i ∈ vs) → wipe σ' vs = wipe σ vs) → Ok F own Z H σ' ρ' s → Q σ' H
  | none => False
def EvG (F : Fc S) (own tgs : List Nat) (g : TG) (asg : D → Env → Option Env) : Prop :=
  ∀ v d σ H Z ρ s (Q : L2.St → Hp → Prop), Ok F own Z H σ ρ s → Fz F.cn Z H v d → PostG F own tgs Z H σ s Q (asg d ρ) → g v σ H Q
structure DG (X : Cx) (F : Fc S) (own tgs : List Nat) (tg : Expr) (g : TG) (asg : D → Env → Option Env) : Prop where
  pg : PG X tg g
  ev : EvG F own tgs g asg
def EvGs (F : Fc S) (own tgs : List Nat) (g : TGs) (asg : List D → Env → Option Env) : Prop :=
  ∀ vs ds σ H Z ρ s (Q : L2.St → Hp → Prop), Ok F own Z H σ ρ s → FzAll F.cn Z H vs ds → PostG F own tgs Z H σ s Q (asg ds ρ) → g vs σ H Q
structure DGs (X : Cx) (F : Fc S) (own tgs : List Nat) (n : Nat) (tg : List Expr) (g : TGs) (asg : List D → Env → Option Env) : Prop where
  pg : PGs X tg g
  ev : EvGs F own tgs g asg
  ln : tg.length = n
theorem wipe_set {x : Option V} {i : Nat} : ∀ (vs : List Nat) (σ : L2.St), i ∈ vs → wipe (σ.set i x) vs = wipe σ vs
  | [], _, h => absurd h (by simp)
  | v :: vs, σ, h => by
    unfold wipe
    by_cases e : i ∈ vs
    · rw [wipe_set vs σ e]
    · rcases List.mem_cons.mp h with rfl | h
      · have : ∀ (vs : List Nat) (σ : L2.St), i ∉ vs → wipe (σ.set i x) vs = (wipe σ vs).set i x := by
          intro vs
          induction vs with
          | nil => intro σ _; rfl
          | cons w ws ih =>
            intro σ hn
            unfold wipe
            rw [ih σ (fun q => hn (List.mem_cons_of_mem _ q))]
            exact List.set_comm _ _ (fun q => hn (by rw [q]; exact List.mem_cons_self))
        rw [this vs σ e, List.set_set]
      · exact absurd h e
theorem wipe_wipe (vs : List Nat) (σ : L2.St) : wipe (wipe σ vs) vs = wipe σ vs := by
  have : ∀ (us vs : List Nat) (σ : L2.St), (∀ i ∈ us, i ∈ vs) → wipe (wipe σ us) vs = wipe σ vs := by
    intro us
    induction us with
    | nil => intro vs σ _; rfl
    | cons u us ih =>
      intro vs σ h
      show wipe ((wipe σ us).set u none) vs = _
      rw [wipe_set vs _ (h u List.mem_cons_self), ih vs σ fun i hi => h i (List.mem_cons_of_mem _ hi)]
  exact this vs vs σ fun _ h => h
theorem less_id {i : Nat} (h : i ∉ own) : less own i = own := by
  unfold less
  refine List.filter_eq_self.mpr fun j hj => ?_
  have : j ≠ i := fun e => h (e ▸ hj)
  simp [this]
def gSet (i : Nat) : D → Env → Option Env := fun d ρ => some (ρ.set i (some d))
theorem dg_name {i : Nat} {x : Str} (nd : X.N.Nodup) (ho : i ∉ own := by decide) (hi : X.N[i]? = some x := by rfl) (hx : Loc X.env.scope x := by first | exact Or.inl rfl | exact Or.inr rfl) (hf : X.fn x = true ∨ X.env.scope.names.lookup x = some .local := by first | exact .inl rfl | exact .inr rfl) : DG X F own [i] (.Name x pos) (gName i) (gSet i) := by
  refine ⟨pg_name nd hi hx hf, fun v d σ H Z ρ s Q k z q => ?_⟩
  have k' := k.set (i := i) z
  rw [less_id ho] at k'
  exact q _ (fun vs h => wipe_set vs σ (h i (by simp))) k'
def gsNil : List D → Env → Option Env := fun ds ρ => match ds with
  | [] => some ρ
  | _ => none
def gsCons (g : D → Env → Option Env) (gs : List D → Env → Option Env) : List D → Env → Option Env := fun ds ρ => match ds with
  | [] => none
  | d :: ds => match g d ρ with
    | some ρ' => gs ds ρ'
    | none => none
theorem dgs_nil : DGs X F own [] 0 [] gNil gsNil := by
  refine ⟨pgs_nil, fun vs ds σ H Z ρ s Q k z q => ?_, rfl⟩
  cases ds with
  | nil => exact ⟨List.length_eq_zero_iff.mp z.1, q σ (fun _ _ => rfl) k⟩
  | cons d ds => exact (show False from q).elim
theorem dgs_cons {n : Nat} {tg1 tg2 : List Nat} {g1 : TG} {g2 : TGs} {a1 : D → Env → Option Env} {a2 : List D → Env → Option Env} (x : DG X F own tg1 e g1 a1) (y : DGs X F own tg2 n es g2 a2) (hs : (assignEach (e :: es) X.env).map (·.2) = assign e X.env :: (assignEach es X.env).map (·.2) := by rfl) : DGs X F own (tg1 ++ tg2) (n + 1) (e :: es) (gCons g1 g2) (gsCons a1 a2) := by
  refine ⟨pgs_cons x.pg y.pg hs, fun vs ds σ H Z ρ s Q k z q => ?_, by rw [List.length_cons, y.ln]⟩
  cases ds with
  | nil => exact (show False from q).elim
  | cons d ds =>
    cases vs with
    | nil => have := z.1; simp at this
    | cons v vs =>
      obtain ⟨z1, z2⟩ := z.inv
      refine ⟨v, vs, rfl, x.ev v d σ H Z ρ s _ k z1 ?_⟩
      dsimp only [gsCons] at q
      cases e1 : a1 d ρ with
      | none => rw [e1] at q; exact q
      | some ρ1 =>
        rw [e1] at q
        dsimp only at q
        intro σ1 w1 k1
        refine y.ev vs ds σ1 H Z ρ1 s _ k1 z2 ?_
        cases e2 : a2 ds ρ1 with
        | none => rw [e2] at q; exact q
        | some ρ2 =>
          rw [e2] at q
          intro σ2 w2 k2
          exact q σ2 (fun vs h => (w2 vs fun i hi => h i (List.mem_append_right _ hi)).trans (w1 vs fun i hi => h i (List.mem_append_left _ hi))) k2
def asT : D → Option (List D)
  | .tup ds => some ds
  | _ => none
def gTupD (n : Nat) (gs : List D → Env → Option Env) : D → Env → Option Env := fun d ρ => match asT d with
  | some ds => if ds.length = n then gs ds ρ else none
  | none => none
theorem dg_tup {n kt : Nat} {tg2 : List Nat} {g2 : TGs} {a2 : List D → Env → Option Env} (A : Amb X F k) (y : DGs X F own tg2 n es g2 a2) (hn : (assignEach es X.env).length = n := by rfl) (hst : (assignEach es X.env).findIdx? (·.1) = none := by rfl) : DG X F own tg2 (.Tuple es kt pos) (gTup F.K n g2) (gTupD n a2) := by
  refine ⟨A.K ▸ pg_tup A.calm y.pg hn hst, fun v d σ H Z ρ s Q k z q => ?_⟩
  dsimp only [gTupD] at q
  cases d <;> try exact (show False from q).elim
  rename_i ds
  dsimp only [asT] at q
  by_cases hl : ds.length = n
  · rw [if_pos hl] at q
    obtain ⟨a, vs, rfl, h1, h2, h3⟩ := Bz.tup_ (adr := F.md.adr) (.inl z)
    exact ⟨a, vs, rfl, h1.sq, by rw [h3.1]; exact hl, y.ev vs ds σ H Z ρ s Q k h3 q⟩
  · rw [if_neg hl] at q
    exact (show False from q).elim
/-- target = value, the target of any form -/
def sAsg (fe : Env → M S D) (g : D → Env → Option Env) : Env → M S (Fl × Env) := fun ρ => bnd (fe ρ) fun d => match g d ρ with
  | some ρ' => ret (.nx, ρ')
  | none => stk
theorem ds_asg {tg : Expr} {g : TG} {asg : D → Env → Option Env} {tgs : List Nat} (x : DE X F own W .fz e te fe) (y : DG X F own tgs tg g asg) (hs : swapsWithSole [tg] e pos.line X.env = pure false := by rfl) (hw : swappedStores [tg] e X.env = pure none := by rfl)
    (h1 : (assignEach [tg] X.env).map (·.2) = [assign tg X.env] := by rfl) : DS X F own own oL W fr (.Assign [tg] e pos) (tAsg te g) (sAsg fe asg) := by
  refine ⟨ps_asg x.pe y.pg hs hw h1, EvS.bind (g := fun ρ d => match asg d ρ with | some ρ' => ret (.nx, ρ') | none => stk) (K := fun v σ H1 D0 => g v σ H1 D0.nx) x.ev fun v d Hs Z H σ ρ s D0 k z q => ?_⟩
  refine y.ev v d σ H Z ρ s _ k z ?_
  cases e1 : asg d ρ with
  | none => rw [e1] at q; exact q
  | some ρ1 => rw [e1] at q; exact fun σ' w k' => q σ' H Z (Grow.refl Z H) k'

/-! ### what is walked -/
structure Wk (F : Fc S) (Z0 : Addr → Prop) (H0 : Hp) (J : It) (ds : List D) : Prop where
  go : ∀ (i : Nat) (d : D) Z H, (∀ a, Z a → H a ≠ none) → Grow Z0 H0 Z H → ds[i]? = some d → J.go i H ∧ ∀ x H', J.yld i H x H' → (H' = H ∧ Fz F.cn Z H x d) ∨
    ∃ p vs es, x = .ref p ∧ H p = none ∧ H' = upd H p (.tup vs) ∧ d = .tup es ∧ vs.length ≤ sizeLine ∧ FzAll F.cn Z H vs es
  stop : ∀ (i : Nat) Z H, Grow Z0 H0 Z H → ds.length ≤ i → J.stop i H
theorem Wk.from {J : It} {ds : List D} (w : Wk F Z H J ds) (g : Grow Z H Z' H') : Wk F Z' H' J ds :=
  ⟨fun i d Z1 H1 hd g1 => w.go i d Z1 H1 hd (g.trans g1), fun i Z1 H1 g1 => w.stop i Z1 H1 (g.trans g1)⟩
def PostI (F : Fc S) (own : List Nat) (W : WX) (Z : Addr → Prop) (H : Hp) (σ : L2.St) (ρ : Env) (R : It → Hp → Prop) : Option (Except Exc (List D) × S) → Prop
  | some (.ok ds, s') => ∀ J H' Z', Ext F Z H Z' H' → Ok F own Z' H' σ ρ s' → Wk F Z' H' J ds → R J H'
  | some (.error x, s') => ∀ cls dd H' Z', Bs F Z' H' s' → ExcAt F.cn Z' H' x cls dd → W cls dd σ H'
  | none => False
structure DI (X : Cx) (F : Fc S) (own : List Nat) (W : WX) (tg iter : Expr) (w : TI) (f : Env → M S (List D)) : Prop where
  pi : PI X tg iter w
  ev : ∀ σ H Z ρ s R, Ok F own Z H σ ρ s → PostI F own W Z H σ ρ R (f ρ s) → w σ H R
def iSeq (fe : Env → M S D) : Env → M S (List D) := fun ρ => bnd (fe ρ) fun x => match x with
  | .lst ds => ret ds
  | .tup ds => ret ds
  | .str x => ret (x.cps.toList.map fun c => .str ⟨#[c]⟩)
  | _ => stk
def wEither (t u : TI) : TI := fun σ H R => t σ H R ∨ u σ H R
theorem pi_either {tg : Expr} {t u : TI} (h1 : PI X tg e t) (h2 : PI X tg e u) : PI X tg e (wEither t u) := ⟨fun pins s σ H Q I h => h.elim (h1.run pins s σ H Q I) (h2.run pins s σ H Q I)⟩
theorem wk_list {vs : List V} {ds : List D} (z : Z p) (h : H p = some (.lst vs)) (hf : FzAll F.cn Z H vs ds) : Wk F Z H (Itl X.K p) ds where
  go := fun i d Z1 H1 hd g1 hi => by
    have h1 : H1 p = some (.lst vs) := (g1.h p z).trans h
    have hl : i < vs.length := by rw [hf.1]; exact (List.getElem?_eq_some_iff.mp hi).1
    have hv : vs[i]? = some vs[i] := List.getElem?_eq_getElem hl
    refine ⟨⟨vs, vs[i], SqL.of h1, hv⟩, fun x H' y => .inl ⟨y.1, ?_⟩⟩
    have := y.2 vs (SqL.of h1)
    rw [hv] at this
    cases this
    exact (hf.2 i _ d hv hi).grow g1
  stop := fun i Z1 H1 g1 hi => ⟨vs, SqL.of ((g1.h p z).trans h), by rw [hf.1]; exact hi⟩
theorem wk_tup {vs : List V} {ds : List D} (hK : X.K = F.K) (h : TupAt F.K Z H p vs) (hf : FzAll F.cn Z H vs ds) : Wk F Z H (Itt X.K p) ds where
  go := fun i d Z1 H1 hd g1 hi => by
    have h1 : SqT X.K H1 p vs := by rw [hK]; exact (h.grow g1).sq
    have hl : i < vs.length := by rw [hf.1]; exact (List.getElem?_eq_some_iff.mp hi).1
    have hv : vs[i]? = some vs[i] := List.getElem?_eq_getElem hl
    refine ⟨⟨vs, vs[i], h1, hv⟩, fun x H' y => .inl ⟨y.1, ?_⟩⟩
    have := y.2 vs h1
    rw [hv] at this
    cases this
    exact (hf.2 i _ d hv hi).grow g1
  stop := fun i Z1 H1 g1 hi => ⟨vs, by rw [hK]; exact (h.grow g1).sq, by rw [hf.1]; exact hi⟩
theorem wk_str {x : Str} : Wk F Z H (Its x) (x.cps.toList.map fun c => .str ⟨#[c]⟩) where
  go := fun i d Z1 H1 hd g1 hi => by
    rw [List.getElem?_map] at hi
    obtain ⟨c, hc, rfl⟩ := Option.map_eq_some_iff.mp hi
    rw [Array.getElem?_toList] at hc
    refine ⟨(Array.getElem?_eq_some_iff.mp hc).1, fun y H' h => .inl ⟨h.1, ?_⟩⟩
    obtain ⟨c', q1, rfl⟩ := h.2
    rw [hc] at q1
    cases q1
    exact .str _
  stop := fun i Z1 H1 g1 hi => by
    rw [List.length_map, Array.length_toList] at hi
    exact hi
theorem wk_range {lo : Int} {n : Nat} : Wk F Z H (Itr lo n) ((List.range n).map fun (i : Nat) => D.int (lo + (i : Int))) where
  go := fun i d Z1 H1 hd g1 hi => by
    rw [List.getElem?_map] at hi
    obtain ⟨j, hj, rfl⟩ := Option.map_eq_some_iff.mp hi
    obtain ⟨h1, h2⟩ := List.getElem?_eq_some_iff.mp hj
    rw [List.length_range] at h1
    rw [List.getElem_range] at h2
    subst h2
    exact ⟨h1, fun y H' h => .inl ⟨h.1, by rw [h.2]; exact .int _⟩⟩
  stop := fun i Z1 H1 g1 hi => by
    rw [List.length_map, List.length_range] at hi
    exact hi
theorem di_seq {tg : Expr} (A : Amb X F k) (x : DE X F own W .fz e te fe) : DI X F own W tg e (wEither (iList X.K te) (wEither (iTup X.K te) (iStr te))) (iSeq fe) := by
  refine ⟨pi_either (pi_list x.pe) (pi_either (pi_tup x.pe) (pi_str x.pe)), fun σ H Z ρ s R k q => ?_⟩
  dsimp only [iSeq, bnd] at q
  match e1 : fe ρ s, q with
  | none, q => exact q.elim
  | some (.error y, s1), q => exact .inl (x.ev σ H Z ρ s _ k (by rw [e1]; exact q))
  | some (.ok d, s1), q =>
    dsimp only at q
    cases d <;> try exact (show False from q).elim
    · refine .inr (.inr (x.ev σ H Z ρ s _ k ?_))
      rw [e1]
      intro v H' Z' x' k' z
      exact ⟨_, Bz.str_ (adr := F.md.adr) (.inl z), q _ H' Z' x' k' wk_str⟩
    · refine .inl (x.ev σ H Z ρ s _ k ?_)
      rw [e1]
      intro v H' Z' x' k' z
      cases z with
      | lst h1 h2 h3 h4 h5 => exact ⟨_, rfl, ⟨_, SqL.of h2⟩, q _ H' Z' x' k' (wk_list h1 h2 ⟨h3, h5⟩)⟩
    · refine .inr (.inl (x.ev σ H Z ρ s _ k ?_))
      rw [e1]
      intro v H' Z' x' k' z
      obtain ⟨a, vs, rfl, h1, h2, h3⟩ := Bz.tup_ (adr := F.md.adr) (.inl z)
      exact ⟨_, rfl, ⟨_, (by rw [A.K]; exact h1.sq)⟩, q _ H' Z' x' k' (wk_tup A.K h1 h3)⟩
def rng (lo hi : Int) : List D := (List.range (hi - lo).toNat).map fun (i : Nat) => D.int (lo + (i : Int))
def iRg1 (fe : Env → M S D) : Env → M S (List D) := fun ρ => bnd (fe ρ) fun x => match asI x with
  | some n => if -(2 ^ 62) ≤ n ∧ n < 2 ^ 62 then ret (rng 0 n) else stk
  | none => stk
theorem di_rng1 {tg : Expr} {p : Pos} (hg : Gl X "range") (hm : X.mg "range" = none) (x : DE X F own W m e te fe) (hs : starEach [e] X.env = [(false, eval e X.env)] := by rfl) : DI X F own W tg (.Call (.Name "range" p) [e] [] pos) (iRng1 (tCons te tNil)) (iRg1 fe) := by
  refine ⟨pi_range1 hg hm (pa_cons x.pe pa_nil (by rw [hs]; rfl)) hs, fun σ H Z ρ s R k q => ?_⟩
  refine x.ev σ H Z ρ s _ k ?_
  dsimp only [iRg1, bnd] at q
  match e1 : fe ρ s, q with
  | none, q => exact q
  | some (.error y, s1), q => exact q
  | some (.ok d, s1), q =>
    intro v H' Z' x' k' z
    dsimp only at q
    cases e2 : asI d with
    | none => rw [e2] at q; exact (show False from q).elim
    | some n =>
      rw [e2] at q
      obtain rfl := asI_some e2
      dsimp only at q
      split at q
      · rename_i hn
        refine ⟨n, by rw [z.bz.int_], hn.1, hn.2, q _ H' Z' x' k' ?_⟩
        unfold rng
        rw [Int.sub_zero]
        exact wk_range
      · exact (show False from q).elim
def iRg2 (fa fb : Env → M S D) : Env → M S (List D) := fun ρ => bnd (fa ρ) fun x => bnd (fb ρ) fun y => match asI x, asI y with
  | some i, some j => if -(2 ^ 62) ≤ i ∧ i < 2 ^ 62 ∧ -(2 ^ 62) ≤ j ∧ j < 2 ^ 62 then ret (rng i j) else stk
  | _, _ => stk
theorem di_rng2 {tg : Expr} {p : Pos} (hg : Gl X "range") (hm : X.mg "range" = none) (x : DE X F own W m1 a ta fa) (y : DE X F own W m2 b tb fb) (hs : starEach [a, b] X.env = [(false, eval a X.env), (false, eval b X.env)] := by rfl) (hs2 : starEach [b] X.env = [(false, eval b X.env)] := by rfl) : DI X F own W tg (.Call (.Name "range" p) [a, b] [] pos) (iRng2 (tCons ta (tCons tb tNil))) (iRg2 fa fb) := by
  refine ⟨pi_range2 hg hm (pa_cons x.pe (pa_cons y.pe pa_nil (by rw [hs2]; rfl)) (by rw [hs, hs2])) hs hs2, fun σ H Z ρ s R k q => ?_⟩
  refine x.ev σ H Z ρ s _ k ?_
  dsimp only [iRg2, bnd] at q
  match e1 : fa ρ s, q with
  | none, q => exact q
  | some (.error y, s1), q => exact q
  | some (.ok d, s1), q =>
    intro v H' Z' x' k' z
    dsimp only at q
    refine y.ev σ H' Z' ρ s1 _ k' ?_
    cases e2 : fb ρ s1 with
    | none => rw [e2] at q; exact q
    | some p2 =>
      obtain ⟨r2, s2⟩ := p2
      rw [e2] at q
      cases r2 with
      | error y => exact q
      | ok d2 =>
        intro u H2 Z2 x2 k2 z2
        dsimp only at q
        cases e3 : asI d with
        | none => rw [e3] at q; exact (show False from q).elim
        | some n =>
          cases e4 : asI d2 with
          | none => rw [e3, e4] at q; exact (show False from q).elim
          | some n2 =>
            rw [e3, e4] at q
            obtain rfl := asI_some e3
            obtain rfl := asI_some e4
            dsimp only at q
            by_cases hn : -(2 ^ 62) ≤ n ∧ n < 2 ^ 62 ∧ -(2 ^ 62) ≤ n2 ∧ n2 < 2 ^ 62
            · rw [if_pos hn] at q
              exact ⟨n, n2, by rw [z.bz.int_, z2.bz.int_], hn, q _ H2 Z2 (x'.trans x2) k2 wk_range⟩
            · rw [if_neg hn] at q
              exact (show False from q).elim
end
end DL

namespace DL
open PySem L2 PySem.Spec PyProof.Rows

section
variable {S : Type} {X : Cx} {F : Fc S} {Z Z' Z1 Z2 : Addr → Prop} {H H' H1 H2 : Hp} {σ σ' : L2.St} {ρ : Env} {own own1 own2 own' oL : List Nat} {s s' : S} {p : Addr} {o : HO} {v : V} {d : D} {m m' m1 m2 m3 : Mo} {W : WX} {Q : VK} {k : Nat} {fr : Bool} {D0 : Ends}
variable {a b c e : Expr} {ta tb tc te : TE} {fa fb fc fe : Env → M S D} {pos pos' : Pos} {es : List Expr} {t : TA} {f : Env → M S (List D)}
variable {st : Stmt} {sts : List Stmt} {ts us : TS} {fs gs : Env → M S (Fl × Env)} {tt : TT} {ft : Env → M S Bool}

/-! ### for -/
def forF (asg : D → Env → Option Env) (body : Env → M S (Fl × Env)) : List D → Env → M S (Fl × Env)
  | [], ρ => ret (.nx, ρ)
  | d :: ds, ρ => match asg d ρ with
    | none => stk
    | some ρ1 => bnd (body ρ1) fun x => match x.1 with
      | .nx => forF asg body ds x.2
      | .ct => forF asg body ds x.2
      | .bk => ret (.nx, x.2)
      | .rt d => ret (.rt d, x.2)
def sFor (fi : Env → M S (List D)) (asg : D → Env → Option Env) (body : Env → M S (Fl × Env)) : Env → M S (Fl × Env) := fun ρ => bnd (fi ρ) fun ds => forF asg body ds ρ
/-- the item at hand, whichever way it came -/
theorem Wk.item {J : It} {ds : List D} {i : Nat} {x : V} {H' : Hp} (w : Wk F Z1 H1 J ds) (g : Grow Z1 H1 Z H) (k : Ok F own Z H σ ρ s) (hi : ds[i]? = some d) (y : J.yld i H x H') : ∃ Z', Ext F Z H Z' H' ∧ Ok F own Z' H' σ ρ s ∧ Fz F.cn Z' H' x d := by
  rcases (w.go i d Z H (fun a z => (k.zd a z).1) g hi).2 x H' y with ⟨rfl, z⟩ | ⟨p, vs, es, rfl, n, rfl, rfl, hl, z⟩
  · exact ⟨Z, Ext.refl, k, z⟩
  · refine ⟨_, Ext.newZ n, k.newZ n, ?_⟩
    have z' := z.grow (k.toBs.grow (Ext.newZ (o := .tup vs) n))
    exact .tup (.inl ⟨.inr rfl, upd_same⟩) z'.1 hl z'.2
theorem ds_for {tg iter : Expr} {body : List Stmt} {wi : TI} {g : TG} {tgs : List Nat} {fi : Env → M S (List D)} {asg : D → Env → Option Env} (A : Amb X F k) (hi : DI X F own W tg iter wi fi) (hg : DG X F own tgs tg g asg) (hb : DSs X F own own own W fr body ts fs)
    (hs : ∀ x, foldedSetIterable iter X.env x = pure x := by intro _; rfl) : DS X F own own oL W fr (.For tg iter body [] pos) (tFor wi g ts) (sFor fi asg fs) := by
  refine ⟨ps_for A.po A.calm hi.pi hg.pg hb.ps hs, fun σ H Z ρ s D0 k q => ?_⟩
  refine hi.ev σ H Z ρ s _ k ?_
  dsimp only [sFor, bnd] at q
  cases e1 : fi ρ s with
  | none => rw [e1] at q; exact q
  | some p1 =>
    obtain ⟨r1, s1⟩ := p1
    rw [e1] at q
    cases r1 with
    | error y => exact fun cls dd H' Z' => q cls dd σ H' Z'
    | ok ds =>
      intro J H1 Z1 x1 k1 w1
      dsimp only at q
      have q1 := q.from (k.toBs.grow x1)
      refine ⟨fun i mm σ' H' => mm = ds.length - i ∧ i ≤ ds.length ∧ ∃ Z' ρ' s', Grow Z1 H1 Z' H' ∧ Ok F own Z' H' σ' ρ' s' ∧ PostS F own oL W fr Z' H' D0 (forF asg fs (ds.drop i) ρ' s'), ⟨ds.length, by simp, Nat.zero_le _, Z1, ρ, s1, Grow.refl _ _, k1, by rw [List.drop_zero]; exact q1⟩, ?_⟩
      rintro i mm σ' H' ⟨rfl, hle, Z', ρ', s', g', k', q'⟩
      by_cases hlt : i < ds.length
      · have hget : ds[i]? = some ds[i] := List.getElem?_eq_getElem hlt
        refine .inr ⟨(w1.go i _ Z' H' (fun a z => (k'.zd a z).1) g' hget).1, fun σ2 H2 => ∃ Z2 ρ2 s2, Grow Z1 H1 Z2 H2 ∧ Ok F own Z2 H2 σ2 ρ2 s2 ∧ PostS F own oL W fr Z2 H2 D0 (forF asg fs (ds.drop (i + 1)) ρ2 s2),
          fun σ2 H2 ⟨Z2, ρ2, s2, g2, k2, q2⟩ => ⟨ds.length - (i + 1), by omega, rfl, hlt, Z2, ρ2, s2, g2, k2, q2⟩, fun x H2 y => ?_⟩
        obtain ⟨Z2, x2, k2, z2⟩ := w1.item g' k' hget y
        refine hg.ev x _ σ' H2 Z2 ρ' s' _ k2 z2 ?_
        rw [List.drop_eq_getElem_cons hlt] at q'
        dsimp only [forF] at q'
        cases e2 : asg ds[i] ρ' with
        | none => rw [e2] at q'; exact (show False from q').elim
        | some ρ1 =>
          rw [e2] at q'
          dsimp only [bnd] at q'
          intro σ3 wp k3
          refine hb.ev σ3 H2 Z2 ρ1 s' _ k3 ?_
          have g2 : Grow Z1 H1 Z2 H2 := g'.trans (k'.toBs.grow x2)
          have q2 := PostS.from (k'.toBs.grow x2) q'
          match e3 : fs ρ1 s', q2 with
          | none, q2 => exact q2
          | some (.error y, s2), q2 => exact q2
          | some (.ok (.nx, ρ2), s2), q2 => exact fun σ4 H4 Z4 g4 k4 => ⟨Z4, ρ2, s2, g2.trans g4, k4, PostS.from g4 q2⟩
          | some (.ok (.ct, ρ2), s2), q2 => exact fun σ4 H4 Z4 g4 k4 => ⟨Z4, ρ2, s2, g2.trans g4, k4, PostS.from g4 q2⟩
          | some (.ok (.bk, ρ2), s2), q2 => exact q2
          | some (.ok (.rt d, ρ2), s2), q2 => exact q2
      · have e : i = ds.length := by omega
        subst e
        refine .inl ⟨w1.stop _ Z' H' g' (Nat.le_refl _), ?_⟩
        rw [List.drop_length] at q'
        exact q' σ' H' Z' (Grow.refl _ _) k'

/-! ### while -/
def whF (c : Env → M S Bool) (body : Env → M S (Fl × Env)) : Nat → Env → M S (Fl × Env)
  | 0, _ => stk
  | n + 1, ρ => bnd (c ρ) fun b => if b = true then bnd (body ρ) fun x => match x.1 with
      | .nx => whF c body n x.2
      | .ct => whF c body n x.2
      | .bk => ret (.nx, x.2)
      | .rt d => ret (.rt d, x.2)
    else ret (.nx, ρ)
def fuel : Nat := 1000000
def sWh (c : Env → M S Bool) (body : Env → M S (Fl × Env)) : Env → M S (Fl × Env) := fun ρ => whF c body fuel ρ
theorem ds_while {c : Expr} {body : List Stmt} (A : Amb X F k) (hc : DT X F own W c tt ft) (hb : DSs X F own own own W fr body ts fs) : DS X F own own oL W fr (.While c body [] pos) (tWhile tt ts) (sWh ft fs) := by
  refine ⟨ps_while A.po hc.pt hb.ps, fun σ H Z ρ s D0 k q => ?_⟩
  refine ⟨fun n σ' H' => ∃ Z' ρ' s', Grow Z H Z' H' ∧ Ok F own Z' H' σ' ρ' s' ∧ PostS F own oL W fr Z' H' D0 (whF ft fs n ρ' s'), ⟨fuel, Z, ρ, s, Grow.refl _ _, k, q⟩, ?_⟩
  rintro n σ' H' ⟨Z', ρ', s', g', k', q'⟩
  cases n with
  | zero => exact (show False from q').elim
  | succ n =>
    refine hc.ev σ' H' Z' ρ' s' _ k' ?_
    dsimp only [whF, bnd] at q'
    cases e1 : ft ρ' s' with
    | none => rw [e1] at q'; exact q'
    | some p1 =>
      obtain ⟨r1, s1⟩ := p1
      rw [e1] at q'
      cases r1 with
      | error y => exact fun cls dd H' Z' => q' cls dd σ' H' Z'
      | ok b =>
        intro H2 Z2 x2 k2
        have g2 : Grow Z H Z2 H2 := g'.trans (k'.toBs.grow x2)
        have q2 := PostS.from (k'.toBs.grow x2) q'
        cases b with
        | false => exact q2 σ' H2 Z2 (Grow.refl _ _) k2
        | true =>
          refine ⟨fun σ4 H4 => ∃ Z4 ρ4 s4, Grow Z H Z4 H4 ∧ Ok F own Z4 H4 σ4 ρ4 s4 ∧ PostS F own oL W fr Z4 H4 D0 (whF ft fs n ρ4 s4), fun σ4 H4 h4 => ⟨n, Nat.lt_succ_self n, h4⟩, ?_⟩
          refine hb.ev σ' H2 Z2 ρ' s1 _ k2 ?_
          dsimp only at q2
          rw [if_pos rfl] at q2
          dsimp only [bnd] at q2
          match e3 : fs ρ' s1, q2 with
          | none, q2 => exact q2
          | some (.error y, s2), q2 => exact q2
          | some (.ok (.nx, ρ2), s2), q2 => exact fun σ4 H4 Z4 g4 k4 => ⟨Z4, ρ2, s2, g2.trans g4, k4, PostS.from g4 q2⟩
          | some (.ok (.ct, ρ2), s2), q2 => exact fun σ4 H4 Z4 g4 k4 => ⟨Z4, ρ2, s2, g2.trans g4, k4, PostS.from g4 q2⟩
          | some (.ok (.bk, ρ2), s2), q2 => exact q2
          | some (.ok (.rt d, ρ2), s2), q2 => exact q2

/-! ### comprehensions -/
def cmpF (asg : D → Env → Option Env) (tst : Env → M S Bool) (fe : Env → M S D) (ρ : Env) : List D → M S (List D)
  | [] => ret []
  | d :: ds => match asg d ρ with
    | none => stk
    | some ρ1 => bnd (tst ρ1) fun b => if b = true then bnd (fe ρ1) fun y => bnd (cmpF asg tst fe ρ ds) fun ys => ret (y :: ys) else cmpF asg tst fe ρ ds
/-- no exception comes out -/
def nox {A : Type} (x : M S A) : M S A := fun s => match x s with
  | some (.ok a, s') => some (.ok a, s')
  | _ => none
def mCmp (fi : Env → M S (List D)) (asg : D → Env → Option Env) (tst : Env → M S Bool) (fe : Env → M S D) (vs : List Nat) : Env → M S D := fun ρ => bnd (fi ρ) fun ds => if ds.length ≤ sizeLine then bnd (nox (cmpF asg tst fe (wipeD ρ vs) ds)) fun ys => ret (.lst ys) else stk
theorem wipeD_some {ρ : Env} {i : Nat} {x : D} : ∀ {vs : List Nat}, (wipeD ρ vs)[i]? = some (some x) → ρ[i]? = some (some x) ∧ i ∉ vs
  | [], h => ⟨h, by simp⟩
  | v :: vs, h => by
    unfold wipeD at h
    by_cases hi : v = i
    · subst hi
      by_cases hv : v < (wipeD ρ vs).length
      · rw [List.getElem?_set_self hv] at h; cases h
      · rw [List.getElem?_eq_none (by simpa using hv)] at h; cases h
    · rw [List.getElem?_set_ne hi] at h
      obtain ⟨h1, h2⟩ := wipeD_some h
      exact ⟨h1, by simp only [List.mem_cons, not_or]; exact ⟨fun e => hi e.symm, h2⟩⟩
theorem wipe_keep {i : Nat} : ∀ (vs : List Nat) (σ : L2.St), i ∉ vs → (wipe σ vs)[i]? = σ[i]?
  | [], _, _ => rfl
  | v :: vs, σ, h => by
    unfold wipe
    rw [List.getElem?_set_ne (fun e => h (by rw [← e]; exact List.mem_cons_self)), wipe_keep vs σ fun q => h (List.mem_cons_of_mem _ q)]
theorem wipeD_length (ρ : Env) : ∀ vs : List Nat, (wipeD ρ vs).length = ρ.length
  | [] => rfl
  | v :: vs => by unfold wipeD; rw [List.length_set, wipeD_length ρ vs]
theorem Ok.wipe {vs : List Nat} (k : Ok F own Z H σ ρ s) : Ok F own Z H (L2.wipe σ vs) (wipeD ρ vs) s where
  toBs := k.toBs
  fz := fun i d h1 h2 => by
    obtain ⟨h3, h4⟩ := wipeD_some h2
    obtain ⟨v, q1, q2⟩ := k.fz i d h1 h3
    exact ⟨v, by rw [wipe_keep vs σ h4]; exact q1, q2⟩
  ow := fun i d h1 h2 => by
    obtain ⟨h3, h4⟩ := wipeD_some h2
    obtain ⟨v, q⟩ := k.ow i d h1 h3
    exact ⟨v, by rw [wipe_keep vs σ h4]; exact q⟩
  sp := fun i j d d' a h1 h2 h3 h4 h5 h6 => by
    obtain ⟨h3, n3⟩ := wipeD_some h3
    obtain ⟨h4, n4⟩ := wipeD_some h4
    rw [wipe_keep vs σ n3] at h5
    rw [wipe_keep vs σ n4] at h6
    exact k.sp i j d d' a h1 h2 h3 h4 h5 h6
  ln := by rw [wipeD_length, L2.wipe_length]; exact k.ln
/-- the same names, another time -/
theorem Ok.again {σ2 : L2.St} {ρ2 : Env} (k : Ok F own Z H σ ρ s) (f : Bs F Z' H' s') (g : Grow Z H Z' H') (h : ∀ a, (∃ i d, i ∈ own ∧ ρ[i]? = some (some d) ∧ σ[i]? = some (some (V.ref a))) → ¬ Z' a ∧ H' a = H a) : Ok F own Z' H' σ ρ s' where
  toBs := f
  fz := fun i d h1 h2 => by
    obtain ⟨v, q1, q2⟩ := k.fz i d h1 h2
    exact ⟨v, q1, q2.grow g⟩
  ow := fun i d h1 h2 => by
    obtain ⟨a, q1, q2, q3, q4, q5⟩ := k.ow i d h1 h2
    obtain ⟨h3, h4⟩ := h a ⟨i, d, h1, h2, q1⟩
    exact ⟨a, q1, h3, q3, q4, q5.grow g h4⟩
  sp := k.sp
  ln := k.ln
/-- an object of ours that no name holds: the list under way -/
structure Side (F : Fc S) (own : List Nat) (Z : Addr → Prop) (H : Hp) (σ : L2.St) (ρ : Env) (p : Addr) : Prop where
  nz : ¬ Z p
  na : ¬ F.md.adr p
  h0 : F.H0 p = none
  no : ∀ i d, i ∈ own → ρ[i]? = some (some d) → σ[i]? ≠ some (some (V.ref p))
theorem Bs.put (f : Bs F Z H s) (h1 : ¬ Z p) (h2 : ¬ F.md.adr p) (h3 : F.H0 p = none) : Bs F Z (upd H p o) s where
  st := F.md.frame s H _ f.st fun b hb => upd_ne fun e => h2 (e ▸ hb)
  zd := fun a z => by
    have ne : a ≠ p := fun e => h1 (e ▸ z)
    rw [upd_ne ne]; exact f.zd a z
  z0 := f.z0
  zn := f.zn
  sm := fun a u h n => by
    rw [upd_ne fun e => by rw [e, h3] at h; cases h]
    exact f.sm a u h n
theorem Ok.put (k : Ok F own Z H σ ρ s) (sd : Side F own Z H σ ρ p) : Ok F own Z (upd H p o) σ ρ s := by
  refine k.again (σ2 := σ) (ρ2 := ρ) (k.toBs.put sd.nz sd.na sd.h0) ⟨fun _ h => h, fun a z => upd_ne fun e => sd.nz (e ▸ z)⟩ fun a ⟨i, d, h1, h2, h3⟩ => ⟨?_, upd_ne fun e => sd.no i d h1 h2 (e ▸ h3)⟩
  obtain ⟨a', q1, q2, _⟩ := k.ow i d h1 h2
  rw [h3] at q1
  cases q1
  exact q2
def WN : WX := fun _ _ _ _ => False
structure DTs (X : Cx) (F : Fc S) (own : List Nat) (W : WX) (es : List Expr) (t : TT) (f : Env → M S Bool) : Prop where
  pt : PTs X es t
  ev : EvT F own W t f
def yes : Env → M S Bool := fun _ => ret true
theorem dts_nil : DTs X F own W [] tYes yes := ⟨pts_nil, fun σ H Z ρ s Q k q => q H Z Ext.refl k⟩
theorem dts_one (h : DT X F own W e tt ft) : DTs X F own W [e] tt ft := ⟨pts_one h.pt, h.ev⟩
theorem Side.ext (sd : Side F own Z H σ ρ p) (h : H p ≠ none) (x : Ext F Z H Z' H') : Side F own Z' H' σ ρ p :=
  ⟨fun z => (x.zn p z).elim sd.nz fun q => q.elim h sd.na, sd.na, sd.h0, sd.no⟩
theorem startFree (x : Ext F Z H Z1 H1) (n : H1 p = none) (na : ¬ F.md.adr p) : H p = none := by
  cases q : H p with
  | none => rfl
  | some o => rw [x.h p o q na] at n; cases n
theorem ev_cmp {wi : TI} {g : TG} {tgs vs : List Nat} {fi : Env → M S (List D)} {asg : D → Env → Option Env}
    (hi : ∀ σ H Z ρ s R, Ok F own Z H σ ρ s → PostI F own W Z H σ ρ R (fi ρ s) → wi σ H R) (hg : EvG F own tgs g asg) (ht : EvT F own WN tt ft) (he : Ev F own WN .fz te fe) (hv : ∀ i ∈ tgs, i ∈ vs) :
    Ev F own W .fr (tLc wi g tt te vs) (mCmp fi asg ft fe vs) := by
  intro σ H Z ρ s Q k q
  refine hi σ H Z ρ s _ k ?_
  dsimp only [mCmp, bnd] at q
  cases e1 : fi ρ s with
  | none => rw [e1] at q; exact q
  | some p1 =>
    obtain ⟨r1, s1⟩ := p1
    rw [e1] at q
    cases r1 with
    | error y => exact q
    | ok ds =>
      intro J H1 Z1 x1 k1 w1 L nL
      dsimp only at q
      by_cases hz : ds.length ≤ sizeLine
      · rw [if_pos hz] at q
        -- the loop's word
        refine ⟨fun i mm H' => mm = ds.length - i ∧ i ≤ ds.length ∧ ∃ Z' s' vs' acc, Ext F Z1 H1 Z' H' ∧ Ok F own Z' H' σ ρ s' ∧ Side F own Z' H' σ ρ L ∧ H' L = some (.lst vs') ∧ FzAll F.cn Z' H' vs' acc ∧ vs'.length ≤ i ∧
          (match cmpF asg ft fe (wipeD ρ vs) (ds.drop i) s' with
            | some (.ok ys, s2) => PostE F own W .fr Z H σ ρ Q (ret (.lst (acc ++ ys)) s2)
            | _ => False), ⟨ds.length, by simp, Nat.zero_le _, Z1, s1, [], [], Ext.newO nL, k1.newO nL, ⟨fun z => (k1.zd L z).1 nL, k1.toBs.nadr nL, k1.toBs.entry nL, fun i d' h1 h2 h3 => ?_⟩, upd_same, FzAll.nil, Nat.zero_le _, ?_⟩, ?_⟩
        · obtain ⟨a, q1, _, _, _, q5⟩ := k1.ow i d' h1 h2
          rw [h3] at q1
          cases q1
          exact q5.there nL
        · rw [List.drop_zero]
          dsimp only [bnd, nox] at q
          match e2 : cmpF asg ft fe (wipeD ρ vs) ds s1, q with
          | none, q => exact q
          | some (.error _, _), q => exact q
          | some (.ok ys, s2), q => exact q
        · rintro i mm H' ⟨rfl, hle, Z', s', vs', acc, x', k', sd, hL, hacc, hvl, q'⟩
          by_cases hlt : i < ds.length
          · have hget : ds[i]? = some ds[i] := List.getElem?_eq_getElem hlt
            have g1 : Grow Z1 H1 Z' H' := k1.toBs.grow x'
            refine .inr ⟨(w1.go i _ Z' H' (fun a z => (k'.zd a z).1) g1 hget).1, fun H2 => i + 1 ≤ ds.length ∧ ∃ Z2 s2 vs2 acc2, Ext F Z1 H1 Z2 H2 ∧ Ok F own Z2 H2 σ ρ s2 ∧ Side F own Z2 H2 σ ρ L ∧ H2 L = some (.lst vs2) ∧ FzAll F.cn Z2 H2 vs2 acc2 ∧ vs2.length ≤ i + 1 ∧
              (match cmpF asg ft fe (wipeD ρ vs) (ds.drop (i + 1)) s2 with
                | some (.ok ys, s2) => PostE F own W .fr Z H σ ρ Q (ret (.lst (acc2 ++ ys)) s2)
                | _ => False), fun H2 h2 => ⟨ds.length - (i + 1), by omega, rfl, h2⟩, fun x H2 y => ?_⟩
            obtain ⟨Z2, x2, k2, z2⟩ := w1.item g1 k' hget y
            have hL2 : H2 L = some (.lst vs') := x2.h L _ hL sd.na
            have sd2 := sd.ext (by rw [hL]; simp) x2
            have kw := k2.wipe (vs := vs)
            rw [List.drop_eq_getElem_cons hlt] at q'
            dsimp only [cmpF] at q'
            refine hg x _ (L2.wipe σ vs) H2 Z2 (wipeD ρ vs) s' _ kw z2 ?_
            cases e2 : asg ds[i] (wipeD ρ vs) with
            | none => rw [e2] at q'; exact (show False from q').elim
            | some ρ1 =>
              rw [e2] at q'
              dsimp only [bnd] at q'
              intro σ3 wp k3
              refine ⟨(wp vs hv).trans (wipe_wipe vs σ), ?_⟩
              refine ht σ3 H2 Z2 ρ1 s' _ k3 ?_
              cases e3 : ft ρ1 s' with
              | none => rw [e3] at q'; exact q'
              | some p3 =>
                obtain ⟨r3, s3⟩ := p3
                rw [e3] at q'
                cases r3 with
                | error _ => exact (show False from q').elim
                | ok b =>
                  intro H3 Z3 x3 k3'
                  have hL3 : H3 L = some (.lst vs') := x3.h L _ hL2 sd2.na
                  have sd3 := sd2.ext (by rw [hL2]; simp) x3
                  have ko3 : Ok F own Z3 H3 σ ρ s3 := k2.carry x3 k3'.toBs
                  have hacc3 : FzAll F.cn Z3 H3 vs' acc := hacc.grow ((k'.toBs.grow x2).trans (k2.toBs.grow x3))
                  dsimp only at q'
                  cases b with
                  | false =>
                    rw [if_neg Bool.false_ne_true] at q' ⊢
                    exact ⟨hlt, Z3, s3, vs', acc, (x'.trans x2).trans x3, ko3, sd3, hL3, hacc3, by omega, q'⟩
                  | true =>
                    rw [if_pos rfl] at q' ⊢
                    refine he σ3 H3 Z3 ρ1 s3 _ k3' ?_
                    dsimp only [bnd] at q'
                    cases e4 : fe ρ1 s3 with
                    | none => rw [e4] at q'; exact q'
                    | some p4 =>
                      obtain ⟨r4, s4⟩ := p4
                      rw [e4] at q'
                      cases r4 with
                      | error _ => exact (show False from q').elim
                      | ok yd =>
                        intro yv H4 Z4 x4 k4 z4
                        have hL4 : H4 L = some (.lst vs') := x4.h L _ hL3 sd3.na
                        have sd4 := sd3.ext (by rw [hL3]; simp) x4
                        have ko4 : Ok F own Z4 H4 σ ρ s4 := ko3.carry x4 k4.toBs
                        have hacc4 : FzAll F.cn Z4 H4 vs' acc := hacc3.grow (ko3.toBs.grow x4)
                        have gp : Grow Z4 H4 Z4 (upd H4 L (.lst (vs' ++ [yv]))) := ⟨fun _ h => h, fun a z => upd_ne fun e => sd4.nz (e ▸ z)⟩
                        refine ⟨vs', hL4, by have := hz; omega, hlt, Z4, s4, vs' ++ [yv], acc ++ [yd], ?_, ko4.put sd4, ⟨sd4.nz, sd4.na, sd4.h0, sd4.no⟩, upd_same, (hacc4.snoc z4).grow gp, by rw [List.length_append]; simp; omega, ?_⟩
                        · have xx := ((x'.trans x2).trans x3).trans x4
                          refine ⟨xx.z, xx.zn, fun a o h n => ?_⟩
                          have ne : a ≠ L := fun e => by rw [e, nL] at h; cases h
                          rw [upd_ne ne]
                          exact xx.h a o h n
                        · dsimp only at q'
                          match e5 : cmpF asg ft fe (wipeD ρ vs) (ds.drop (i + 1)) s4, q' with
                          | none, q' => exact q'
                          | some (.error _, _), q' => exact q'
                          | some (.ok ys, s5), q' =>
                            show PostE F own W .fr Z H σ ρ Q (ret (.lst ((acc ++ [yd]) ++ ys)) s5)
                            rw [List.append_assoc]
                            exact q'
          · have e : i = ds.length := by omega
            subst e
            refine .inl ⟨w1.stop _ Z' H' (k1.toBs.grow x') (Nat.le_refl _), ?_⟩
            rw [List.drop_length] at q'
            have q' : PostE F own W .fr Z H σ ρ Q (ret (.lst (acc ++ [])) s') := q'
            rw [List.append_nil] at q'
            exact q' (.ref L) H' Z' (x1.trans x') k' ⟨L, rfl, sd.nz, sd.na, sd.h0, ⟨vs', hL, Nat.le_trans hvl hz, hacc⟩, startFree x1 nL sd.na, sd.no⟩
      · rw [if_neg hz] at q
        exact (show False from q).elim
end
end DL

namespace DL
open PySem L2 PySem.Spec PyProof.Rows

section
variable {S : Type} {X : Cx} {F : Fc S} {Z Z' Z1 Z2 : Addr → Prop} {H H' H1 H2 : Hp} {σ σ' : L2.St} {ρ : Env} {own own1 own2 own' oL : List Nat} {s s' : S} {p : Addr} {o : HO} {v : V} {d : D} {m m' m1 m2 m3 : Mo} {W : WX} {Q : VK} {k : Nat} {fr : Bool} {D0 : Ends}
variable {a b c e : Expr} {ta tb tc te : TE} {fa fb fc fe : Env → M S D} {pos pos' : Pos} {es : List Expr} {t : TA} {f : Env → M S (List D)}
variable {st : Stmt} {sts : List Stmt} {ts us : TS} {fs gs : Env → M S (Fl × Env)} {tt : TT} {ft : Env → M S Bool}

theorem Amb.blk (A : Amb X F k) {sh : Shared} {Hb : Hp} {scope : Scope} {env : PySem.Env} {fp : List Addr} : Amb (X.blk sh Hb scope env fp) F k := ⟨A.K, A.mg, A.rm, A.gd, A.calm, PassesOwn.never⟩
theorem takesN : Takes X WN := takes_none5
abbrev Blk (X : Cx) (scope : Scope) (sh : Shared) (Hb : Hp) (C : Addr) (cl : List (Str × Addr)) (fp : List Addr) : Cx := X.blk sh Hb scope (compEnvC scope cl C X.env) fp
/-- the weakest reading of a mirror: it names no place in the code -/
def tE (F : Fc S) (own : List Nat) (W : WX) (m : Mo) (f : Env → M S D) : TE := fun σ H Q => ∃ Z ρ s, Ok F own Z H σ ρ s ∧ PostE F own W m Z H σ ρ Q (f ρ s)
def tB (F : Fc S) (own : List Nat) (W : WX) (f : Env → M S Bool) : TT := fun σ H Q => ∃ Z ρ s, Ok F own Z H σ ρ s ∧ PostT F own W Z H σ ρ Q (f ρ s)
theorem DE.canon (h : DE X F own W m e te fe) : DE X F own W m e (tE F own W m fe) fe :=
  ⟨⟨fun pins s σ H Q I ⟨Z, ρ, s', k, q⟩ => h.pe.run pins s σ H Q I (h.ev σ H Z ρ s' Q k q)⟩, fun σ H Z ρ s Q k q => ⟨Z, ρ, s, k, q⟩⟩
theorem DT.canon (h : DT X F own W e tt ft) : DT X F own W e (tB F own W ft) ft :=
  ⟨⟨fun pins s σ H Q I ⟨Z, ρ, s', k, q⟩ => h.pt.run pins s σ H Q I (h.ev σ H Z ρ s' Q k q)⟩, fun σ H Z ρ s Q k q => ⟨Z, ρ, s, k, q⟩⟩
theorem de_lc {elt tg iter : Expr} {ifs : List Expr} {scope : Scope} {oc : List (Str × Nat)} {wi : TI} {g : TG} {tgs : List Nat} {fi : Env → M S (List D)} {asg : D → Env → Option Env} (A : Amb X F k) (nd : X.N.Nodup) (hi : DI X F own W tg iter wi fi) (ok : BlkOk X.N X.env.scope scope oc)
    (hg : ∀ sh Hb C cl fp, DG (Blk X scope sh Hb C cl fp) F own tgs tg g asg) (ht : ∀ sh Hb C cl fp, DTs (Blk X scope sh Hb C cl fp) F own WN ifs tt ft) (he : ∀ sh Hb C cl fp, DE (Blk X scope sh Hb C cl fp) F own WN .fz elt te fe)
    (hv : ∀ i ∈ tgs, i ∈ oc.map (·.2) := by decide) (hs : ∀ x, foldedSetIterable iter X.env x = pure x := by intro _; rfl) :
    DE X F own W .fr (.ListComp elt [⟨tg, iter, ifs, 0⟩] scope pos) (tLc wi g tt te (oc.map (·.2))) (mCmp fi asg ft fe (oc.map (·.2))) :=
  ⟨pe_lc A.calm nd hi.pi ok (fun s H C cl fp => (hg s H C cl fp).pg) (fun s H C cl fp => (ht s H C cl fp).pt) (fun s H C cl fp => (he s H C cl fp).pe) hs,
    ev_cmp hi.ev (hg X.s_0 X.H_0 0 [] []).ev (ht X.s_0 X.H_0 0 [] []).ev (he X.s_0 X.H_0 0 [] []).ev hv⟩
/-- name = [..] -/
theorem ds_lc {i : Nat} {y : Str} {py : Pos} {elt tg iter : Expr} {ifs : List Expr} {scope : Scope} {oc : List (Str × Nat)} {wi : TI} {g : TG} {tgs : List Nat} {fi : Env → M S (List D)} {asg : D → Env → Option Env} (A : Amb X F k) (nd : X.N.Nodup)
    (hi : DI X F own W tg iter wi fi) (ok : BlkOk X.N X.env.scope scope oc)
    (hg : ∀ sh Hb C cl fp, DG (Blk X scope sh Hb C cl fp) F own tgs tg g asg) (ht : ∀ sh Hb C cl fp, DTs (Blk X scope sh Hb C cl fp) F own WN ifs tt ft) (he : ∀ sh Hb C cl fp, DE (Blk X scope sh Hb C cl fp) F own WN .fz elt te fe)
    (hsw : swapsWith (.ListComp elt [⟨tg, iter, ifs, 0⟩] scope pos) (some (.Name y py)) pos'.line X.env = pure true)
    (hy : X.N[i]? = some y := by rfl) (hyl : X.env.scope.names.lookup y = some .local := by rfl)
    (hv : ∀ i ∈ tgs, i ∈ oc.map (·.2) := by decide) (hs : ∀ x, foldedSetIterable iter X.env x = pure x := by intro _; rfl) :
    DS X F own (i :: less own i) oL W fr (.Assign [.Name y py] (.ListComp elt [⟨tg, iter, ifs, 0⟩] scope pos) pos') (tAsg (tLc wi g tt te (oc.map (·.2))) (gName i)) (sSet i (mCmp fi asg ft fe (oc.map (·.2)))) :=
  ⟨ps_setLc A.calm nd hy hyl hsw hi.pi ok (fun s H C cl fp => (hg s H C cl fp).pg) (fun s H C cl fp => (ht s H C cl fp).pt) (fun s H C cl fp => (he s H C cl fp).pe) hs,
    EvS.bind (g := fun ρ d => ret (.nx, ρ.set i (some d))) (K := fun v σ H1 D0 => D0.nx (σ.set i (some v)) H1) (ev_cmp hi.ev (hg X.s_0 X.H_0 0 [] []).ev (ht X.s_0 X.H_0 0 [] []).ev (he X.s_0 X.H_0 0 [] []).ev hv) fun v d Hs Z H σ ρ s D0 k z q => q _ H Z (Grow.refl Z H) (k.setO z)⟩
end

/-! ### defs -/
section
variable {P : Program} {w : World} {K : PySem.W.Frag} {mg : Str → Option Value} {base : Heap}
structure FnG (P : Program) (w : World) (K : PySem.W.Frag) (mg : Str → Option Value) (base : Heap) (k : Nat) (f : Addr) (fd : FuncData) (ps : List Str) (sp : Sp) : Prop where
  len : ∀ vs H Q E, sp vs H Q E → vs.length = ps.length
  run : ∀ (A : Around) (outer : List PySem.Env) (s : Shared) (H : Hp) (args : Args) (us : List Value) (vs : List V) (Q : VK) (E : XK), A.guards = some [] → Room k A → Env0 P w K mg base A outer s H → BindsTo s fd args (ps.zip us) → Vals vs us → sp vs H Q E →
    codeAny (model P w) A (.call (.ref f) args) (CR (L2.CX P w) outer P w H s Q E) s
/-- a def by its body -/
theorem fnG_of {k : Nat} {f : Addr} {name qual : Str} {params : Arguments} {body : List Stmt} {scope : Scope} {dV kV doc pm cdv ct oc : Value} {an od : Option Addr}
    {osl : Array (Option Value)} {N ps : List Str} {sp : Sp} (lk : K.lookup f = some ⟨oc, od, .func (PySem.W.fnOf name qual params body scope dV kV doc pm an cdv ct), osl⟩) (hcd : PySem.W.codeIn K cdv qual = true) (Sc : FnScope N ps scope)
    (len : ∀ vs H Q E, sp vs H Q E → vs.length = ps.length)
    (hbody : ∀ (A : Around) (outer : List PySem.Env) (s : Shared) (H : Hp) (vs : List V) (Q : VK) (E : XK), A.guards = some [] → Room k (A.deeper (envOfC qual scope s.heap.objs.size f cdv)) → sp vs H Q E →
      ∃ t, PSs (cxOf (L2.CX P w) P w K mg base N qual scope f cdv A outer s H E) body t ∧ t { nx := fun _ H' => Q .non H', rt := Q } (L2.start N vs) H) :
    FnG P w K mg base (k + 1) f (PySem.W.fnOf name qual params body scope dV kV doc pm an cdv ct) ps sp := by
  constructor
  · exact len
  · intro A outer s H args us vs Q E hgd hr e0 hb r hsp
    have hl := len _ _ _ _ hsp
    have KX : K.In s.heap := e0.mod.kin.keeps fun b o e => (e0.bs b o e).1
    have lim : s.heap.NoLimit := e0.mod.nolimit.keeps fun b o e => (e0.bs b o e).1
    have hkind : ∀ y ∈ ps.zip us, scope.names.lookup y.1 = some .local ∨ (scope.names.lookup y.1 = some .cell ∧ ((cellsFrom (s.heap.objs.size + 1) scope.names []).lookup y.1).isSome = true) := by
      rintro ⟨n, v⟩ hy
      cases Sc.par n (List.of_mem_zip hy).1 with
      | inl q => exact .inl q
      | inr q => exact .inr ⟨q, PySem.W.cellsFrom_some _ _ _ (.inl q)⟩
    refine codeAny_call_function hr.depth (KX _ _ lk) rfl Sc.co Sc.gen rfl (PySem.W.codeRec_of KX hcd) (hb _ _ _ _ (wpAny_newFunctionEnv_cells Sc.kind hkind ?_))
    intro env he s1 x
    subst he
    refine ⟨lim.keeps x.toInCall.keep, codeAny_func ?_⟩
    obtain ⟨t, ht, hq⟩ := hbody A outer s H vs Q E hgd (hr.deeper _) hsp
    have I := inv_start (CX := L2.CX P w) (E := E) Sc hr.hd e0 hl r x
    refine wpAny_mono (ht.run [] s1 (L2.start N vs) H _ I hq) ?_ (fun e s' hs => hs)
    intro fl s' hs
    have fin : ∀ {σ' : L2.St} {H' : Hp} {v : V} {u : Value}, Inv (cxOf (L2.CX P w) P w K mg base N qual scope f cdv A outer s H E) [] σ' H' s' → RelV v u → Q v H' → CE outer P w H s Q u s' := by
      intro σ' H' v u J rv q
      exact ⟨v, H', J.os, J.bare, J.base, J.hok, rv, q⟩
    cases fl with
    | ret u =>
      obtain ⟨v, σ', H', J, rv, q⟩ := hs
      exact fin J rv q
    | next =>
      obtain ⟨σ', H', J, q⟩ := hs
      exact fin (v := V.non) (u := Value.none) J rfl q
    | brk =>
      obtain ⟨_, _, _, q⟩ := hs
      exact q.elim
    | cont =>
      obtain ⟨_, _, _, q⟩ := hs
      exact q.elim

/-- what a def's call comes to, as data -/
def PostF {S : Type} (F : Fc S) (fr : Bool) (Q : VK) (E : XK) : Option (Except Exc D × S) → Prop
  | some (.ok d, s') => ∀ v H' Z', Bs F Z' H' s' → Res fr F Z' H' v d → Q v H'
  | some (.error x, s') => ∀ cls dd H' Z', Bs F Z' H' s' → ExcAt F.cn Z' H' x cls dd → E cls dd H'
  | none => False
def SpD {S : Type} (K : PySem.W.Frag) (mg : Str → Option Value) (mds : Md S → Prop) (n : Nat) (fr : Bool) (mm : List D → M S D) : Sp := fun vs H Q E =>
  ∃ (md : Md S) (Z : Addr → Prop) (s : S) (ds : List D), mds md ∧ vs.length = n ∧ md.ok s H ∧ (∀ a, Z a → H a ≠ none ∧ ¬ md.adr a) ∧ FzAll ⟨K, mg, md.da⟩ Z H vs ds ∧ PostF (⟨K, mg, md, Z, H⟩ : Fc S) fr Q E (mm ds s)
/-- a body's function, as the def's -/
def runB {S : Type} (n : Nat) (f : Env → M S (Fl × Env)) : List D → M S D := fun ds s => match f (ds.map some ++ List.replicate (n - ds.length) none) s with
  | some (.ok (.nx, _), s') => some (.ok .non, s')
  | some (.ok (.rt d, _), s') => some (.ok d, s')
  | some (.error x, s') => some (.error x, s')
  | _ => none
theorem fn_mk {S : Type} {mds : Md S → Prop} {x qual : Str} {st : Stmt} {f : Addr} {fd : FuncData} {N ps : List Str} {k : Nat} {fr : Bool} {fb : Env → M S (Fl × Env)} (F : Fun K x qual st f fd) (Sc : FnScope N ps (defScope st))
    (hnx : fr = true → ∀ ρ s ρ' s', fb ρ s ≠ some (.ok (.nx, ρ'), s'))
    (hbody : ∀ (cdv : Value) (A : Around) (outer : List PySem.Env) (s : Shared) (H : Hp) (E : XK) (md : Md S) (Z : Addr → Prop), mds md →
      Amb (cxOf (L2.CX P w) P w K mg base N qual (defScope st) f cdv A outer s H E) (⟨K, mg, md, Z, H⟩ : Fc S) k → Takes (cxOf (L2.CX P w) P w K mg base N qual (defScope st) f cdv A outer s H E) (fun cls d _ H' => E cls d H') →
      ∃ t, DSs (cxOf (L2.CX P w) P w K mg base N qual (defScope st) f cdv A outer s H E) (⟨K, mg, md, Z, H⟩ : Fc S) [] [] [] (fun cls d _ H' => E cls d H') fr (defBody st) t fb) :
    FnG P w K mg base (k + 1) f fd ps (SpD K mg mds ps.length fr (runB N.length fb)) := by
  obtain ⟨oc, od, kV, doc, pm, an, cdv, ct, osl, rfl, lk, hcd⟩ := F.ex
  refine fnG_of lk hcd Sc (fun vs H Q E h => ?_) fun A outer s H vs Q E hgd hr hsp => ?_
  · obtain ⟨_, _, _, _, _, h, _⟩ := h
    exact h
  · obtain ⟨md, Z, s0, ds, hmd, hl, hok, hz, hf, hp⟩ := hsp
    obtain ⟨t, dv⟩ := hbody cdv A outer s H E md Z hmd ⟨rfl, rfl, hr, hgd, rfl, passes_of (K := fun e s'' => L2.CX P w outer H s E e s'') rfl⟩ (takes_of rfl rfl rfl rfl)
    refine ⟨t, dv.ps, dv.ev (L2.start N vs) H Z (ds.map some ++ List.replicate (N.length - ds.length) none) s0 _ ?_ ?_⟩
    · refine ⟨⟨hok, hz, fun _ h => h, fun _ h => .inl h, fun _ _ h _ => h⟩, fun i d _ h => ?_, fun i d h _ => by simp at h, fun i j d d' a h => by simp at h, ?_⟩
      · by_cases hi : i < ds.length
        · rw [List.getElem?_append_left (by simpa using hi), List.getElem?_map] at h
          obtain ⟨d', h1, h2⟩ := Option.map_eq_some_iff.mp h
          cases h2
          have hv : i < vs.length := by rw [hf.1]; exact hi
          refine ⟨vs[i], ?_, hf.2 i _ d (List.getElem?_eq_getElem hv) h1⟩
          unfold L2.start
          rw [List.getElem?_append_left (by simpa using hv), List.getElem?_map, List.getElem?_eq_getElem hv]
          rfl
        · rw [List.getElem?_append_right (by simpa using hi), List.getElem?_replicate] at h
          split at h <;> cases h
      · unfold L2.start
        rw [List.length_append, List.length_append, List.length_map, List.length_map, List.length_replicate, List.length_replicate, hf.1]
    · have hp : PostF _ fr Q E (runB N.length fb ds s0) := hp
      unfold runB at hp
      match e : fb (ds.map some ++ List.replicate (N.length - ds.length) none) s0, hp with
      | none, hp => exact hp
      | some (.error x, s'), hp => exact fun cls dd σ' H' Z' => hp cls dd H' Z'
      | some (.ok (.nx, ρ'), s'), hp =>
        intro σ' H' Z' g k'
        refine hp .non H' Z' k'.toBs ?_
        cases fr with
        | false => exact .non
        | true => exact absurd e (hnx rfl _ _ _ _)
      | some (.ok (.rt d, ρ'), s'), hp => exact hp
      | some (.ok (.bk, ρ'), s'), hp => exact hp.elim
      | some (.ok (.ct, ρ'), s'), hp => exact hp.elim

/-! ### calls -/
structure Callee (P : Program) (w : World) (K : PySem.W.Frag) (mg : Str → Option Value) (base : Heap) (x : Str) (st : Stmt) (ps : List Str) (k : Nat) (sp : Sp) : Prop where
  ex : ∃ f fd, mg x = some (.ref f) ∧ Fun K x x st f fd ∧ FnG P w K mg base k f fd ps sp
  bd : ∀ (kV doc pm : Value) (an : Option Addr) (cdv ct : Value) (us : List Value), us.length = ps.length → bindArgs (PySem.W.fnOf x x (defArgs st) (defBody st) (defScope st) .none kV doc pm an cdv ct) ⟨us, []⟩ = pure (ps.zip us)
section
variable {S : Type} {X : Cx} {F : Fc S} {Z Z' Z1 Z2 : Addr → Prop} {H H' H1 H2 : Hp} {σ σ' : L2.St} {ρ : Env} {own own1 own2 own' oL : List Nat} {s s' : S} {p : Addr} {o : HO} {v : V} {d : D} {m m' m1 m2 m3 : Mo} {W : WX} {Q : VK} {k : Nat} {fr : Bool} {D0 : Ends}
variable {a b c e : Expr} {ta tb tc te : TE} {fa fb fc fe : Env → M S D} {pos pos' ppos : Pos} {es : List Expr} {t : TA} {f : Env → M S (List D)} {x : Str} {sp : Sp} {st : Stmt} {ps : List Str} {j : Nat}
theorem pe_callG (A : Amb X F k) (tk : Takes X W) (C : Callee X.prog X.w X.K X.mg X.base x st ps j sp) (hj : j ≤ k) (hg : Gl X x) (ha : PA X (e :: es) t) (hdb : (x == ("__debug__" : Str)) = false := by decide)
    (he : starEach (e :: es) X.env = (false, eval e X.env) :: starEach es X.env := by rfl) (hpl : (backTo pos (starEach es X.env)).any (·.1) = false := by rfl) : PE X (.Call (.Name x ppos) (e :: es) [] pos) (tCallS sp (WE W) t) := by
  obtain ⟨fa, fd, hm, Fn, G⟩ := C.ex
  constructor
  intro pins s σ H Q I h
  refine wpAny_Call_Name_kw (ld_glob I hg hm (PySem.W.callWith_K (h₀ := X.base) I.ok.mod.kin Fn.kp (thn (ha.run pos pins s σ H _ I h) ?_) he hpl) hdb)
  rintro us s1 ⟨vs, H1, I1, r, q⟩
  refine ⟨I1.kIn, ?_⟩
  have hl : us.length = ps.length := by rw [← r.length]; exact G.len _ _ _ _ q
  have b := Fn.binds (ps := ps) C.bd s1 us I1.kIn (by rw [List.append_nil]; exact hl)
  rw [List.append_nil] at b
  refine wpAny_call (codeAny_mono (G.run X.A X.stack s1 H1 ⟨us, []⟩ us vs Q (WE W σ) A.gd (A.rm.mono hj) I1.env0 b r q) ?_)
  intro r s' hq
  cases r with
  | error y => exact passAt tk σ pins H1 s1 y s' I1 hq
  | ok fl =>
    cases fl with
    | ret u => exact I1.after hq
    | next => exact hq.elim
    | brk => exact hq.elim
    | cont => exact hq.elim
def mCal (f : Env → M S (List D)) (mm : List D → M S D) : Env → M S D := fun ρ => bnd (f ρ) mm
/-- a call within the same kind of memory -/
theorem post_call {mds : Md S → Prop} {n : Nat} {mm : List D → M S D} {vs : List V} {ds : List D} (hm : mds F.md) (hn : vs.length = n) (k : Ok F own Z H σ ρ s) (z : FzAll F.cn Z H vs ds) (q : PostE F own W (if fr then .fr else .fz) Z H σ ρ Q (mm ds s)) : SpD F.K F.mg mds n fr mm vs H Q (WE W σ) := by
  refine ⟨F.md, Z, s, ds, hm, hn, k.st, k.zd, z, ?_⟩
  have bs : ∀ {Z' H' s'}, Bs (⟨F.K, F.mg, F.md, Z, H⟩ : Fc S) Z' H' s' → Ext F Z H Z' H' ∧ Bs F Z' H' s' := fun {Z' H' s'} b => ⟨⟨b.z0, fun a h => (b.zn a h).elim .inl fun q => .inr (.inl q), b.sm⟩,
    ⟨b.st, b.zd, fun a h => b.z0 a (k.z0 a h), fun a h => by
      rcases b.zn a h with q | q
      · exact k.zn a q
      · exact .inr (k.toBs.entry q), fun a o h n => b.sm a o (k.sm a o h n) n⟩⟩
  match e : mm ds s, q with
  | none, q => exact q
  | some (.error y, s'), q => exact fun cls dd H' Z' b x => q cls dd H' Z' (bs b).2 x
  | some (.ok d, s'), q =>
    intro v H' Z' b r
    obtain ⟨x, b2⟩ := bs b
    have k' := k.carry x b2
    cases fr with
    | false => exact q v H' Z' x k' r
    | true =>
      obtain ⟨a, rfl, h1, h2, h3, h4⟩ := r
      have h3 : H a = none := h3
      refine q _ H' Z' x k' ⟨a, rfl, h1, h2, k.toBs.entry h3, h4, h3, fun i d' q1 q2 q3 => ?_⟩
      obtain ⟨a', r1, _, _, _, r5⟩ := k.ow i d' q1 q2
      rw [q3] at r1
      cases r1
      exact r5.there h3
/-- memory that nothing is written to; da: where the draws lie -/
def Md.pure (da : Addr → Prop) : Md Unit := ⟨da, fun _ => False, fun _ _ => True, fun _ _ _ _ _ => trivial, fun _ _ _ _ h => h.elim⟩
def Pure : Md Unit → Prop := fun md => ∃ da, md = Md.pure da
def mCalP (f : Env → M S (List D)) (mm : List D → M Unit D) : Env → M S D := fun ρ => bnd (f ρ) fun ds => pur (mm ds)
theorem post_callP {n : Nat} {mm : List D → M Unit D} {vs : List V} {ds : List D} (hn : vs.length = n) (k : Ok F own Z H σ ρ s) (z : FzAll F.cn Z H vs ds) (q : PostE F own W (if fr then .fr else .fz) Z H σ ρ Q ((pur (mm ds) : M S D) s)) : SpD F.K F.mg Pure n fr mm vs H Q (WE W σ) := by
  refine ⟨Md.pure F.md.da, Z, (), ds, ⟨_, rfl⟩, hn, trivial, fun a h => ⟨(k.zd a h).1, fun q => q⟩, z, ?_⟩
  have bs : ∀ {Z' H'}, Bs (⟨F.K, F.mg, Md.pure F.md.da, Z, H⟩ : Fc Unit) Z' H' () → Ext F Z H Z' H' ∧ Bs F Z' H' s := fun {Z' H'} b => by
    have sm : ∀ a o, H a = some o → H' a = some o := fun a o h => b.sm a o h fun q => q
    refine ⟨⟨b.z0, fun a h => (b.zn a h).elim .inl fun q => .inr (.inl q), fun a o h _ => sm a o h⟩, ⟨F.md.frame s H H' k.st fun c hc => ?_, fun a h => ⟨(b.zd a h).1, ?_⟩, fun a h => b.z0 a (k.z0 a h), fun a h => ?_, fun a o h n => sm a o (k.sm a o h n)⟩⟩
    · cases q : H c with
      | none => exact absurd q (F.md.dom s H c k.st hc)
      | some o => exact sm c o q
    · rcases b.zn a h with q | q
      · exact (k.zd a q).2
      · exact k.toBs.nadr q
    · rcases b.zn a h with q | q
      · exact k.zn a q
      · exact .inr (k.toBs.entry q)
  unfold pur at q
  match e : mm ds (), q with
  | none, q => exact q
  | some (.error y, s'), q => exact fun cls dd H' Z' b x => q cls dd H' Z' (bs b).2 x
  | some (.ok d, s'), q =>
    intro v H' Z' b r
    obtain ⟨x, b2⟩ := bs b
    have k' := k.carry x b2
    cases fr with
    | false => exact q v H' Z' x k' r
    | true =>
      obtain ⟨a, rfl, h1, h2, h3, h4⟩ := r
      have h3 : H a = none := h3
      refine q _ H' Z' x k' ⟨a, rfl, h1, k.toBs.nadr h3, k.toBs.entry h3, h4, h3, fun i d' q1 q2 q3 => ?_⟩
      obtain ⟨a', r1, _, _, _, r5⟩ := k.ow i d' q1 q2
      rw [q3] at r1
      cases r1
      exact r5.there h3
theorem de_callP {n : Nat} {mm : List D → M Unit D} (A : Amb X F k) (tk : Takes X W) (C : Callee X.prog X.w X.K X.mg X.base x st ps j (SpD X.K X.mg Pure n fr mm)) (hj : j ≤ k) (ha : DA X F own W (e :: es) t f) (hc : Cnt f n) (hg : Gl X x := by rfl) (hdb : (x == ("__debug__" : Str)) = false := by decide)
    (he : starEach (e :: es) X.env = (false, eval e X.env) :: starEach es X.env := by rfl) (hpl : (backTo pos (starEach es X.env)).any (·.1) = false := by rfl) : DE X F own W (if fr then .fr else .fz) (.Call (.Name x ppos) (e :: es) [] pos) (tCallS (SpD X.K X.mg Pure n fr mm) (WE W) t) (mCalP f mm) := by
  refine ⟨pe_callG A tk C hj hg ha.pa hdb he hpl, ?_⟩
  rw [A.K, A.mg]
  exact ev_cnt (g := fun _ ds => pur (mm ds)) (K := fun vs σ H1 Q => SpD F.K F.mg Pure n fr mm vs H1 Q (WE W σ)) ha.ev hc fun vs ds Z H σ ρ s Q hl k z q => post_callP (by rw [z.1]; exact hl) k z q
/-- f(k = v, ..): the keywords alone, in the order pm of the parameters -/
def pick {α : Type} (pm : List Nat) (xs : List α) : List α := pm.filterMap fun i => xs[i]?
theorem pick_vals {pm : List Nat} {vs : List V} {us : List Value} (r : Vals vs us) : Vals (pick pm vs) (pick pm us) := by
  induction pm with
  | nil => exact .nil
  | cons i pm ih =>
    unfold pick
    rw [List.filterMap_cons, List.filterMap_cons]
    cases q : vs[i]? with
    | none => rw [r.none_of q]; exact ih
    | some v =>
      obtain ⟨u, hu, rv⟩ := r.get q
      rw [hu]
      exact .cons rv ih
theorem pick_fz {cn : Cn} {pm : List Nat} {vs : List V} {ds : List D} (h : FzAll cn Z H vs ds) : FzAll cn Z H (pick pm vs) (pick pm ds) := by
  induction pm with
  | nil => exact .nil
  | cons i pm ih =>
    unfold pick
    rw [List.filterMap_cons, List.filterMap_cons]
    cases q : vs[i]? with
    | none =>
      have : ds[i]? = none := by rw [List.getElem?_eq_none_iff] at q ⊢; rw [← h.1]; exact q
      rw [this]; exact ih
    | some v =>
      have hi : i < ds.length := by rw [← h.1]; exact (List.getElem?_eq_some_iff.mp q).1
      have e2 : ds[i]? = some ds[i] := List.getElem?_eq_getElem hi
      rw [e2]
      exact .cons (h.2 i v _ q e2) ih
structure DK (X : Cx) (F : Fc S) (own : List Nat) (W : WX) (kws : List Keyword) (t : TA) (f : Env → M S (List D)) : Prop where
  pk : PK X kws t
  ev : EvA F own W t f
theorem dk_nil : DK X F own W [] tNil aNil := ⟨pk_nil, fun σ H Z ρ s Q k h => h [] H Z Ext.refl k .nil⟩
theorem dk_cons {kws : List Keyword} {nm : Option Str} {kpos : Pos} (y : DE X F own W .fz e te fe) (z : DK X F own W kws t f) : DK X F own W (⟨nm, e, kpos⟩ :: kws) (tCons te t) (aCons fe f) := by
  refine ⟨pk_cons y.pe z.pk, EvA.bind (g := fun ρ x => bnd (f ρ) fun xs => ret (x :: xs)) (K := fun x σ H1 Q => t σ H1 fun xs H2 => Q (x :: xs) H2) y.ev fun v d Hs Z H σ ρ s Q k z1 q => ?_⟩
  refine z.ev σ H Z ρ s _ k ?_
  dsimp only [bnd] at q
  cases e1 : f ρ s with
  | none => rw [e1] at q; exact q
  | some p1 =>
    rw [e1] at q
    obtain ⟨r1, s1⟩ := p1
    cases r1 with
    | error _ => exact q
    | ok ds => exact fun vs H' Z' x' k' z' => q (v :: vs) H' Z' x' k' (.cons (Fz.grow (k.toBs.grow x') z1) z')
def tCalK (sp : Sp) (n : Nat) (pm : List Nat) (W : WX) (t : TA) : TE := fun σ H Q => t σ H fun vs H1 => vs.length = n ∧ sp (pick pm vs) H1 Q (WE W σ)
theorem pe_callKG {kws : List Keyword} {ks : List Str} {pm : List Nat} (A : Amb X F k) (tk : Takes X W) (C : Callee X.prog X.w X.K X.mg X.base x st ps j sp) (hj : j ≤ k) (hg : Gl X x) (ha : PK X kws t)
    (kb : ∀ (kV doc pmv : Value) (an : Option Addr) (cdv ct : Value) (us : List Value), us.length = ps.length → bindArgs (PySem.W.fnOf x x (defArgs st) (defBody st) (defScope st) .none kV doc pmv an cdv ct) ⟨[], ks.zip us⟩ = pure (ps.zip (pick pm us)))
    (hall : (backToKw pos (keywordEach kws X.env)).all (·.1.isSome) = true := by rfl) (hks : (backToKw pos (keywordEach kws X.env)).filterMap (·.1) = ks := by rfl)
    (hdb : (x == ("__debug__" : Str)) = false := by decide) (hpl : ((backTo pos (starEach [] X.env)).any (·.1) || (backToKw pos (keywordEach kws X.env)).any (·.1.isNone)) = false := by rfl) :
    PE X (.Call (.Name x ppos) [] kws pos) (tCalK sp ps.length pm W t) := by
  obtain ⟨fa, fd, hm, Fn, G⟩ := C.ex
  constructor
  intro pins s σ H Q I h
  refine wpAny_Call_Name_kw (ld_glob I hg hm (PySem.W.callWith_KW0 (h₀ := X.base) I.ok.mod.kin Fn.kp hall (thn (ha.run pos pins s σ H _ I h) ?_) hpl) hdb)
  rintro us s1 ⟨vs, H1, I1, r, hvl, q⟩
  refine ⟨I1.kIn, ?_⟩
  rw [hks]
  have hl : us.length = ps.length := by rw [← r.length]; exact hvl
  obtain ⟨oc, od, kV, doc, pmv, an, cdv, ct, osl, rfl, lk, hcd⟩ := Fn.ex
  have b : BindsTo s1 _ ⟨[], ks.zip us⟩ (ps.zip (pick pm us)) := .of_eq (kb kV doc pmv an cdv ct us hl)
  refine wpAny_call (codeAny_mono (G.run X.A X.stack s1 H1 ⟨[], ks.zip us⟩ (pick pm us) (pick pm vs) Q (WE W σ) A.gd (A.rm.mono hj) I1.env0 b (pick_vals r) q) ?_)
  intro r s' hq
  cases r with
  | error y => exact passAt tk σ pins H1 s1 y s' I1 hq
  | ok fl =>
    cases fl with
    | ret u => exact I1.after hq
    | next => exact hq.elim
    | brk => exact hq.elim
    | cont => exact hq.elim
def mCalKP (pm : List Nat) (f : Env → M S (List D)) (mm : List D → M Unit D) : Env → M S D := fun ρ => bnd (f ρ) fun ds => pur (mm (pick pm ds))
theorem de_callKP {n : Nat} {mm : List D → M Unit D} {kws : List Keyword} {ks : List Str} {pm : List Nat} (A : Amb X F k) (tk : Takes X W) (C : Callee X.prog X.w X.K X.mg X.base x st ps j (SpD X.K X.mg Pure n fr mm)) (hj : j ≤ k) (ha : DK X F own W kws t f) (hc : Cnt f ps.length)
    (kb : ∀ (kV doc pmv : Value) (an : Option Addr) (cdv ct : Value) (us : List Value), us.length = ps.length → bindArgs (PySem.W.fnOf x x (defArgs st) (defBody st) (defScope st) .none kV doc pmv an cdv ct) ⟨[], ks.zip us⟩ = pure (ps.zip (pick pm us)))
    (h1 : ∀ (us : List V), us.length = ps.length → (pick pm us).length = n) (hg : Gl X x := by rfl)
    (hall : (backToKw pos (keywordEach kws X.env)).all (·.1.isSome) = true := by rfl) (hks : (backToKw pos (keywordEach kws X.env)).filterMap (·.1) = ks := by rfl)
    (hdb : (x == ("__debug__" : Str)) = false := by decide) (hpl : ((backTo pos (starEach [] X.env)).any (·.1) || (backToKw pos (keywordEach kws X.env)).any (·.1.isNone)) = false := by rfl) :
    DE X F own W (if fr then .fr else .fz) (.Call (.Name x ppos) [] kws pos) (tCalK (SpD X.K X.mg Pure n fr mm) ps.length pm W t) (mCalKP pm f mm) := by
  refine ⟨pe_callKG A tk C hj hg ha.pk kb hall hks hdb hpl, ?_⟩
  rw [A.K, A.mg]
  exact ev_cnt (g := fun _ ds => pur (mm (pick pm ds))) (K := fun vs σ H1 Q => vs.length = ps.length ∧ SpD F.K F.mg Pure n fr mm (pick pm vs) H1 Q (WE W σ)) ha.ev hc fun vs ds Z H σ ρ s Q hl k z q => ⟨by rw [z.1]; exact hl, post_callP (h1 vs (by rw [z.1]; exact hl)) k (pick_fz z) q⟩
theorem de_call {mds : Md S → Prop} {n : Nat} {mm : List D → M S D} (A : Amb X F k) (tk : Takes X W) (C : Callee X.prog X.w X.K X.mg X.base x st ps j (SpD X.K X.mg mds n fr mm)) (hj : j ≤ k) (hm : mds F.md) (ha : DA X F own W (e :: es) t f) (hc : Cnt f n) (hg : Gl X x := by rfl) (hdb : (x == ("__debug__" : Str)) = false := by decide)
    (he : starEach (e :: es) X.env = (false, eval e X.env) :: starEach es X.env := by rfl) (hpl : (backTo pos (starEach es X.env)).any (·.1) = false := by rfl) : DE X F own W (if fr then .fr else .fz) (.Call (.Name x ppos) (e :: es) [] pos) (tCallS (SpD X.K X.mg mds n fr mm) (WE W) t) (mCal f mm) := by
  refine ⟨pe_callG A tk C hj hg ha.pa hdb he hpl, ?_⟩
  rw [A.K, A.mg]
  exact ev_cnt (g := fun _ ds => mm ds) (K := fun vs σ H1 Q => SpD F.K F.mg mds n fr mm vs H1 Q (WE W σ)) ha.ev hc fun vs ds Z H σ ρ s Q hl k z q => post_call hm (by rw [z.1]; exact hl) k z q
end
end
end DL

namespace DL
open PySem L2 PySem.Spec PyProof.Rows

/-! ### the law's own call -/
section
variable {P : Program} {w : World} {K : PySem.W.Frag} {mg mb : Str → Option Value}
/-- the promise of a law's def -/
def spLaw (K : PySem.W.Frag) : Sp := fun vs H Q _ => ∃ (a : Addr) (ns : List Int), vs = [.ref a] ∧ SqL K H a (ns.map V.int) ∧ Only H ∧ ns.length ≤ 63 ∧ ∀ H', Q (.bl true) H'
theorem base_in {s1 : Shared} {a : Addr} {vs : List Value} {H : Hp} (ha : s1.heap.get? a = some { cls := .type "list", data := .seq vs.toArray }) (hA : ∀ b, H b ≠ none → b = a) {b : Addr} {m : Str → Option Value} (h : s1.heap.Ns b m) : (hidT s1.heap H).Ns b m := by
  obtain ⟨o, es, ep, e, d, r⟩ := h
  refine ⟨o, es, ep, hidT_get e ?_, d, r⟩
  cases q : H b with
  | none => rfl
  | some u =>
    obtain rfl : b = a := hA b (by rw [q]; simp)
    rw [ha] at e
    cases e
    cases (show Data.seq vs.toArray _ = Data.dict es ep from d)
theorem law_run {k : Nat} {fa a : Addr} {fd : FuncData} {x : Str} {s1 : Shared} {vs : List Value} {ns : List Int} {H : Hp}
    (KX : K.In s1.heap) (hns : s1.heap.Ns mainGlobals mg) (hb : s1.heap.Ns builtinsNs mb) (hbb : ∀ x : Str, x ≠ "__name__" → mb x = bootBuiltins x) (hlim : s1.heap.NoLimit) (hg : s1.gens = #[])
    (ha : s1.heap.get? a = some { cls := .type "list", data := .seq vs.toArray }) (hl : ns.length ≤ 63) (hr : Room k callerA)
    (G : ∀ base : Heap, K.In base → base.Ns mainGlobals mg → FnG P w K mg base k fa fd [x] (spLaw K)) (hbind : ∀ (s : Shared) (u : Value), BindsTo s fd ⟨[u], []⟩ [(x, u)])
    (hO : Only H) (hS : SqL K H a (ns.map V.int)) (hok : HOk P w H s1.heap) (hA : ∀ b, H b ≠ none → b = a) (hK : H a ≠ none → K.lookup a = none) :
    codeAny (model P w) callerA (.call (.ref fa) ⟨[.ref a], []⟩) (fun r s' => r = .ok (.ret (.bool true)) ∧ OldK s1.heap s'.heap ∧ s'.os = s1.os ∧ AllBare s'.gens) s1 := by
  have KB : K.In (hidT s1.heap H) := by
    intro b o e
    refine hidT_get (KX b o e) ?_
    cases q : H b with
    | none => rfl
    | some u =>
      obtain rfl : b = a := hA b (by rw [q]; simp)
      rw [hK (by rw [q]; simp)] at e
      cases e
  have glob := base_in ha hA hns
  have md : Mod K mg (hidT s1.heap H) := by
    refine ⟨KB, glob, ⟨mb, base_in ha hA hb, hbb⟩, ?_⟩
    obtain ⟨mc, h1, h2⟩ := hlim
    exact ⟨mc, base_in ha hA h1, h2⟩
  have e0 : Env0 P w K mg (hidT s1.heap H) callerA [] s1 H :=
    ⟨rfl, md, fun b o e => of_hidT e, Nat.le_of_eq (hidT_size _ _), trivial, fun b z => (by cases (show b ∈ ([] : List Addr) from z)), hok, .of_eq hg⟩
  have go := (G _ KB glob).run callerA [] s1 H ⟨[.ref a], []⟩ [.ref a] [.ref a] (fun v _ => v = .bl true) (fun _ _ _ => False) rfl hr e0 (hbind s1 (.ref a)) (.cons rfl .nil) ⟨a, ns, rfl, hS, hO, hl, fun _ => rfl⟩
  refine codeAny_mono go ?_
  intro r s' h
  cases r with
  | error e =>
    obtain ⟨_, _, _, _, _, _, _, _, _, _, _, _, z⟩ := h
    exact z.elim
  | ok fl =>
    cases fl with
    | next => exact h.elim
    | brk => exact h.elim
    | cont => exact h.elim
    | ret u =>
      obtain ⟨v, H', os, bare, un, hok', r', q⟩ := h
      obtain rfl : v = .bl true := q
      obtain rfl : u = Value.bool true := r'
      refine ⟨rfl, OldK.of_keep ?_, os, bare⟩
      intro b o e
      cases q : H b with
      | none => exact un.keep b o e q (fun z => by cases (show b ∈ ([] : List Addr) from z)) (fun z => by cases (show b ∈ ([] : List Addr) from z))
      | some u =>
        rcases hO b with z | ⟨ob, xs, z⟩
        · rw [q] at z; cases z
        · have e1 := (hok b _ z).1
          have e2 := (hok' b _ (un.frzs b ob _ z)).1
          rw [e] at e1
          cases e1
          exact e2
theorem law_callG {k : Nat} {fa a : Addr} {fd : FuncData} {x : Str} {s1 : Shared} {vs : List Value} {ns : List Int}
    (KX : K.In s1.heap) (hns : s1.heap.Ns mainGlobals mg) (hb : s1.heap.Ns builtinsNs mb) (hbb : ∀ x : Str, x ≠ "__name__" → mb x = bootBuiltins x) (hlim : s1.heap.NoLimit) (hg : s1.gens = #[])
    (ha : s1.heap.get? a = some { cls := .type "list", data := .seq vs.toArray }) (hi : IntsAre vs ns) (hl : ns.length ≤ 63) (hr : Room k callerA)
    (G : ∀ base : Heap, K.In base → base.Ns mainGlobals mg → FnG P w K mg base k fa fd [x] (spLaw K)) (hbind : ∀ (s : Shared) (u : Value), BindsTo s fd ⟨[u], []⟩ [(x, u)]) :
    codeAny (model P w) callerA (.call (.ref fa) ⟨[.ref a], []⟩) (fun r s' => r = .ok (.ret (.bool true)) ∧ OldK s1.heap s'.heap ∧ s'.os = s1.os ∧ AllBare s'.gens) s1 := by
  have rv := vals_ints hi
  have lenV := hi.length
  have hz : ns.length ≤ sizeLine := Nat.le_trans hl (by decide)
  cases hk : K.lookup a with
  | some o =>
    have e := KX a o hk
    rw [ha] at e
    cases e
    have sq : SqL K (fun _ => none) a (ns.map V.int) := .inr ⟨_, vs.toArray, _, hk, rfl, rfl, rfl, by rw [List.size_toArray, lenV]; exact hz, by simpa using rv⟩
    exact law_run (H := fun _ => none) KX hns hb hbb hlim hg ha hl hr G hbind (fun _ => .inl rfl) sq (fun b u z => by cases (show (none : Option HO) = some u from z)) (fun b z => absurd rfl z) (fun z => absurd rfl z)
  | none =>
    let ob : Obj := { cls := .type "list", data := .seq vs.toArray }
    let H : Hp := upd (fun _ => none) a (.frz ob (.lst (ns.map V.int)))
    have hHa : H a = some (.frz ob (.lst (ns.map V.int))) := upd_same
    have hHn : ∀ b, b ≠ a → H b = none := fun b n => upd_ne n
    refine law_run (H := H) KX hns hb hbb hlim hg ha hl hr G hbind (fun b => ?_) (.inl (.inr ⟨ob, hHa⟩)) (fun b u z => ?_) (fun b z => ?_) (fun _ => hk)
    · by_cases q : b = a
      · exact .inr ⟨_, _, by rw [q]; exact hHa⟩
      · exact .inl (hHn b q)
    · by_cases q : b = a
      · subst q
        rw [hHa] at z
        cases z
        exact ⟨ha, by rw [List.length_map]; exact hz, vs, _, rv, ha⟩
      · rw [hHn b q] at z; cases z
    · by_cases q : b = a
      · exact q
      · exact absurd (hHn b q) z
end
theorem walk_law {l : PySem.W.OpenLaw} {k : Nat} {q : Program} {loose : List Str} {XP : (Str → Option Value) → Heap → Prop} {YP : World → Heap → Prop} {d : DefRec} {K : Params → PySem.W.Frag} {x : Str}
    (hn : l.most = some 63) (hdf : d.params.defaults = []) (hr : Room k callerA)
    (hY : ∀ (w : World) (h : Heap), YP w h → (K w.params).In h)
    (G : ∀ (w : World) (mg : Str → Option Value) (fa : Addr) (h : Heap), (K w.params).In h → h.Ns mainGlobals mg → mg d.name = some (.ref fa) →
      ∃ fd : FuncData, (∀ (s : Shared) (u : Value), BindsTo s fd ⟨[u], []⟩ [(x, u)]) ∧
        ∀ base : Heap, (K w.params).In base → base.Ns mainGlobals mg → FnG l.prog w (K w.params) mg base k fa fd [x] (spLaw (K w.params))) :
    PySem.W.WalkO q loose XP YP l.row.toRowW d [] (fun f vs => PySem.call f vs) := by
  refine Att.attach_call hn hdf ?_
  intro w s0 s1 mg mb fa o pm cd doc a vs ns Gr Y ho hd hcd hmg hobj hints hlen hg
  obtain ⟨fd, hb, hF⟩ := G w mg fa _ (hY w _ Y) Gr.T.g hmg
  exact law_callG (hY w _ Y) Gr.T.g Gr.T.b Gr.T.builtins Gr.T.nolimit hg hobj hints hlen hr hF hb

/-! ### the draws -/
structure DrS where
  cells : List Int
  at_ : Int
  mix : Int
  ne : 0 < cells.length
  pos : ∀ c ∈ cells, 0 ≤ c
  hat : 0 ≤ at_
  hmix : 0 ≤ mix
  lin : cells.length ≤ sizeLine
def DrS.spot (s : DrS) : Nat := (s.at_ % (s.cells.length : Int)).toNat
theorem DrS.spot_lt (s : DrS) : s.spot < s.cells.length := by
  have h := s.ne
  have h1 := Int.emod_lt_of_pos s.at_ (show (0 : Int) < (s.cells.length : Int) by omega)
  have h2 := Int.emod_nonneg s.at_ (show (s.cells.length : Int) ≠ 0 by omega)
  unfold DrS.spot
  omega
def DrS.cell (s : DrS) : Int := s.cells[s.spot]'s.spot_lt
theorem DrS.cell_nn (s : DrS) : 0 ≤ s.cell := s.pos _ (List.getElem_mem _)
def DrS.mix2 (s : DrS) : Int := (s.mix * 48271 + s.cell + 7919 * (s.at_ + 1) + 12345) % 2147483647
theorem DrS.mix2_nn (s : DrS) : 0 ≤ s.mix2 := Int.emod_nonneg _ (by decide)
theorem DrS.mix2_lt (s : DrS) : s.mix2 < 2147483647 := Int.emod_lt_of_pos _ (by decide)
/-- a cell used up by a digit -/
def DrS.dig (s : DrS) (n : Int) (hn : 0 < n) : DrS := ⟨s.cells.set s.spot (s.cell / n), s.at_, s.mix, by rw [List.length_set]; exact s.ne, fun c hc => by
  rcases List.mem_or_eq_of_mem_set hc with h | rfl
  · exact s.pos c h
  · exact Int.ediv_nonneg s.cell_nn (Int.le_of_lt hn), s.hat, s.hmix, by rw [List.length_set]; exact s.lin⟩
def DrS.stir (s : DrS) : DrS := ⟨s.cells, s.at_ + 1, s.mix2, s.ne, s.pos, by have := s.hat; omega, s.mix2_nn, s.lin⟩
def DrS.draw (s : DrS) (n : Int) (hn : 0 < n) : Int × DrS :=
  if (10 : Int) ^ 18 ≤ s.cell then (s.cell % n, s.dig n hn) else (s.mix2 * s.mix2 % 2147483629 / 16 % n, s.stir)
theorem DrS.draw_nn (s : DrS) (n : Int) (hn : 0 < n) : 0 ≤ (s.draw n hn).1 ∧ (s.draw n hn).1 < n := by
  unfold DrS.draw
  split
  · exact ⟨Int.emod_nonneg _ (by omega), Int.emod_lt_of_pos _ hn⟩
  · exact ⟨Int.emod_nonneg _ (by omega), Int.emod_lt_of_pos _ hn⟩
def drawM : List D → M DrS D
  | [.drw, .int n] => fun s => if h : 0 < n ∧ n < 1073741824 then some (.ok (.int (s.draw n h.1).1), (s.draw n h.1).2) else none
  | _ => stk
def Md.draw (a c : Addr) : Md DrS where
  da := fun b => b = a
  adr := fun b => b = a ∨ b = c
  ok := fun s H => a ≠ c ∧ H a = some (.lst [.ref c, .int s.at_, .int s.mix]) ∧ H c = some (.lst (s.cells.map V.int))
  frame := fun s H H' h k => ⟨h.1, (k a (.inl rfl)).trans h.2.1, (k c (.inr rfl)).trans h.2.2⟩
  dom := fun s H b h hb => by
    rcases hb with rfl | rfl
    · rw [h.2.1]; simp
    · rw [h.2.2]; simp
def Draw : Md DrS → Prop := fun md => ∃ a c, md = Md.draw a c
end DL
namespace DL
open PySem L2 PySem.Spec PyProof.Rows
/-! ### constants of the module, by data -/
def CstD (K : PySem.W.Frag) (mg : Str → Option Value) (x : Str) (d : D) : Prop := ∃ v u, mg x = some u ∧ RelV v u ∧ ∀ (c : Cn) Z H, c.K = K → Fz c Z H v d
theorem cst_int {K : PySem.W.Frag} {mg : Str → Option Value} {x : Str} {i : Int} {t : Tok} (h : mg x = some (.int i t)) : CstD K mg x (.int i) := ⟨.int i, _, h, ⟨t, rfl⟩, fun _ _ _ _ => .int i⟩
theorem cst_str {K : PySem.W.Frag} {mg : Str → Option Value} {x : Str} {i : Str} {t : Tok} (h : mg x = some (.str i t)) : CstD K mg x (.str i) := ⟨.str i, _, h, ⟨t, rfl⟩, fun _ _ _ _ => .str i⟩
def tK (K : PySem.W.Frag) (d : D) : TE := fun _ H Q => ∀ v, (∀ (c : Cn) Z H', c.K = K → Fz c Z H' v d) → Q v H
theorem de_const {S : Type} {X : Cx} {F : Fc S} {own : List Nat} {W : WX} {k : Nat} {x : Str} {d : D} {pos : Pos} (A : Amb X F k) (C : CstD X.K X.mg x d) (hg : Gl X x := by rfl) (hd : (x == ("__debug__" : Str)) = false := by decide) : DE X F own W .fz (.Name x pos) (tK X.K d) (cst d) := by
  obtain ⟨v, u, h1, h2, h3⟩ := C
  refine ⟨⟨fun pins s σ H Q I h => ld_glob I hg h1 ⟨v, H, I, h2, h v h3⟩ hd⟩, fun σ H Z ρ s Q k q v z => q v H Z Ext.refl k (z F.cn Z H A.K.symm)⟩
end DL

namespace DL
open PySem L2 PySem.Spec PyProof.Rows
section
variable {S : Type} {X : Cx} {F : Fc S} {Z Z' Z1 Z2 : Addr → Prop} {H H' H1 H2 : Hp} {σ σ' : L2.St} {ρ : Env} {own own1 own2 own' oL : List Nat} {s s' : S} {p : Addr} {o : HO} {v : V} {d : D} {m m' m1 m2 m3 : Mo} {W : WX} {Q : VK} {k : Nat} {fr : Bool} {D0 : Ends}
variable {a b c e : Expr} {ta tb tc te : TE} {fa fb fc fe : Env → M S D} {pos pos' : Pos}

/-! ### {k: v, ..} -/
def asK : D → Option Key
  | .int i => some (.inl i)
  | .str x => some (.inr x)
  | _ => none
theorem asK_kV {cn : Cn} {x : D} {kk : Key} (h : asK x = some kk) (z : Fz cn Z H v x) : v = kV kk := by
  cases x <;> simp only [asK] at h <;> cases h <;> cases z <;> rfl
def putD {κ : Type} [DecidableEq κ] (kvs : List (κ × D)) (k : κ) (v : D) : List (κ × D) :=
  if (kvs.any fun kv => decide (kv.1 = k)) = true then kvs.map (fun kv => if kv.1 = k then (kv.1, v) else kv) else kvs ++ [(k, v)]
def mergeD (kvs more : List (Key × D)) : List (Key × D) := more.foldl (fun acc kv => putD acc kv.1 kv.2) kvs
theorem put_pair {κ : Type} [DecidableEq κ] {cn : Cn} {kvs : List (κ × V)} {des : List (κ × D)} (kk : κ) (hk : kvs.map (·.1) = des.map (·.1)) (hf : FzAll cn Z H (kvs.map (·.2)) (des.map (·.2))) (hv : Fz cn Z H v d) :
    (putK kvs kk v).map (·.1) = (putD des kk d).map (·.1) ∧ FzAll cn Z H ((putK kvs kk v).map (·.2)) ((putD des kk d).map (·.2)) := by
  have hany : (kvs.any fun kv => decide (kv.1 = kk)) = des.any fun kv => decide (kv.1 = kk) := by
    have e1 : (kvs.any fun kv => decide (kv.1 = kk)) = (kvs.map (·.1)).any fun x => decide (x = kk) := by rw [List.any_map]; rfl
    have e2 : (des.any fun kv => decide (kv.1 = kk)) = (des.map (·.1)).any fun x => decide (x = kk) := by rw [List.any_map]; rfl
    rw [e1, e2, hk]
  unfold putK putD
  rw [hany]
  split
  · rename_i hq
    clear hany hq
    induction kvs generalizing des with
    | nil => cases des with
      | nil => exact ⟨rfl, hf⟩
      | cons q r => simp at hk
    | cons p r ih => cases des with
      | nil => simp at hk
      | cons q r' =>
        simp only [List.map_cons, List.cons.injEq] at hk
        rw [List.map_cons, List.map_cons] at hf
        obtain ⟨h1, h2⟩ := hf.inv
        obtain ⟨i1, i2⟩ := ih hk.2 h2
        by_cases ep : p.1 = kk
        · have eq : q.1 = kk := hk.1 ▸ ep
          simp only [List.map_cons, if_pos ep, if_pos eq]
          exact ⟨by rw [i1, hk.1], .cons hv i2⟩
        · have eq : ¬ q.1 = kk := hk.1 ▸ ep
          simp only [List.map_cons, if_neg ep, if_neg eq]
          exact ⟨by rw [i1, hk.1], .cons h1 i2⟩
  · rw [List.map_append, List.map_append, List.map_append, List.map_append, hk]
    exact ⟨rfl, hf.snoc hv⟩
def ppNil : Env → M S (List (Key × D)) := fun _ => ret []
def ppCons (fa fb : Env → M S D) (fr : Env → M S (List (Key × D))) : Env → M S (List (Key × D)) := fun ρ => bnd (fa ρ) fun x => match asK x with
  | none => stk
  | some kk => bnd (fb ρ) fun y => bnd (fr ρ) fun r => ret ((kk, y) :: r)
structure DPp (X : Cx) (F : Fc S) (own : List Nat) (W : WX) (pos : Pos) (keys : List (Option Expr)) (values : List Expr) (trs : List (TE × TE)) (n : Nat) (f : Env → M S (List (Key × D))) : Prop where
  pp : PPs X pos keys values trs
  ev : ∀ σ H Z ρ s (Q : List (V × V) → Hp → Prop), Ok F own Z H σ ρ s → (match f ρ s with
    | some (.ok ds, s') => ∀ (kvs : List (Key × V)) H' Z', Ext F Z H Z' H' → Ok F own Z' H' σ ρ s' → kvs.map (·.1) = ds.map (·.1) → FzAll F.cn Z' H' (kvs.map (·.2)) (ds.map (·.2)) → kvs.length = n → Q (kvs.map fun kv => (kV kv.1, kv.2)) H'
    | some (.error x, s') => ∀ cls dd H' Z', Bs F Z' H' s' → ExcAt F.cn Z' H' x cls dd → W cls dd σ H'
    | none => False) → tPairs trs σ H Q
  l1 : keys.length = n
  l2 : values.length = n
  al : keys.all (·.isSome) = true
theorem dpp_nil : DPp X F own W pos [] [] [] 0 ppNil := ⟨pps_nil, fun σ H Z ρ s Q k q => q [] H Z Ext.refl k rfl .nil rfl, rfl, rfl, rfl⟩
theorem dpp_cons {n : Nat} {ks : List (Option Expr)} {vs : List Expr} {trs : List (TE × TE)} {f : Env → M S (List (Key × D))} (x : DE X F own W .fz a ta fa) (y : DE X F own W .fz b tb fb) (z : DPp X F own W pos ks vs trs n f) : DPp X F own W pos (some a :: ks) (b :: vs) ((ta, tb) :: trs) (n + 1) (ppCons fa fb f) := by
  refine ⟨pps_cons x.pe y.pe z.pp, fun σ H Z ρ s Q k q => ?_, by rw [List.length_cons, z.l1], by rw [List.length_cons, z.l2], by rw [List.all_cons, z.al]; rfl⟩
  dsimp only [tPairs]
  refine x.ev σ H Z ρ s _ k ?_
  dsimp only [ppCons, bnd] at q
  cases e1 : fa ρ s with
  | none => rw [e1] at q; exact q
  | some p1 =>
    obtain ⟨r1, s1⟩ := p1
    rw [e1] at q
    cases r1 with
    | error w => exact q
    | ok d1 =>
      intro v H1 Z1 x1 k1 z1
      dsimp only at q
      cases e0 : asK d1 with
      | none => rw [e0] at q; exact (show False from q).elim
      | some kk =>
        rw [e0] at q
        dsimp only [bnd] at q
        refine y.ev σ H1 Z1 ρ s1 _ k1 ?_
        cases e2 : fb ρ s1 with
        | none => rw [e2] at q; exact q
        | some p2 =>
          obtain ⟨r2, s2⟩ := p2
          rw [e2] at q
          cases r2 with
          | error w => exact q
          | ok d2 =>
            intro u H2 Z2 x2 k2 z2
            dsimp only at q
            refine z.ev σ H2 Z2 ρ s2 _ k2 ?_
            cases e3 : f ρ s2 with
            | none => rw [e3] at q; exact q
            | some p3 =>
              obtain ⟨r3, s3⟩ := p3
              rw [e3] at q
              cases r3 with
              | error w => exact q
              | ok ds =>
                intro kvs H3 Z3 x3 k3 h1 h2 h3
                rw [asK_kV e0 z1]
                refine q ((kk, u) :: kvs) H3 Z3 ((x1.trans x2).trans x3) k3 (by rw [List.map_cons, List.map_cons, h1]) ?_ (by rw [List.length_cons, h3])
                exact .cons (Fz.grow (k2.toBs.grow x3) z2) h2
def mDisp (f : Env → M S (List (Key × D))) : Env → M S D := fun ρ => bnd (f ρ) fun ds => ret (.dic (mergeD [] ds))
theorem merge_pair {cn : Cn} : ∀ (more : List (Key × V)) (dmore : List (Key × D)) (kvs : List (Key × V)) (des : List (Key × D)), kvs.map (·.1) = des.map (·.1) → FzAll cn Z H (kvs.map (·.2)) (des.map (·.2)) → more.map (·.1) = dmore.map (·.1) → FzAll cn Z H (more.map (·.2)) (dmore.map (·.2)) →
    (mergeK kvs more).map (·.1) = (mergeD des dmore).map (·.1) ∧ FzAll cn Z H ((mergeK kvs more).map (·.2)) ((mergeD des dmore).map (·.2))
  | [], [], kvs, des, h1, h2, _, _ => ⟨h1, h2⟩
  | [], _ :: _, _, _, _, _, h, _ => by simp at h
  | _ :: _, [], _, _, _, _, h, _ => by simp at h
  | p :: more, q :: dmore, kvs, des, h1, h2, h3, h4 => by
    simp only [List.map_cons, List.cons.injEq] at h3
    rw [List.map_cons, List.map_cons] at h4
    obtain ⟨g1, g2⟩ := h4.inv
    obtain ⟨i1, i2⟩ := put_pair p.1 h1 h2 g1
    have := merge_pair more dmore (putK kvs p.1 p.2) (putD des p.1 q.2) i1 i2 h3.2 g2
    unfold mergeK mergeD at this ⊢
    rw [List.foldl_cons, List.foldl_cons, ← h3.1]
    exact this
theorem Ok.side (k : Ok F own Z H σ ρ s) (n : H p = none) : Side F own Z H σ ρ p := ⟨fun z => (k.zd p z).1 n, k.toBs.nadr n, k.toBs.entry n, fun i d' h1 h2 h3 => by
  obtain ⟨a, q1, _, _, _, q5⟩ := k.ow i d' h1 h2
  rw [h3] at q1
  cases q1
  exact q5.there n⟩
theorem de_disp {n : Nat} {keys : List (Option Expr)} {values : List Expr} {trs : List (TE × TE)} {f : Env → M S (List (Key × D))} (x : DPp X F own W pos keys values trs n f) (h0 : keys ≠ [] := by intro h; cases h) (hn : n ≤ 15 := by decide) : DE X F own W .fr (.Dict keys values pos) (tDisp trs) (mDisp f) := by
  refine ⟨pe_disp x.pp x.al (by rw [x.l1, x.l2]) h0 (by rw [x.l1]; exact hn), fun σ H Z ρ s Q k q p np => ?_⟩
  have sd := k.side np
  have k1 : Ok F own Z (upd H p (.dK [])) σ ρ s := k.newO np
  refine x.ev σ _ Z ρ s _ k1 ?_
  dsimp only [mDisp, bnd] at q
  cases e1 : f ρ s with
  | none => rw [e1] at q; exact q
  | some p1 =>
    obtain ⟨r1, s1⟩ := p1
    rw [e1] at q
    cases r1 with
    | error w => exact q
    | ok ds =>
      intro kvs H2 Z2 x2 k2 h1 h2 h3
      dsimp only at q
      have hp : H2 p = some (.dK []) := x2.h p _ upd_same sd.na
      have sd2 : Side F own Z2 H2 σ ρ p := Side.ext (H := upd H p (.dK [])) ⟨sd.nz, sd.na, sd.h0, sd.no⟩ (by rw [upd_same]; simp) x2
      refine ⟨hp, kvs, rfl, by rw [h3]; exact hn, ?_⟩
      obtain ⟨i1, i2⟩ := merge_pair (cn := F.cn) kvs ds [] [] rfl .nil h1 h2
      have gp : Grow Z2 H2 Z2 (upd H2 p (.dK (mergeK [] kvs))) := ⟨fun _ h => h, fun a z => upd_ne fun e => sd2.nz (e ▸ z)⟩
      refine q (.ref p) _ Z2 ⟨x2.z, fun a h => ?_, fun a o h n => ?_⟩ (k2.put sd2) ⟨p, rfl, sd2.nz, sd2.na, sd2.h0, ⟨_, upd_same, ?_, i1, i2.grow gp⟩, np, sd2.no⟩
      · rcases x2.zn a h with q1 | q1 | q1
        · exact .inl q1
        · by_cases ea : a = p
          · exact .inr (.inl (by rw [ea]; exact np))
          · rw [upd_ne ea] at q1; exact .inr (.inl q1)
        · exact .inr (.inr q1)
      · have ne : a ≠ p := fun e => by rw [e, np] at h; cases h
        rw [upd_ne ne]
        exact x2.h a o (by rw [upd_ne ne]; exact h) n
      · refine Nat.le_trans (length_mergeK kvs []) ?_
        have := sizeLine_eq
        simp only [List.length_nil]
        omega
end
end DL

namespace DL
open PySem L2 PySem.Spec PyProof.Rows

/-! ### the draw itself -/
section
variable {X : Cx} {a b e : Expr} {ta tb te : TE} {pos : Pos}
theorem p_var (i : Nat) {x : Str} (hN : X.N[i]? = some x := by rfl) (hv : Vis X.env.scope x := by first | exact Or.inl rfl | exact Or.inr (Or.inl rfl) | exact Or.inr (Or.inr rfl)) (hd : (x == ("__debug__" : Str)) = false := by decide)
    (hcd : (x == ("__classdict__" : Str)) = false := by decide) : PE X (.Name x pos) (tVar i) := pe_var hN hv hd hcd
theorem p_ix (ha : PE X a ta) (hb : PE X b tb) (hs : PlainIx b := by exact (fun _ _ => rfl)) : PE X (.Subscript a b pos) (tOp (rIxL X.K) ta tb) := pe_ix ix_list ha hb hs
def rInt : List V → Hp → VK → Prop := fun xs H Q => (∃ i, xs = [.int i] ∧ Q (.int i) H) ∨ ∃ k, xs = [.bl k] ∧ Q (.int (if k then 1 else 0)) H
theorem p_int {p : Pos} (hm : X.mg "int" = none) (ha : PE X e te) (hg : Gl X "int" := by rfl) (hs : starEach [e] X.env = [(false, eval e X.env)] := by rfl) : PE X (.Call (.Name "int" p) [e] [] pos) (tCB rInt (tCons te tNil)) :=
  pe_callTy (T := "int") call_int1 hg hm (by decide +kernel) (pa_cons ha pa_nil (by rw [hs]; rfl)) (by decide) (by decide) (by rw [hs]; rfl) (by rfl)
def rLn (K : PySem.W.Frag) : List V → Hp → VK → Prop := fun xs H Q => ∃ x n, xs = [x] ∧ LenV K x H n ∧ Q (.int n) H
theorem p_len {p : Pos} (hm : X.mg "len" = none) (ha : PE X e te) (hg : Gl X "len" := by rfl) (hs : starEach [e] X.env = [(false, eval e X.env)] := by rfl) : PE X (.Call (.Name "len" p) [e] [] pos) (tCB (rLn X.K) (tCons te tNil)) :=
  pe_callB call_len hg hm PySem.boot_len (pa_cons ha pa_nil (by rw [hs]; rfl)) (by decide) (by decide) (by rw [hs]; rfl) (by rfl)
theorem p_set (i : Nat) {x : Str} {pos' : Pos} (hN : X.N.Nodup) (he : PE X e te) (hi : X.N[i]? = some x := by rfl) (hx : Loc X.env.scope x := by first | exact Or.inl rfl | exact Or.inr rfl) (hs : swapsWith e (some (.Name x pos')) pos.line X.env = pure false := by rfl)
    (hf : X.fn x = true ∨ X.env.scope.names.lookup x = some .local := by first | exact .inl rfl | exact .inr rfl) : PS X (.Assign [.Name x pos'] e pos) (tAsg te (gName i)) := ps_set hN hi hx he hs hf
end
abbrev tI (i : Int) : TE := tC (.int i)
abbrev tIx (K : PySem.W.Frag) (i : Nat) (j : Int) : TE := tOp (rIxL K) (tVar i) (tI j)
abbrev tInt (t : TE) : TE := tCB rInt (tCons t tNil)
abbrev tMod : TE → TE → TE := tOp (rI (fun _ j => 0 < j) fun i j => .int (i % j))
abbrev tDiv : TE → TE → TE := tOp (rI CDiv fun i j => .int (i / j))
abbrev tMul : TE → TE → TE := tOp (rI CMul fun i j => .int (i * j))
abbrev tAdd : TE → TE → TE := tOp (rI0 fun i j => .int (i + j))
abbrev tPow : TE → TE → TE := tOp (rI CPow fun i j => .int (i ^ j.toNat))
abbrev tGe : TE → TE → TE := tOp (rI0 fun i j => .bl (decide (j ≤ i)))
def tDraw (K : PySem.W.Frag) : TS :=
  tSeq (tAsg (tIx K 0 0) (gName 2)) <|
  tSeq (tAsg (tMod (tInt (tIx K 0 1)) (tCB (rLn K) (tCons (tVar 2) tNil))) (gName 3)) <|
  tSeq (tAsg (tOp (rIxL K) (tVar 2) (tVar 3)) (gName 4)) <|
  tSeq (tIfS (tTest (tGe (tVar 4) (tPow (tI 10) (tI 18)))) (tSeq (tAsg (tDiv (tVar 4) (tVar 1)) (gSub (tVar 2) (tVar 3) rSetL)) (tSeq (tRet (tMod (tInt (tVar 4)) (tVar 1))) tNext)) tNext) <|
  tSeq (tAsg (tAdd (tIx K 0 1) (tI 1)) (gSub (tVar 0) (tI 1) rSetL)) <|
  tSeq (tAsg (tMod (tInt (tAdd (tAdd (tAdd (tMul (tIx K 0 2) (tI 48271)) (tVar 4)) (tMul (tI 7919) (tIx K 0 1))) (tI 12345))) (tI 2147483647)) (gSub (tVar 0) (tI 2) rSetL)) <|
  tSeq (tAsg (tMod (tInt (tMul (tIx K 0 2) (tIx K 0 2))) (tI 2147483629)) (gName 5)) <|
  tSeq (tRet (tMod (tInt (tDiv (tVar 5) (tI 16))) (tVar 1))) tNext

theorem draw_vs {c : Cn} {Z : Addr → Prop} {H : Hp} {vs : List V} {n : Int} (h : FzAll c Z H vs [.drw, .int n]) : ∃ a, vs = [.ref a, .int n] ∧ c.da a := by
  obtain ⟨hl, h⟩ := h
  match vs, hl with
  | [v, u], _ =>
    have h1 := h 0 v .drw rfl rfl
    have h2 := h 1 u (.int n) rfl rfl
    cases h1 with
    | drw z =>
      cases h2
      exact ⟨_, rfl, z⟩
theorem ixN_at {n j : Nat} (hj : j < n) : ixN n (j : Int) = some j := by
  unfold ixN
  rw [if_pos (by omega), if_pos (by omega)]
  simp
theorem ixr {K : PySem.W.Frag} {H : Hp} {p : Addr} {xs : List V} {i : Int} {v : V} {Q : VK} (h : H p = some (.lst xs)) (e : atI xs i = some v) (q : Q v H) : rIxL K (.ref p) (.int i) H Q := ⟨p, xs, i, v, rfl, rfl, .inl (.inl h), e, q⟩
theorem tDraw_ok {K : PySem.W.Frag} {mg : Str → Option Value} {vs : List V} {H : Hp} {Q : VK} {E : XK} {N : List Str} {D0 : Ends} (hN : N.length = 6) (hD : D0.rt = Q) (h : SpD K mg Draw 2 false drawM vs H Q E) : tDraw K D0 (L2.start N vs) H := by
  obtain ⟨md, Z, s, ds, ⟨a, c, rfl⟩, hl, ⟨hac, ha, hc⟩, hz, hf, hp⟩ := h
  match ds, hf, hp with
  | [.drw, .int n], hf, hp =>
    obtain ⟨a', rfl, hda⟩ := draw_vs hf
    obtain rfl : a' = a := hda
    have hst : L2.start N [.ref a', .int n] = [some (.ref a'), some (.int n), none, none, none, none] := by
      unfold L2.start
      rw [hN]
      rfl
    rw [hst]
    dsimp only [drawM] at hp
    by_cases hn : 0 < n ∧ n < 1073741824
    · rw [dif_pos hn] at hp
      have hp : ∀ v H' Z', Bs (⟨K, mg, Md.draw a' c, Z, H⟩ : Fc DrS) Z' H' (s.draw n hn.1).2 → Fz _ Z' H' v (.int (s.draw n hn.1).1) → Q v H' := hp
      have fin : ∀ H', (Md.draw a' c).ok (s.draw n hn.1).2 H' → (∀ b, b ≠ a' → b ≠ c → H' b = H b) → Q (.int (s.draw n hn.1).1) H' := by
        intro H' k1 k2
        refine hp _ H' Z ⟨k1, fun b z => ?_, fun _ z => z, fun _ z => .inl z, fun b o h n => ?_⟩ (.int _)
        · have hh := hz b z
          have hn : ¬ (b = a' ∨ b = c) := hh.2
          refine ⟨by rw [k2 b (fun e => hn (.inl e)) fun e => hn (.inr e)]; exact hh.1, hh.2⟩
        · have hn : ¬ (b = a' ∨ b = c) := n
          rw [k2 b (fun e => hn (.inl e)) fun e => hn (.inr e)]
          exact h
      have hlen : LenV K (.ref c) H s.cells.length := .inl ⟨_, .inl (.inl hc), by rw [List.length_map]⟩
      have hspot : s.at_ % (s.cells.length : Int) = (s.spot : Int) := by
        have h2 := Int.emod_nonneg s.at_ (show (s.cells.length : Int) ≠ 0 by have := s.ne; omega)
        unfold DrS.spot
        omega
      have hcell : atI (s.cells.map V.int) (s.spot : Int) = some (.int s.cell) := by
        unfold atI
        rw [ixN_at (by rw [List.length_map]; exact s.spot_lt)]
        show (s.cells.map V.int)[s.spot]? = _
        rw [List.getElem?_map, List.getElem?_eq_getElem s.spot_lt]
        rfl
      refine ⟨_, rfl, ixr ha rfl ?_⟩
      refine ⟨_, rfl, ixr ha rfl ?_⟩
      refine .inl ⟨_, rfl, ?_⟩
      refine ⟨_, rfl, ⟨_, _, rfl, hlen, ?_⟩⟩
      refine ⟨_, _, rfl, rfl, (by have := s.ne; omega), ?_⟩
      refine ⟨_, rfl, _, rfl, ?_⟩
      refine ixr hc (by rw [hspot]; exact hcell) ?_
      refine ⟨_, rfl, ?_⟩
      refine ⟨_, _, rfl, rfl, ⟨by decide, by decide, by decide⟩, ?_⟩
      refine ⟨_, _, rfl, rfl, ?_⟩
      refine ⟨_, rfl, ?_⟩
      by_cases hb : (10 : Int) ^ (18 : Int).toNat ≤ s.cell
      · rw [decide_eq_true hb]
        have hb' : (10 : Int) ^ 18 ≤ s.cell := hb
        refine ⟨_, rfl, _, rfl, ?_⟩
        refine ⟨_, _, rfl, rfl, hn, ?_⟩
        refine ⟨_, rfl, _, rfl, ?_⟩
        refine ⟨c, _, _, s.spot, rfl, rfl, hc, (by rw [hspot]; exact ixN_at (by rw [List.length_map]; exact s.spot_lt)), ?_⟩
        refine ⟨_, rfl, ?_⟩
        refine .inl ⟨_, rfl, ?_⟩
        refine ⟨_, rfl, ?_⟩
        refine ⟨_, _, rfl, rfl, hn.1, ?_⟩
        show D0.rt _ _
        rw [hD]
        have e1 : (s.draw n hn.1).1 = s.cell % n := by unfold DrS.draw; rw [if_pos hb']
        have e2 : (s.draw n hn.1).2 = s.dig n hn.1 := by unfold DrS.draw; rw [if_pos hb']
        show Q (.int (s.cell % n)) _
        rw [← e1]
        refine fin _ ?_ fun b h1 h2 => upd_ne h2
        rw [e2]
        refine ⟨hac, by rw [upd_ne hac]; exact ha, ?_⟩
        rw [upd_same]
        show _ = some (HO.lst ((s.cells.set s.spot (s.cell / n)).map V.int))
        rw [List.map_set]
      · rw [decide_eq_false hb]
        dsimp only
        rw [if_neg (by decide)]
        dsimp only [tNext, tSeq, tAsg, tOp, tI, tC, tIx, tAdd, tMul, tMod, tDiv, tInt]
        have hb' : ¬ (10 : Int) ^ 18 ≤ s.cell := hb
        refine ⟨_, rfl, ?_⟩
        try dsimp only [tNext, tSeq, tAsg, tOp, tI, tC, tIx, tAdd, tMul, tMod, tDiv, tInt]
        refine ixr (i := 1) ha rfl ?_
        refine ⟨_, _, rfl, rfl, ?_⟩
        refine ⟨_, rfl, ?_⟩
        refine ⟨a', _, _, 1, rfl, rfl, ha, rfl, ?_⟩
        refine ⟨_, rfl, ?_⟩
        try dsimp only [tNext, tSeq, tAsg, tOp, tI, tC, tIx, tAdd, tMul, tMod, tDiv, tInt]
        refine ixr (i := 2) upd_same (by rfl) ?_
        refine ⟨_, _, rfl, rfl, .inr ⟨by decide, by decide⟩, ?_⟩
        refine ⟨_, rfl, _, _, rfl, rfl, ?_⟩
        refine ⟨_, rfl, ?_⟩
        try dsimp only [tNext, tSeq, tAsg, tOp, tI, tC, tIx, tAdd, tMul, tMod, tDiv, tInt]
        refine ixr (i := 1) upd_same (by rfl) ?_
        refine ⟨_, _, rfl, rfl, .inl ⟨by decide, by decide⟩, ?_⟩
        refine ⟨_, _, rfl, rfl, ?_⟩
        refine ⟨_, _, rfl, rfl, ?_⟩
        refine .inl ⟨_, rfl, ?_⟩
        refine ⟨_, _, rfl, rfl, (by show (0 : Int) < _; decide), ?_⟩
        refine ⟨_, rfl, ?_⟩
        refine ⟨a', _, _, 2, rfl, rfl, upd_same, rfl, ?_⟩
        have hm : (s.mix * 48271 + s.cell + 7919 * (s.at_ + 1) + 12345) % 2147483647 = s.mix2 := rfl
        have k1 := s.mix2_nn
        have k2 := s.mix2_lt
        refine ⟨_, rfl, ?_⟩
        try dsimp only [tNext, tSeq, tAsg, tOp, tI, tC, tIx, tAdd, tMul, tMod, tDiv, tInt]
        refine ixr (i := 2) upd_same (by rfl) ?_
        refine ⟨_, rfl, ?_⟩
        try dsimp only [tNext, tSeq, tAsg, tOp, tI, tC, tIx, tAdd, tMul, tMod, tDiv, tInt]
        refine ixr (i := 2) upd_same (by rfl) ?_
        refine ⟨_, _, rfl, rfl, .inl ⟨by rw [hm]; omega, by rw [hm]; omega⟩, ?_⟩
        refine .inl ⟨_, rfl, ?_⟩
        refine ⟨_, _, rfl, rfl, (by show (0 : Int) < _; decide), ?_⟩
        refine ⟨_, rfl, ?_⟩
        refine ⟨_, _, rfl, rfl, ⟨by decide, by decide⟩, ?_⟩
        refine .inl ⟨_, rfl, ?_⟩
        refine ⟨_, rfl, ?_⟩
        refine ⟨_, _, rfl, rfl, hn.1, ?_⟩
        show D0.rt _ _
        rw [hD]
        have e1 : (s.draw n hn.1).1 = s.mix2 * s.mix2 % 2147483629 / 16 % n := by unfold DrS.draw; rw [if_neg hb']
        have e2 : (s.draw n hn.1).2 = s.stir := by unfold DrS.draw; rw [if_neg hb']
        show Q (.int (((s.mix * 48271 + s.cell + 7919 * (s.at_ + 1) + 12345) % 2147483647) * ((s.mix * 48271 + s.cell + 7919 * (s.at_ + 1) + 12345) % 2147483647) % 2147483629 / 16 % n)) _
        rw [hm, ← e1]
        refine fin _ ?_ fun b h1 h2 => by rw [upd_ne h1, upd_ne h1]
        rw [e2]
        refine ⟨hac, ?_, by rw [upd_ne (Ne.symm hac), upd_ne (Ne.symm hac)]; exact hc⟩
        rw [upd_same]
        rfl
    · rw [dif_neg hn] at hp
      exact (show False from hp).elim

/-! ### bodies that never run off their end -/
def NX {S : Type} (f : Env → M S (Fl × Env)) : Prop := ∀ ρ s ρ' s', f ρ s ≠ some (.ok (.nx, ρ'), s')
section
variable {S : Type} {f g : Env → M S (Fl × Env)} {fe : Env → M S D} {ft : Env → M S Bool}
theorem nx_ret : NX (sRet fe) := by
  intro ρ s ρ' s' h
  unfold sRet bnd at h
  split at h
  · cases h
  · cases h
  · cases h
theorem nx_seq (h : NX g) : NX (sSeq f g) := by
  intro ρ s ρ' s' e
  unfold sSeq bnd at e
  split at e
  · cases e
  · cases e
  · rename_i a s1 _
    obtain ⟨fl, ρ1⟩ := a
    cases fl with
    | nx => exact h _ _ _ _ e
    | rt d => cases e
    | bk => cases e
    | ct => cases e
theorem nx_if (h1 : NX f) (h2 : NX g) : NX (sIf ft f g) := by
  intro ρ s ρ' s' e
  unfold sIf bnd at e
  split at e
  · cases e
  · cases e
  · rename_i b _ _
    cases b with
    | true => exact h1 _ _ _ _ e
    | false => exact h2 _ _ _ _ e
end

/-! ### the law's def -/
section
variable {P : Program} {w : World} {K : PySem.W.Frag} {mg : Str → Option Value} {base : Heap}
/-- the weakest reading of a block's mirror, whatever the draws' place -/
def tSS {S : Type} (mds : Md S → Prop) (K : PySem.W.Frag) (mg : Str → Option Value) (W : WX) (fb : Env → M S (Fl × Env)) : TS := fun D0 σ H =>
  ∃ (md : Md S) (Z0 : Addr → Prop) (H0 : Hp) (Z : Addr → Prop) (ρ : Env) (s : S), mds md ∧ Ok (⟨K, mg, md, Z0, H0⟩ : Fc S) [] Z H σ ρ s ∧ PostS (⟨K, mg, md, Z0, H0⟩ : Fc S) [] [] W false Z H D0 (fb ρ s)
theorem pss_tSS {S : Type} {mds : Md S → Prop} {X : Cx} {W : WX} {fb : Env → M S (Fl × Env)} {sts : List Stmt} (h : ∀ (md : Md S) (Z0 : Addr → Prop) (H0 : Hp), mds md → ∃ t, DSs X (⟨K, mg, md, Z0, H0⟩ : Fc S) [] [] [] W false sts t fb) : PSs X sts (tSS mds K mg W fb) :=
  ⟨fun pins s σ H D0 I ⟨md, Z0, H0, Z, ρ, s', hm, k, q⟩ => by
    obtain ⟨t, d⟩ := h md Z0 H0 hm
    exact d.ps.run pins s σ H D0 I (d.ev σ H Z ρ s' D0 k q)⟩
theorem scr_at {H : Hp} {a : Addr} {vs : List V} (h : SqL K H a vs) : ∃ Z : Addr → Prop, (∀ b, Z b → H b ≠ none) ∧ ScrAt K Z H a vs := by
  rcases h with h | h
  · refine ⟨fun b => b = a, fun b e => ?_, .inl ⟨rfl, h⟩⟩
    subst e
    rcases h with h | ⟨o, h⟩ <;> rw [h] <;> simp
  · exact ⟨fun _ => False, fun _ z => z.elim, .inr fun H' => .inr h⟩
theorem int_vs {c : Cn} {Z : Addr → Prop} {H : Hp} : ∀ {vs : List V} {ns : List Int}, FzAll c Z H vs (ns.map .int) → vs = ns.map V.int
  | [], [], _ => rfl
  | v :: vs, n :: ns, h => by
    obtain ⟨h1, h2⟩ := FzAll.inv (ds := ns.map .int) (d := .int n) h
    cases h1
    rw [int_vs h2]
    rfl
  | [], n :: ns, h => by have := h.1; simp at this
  | v :: vs, [], h => by have := h.1; simp at this
/-- the cells that the draws begin with -/
def cells0 (ns : List Int) : List Int := if ns = [] then [1] else ns.map fun i => if i < 0 then -i else i
def s0 (ns : List Int) (h : ns.length ≤ 63) : DrS := ⟨cells0 ns, 0, 1, by
    unfold cells0
    split
    · decide
    · rw [List.length_map]; rename_i h; exact List.length_pos_iff.mpr h, by
    unfold cells0
    split
    · decide
    · intro c hc
      obtain ⟨i, _, rfl⟩ := List.mem_map.mp hc
      split <;> omega, by decide, by decide, by
    unfold cells0
    split
    · decide
    · rw [List.length_map]; exact Nat.le_trans h (by decide)⟩
theorem law_mk {x qual : Str} {st s1 : Stmt} {rest : List Stmt} {f : Addr} {fd : FuncData} {N : List Str} {sc : Str} {k : Nat} {fb : Env → M DrS (Fl × Env)} {mst : List D → M Unit D} (F : Fun K x qual st f fd) (Sc : FnScope N [sc] (defScope st))
    (hb : defBody st = s1 :: rest) (hN : 2 ≤ N.length)
    (hst : ∀ ns : List Int, ns.length ≤ 63 → mst [.scr ns] () = some (.ok (.lst [.lst ((cells0 ns).map .int), .int 0, .int 1]), ()))
    (h1 : ∀ (cdv : Value) (A : Around) (outer : List PySem.Env) (s : Shared) (H : Hp) (E : XK), Amb (cxOf (L2.CX P w) P w K mg base N qual (defScope st) f cdv A outer s H E) (⟨K, mg, Md.unit, fun _ => False, H⟩ : Fc Unit) k →
      Takes (cxOf (L2.CX P w) P w K mg base N qual (defScope st) f cdv A outer s H E) (fun cls d _ H' => E cls d H') →
      PS (cxOf (L2.CX P w) P w K mg base N qual (defScope st) f cdv A outer s H E) s1 (tAsg (tCallS (SpD K mg Pure 1 true mst) (WE fun cls d _ H' => E cls d H') (tCons (tVar 0) tNil)) (gName 1)))
    (h2 : ∀ (cdv : Value) (A : Around) (outer : List PySem.Env) (s : Shared) (H : Hp) (E : XK) (md : Md DrS) (Z0 : Addr → Prop) (H0 : Hp), Draw md → Amb (cxOf (L2.CX P w) P w K mg base N qual (defScope st) f cdv A outer s H E) (⟨K, mg, md, Z0, H0⟩ : Fc DrS) k →
      Takes (cxOf (L2.CX P w) P w K mg base N qual (defScope st) f cdv A outer s H E) (fun cls d _ H' => E cls d H') →
      ∃ t, DSs (cxOf (L2.CX P w) P w K mg base N qual (defScope st) f cdv A outer s H E) (⟨K, mg, md, Z0, H0⟩ : Fc DrS) [] [] [] (fun cls d _ H' => E cls d H') false rest t fb)
    (hm : ∀ (ns : List Int) (s : DrS), ns.length ≤ 63 → ∃ ρ' s', fb (some (.scr ns) :: some .drw :: List.replicate (N.length - 2) none) s = some (.ok (.rt (.bl true), ρ'), s')) :
    FnG P w K mg base (k + 1) f fd [sc] (spLaw K) := by
  obtain ⟨oc, od, kV, doc, pm, an, cdv, ct, osl, rfl, lk, hcd⟩ := F.ex
  refine fnG_of lk hcd Sc (fun vs H Q E h => ?_) fun A outer s H vs Q E hgd hr hsp => ?_
  · obtain ⟨a, ns, rfl, _⟩ := h; rfl
  obtain ⟨a, ns, rfl, hS, hO, hl, hQ⟩ := hsp
  have am : ∀ {S : Type} (md : Md S) Z0 H0, Amb (cxOf (L2.CX P w) P w K mg base N qual (defScope st) f cdv A outer s H E) (⟨K, mg, md, Z0, H0⟩ : Fc S) k := fun md Z0 H0 => ⟨rfl, rfl, hr, hgd, rfl, passes_of (K := fun e s'' => L2.CX P w outer H s E e s'') rfl⟩
  have tk : Takes (cxOf (L2.CX P w) P w K mg base N qual (defScope st) f cdv A outer s H E) (fun cls d _ H' => E cls d H') := takes_of rfl rfl rfl rfl
  refine ⟨tSeq (tAsg (tCallS (SpD K mg Pure 1 true mst) (WE fun cls d _ H' => E cls d H') (tCons (tVar 0) tNil)) (gName 1)) (tSS Draw K mg (fun cls d _ H' => E cls d H') fb), ?_, ?_⟩
  · rw [hb]
    exact pss_cons (h1 cdv A outer s H E (am _ _ _) tk) (pss_tSS fun md Z0 H0 hmd => h2 cdv A outer s H E md Z0 H0 hmd (am _ _ _) tk)
  have hst0 : L2.start N [.ref a] = some (.ref a) :: none :: List.replicate (N.length - 2) none := by
    unfold L2.start
    obtain ⟨n, e⟩ : ∃ n, N.length = n + 2 := ⟨N.length - 2, by omega⟩
    rw [e]
    show _ :: List.replicate (n + 2 - 1) none = _
    rw [show n + 2 - 1 = n + 1 by omega, List.replicate_succ]
    simp
  rw [hst0]
  obtain ⟨Z, hz, hsc⟩ := scr_at hS
  refine ⟨.ref a, rfl, ?_⟩
  refine ⟨Md.pure fun _ => False, Z, (), [.scr ns], ⟨_, rfl⟩, rfl, trivial, fun b z => ⟨hz b z, fun q => q⟩, .cons (.scr hsc hl) .nil, ?_⟩
  rw [hst ns hl]
  intro v H' Z' bs r
  obtain ⟨p, rfl, np, _, hp0, vs, hp, hvl, hvf⟩ := r
  have hp0 : H p = none := hp0
  obtain ⟨c, us, rfl, hzc, hc, rfl⟩ : ∃ c us, vs = [.ref c, .int 0, .int 1] ∧ Z' c ∧ H' c = some (.lst us) ∧ us = (cells0 ns).map V.int := by
    obtain ⟨hlen, hv⟩ := hvf
    match vs, hlen with
    | [v0, v1, v2], _ =>
      have q0 := hv 0 v0 _ rfl rfl
      have q1 := hv 1 v1 (.int 0) rfl rfl
      have q2 := hv 2 v2 (.int 1) rfl rfl
      cases q1
      cases q2
      cases q0 with
      | lst z1 z2 z3 z4 z5 => exact ⟨_, _, rfl, z1, z2, int_vs ⟨z3, z5⟩⟩
  have hold : ∀ b o, H b = some o → H' b = some o := fun b o h => bs.sm b o h fun q => q
  have hcn : H c = none := by
    rcases bs.zn c hzc with z | z
    · rcases hO c with q | ⟨ob, xs, q⟩
      · exact q
      · have := hold c _ q
        rw [hc] at this
        cases this
    · exact z
  have hpc : p ≠ c := fun e => np (e ▸ hzc)
  have hzH : ∀ b, Z b → H' b = H b := fun b z => by
    cases q : H b with
    | none => exact absurd q (hz b z)
    | some o => exact hold b o q
  have hok : (Md.draw p c).ok (s0 ns hl) H' := ⟨hpc, hp, hc⟩
  obtain ⟨ρ', s', e⟩ := hm ns (s0 ns hl) hl
  refine ⟨Md.draw p c, Z, H', Z, some (.scr ns) :: some .drw :: List.replicate (N.length - 2) none, s0 ns hl, ⟨p, c, rfl⟩, ?_, ?_⟩
  · refine ⟨⟨hok, fun b z => ⟨by rw [hzH b z]; exact hz b z, ?_⟩, fun _ z => z, fun _ z => .inl z, fun _ _ h _ => h⟩, fun i d _ h => ?_, fun i d h _ => by simp at h, fun i j d d' a h => by simp at h, by simp⟩
    · rintro (rfl | rfl)
      · exact hz _ z hp0
      · exact hz _ z hcn
    · match i, h with
      | 0, h =>
        cases h
        exact ⟨.ref a, rfl, .scr (hsc.grow ⟨fun _ z => z, hzH⟩) hl⟩
      | 1, h =>
        cases h
        exact ⟨.ref p, rfl, .drw rfl⟩
      | i + 2, h =>
        rw [show (some (D.scr ns) :: some D.drw :: List.replicate (N.length - 2) none)[i + 2]? = (List.replicate (N.length - 2) (none : Option D))[i]? from rfl, List.getElem?_replicate] at h
        split at h <;> cases h
  · rw [e]
    intro v H2 Z2 b2 r2
    cases (show Fz _ Z2 H2 v (.bl true) from r2)
    exact hQ H2
end
end DL

namespace DL
open PySem L2 PySem.Spec PyProof.Rows

/-! ### the text's places, by the written part -/
theorem txt_fn {K : PySem.W.Frag} {h : Heap} {mg : Str → Option Value} {x : Str} {st : Stmt} {f : Addr} {oc : Value} {od an : Option Addr} {osl : Array (Option Value)} {kV doc pm cdv ct : Value} (X : K.In h) (G : h.Ns mainGlobals mg) (a : PySem.W.nsIn K mainGlobals x = some (some (.ref f)))
    (l : K.lookup f = some ⟨oc, od, .func (PySem.W.fnOf x x (defArgs st) (defBody st) (defScope st) .none kV doc pm an cdv ct), osl⟩) (c : PySem.W.codeIn K cdv x = true) (k : PySem.W.keepIn K (.ref f) = true) : ∃ f fd, mg x = some (.ref f) ∧ Fun K x x st f fd :=
  ⟨f, _, PySem.W.mg_of X G a, fun_mk l c k⟩
theorem txt_int {K : PySem.W.Frag} {h : Heap} {mg : Str → Option Value} {x : Str} {i : Int} {t : Tok} (X : K.In h) (G : h.Ns mainGlobals mg) (a : PySem.W.nsIn K mainGlobals x = some (some (.int i t))) : CstD K mg x (.int i) := cst_int (PySem.W.mg_of X G a)
theorem txt_str {K : PySem.W.Frag} {h : Heap} {mg : Str → Option Value} {x : Str} {i : Str} {t : Tok} (X : K.In h) (G : h.Ns mainGlobals mg) (a : PySem.W.nsIn K mainGlobals x = some (some (.str i t))) : CstD K mg x (.str i) := cst_str (PySem.W.mg_of X G a)

/-! ### running mirrors -/
section
variable {S A B : Type}
/-- whatever the draws, it answers, and so -/
def Sat (m : M S A) (Q : A → Prop) : Prop := ∀ s, ∃ a s', m s = some (.ok a, s') ∧ Q a
theorem sat_ret {a : A} {Q : A → Prop} (h : Q a) : Sat (ret a : M S A) Q := fun s => ⟨a, s, rfl, h⟩
theorem sat_bnd {m : M S A} {f : A → M S B} {P : A → Prop} {Q : B → Prop} (h : Sat m P) (k : ∀ a, P a → Sat (f a) Q) : Sat (bnd m f) Q := fun s => by
  obtain ⟨a, s1, e, p⟩ := h s
  obtain ⟨b, s2, e2, q⟩ := k a p s1
  refine ⟨b, s2, ?_, q⟩
  unfold bnd
  rw [e]
  exact e2
theorem Sat.mono {m : M S A} {P Q : A → Prop} (h : Sat m P) (k : ∀ a, P a → Q a) : Sat m Q := fun s => by
  obtain ⟨a, s1, e, p⟩ := h s
  exact ⟨a, s1, e, k a p⟩
theorem Sat.and {m : M S A} {P Q : A → Prop} (h : Sat m P) (k : Sat m Q) : Sat m fun a => P a ∧ Q a := fun s => by
  obtain ⟨a, s1, e, p⟩ := h s
  obtain ⟨b, s2, e2, q⟩ := k s
  rw [e] at e2
  cases e2
  exact ⟨a, s1, e, p, q⟩
theorem runB_eq {n : Nat} {f : Env → M S (Fl × Env)} {ds : List D} : runB n f ds = bnd (f (ds.map some ++ List.replicate (n - ds.length) none)) fun x => match x.1 with
    | .rt d => ret d
    | .nx => ret .non
    | _ => stk := by
  funext s
  unfold runB bnd
  match f (ds.map some ++ List.replicate (n - ds.length) none) s with
  | none => rfl
  | some (.error x, s') => rfl
  | some (.ok (.nx, _), s') => rfl
  | some (.ok (.rt d, _), s') => rfl
  | some (.ok (.bk, _), s') => rfl
  | some (.ok (.ct, _), s') => rfl
theorem sat_draw {n : Int} {Q : D → Prop} (h0 : 0 < n) (h1 : n < 1073741824) (k : ∀ r, 0 ≤ r → r < n → Q (.int r)) : Sat (drawM [.drw, .int n]) Q := fun s => by
  refine ⟨_, (s.draw n h0).2, ?_, k _ (s.draw_nn n h0).1 (s.draw_nn n h0).2⟩
  · show (if h : 0 < n ∧ n < 1073741824 then _ else _) = _
    rw [dif_pos ⟨h0, h1⟩]
@[simp] theorem bnd_ret' (m : M S A) : bnd m ret = m := by
  funext s
  unfold bnd
  match m s with
  | none => rfl
  | some (.error x, s') => rfl
  | some (.ok a, s') => rfl
/-- a comprehension whose parts answer -/
theorem cmpF_eq {asg : D → Env → Option Env} {tst : Env → M S Bool} {fe : Env → M S D} {ρ : Env} {p : D → Bool} {g : D → D} : ∀ {ds : List D}, (∀ d ∈ ds, ∃ ρ1, asg d ρ = some ρ1 ∧ tst ρ1 = ret (p d) ∧ (p d = true → fe ρ1 = ret (g d))) → cmpF asg tst fe ρ ds = ret ((ds.filter p).map g)
  | [], _ => rfl
  | d :: ds, h => by
    obtain ⟨ρ1, e1, e2, e3⟩ := h d List.mem_cons_self
    unfold cmpF
    rw [e1]
    dsimp only
    rw [e2, bnd_ret, cmpF_eq fun x hx => h x (List.mem_cons_of_mem _ hx)]
    by_cases hp : p d = true
    · rw [if_pos hp, e3 hp, bnd_ret, bnd_ret, List.filter_cons_of_pos hp]
      rfl
    · rw [if_neg hp, List.filter_cons_of_neg hp]
/-- of a comprehension that draws: what holds of each item -/
theorem sat_cmp {asg : D → Env → Option Env} {fe : Env → M S D} {ρ : Env} {Q : D → Prop} : ∀ {ds : List D}, (∀ d ∈ ds, ∃ ρ1, asg d ρ = some ρ1 ∧ Sat (fe ρ1) Q) → Sat (cmpF asg yes fe ρ ds) fun ys => ys.length = ds.length ∧ ∀ y ∈ ys, Q y
  | [], _ => sat_ret ⟨rfl, by simp⟩
  | d :: ds, h => by
    obtain ⟨ρ1, e1, e2⟩ := h d List.mem_cons_self
    unfold cmpF
    rw [e1]
    dsimp only [yes]
    rw [bnd_ret, if_pos rfl]
    refine sat_bnd e2 fun y hy => sat_bnd (sat_cmp fun x hx => h x (List.mem_cons_of_mem _ hx)) fun ys hys => sat_ret ⟨by simp [hys.1], fun z hz => ?_⟩
    rcases List.mem_cons.mp hz with rfl | hz
    · exact hy
    · exact hys.2 z hz
theorem sat_nox {m : M S A} {Q : A → Prop} (h : Sat m Q) : Sat (nox m) Q := fun s => by
  obtain ⟨a, s1, e, p⟩ := h s
  refine ⟨a, s1, ?_, p⟩
  unfold nox
  rw [e]
@[simp] theorem nox_ret (a : A) : nox (ret a : M S A) = ret a := rfl
/-- a loop whose body goes on, by what holds of the names -/
theorem sat_for {asg : D → Env → Option Env} {body : Env → M S (Fl × Env)} (I : Nat → Env → Prop) (R : D → Prop) : ∀ {ds : List D} {i : Nat} {ρ : Env}, I i ρ →
    (∀ j d ρ, ds[j - i]? = some d → i ≤ j → I j ρ → ∃ ρ1, asg d ρ = some ρ1 ∧ Sat (body ρ1) fun x => (x.1 = .nx ∨ x.1 = .ct) ∧ I (j + 1) x.2 ∨ ∃ d, x.1 = .rt d ∧ R d) →
    Sat (forF asg body ds ρ) fun x => x.1 = .nx ∧ I (i + ds.length) x.2 ∨ ∃ d, x.1 = .rt d ∧ R d
  | [], i, ρ, h, _ => sat_ret (.inl ⟨rfl, h⟩)
  | d :: ds, i, ρ, h, hb => by
    obtain ⟨ρ1, e1, e2⟩ := hb i d ρ (by simp) (Nat.le_refl i) h
    unfold forF
    rw [e1]
    dsimp only
    have go : ∀ ρ2, I (i + 1) ρ2 → Sat (forF asg body ds ρ2) fun x => x.1 = .nx ∧ I (i + (d :: ds).length) x.2 ∨ ∃ d, x.1 = .rt d ∧ R d := fun ρ2 h2 => by
      have := sat_for I R (ds := ds) (i := i + 1) h2 fun j d' ρ' hj hij hI => hb j d' ρ' (by
        obtain ⟨t, rfl⟩ : ∃ t, j = i + 1 + t := ⟨j - (i + 1), by omega⟩
        rw [show i + 1 + t - (i + 1) = t by omega] at hj
        rw [show i + 1 + t - i = t + 1 by omega]
        simpa using hj) (by omega) hI
      rw [show i + 1 + ds.length = i + (d :: ds).length by simp; omega] at this
      exact this
    refine sat_bnd e2 fun x hx => ?_
    obtain ⟨fl, ρ2⟩ := x
    rcases hx with ⟨rfl | rfl, h2⟩ | ⟨d', rfl, h2⟩
    · exact go ρ2 h2
    · exact go ρ2 h2
    · exact sat_ret (.inr ⟨d', rfl, h2⟩)
end

/-! ### the draws' beginning -/
def stB : Env → M Unit (Fl × Env) := sRet (mLst (aCons (orV (mCmp (iSeq (slc dSlcL (vr 0) (pNone) (pSome (cst (.int 63))))) (gSet 1) (yes) (o1 dAbs (vr 1)) [1]) (mLst (aCons (cst (.int 1)) (aNil)))) (aCons (cst (.int 0)) (aCons (cst (.int 1)) (aNil)))))
theorem st_ok (ns : List Int) (hl : ns.length ≤ 63) : runB 2 stB [.scr ns] () = some (.ok (.lst [.lst ((cells0 ns).map .int), .int 0, .int 1]), ()) := by
  have hc : cut ns none (some 63) = ns := by
    refine cut_all ⟨rfl, ?_⟩
    show HT.sIx ns.length ns.length (some 63) = ns.length
    have := HT.sIx_nat ns.length ns.length 63
    rw [show ((63 : Nat) : Int) = 63 from rfl] at this
    rw [this]
    omega
  have h1 : (mCmp (iSeq (slc dSlcL (vr 0) (pNone) (pSome (cst (.int 63))))) (gSet 1) (yes) (o1 dAbs (vr 1)) [1] : Env → M Unit D) [some (.scr ns), none] = ret (.lst ((ns.map fun i => if i < 0 then -i else i).map .int)) := by
    unfold mCmp iSeq slc pSome
    simp only [vr, List.getElem?_cons_zero, bnd_ret, pNone, cst, asI, dSlcL, hc, lft_some, List.length_map]
    rw [if_pos (Nat.le_trans hl (by decide)), cmpF_eq (p := fun _ => true) (g := fun d => (dAbs d).getD .non)]
    · simp only [nox_ret, bnd_ret]
      congr 2
      rw [List.filter_eq_self.mpr (by simp), List.map_map, List.map_map]
      rfl
    · intro d hd
      obtain ⟨i, _, rfl⟩ := List.mem_map.mp hd
      exact ⟨_, rfl, rfl, fun _ => rfl⟩
  rw [runB_eq]
  show bnd (stB [some (.scr ns), none]) _ () = _
  unfold stB sRet mLst aCons orV
  rw [h1]
  by_cases hn : ns = []
  · subst hn
    rfl
  · obtain ⟨n, t, rfl⟩ := List.exists_cons_of_ne_nil hn
    unfold cells0
    rw [if_neg hn]
    rfl
end DL

namespace DL
open PySem L2 PySem.Spec PyProof.Rows PySem.PyData

/-! ### plain facts of the data's functions -/
theorem atI_get {α : Type} {xs : List α} {r : Int} (h0 : 0 ≤ r) (h1 : r < xs.length) : ∃ x, atI xs r = some x ∧ x ∈ xs := by
  unfold atI ixN
  rw [if_pos h0, if_pos h1]
  have hr : r.toNat < xs.length := by omega
  exact ⟨xs[r.toNat], List.getElem?_eq_getElem hr, List.getElem_mem hr⟩
theorem dEq_int (i j : Int) : dEq (.int i) (.int j) = some (.bl (decide (i = j))) := by
  have : (i == j) = decide (i = j) := by rw [Bool.eq_iff_iff]; simp
  exact congrArg (fun b => some (D.bl b)) this
theorem dNe_str (x y : Str) : dNe (.str x) (.str y) = some (.bl (!(decide (x = y)))) := by
  have : (x == y) = decide (x = y) := by rw [Bool.eq_iff_iff]; simp
  exact congrArg (fun b => some (D.bl !b)) this
theorem dEq_str (x y : Str) : dEq (.str x) (.str y) = some (.bl (decide (x = y))) := by
  have : (x == y) = decide (x = y) := by rw [Bool.eq_iff_iff]; simp
  exact congrArg (fun b => some (D.bl b)) this
section
variable {S A B : Type}
theorem sat_lft {o : Option A} {a : A} {Q : A → Prop} (h : o = some a) (q : Q a) : Sat (lft o : M S A) Q := by
  rw [h]
  exact sat_ret q
theorem sat_if {c : Prop} [Decidable c] {f g : M S A} {Q : A → Prop} (h : c → Sat f Q) (h' : ¬ c → Sat g Q) : Sat (if c then f else g) Q := by
  split
  · exact h (by assumption)
  · exact h' (by assumption)
end
/-! ### some[draw(draws, len(some))] -/
def pkB : Env → M DrS (Fl × Env) := sRet (o2 dSubs (vr 1) (mCal (aCons (vr 0) (aCons (o1 dLen (vr 1)) (aNil))) drawM))
theorem pick_of {d n : D} {len : Int} {Q : D → Prop} (hl : dLen d = some (.int len)) (h0 : 0 < len) (h1 : len < 1000000) (k : ∀ r, 0 ≤ r → r < len → ∃ x, dSubs d (.int r) = some x ∧ Q x) : Sat (runB 2 pkB [.drw, d]) Q := by
  rw [runB_eq]
  simp only [pkB, sRet, o2, o1, vr, mCal, aCons, aNil, List.map_cons, List.map_nil, List.cons_append, List.nil_append, List.length_cons, List.length_nil, List.getElem?_cons_succ, List.getElem?_cons_zero, bnd_ret, hl, lft_some, bnd_assoc]
  refine sat_bnd (sat_draw h0 (by omega) (Q := fun y => ∃ r : Int, y = .int r ∧ 0 ≤ r ∧ r < len) fun r a b => ⟨r, rfl, a, b⟩) ?_
  rintro _ ⟨r, rfl, a, b⟩
  obtain ⟨x, e, q⟩ := k r a b
  rw [e]
  exact sat_ret q
theorem pick_lst {xs : List D} (h0 : 0 < xs.length) (h1 : xs.length < 1000000) : Sat (runB 2 pkB [.drw, .lst xs]) fun d => d ∈ xs :=
  pick_of (n := .non) rfl (by omega) (by omega) fun r a b => atI_get a b
theorem pick_tup {xs : List D} (h0 : 0 < xs.length) (h1 : xs.length < 1000000) : Sat (runB 2 pkB [.drw, .tup xs]) fun d => d ∈ xs :=
  pick_of (n := .non) rfl (by omega) (by omega) fun r a b => atI_get a b
theorem pick_str {x : Str} (h0 : 0 < x.length) (h1 : x.length < 1000000) : Sat (runB 2 pkB [.drw, .str x]) fun d => ∃ c ∈ x.cps.toList, d = .str ⟨#[c]⟩ := by
  have hz : x.length ≤ sizeLine := Nat.le_trans (Nat.le_of_lt h1) (by decide)
  have hx : x.length = x.cps.toList.length := by rw [Array.length_toList]; rfl
  refine pick_of (n := .non) (len := x.length) ?_ (by omega) (by omega) fun r a b => ?_
  · show (if x.length ≤ sizeLine then _ else _) = _
    rw [if_pos hz]
  · obtain ⟨c, e, m⟩ := atI_get (xs := x.cps.toList) a (by rw [← hx]; exact b)
    refine ⟨.str ⟨#[c]⟩, ?_, c, m, rfl⟩
    show (if x.length ≤ sizeLine then _ else _) = _
    rw [if_pos hz, e]
    rfl

/-! ### repr -/
theorem dRepr_str {x : Str} (hl : x.length ≤ 100000) (hc : ∀ c ∈ x.cps.toList, c < 16 ^ 8) : dRepr (.str x) = some (.str (reprText x)) := by
  have h := StrLaws.reprText_len x hc
  have hs : (reprText x).length ≤ sizeLine := Nat.le_trans h (Nat.le_trans (by omega : 10 * x.length + 2 ≤ 1000002) (by decide))
  show (if reprOk (.str x) = true then _ else _) = _
  have : reprOk (.str x) = true := by
    unfold reprOk
    simp only [PyData.showable, PyData.hasDict, Bool.true_and, Bool.not_false, Bool.true_or, Bool.and_true, Bool.and_eq_true, decide_eq_true_eq]
    exact ⟨Nat.zero_le _, hs⟩
  rw [if_pos this]
  rfl

/-! ### == of plain data -/
mutual
def fromPy : PyData → D
  | .none => .non
  | .bool b => .bl b
  | .int i => .int i
  | .str x => .str x
  | .list xs => .lst (fromPys xs)
  | .tuple xs => .tup (fromPys xs)
  | .dict _ => .non
def fromPys : List PyData → List D
  | [] => []
  | x :: xs => fromPy x :: fromPys xs
end
mutual
theorem from_to : ∀ (d : D) (x : PyData), toPy d = some x → fromPy x = d
  | .non, x, h => by simp only [toPy] at h; cases h; rfl
  | .bl _, x, h => by simp only [toPy] at h; cases h; rfl
  | .int _, x, h => by simp only [toPy] at h; cases h; rfl
  | .str _, x, h => by simp only [toPy] at h; cases h; rfl
  | .lst ds, x, h => by
    simp only [toPy] at h
    split at h
    · rename_i xs e
      cases h
      show D.lst (fromPys xs) = _
      rw [froms_to ds xs e]
    · cases h
  | .tup ds, x, h => by
    simp only [toPy] at h
    split at h
    · rename_i xs e
      cases h
      show D.tup (fromPys xs) = _
      rw [froms_to ds xs e]
    · cases h
  | .dic _, x, h => by simp only [toPy] at h; cases h
  | .dit _, x, h => by simp only [toPy] at h; cases h
  | .obj _ _, x, h => by simp only [toPy] at h; cases h
  | .drw, x, h => by simp only [toPy] at h; cases h
  | .ty _, x, h => by simp only [toPy] at h; cases h
  | .scr _, x, h => by simp only [toPy] at h; cases h
theorem froms_to : ∀ (ds : List D) (xs : List PyData), toPys ds = some xs → fromPys xs = ds
  | [], xs, h => by simp only [toPys] at h; cases h; rfl
  | d :: ds, xs, h => by
    simp only [toPys] at h
    split at h
    · rename_i y ys e1 e2
      cases h
      show fromPy y :: fromPys ys = _
      rw [from_to d y e1, froms_to ds ys e2]
    · cases h
end
mutual
def nbP : PyData → Bool
  | .none => true
  | .int _ => true
  | .str x => strOk x
  | .list xs => nbPs xs
  | .tuple xs => nbPs xs
  | _ => false
def nbPs : List PyData → Bool
  | [] => true
  | x :: xs => nbP x && nbPs xs
end
mutual
theorem eqv_eq : ∀ x y : PyData, nbP x = true → nbP y = true → PyData.eqv x y = true → x = y
  | .none, y, _, h2, h => by cases y <;> first | rfl | (simp only [PyData.eqv] at h; cases h) | (cases h)
  | .int i, y, _, h2, h => by
    cases y <;> simp only [PyData.eqv] at h <;> first | cases h | (simp only [nbP] at h2; cases h2) | skip
    rw [beq_iff_eq] at h
    rw [h]
  | .str x, y, _, h2, h => by
    cases y <;> simp only [PyData.eqv] at h <;> first | cases h | (simp only [nbP] at h2; cases h2) | skip
    rw [beq_iff_eq] at h
    rw [h]
  | .list xs, y, h1, h2, h => by
    cases y <;> simp only [PyData.eqv] at h <;> first | cases h | (simp only [nbP] at h2; cases h2) | skip
    rename_i ys
    rw [eqvs_eq xs ys (by simpa only [nbP] using h1) (by simpa only [nbP] using h2) h]
  | .tuple xs, y, h1, h2, h => by
    cases y <;> simp only [PyData.eqv] at h <;> first | cases h | (simp only [nbP] at h2; cases h2) | skip
    rename_i ys
    rw [eqvs_eq xs ys (by simpa only [nbP] using h1) (by simpa only [nbP] using h2) h]
  | .bool _, y, h1, h2, h => by simp only [nbP] at h1; cases h1
  | .dict _, y, h1, h2, h => by simp only [nbP] at h1; cases h1
theorem eqvs_eq : ∀ xs ys : List PyData, nbPs xs = true → nbPs ys = true → PyData.eqvAll xs ys = true → xs = ys
  | [], [], _, _, _ => rfl
  | [], _ :: _, _, _, h => by simp only [PyData.eqvAll] at h; cases h
  | _ :: _, [], _, _, h => by simp only [PyData.eqvAll] at h; cases h
  | x :: xs, y :: ys, h1, h2, h => by
    simp only [PyData.eqvAll, nbPs, Bool.and_eq_true] at h h1 h2
    rw [eqv_eq x y h1.1 h2.1 h.1, eqvs_eq xs ys h1.2 h2.2 h.2]
end
mutual
theorem lay_nb : ∀ x : PyData, nbP x = true → x.canLay0 = true
  | .none, _ => rfl
  | .int i, _ => rfl
  | .str x, h => h
  | .list xs, h => lays_nb xs h
  | .tuple xs, h => lays_nb xs h
  | .bool _, h => rfl
  | .dict _, h => by simp only [nbP] at h; cases h
theorem lays_nb : ∀ xs : List PyData, nbPs xs = true → PyData.canLayAll0 xs = true
  | [], _ => rfl
  | x :: xs, h => by
    simp only [nbPs, Bool.and_eq_true] at h
    show (PyData.canLay0 x && PyData.canLayAll0 xs) = true
    rw [lay_nb x h.1, lays_nb xs h.2]
    rfl
end
/-- plain: no bools, no dicts, not too deep -/
def Plain (d : D) : Prop := ∃ x, toPy d = some x ∧ nbP x = true ∧ x.depth ≤ 64
theorem eq_plain {d e : D} (h : Plain d) (h' : Plain e) : ∃ b, dEqB d e = some b ∧ (b = true ↔ d = e) := by
  obtain ⟨x, e1, n1, p1⟩ := h
  obtain ⟨y, e2, n2, p2⟩ := h'
  have key : dEqG d e = some (PyData.eqv x y) := by
    unfold dEqG
    rw [e1, e2]
    dsimp only
    refine if_pos ⟨?_, ?_⟩
    · unfold SeqAt.shaped; rw [lay_nb x n1, decide_eq_true p1]; rfl
    · unfold SeqAt.shaped; rw [lay_nb y n2, decide_eq_true p2]; rfl
  have hv : PyData.eqv x y = true ↔ d = e := by
    refine ⟨fun q => ?_, fun q => ?_⟩
    · rw [← from_to d x e1, ← from_to e y e2, eqv_eq x y n1 n2 q]
    · subst q
      rw [e1] at e2
      cases e2
      exact SeqAt.eqv_refl x (lay_nb x n1)
  unfold dEqB
  cases q : strs2 d e with
  | none => exact ⟨_, key, hv⟩
  | some r =>
    refine ⟨r, rfl, ?_⟩
    cases d <;> cases e <;> simp only [strs2] at q <;> cases q
    rename_i a b
    rw [beq_iff_eq, D.str.injEq]
/-! what is plain, by parts: at most n deep -/
def PlainN (n : Nat) (d : D) : Prop := ∃ x, toPy d = some x ∧ nbP x = true ∧ x.depth ≤ n
theorem PlainN.plain {n : Nat} {d : D} (h : PlainN n d) (hn : n ≤ 64 := by decide) : Plain d := by
  obtain ⟨x, a, b, c⟩ := h
  exact ⟨x, a, b, Nat.le_trans c hn⟩
theorem PlainN.mono {n m : Nat} {d : D} (h : PlainN n d) (hn : n ≤ m) : PlainN m d := by
  obtain ⟨x, a, b, c⟩ := h
  exact ⟨x, a, b, Nat.le_trans c hn⟩
theorem plain_non {n : Nat} : PlainN n .non := ⟨_, rfl, rfl, Nat.zero_le _⟩
theorem plain_int {n : Nat} (i : Int) : PlainN n (.int i) := ⟨_, rfl, rfl, Nat.zero_le _⟩
theorem plain_str {n : Nat} {x : Str} (h : strOk x = true) : PlainN n (.str x) := ⟨_, rfl, h, Nat.zero_le _⟩
theorem plain_all {n : Nat} : ∀ {ds : List D}, (∀ d ∈ ds, PlainN n d) → ∃ xs, toPys ds = some xs ∧ nbPs xs = true ∧ PyData.depthAll xs ≤ n
  | [], _ => ⟨[], rfl, rfl, Nat.zero_le _⟩
  | d :: ds, h => by
    obtain ⟨x, e1, e2, e3⟩ := h d List.mem_cons_self
    obtain ⟨xs, f1, f2, f3⟩ := plain_all fun e he => h e (List.mem_cons_of_mem _ he)
    refine ⟨x :: xs, ?_, ?_, Nat.max_le.mpr ⟨e3, f3⟩⟩
    · simp only [toPys]; rw [e1, f1]
    · simp only [nbPs]; rw [e2, f2]; rfl
theorem plain_lst {n : Nat} {ds : List D} (h : ∀ d ∈ ds, PlainN n d) : PlainN (n + 1) (.lst ds) := by
  obtain ⟨xs, e1, e2, e3⟩ := plain_all h
  refine ⟨.list xs, ?_, e2, Nat.succ_le_succ e3⟩
  simp only [toPy]; rw [e1]
theorem plain_tup {n : Nat} {ds : List D} (h : ∀ d ∈ ds, PlainN n d) : PlainN (n + 1) (.tup ds) := by
  obtain ⟨xs, e1, e2, e3⟩ := plain_all h
  refine ⟨.tuple xs, ?_, e2, Nat.succ_le_succ e3⟩
  simp only [toPy]; rw [e1]
theorem dEq_plain {d e : D} (h : Plain d) (h' : Plain e) : ∃ b, dEq d e = some (.bl b) ∧ (b = true ↔ d = e) := by
  obtain ⟨b, e1, e2⟩ := eq_plain h h'
  exact ⟨b, by unfold dEq; rw [e1]; rfl, e2⟩
theorem dNe_plain {d e : D} (h : Plain d) (h' : Plain e) : ∃ b, dNe d e = some (.bl b) ∧ (b = true ↔ d ≠ e) := by
  obtain ⟨b, e1, e2⟩ := eq_plain h h'
  refine ⟨!b, by unfold dNe; rw [e1]; rfl, ?_⟩
  cases b <;> simp_all

/-! ### "".join of signs -/
theorem join_signs : ∀ cs : List Nat, (Str.join ("" : Str) (cs.map fun c => (⟨#[c]⟩ : Str))).cps.toList = cs
  | [] => rfl
  | [c] => rfl
  | c :: d :: cs => by
    have h := join_signs (d :: cs)
    show (((⟨#[c]⟩ : Str) ++ ("" : Str) ++ Str.join ("" : Str) ((d :: cs).map fun c => (⟨#[c]⟩ : Str))).cps).toList = _
    show ((#[c] ++ #[]) ++ (Str.join ("" : Str) ((d :: cs).map fun c => (⟨#[c]⟩ : Str))).cps).toList = _
    rw [Array.toList_append, h]
    rfl
theorem txts_signs : ∀ cs : List Nat, txts (cs.map fun c => D.str ⟨#[c]⟩) = some (cs.map fun c => (⟨#[c]⟩ : Str))
  | [] => rfl
  | c :: cs => by
    show (txts (cs.map fun c => D.str ⟨#[c]⟩)).map _ = _
    rw [txts_signs cs]
    rfl
theorem sum_ones (cs : List Nat) : ((cs.map fun c => (⟨#[c]⟩ : Str)).map (·.length)).sum = cs.length := by
  induction cs with
  | nil => rfl
  | cons c cs ih =>
    rw [List.map_cons, List.map_cons, List.sum_cons, ih]
    show 1 + cs.length = cs.length + 1
    omega
theorem signs_of {P : Nat → Prop} : ∀ {ys : List D}, (∀ y ∈ ys, ∃ c, P c ∧ y = .str ⟨#[c]⟩) → ∃ cs : List Nat, ys = cs.map (fun c => D.str ⟨#[c]⟩) ∧ ∀ c ∈ cs, P c
  | [], _ => ⟨[], rfl, by simp⟩
  | y :: ys, h => by
    obtain ⟨c, hc, rfl⟩ := h y List.mem_cons_self
    obtain ⟨cs, rfl, hcs⟩ := signs_of fun z hz => h z (List.mem_cons_of_mem _ hz)
    refine ⟨c :: cs, rfl, fun d hd => ?_⟩
    rcases List.mem_cons.mp hd with rfl | hd
    · exact hc
    · exact hcs d hd
theorem dJoin_signs {P : Nat → Prop} {ys : List D} (h : ∀ y ∈ ys, ∃ c, P c ∧ y = .str ⟨#[c]⟩) (hl : ys.length ≤ 1000) : ∃ x : Str, dJoin (.str "") (.lst ys) = some (.str x) ∧ x.length = ys.length ∧ ∀ c ∈ x.cps.toList, P c := by
  obtain ⟨cs, rfl, hcs⟩ := signs_of h
  rw [List.length_map] at hl
  refine ⟨Str.join "" (cs.map fun c => (⟨#[c]⟩ : Str)), ?_, ?_, ?_⟩
  · simp only [dJoin, txts_signs]
    rw [if_pos]
    rw [sum_ones, List.length_map]
    show cs.length + cs.length * 0 ≤ 16777216
    omega
  · show (Str.join ("" : Str) (cs.map fun c => (⟨#[c]⟩ : Str))).cps.size = _
    rw [← Array.length_toList, join_signs, List.length_map]
  · rw [join_signs]
    exact hcs
/-- [f for k in range(n)], of draws -/
theorem sat_lcR {S : Type} {fe : Env → M S D} {n : Int} {i : Nat} {ρ : Env} {vs : List Nat} {Q : D → Prop} (h0 : 0 ≤ n) (h1 : n ≤ 1000000) (hb : ∀ k : Int, 0 ≤ k → k < n → Sat (fe ((wipeD ρ vs).set i (some (.int k)))) Q) :
    Sat (bnd (if -(2 ^ 62) ≤ n ∧ n < 2 ^ 62 then ret (rng 0 n) else stk) fun ds => if ds.length ≤ sizeLine then bnd (nox (cmpF (gSet i) yes fe (wipeD ρ vs) ds)) fun ys => ret (.lst ys) else stk : M S D) fun d => ∃ ys, d = .lst ys ∧ ys.length = n.toNat ∧ ∀ y ∈ ys, Q y := by
  have hl : (rng 0 n).length = n.toNat := by unfold rng; rw [List.length_map, List.length_range, Int.sub_zero]
  · rw [if_pos ⟨by omega, by omega⟩, bnd_ret, if_pos (by rw [hl]; exact Nat.le_trans (show n.toNat ≤ 1000000 by omega) (by decide))]
    refine sat_bnd (sat_nox (sat_cmp (Q := Q) fun d hd => ?_)) fun ys hys => sat_ret ⟨ys, rfl, hys.1.trans hl, hys.2⟩
    unfold rng at hd
    obtain ⟨k, hk, rfl⟩ := List.mem_map.mp hd
    rw [List.mem_range] at hk
    exact ⟨_, rfl, hb _ (by omega) (by omega)⟩
end DL

namespace Law
open PySem L2 DL
def top (i : Nat) : Stmt := PySem.Challenge.pw_evenback_k02_names_and_periods_judged.main.body.getD i (.Pass ⟨0, 0, 0, 0⟩)
-- printed by gen.py
abbrev s_is_name : Stmt := top 5
abbrev N_is_name : List Str := ["thing", "sign"]
theorem sc_is_name : FnScope N_is_name ["thing"] (defScope s_is_name) := ⟨rfl, rfl, rfl, by decide +kernel, rfl, by decide +kernel, by decide +kernel⟩
abbrev s_is_integer : Stmt := top 6
abbrev N_is_integer : List Str := ["thing"]
theorem sc_is_integer : FnScope N_is_integer ["thing"] (defScope s_is_integer) := ⟨rfl, rfl, rfl, by decide +kernel, rfl, by decide +kernel, by decide +kernel⟩
abbrev s_is_between : Stmt := top 7
abbrev N_is_between : List Str := ["thing", "low", "high"]
theorem sc_is_between : FnScope N_is_between ["thing", "low", "high"] (defScope s_is_between) := ⟨rfl, rfl, rfl, by decide +kernel, rfl, by decide +kernel, by decide +kernel⟩
abbrev s_is_period : Stmt := top 8
abbrev N_is_period : List Str := ["thing"]
theorem sc_is_period : FnScope N_is_period ["thing"] (defScope s_is_period) := ⟨rfl, rfl, rfl, by decide +kernel, rfl, by decide +kernel, by decide +kernel⟩
abbrev s_law_state : Stmt := top 10
abbrev N_law_state : List Str := ["_law_script", "_law_cell"]
theorem sc_law_state : FnScope N_law_state ["_law_script"] (defScope s_law_state) := ⟨rfl, rfl, rfl, by decide +kernel, rfl, by decide +kernel, by decide +kernel⟩
abbrev s_law_draw : Stmt := top 11
abbrev N_law_draw : List Str := ["_law_draws", "_law_many", "_law_cells", "_law_spot", "_law_cell", "_law_mixed"]
theorem sc_law_draw : FnScope N_law_draw ["_law_draws", "_law_many"] (defScope s_law_draw) := ⟨rfl, rfl, rfl, by decide +kernel, rfl, by decide +kernel, by decide +kernel⟩
abbrev s_law_pick : Stmt := top 12
abbrev N_law_pick : List Str := ["_law_draws", "_law_some"]
theorem sc_law_pick : FnScope N_law_pick ["_law_draws", "_law_some"] (defScope s_law_pick) := ⟨rfl, rfl, rfl, by decide +kernel, rfl, by decide +kernel, by decide +kernel⟩
abbrev s_law_is_number : Stmt := top 13
abbrev N_law_is_number : List Str := ["_law_value", "_law_low", "_law_high"]
theorem sc_law_is_number : FnScope N_law_is_number ["_law_value", "_law_low", "_law_high"] (defScope s_law_is_number) := ⟨rfl, rfl, rfl, by decide +kernel, rfl, by decide +kernel, by decide +kernel⟩
abbrev s_law_is_name : Stmt := top 14
abbrev N_law_is_name : List Str := ["_law_value", "_law_sign"]
theorem sc_law_is_name : FnScope N_law_is_name ["_law_value"] (defScope s_law_is_name) := ⟨rfl, rfl, rfl, by decide +kernel, rfl, by decide +kernel, by decide +kernel⟩
abbrev s_law_string : Stmt := top 15
abbrev N_law_string : List Str := ["_law_draws", "_law_signs", "_law_k"]
theorem sc_law_string : FnScope N_law_string ["_law_draws"] (defScope s_law_string) := ⟨rfl, rfl, rfl, by decide +kernel, rfl, by decide +kernel, by decide +kernel⟩
abbrev s_law_any_value : Stmt := top 16
abbrev N_law_any_value : List Str := ["_law_draws", "_law_numbers", "_law_others"]
theorem sc_law_any_value : FnScope N_law_any_value ["_law_draws"] (defScope s_law_any_value) := ⟨rfl, rfl, rfl, by decide +kernel, rfl, by decide +kernel, by decide +kernel⟩
abbrev s_law : Stmt := top 17
abbrev N_law : List Str := ["_law_script", "_law_draws", "_law_turn", "_law_value", "_law_before", "_law_due"]
theorem sc_law : FnScope N_law ["_law_script"] (defScope s_law) := ⟨rfl, rfl, rfl, by decide +kernel, rfl, by decide +kernel, by decide +kernel⟩
structure Txt (K : PySem.W.Frag) (mg : Str → Option Value) : Prop where
  f_is_name : ∃ f fd, mg "is_name" = some (.ref f) ∧ Fun K "is_name" "is_name" s_is_name f fd
  f_is_integer : ∃ f fd, mg "is_integer" = some (.ref f) ∧ Fun K "is_integer" "is_integer" s_is_integer f fd
  f_is_between : ∃ f fd, mg "is_between" = some (.ref f) ∧ Fun K "is_between" "is_between" s_is_between f fd
  f_is_period : ∃ f fd, mg "is_period" = some (.ref f) ∧ Fun K "is_period" "is_period" s_is_period f fd
  f_law_state : ∃ f fd, mg "_law_state" = some (.ref f) ∧ Fun K "_law_state" "_law_state" s_law_state f fd
  f_law_draw : ∃ f fd, mg "_law_draw" = some (.ref f) ∧ Fun K "_law_draw" "_law_draw" s_law_draw f fd
  f_law_pick : ∃ f fd, mg "_law_pick" = some (.ref f) ∧ Fun K "_law_pick" "_law_pick" s_law_pick f fd
  f_law_is_number : ∃ f fd, mg "_law_is_number" = some (.ref f) ∧ Fun K "_law_is_number" "_law_is_number" s_law_is_number f fd
  f_law_is_name : ∃ f fd, mg "_law_is_name" = some (.ref f) ∧ Fun K "_law_is_name" "_law_is_name" s_law_is_name f fd
  f_law_string : ∃ f fd, mg "_law_string" = some (.ref f) ∧ Fun K "_law_string" "_law_string" s_law_string f fd
  f_law_any_value : ∃ f fd, mg "_law_any_value" = some (.ref f) ∧ Fun K "_law_any_value" "_law_any_value" s_law_any_value f fd
  f_law : ∃ f fd, mg "law" = some (.ref f) ∧ Fun K "law" "law" s_law f fd
  c_GREATEST_PERIOD : CstD K mg "GREATEST_PERIOD" (.int 60)
  c_LEAST_PERIOD : CstD K mg "LEAST_PERIOD" (.int 4)
  c_LETTERS : CstD K mg "LETTERS" (.str "abcdefghijklmnopqrstuvwxyz")
  c_MOST_LETTERS : CstD K mg "MOST_LETTERS" (.int 8)
  b_abs : mg "abs" = none
  b_all : mg "all" = none
  b_bool : mg "bool" = none
  b_int : mg "int" = none
  b_isinstance : mg "isinstance" = none
  b_len : mg "len" = none
  b_min : mg "min" = none
  b_range : mg "range" = none
  b_repr : mg "repr" = none
  b_str : mg "str" = none
section
variable {P : Program} {w : World} {K : PySem.W.Frag} {mg : Str → Option Value} {base : Heap}
theorem cal_law_draw (T : Txt K mg) : Callee P w K mg base "_law_draw" s_law_draw ["_law_draws", "_law_many"] 1 (SpD K mg Draw 2 false drawM) := by
  obtain ⟨f, fd, hf, F⟩ := T.f_law_draw
  have F' := F
  obtain ⟨oc, od, kV, doc, pm, an, cdv, ct, osl, rfl, lk, hcd⟩ := F.ex
  refine ⟨⟨f, _, hf, F', fnG_of lk hcd sc_law_draw (fun vs H Q E h => ?_) fun A outer s H vs Q E hgd hr hsp => ⟨tDraw K, ?_, tDraw_ok rfl rfl hsp⟩⟩, fun _ _ _ _ _ _ us hl => match us, hl with | [_, _], _ => rfl⟩
  · obtain ⟨_, _, _, _, _, h, _⟩ := h
    exact h
  · exact pss_cons (p_set 2 sc_law_draw.nd (p_ix (p_var 0) pe_int)) (pss_cons (p_set 3 sc_law_draw.nd (pe_op op_mod (p_int T.b_int (p_ix (p_var 0) pe_int)) (p_len T.b_len (p_var 2)))) (pss_cons (p_set 4 sc_law_draw.nd (p_ix (p_var 2) (p_var 3)))
      (pss_cons (ps_if (pt_cmpR op_ge (p_var 4) (pe_op op_pow pe_int pe_int) rfl) (pss_cons (ps_asg (pe_op op_fdiv (p_var 4) (p_var 1)) (pg_sub (p_var 2) (p_var 3) set_list)) (pss_cons (ps_ret (pe_op op_mod (p_int T.b_int (p_var 4)) (p_var 1))) pss_nil)) pss_nil)
      (pss_cons (ps_asg (pe_op op_add (p_ix (p_var 0) pe_int) pe_int) (pg_sub (p_var 0) pe_int set_list))
      (pss_cons (ps_asg (pe_op op_mod (p_int T.b_int (pe_op op_add (pe_op op_add (pe_op op_add (pe_op op_mul (p_ix (p_var 0) pe_int) pe_int) (p_var 4)) (pe_op op_mul pe_int (p_ix (p_var 0) pe_int))) pe_int)) pe_int) (pg_sub (p_var 0) pe_int set_list))
      (pss_cons (p_set 5 sc_law_draw.nd (pe_op op_mod (p_int T.b_int (pe_op op_mul (p_ix (p_var 0) pe_int) (p_ix (p_var 0) pe_int))) pe_int))
      (pss_cons (ps_ret (pe_op op_mod (p_int T.b_int (pe_op op_fdiv (p_var 5) pe_int)) (p_var 1))) pss_nil)))))))

abbrev m_law_draw := drawM
def b_is_name : DL.Env → M Unit (Fl × DL.Env) := sSeq (sIf (orr (nt (tru (o2 dIsi (vr 0) (cst (.ty "str"))))) (nt (tsb (chn dLe dLe (cst (.int 1)) (o1 dLen (vr 0)) (cst (.int 8)))))) (sRet (cst (.bl false))) (sNx))
    (sRet (o1 dAll (mCmp (iSeq (vr 0)) (gSet 1) (yes) (o2 dIn (vr 1) (cst (.str "abcdefghijklmnopqrstuvwxyz"))) [1])))
def m_is_name : List D → M Unit D := runB 2 b_is_name
theorem cal_is_name (T : Txt K mg) : Callee P w K mg base "is_name" s_is_name ["thing"] 1 (SpD K mg Pure 1 false m_is_name) := by
  obtain ⟨f, fd, hf, F⟩ := T.f_is_name
  exact ⟨⟨f, fd, hf, F, fn_mk (k := 0) F sc_is_name (fun h => by cases h) fun cdv A outer s H E md Z hmd AM tk => ⟨_,
    (dss_cons (ds_if (own' := []) (DW.dt (dw_or (dt_not (dt_tru AM (de_isi AM (by rfl) T.b_isinstance (de_var (i := 0)) (de_bty (by rfl) T.b_str (by decide +kernel))))) (dw_or1 (dt_not (dt_chain c_le c_le d_le d_le (de_int) (de_len AM (by rfl) T.b_len (de_var (i := 0))) (de_const AM T.c_MOST_LETTERS)))))) (dss_one (ds_ret (de_bl))) (dss_nil))
      (dss_one (ds_ret (de_all AM (by rfl) T.b_all (de_lc AM sc_is_name.nd (oc := [("sign", 1)]) (di_seq AM (de_var (i := 0))) (blkOk_by (own := [("sign", 1)]) (N := N_is_name) (sc := defScope s_is_name) (by decide +kernel)) (fun _ _ _ _ _ => dg_name (i := 1) sc_is_name.nd) (fun _ _ _ _ _ => dts_nil) (fun _ _ _ _ _ => DE.canon (de_in (AM.blk) (de_var (i := 1)) (de_const (AM.blk) T.c_LETTERS))))))))⟩⟩, fun _ _ _ _ _ _ us hl => match us, hl with | [_], _ => rfl⟩
def b_is_integer : DL.Env → M Unit (Fl × DL.Env) := sRet (anV (o2 dIsi (vr 0) (cst (.ty "int"))) (ntV (o2 dIsi (vr 0) (cst (.ty "bool")))))
def m_is_integer : List D → M Unit D := runB 1 b_is_integer
theorem cal_is_integer (T : Txt K mg) : Callee P w K mg base "is_integer" s_is_integer ["thing"] 1 (SpD K mg Pure 1 false m_is_integer) := by
  obtain ⟨f, fd, hf, F⟩ := T.f_is_integer
  exact ⟨⟨f, fd, hf, F, fn_mk (k := 0) F sc_is_integer (fun h => by cases h) fun cdv A outer s H E md Z hmd AM tk => ⟨_,
    (dss_one (ds_ret (de_and AM (de_isi AM (by rfl) T.b_isinstance (de_var (i := 0)) (de_bty (by rfl) T.b_int (by decide +kernel))) (de_one (de_not AM (de_isi AM (by rfl) T.b_isinstance (de_var (i := 0)) (de_bty (by rfl) T.b_bool (by decide +kernel))))))))⟩⟩, fun _ _ _ _ _ _ us hl => match us, hl with | [_], _ => rfl⟩
def b_is_between : DL.Env → M Unit (Fl × DL.Env) := sRet (anV (mCalP (aCons (vr 0) (aNil)) m_is_integer) (chn dLe dLe (vr 1) (vr 0) (vr 2)))
def m_is_between : List D → M Unit D := runB 3 b_is_between
theorem cal_is_between (T : Txt K mg) : Callee P w K mg base "is_between" s_is_between ["thing", "low", "high"] 2 (SpD K mg Pure 3 false m_is_between) := by
  have c_is_integer := cal_is_integer (P := P) (w := w) (base := base) T
  obtain ⟨f, fd, hf, F⟩ := T.f_is_between
  exact ⟨⟨f, fd, hf, F, fn_mk (k := 1) F sc_is_between (fun h => by cases h) fun cdv A outer s H E md Z hmd AM tk => ⟨_,
    (dss_one (ds_ret (de_and AM (de_callP (fr := false) AM tk c_is_integer (by decide) (da_cons (de_var (i := 0)) (da_nil)) (cnt_cons (cnt_nil))) (de_one (de_chain c_le c_le d_le d_le (de_var (i := 1)) (de_var (i := 0)) (de_var (i := 2)))))))⟩⟩, fun _ _ _ _ _ _ us hl => match us, hl with | [_, _, _], _ => rfl⟩
def b_is_period : DL.Env → M Unit (Fl × DL.Env) := sRet (anV (mCalP (aCons (vr 0) (aCons (cst (.int 4)) (aCons (cst (.int 60)) (aNil)))) m_is_between) (o2 dEq (o2 dMod (o1 dInt (vr 0)) (cst (.int 2))) (cst (.int 0))))
def m_is_period : List D → M Unit D := runB 1 b_is_period
theorem cal_is_period (T : Txt K mg) : Callee P w K mg base "is_period" s_is_period ["thing"] 3 (SpD K mg Pure 1 false m_is_period) := by
  have c_is_between := cal_is_between (P := P) (w := w) (base := base) T
  obtain ⟨f, fd, hf, F⟩ := T.f_is_period
  exact ⟨⟨f, fd, hf, F, fn_mk (k := 2) F sc_is_period (fun h => by cases h) fun cdv A outer s H E md Z hmd AM tk => ⟨_,
    (dss_one (ds_ret (de_and AM (de_callP (fr := false) AM tk c_is_between (by decide) (da_cons (de_var (i := 0)) (da_cons (de_const AM T.c_LEAST_PERIOD) (da_cons (de_const AM T.c_GREATEST_PERIOD) (da_nil)))) (cnt_cons (cnt_cons (cnt_cons (cnt_nil))))) (de_one (de_cmp (op_eqX AM) (d_eq AM.K) (de_mod (de_toint (by rfl) T.b_int (de_var (i := 0))) (de_int)) (de_int) (nomark _))))))⟩⟩, fun _ _ _ _ _ _ us hl => match us, hl with | [_], _ => rfl⟩
def b_law_state : DL.Env → M Unit (Fl × DL.Env) := sRet (mLst (aCons (orV (mCmp (iSeq (slc dSlcL (vr 0) (pNone) (pSome (cst (.int 63))))) (gSet 1) (yes) (o1 dAbs (vr 1)) [1]) (mLst (aCons (cst (.int 1)) (aNil)))) (aCons (cst (.int 0)) (aCons (cst (.int 1)) (aNil)))))
def m_law_state : List D → M Unit D := runB 2 b_law_state
theorem cal_law_state (T : Txt K mg) : Callee P w K mg base "_law_state" s_law_state ["_law_script"] 1 (SpD K mg Pure 1 true m_law_state) := by
  obtain ⟨f, fd, hf, F⟩ := T.f_law_state
  exact ⟨⟨f, fd, hf, F, fn_mk (k := 0) F sc_law_state (fun _ => nx_ret) fun cdv A outer s H E md Z hmd AM tk => ⟨_,
    (dss_one (ds_retF (de_lst (da_cons (de_or AM (DE.frz (de_lc AM sc_law_state.nd (oc := [("_law_cell", 1)]) (di_seq AM (DE.frz (de_slcL AM (de_var (i := 0)) (dp_none) (dp_some (de_int))))) (blkOk_by (own := [("_law_cell", 1)]) (N := N_law_state) (sc := defScope s_law_state) (by decide +kernel)) (fun _ _ _ _ _ => dg_name (i := 1) sc_law_state.nd) (fun _ _ _ _ _ => dts_nil) (fun _ _ _ _ _ => DE.canon (de_abs (by rfl) T.b_abs (de_var (i := 1)))))) (de_one (DE.frz (de_lst (da_cons (de_int) (da_nil)) (cnt_cons (cnt_nil)))))) (da_cons (de_int) (da_cons (de_int) (da_nil)))) (cnt_cons (cnt_cons (cnt_cons (cnt_nil)))))))⟩⟩, fun _ _ _ _ _ _ us hl => match us, hl with | [_], _ => rfl⟩
def b_law_pick : DL.Env → M DrS (Fl × DL.Env) := sRet (o2 dSubs (vr 1) (mCal (aCons (vr 0) (aCons (o1 dLen (vr 1)) (aNil))) m_law_draw))
def m_law_pick : List D → M DrS D := runB 2 b_law_pick
theorem cal_law_pick (T : Txt K mg) : Callee P w K mg base "_law_pick" s_law_pick ["_law_draws", "_law_some"] 2 (SpD K mg Draw 2 false m_law_pick) := by
  have c_law_draw := cal_law_draw (P := P) (w := w) (base := base) T
  obtain ⟨f, fd, hf, F⟩ := T.f_law_pick
  exact ⟨⟨f, fd, hf, F, fn_mk (k := 1) F sc_law_pick (fun h => by cases h) fun cdv A outer s H E md Z hmd AM tk => ⟨_,
    (dss_one (ds_ret (de_subs AM (de_var (i := 1)) (de_call (fr := false) AM tk c_law_draw (by decide) hmd (da_cons (de_var (i := 0)) (da_cons (de_len AM (by rfl) T.b_len (de_var (i := 1))) (da_nil))) (cnt_cons (cnt_cons (cnt_nil)))))))⟩⟩, fun _ _ _ _ _ _ us hl => match us, hl with | [_, _], _ => rfl⟩
def b_law_is_number : DL.Env → M Unit (Fl × DL.Env) := sRet (anV (o2 dIsi (vr 0) (cst (.ty "int"))) (anV (ntV (o2 dIsi (vr 0) (cst (.ty "bool")))) (chn dLe dLe (vr 1) (vr 0) (vr 2))))
def m_law_is_number : List D → M Unit D := runB 3 b_law_is_number
theorem cal_law_is_number (T : Txt K mg) : Callee P w K mg base "_law_is_number" s_law_is_number ["_law_value", "_law_low", "_law_high"] 1 (SpD K mg Pure 3 false m_law_is_number) := by
  obtain ⟨f, fd, hf, F⟩ := T.f_law_is_number
  exact ⟨⟨f, fd, hf, F, fn_mk (k := 0) F sc_law_is_number (fun h => by cases h) fun cdv A outer s H E md Z hmd AM tk => ⟨_,
    (dss_one (ds_ret (de_and AM (de_isi AM (by rfl) T.b_isinstance (de_var (i := 0)) (de_bty (by rfl) T.b_int (by decide +kernel))) (de_and AM (de_not AM (de_isi AM (by rfl) T.b_isinstance (de_var (i := 0)) (de_bty (by rfl) T.b_bool (by decide +kernel)))) (de_one (de_chain c_le c_le d_le d_le (de_var (i := 1)) (de_var (i := 0)) (de_var (i := 2))))))))⟩⟩, fun _ _ _ _ _ _ us hl => match us, hl with | [_, _, _], _ => rfl⟩
def b_law_is_name : DL.Env → M Unit (Fl × DL.Env) := sSeq (sIf (orr (nt (tru (o2 dIsi (vr 0) (cst (.ty "str"))))) (nt (tsb (chn dLe dLe (cst (.int 1)) (o1 dLen (vr 0)) (cst (.int 8)))))) (sRet (cst (.bl false))) (sNx))
    (sRet (o2 dEq (mCmp (iSeq (vr 0)) (gSet 1) (tsb (o2 dNotIn (vr 1) (cst (.str "abcdefghijklmnopqrstuvwxyz")))) (vr 1) [1]) (mLst (aNil))))
def m_law_is_name : List D → M Unit D := runB 2 b_law_is_name
theorem cal_law_is_name (T : Txt K mg) : Callee P w K mg base "_law_is_name" s_law_is_name ["_law_value"] 1 (SpD K mg Pure 1 false m_law_is_name) := by
  obtain ⟨f, fd, hf, F⟩ := T.f_law_is_name
  exact ⟨⟨f, fd, hf, F, fn_mk (k := 0) F sc_law_is_name (fun h => by cases h) fun cdv A outer s H E md Z hmd AM tk => ⟨_,
    (dss_cons (ds_if (own' := []) (DW.dt (dw_or (dt_not (dt_tru AM (de_isi AM (by rfl) T.b_isinstance (de_var (i := 0)) (de_bty (by rfl) T.b_str (by decide +kernel))))) (dw_or1 (dt_not (dt_chain c_le c_le d_le d_le (de_int) (de_len AM (by rfl) T.b_len (de_var (i := 0))) (de_int)))))) (dss_one (ds_ret (de_bl))) (dss_nil))
      (dss_one (ds_ret (de_cmp (op_eqX AM) (d_eq AM.K) (de_lc AM sc_law_is_name.nd (oc := [("_law_sign", 1)]) (di_seq AM (de_var (i := 0))) (blkOk_by (own := [("_law_sign", 1)]) (N := N_law_is_name) (sc := defScope s_law_is_name) (by decide +kernel)) (fun _ _ _ _ _ => dg_name (i := 1) sc_law_is_name.nd) (fun _ _ _ _ _ => dts_one (DT.canon (dt_notin (AM.blk) (de_var (i := 1)) (de_str)))) (fun _ _ _ _ _ => DE.canon (de_var (i := 1)))) (de_lst (da_nil) (cnt_nil)) (nomark _)))))⟩⟩, fun _ _ _ _ _ _ us hl => match us, hl with | [_], _ => rfl⟩
def b_law_string : DL.Env → M DrS (Fl × DL.Env) := sSeq (sSet 1 (o2 dAdd (o2 dMulS (cst (.str "abcxyz")) (cst (.int 6))) (cst (.str "A1 -"))))
    (sRet (joi (cst (.str "")) (mCmp (iRg1 (mCal (aCons (vr 0) (aCons (cst (.int 10)) (aNil))) m_law_draw)) (gSet 2) (yes) (mCal (aCons (vr 0) (aCons (vr 1) (aNil))) m_law_pick) [2])))
def m_law_string : List D → M DrS D := runB 3 b_law_string
theorem cal_law_string (T : Txt K mg) : Callee P w K mg base "_law_string" s_law_string ["_law_draws"] 3 (SpD K mg Draw 1 false m_law_string) := by
  have c_law_draw := cal_law_draw (P := P) (w := w) (base := base) T
  have c_law_pick := cal_law_pick (P := P) (w := w) (base := base) T
  obtain ⟨f, fd, hf, F⟩ := T.f_law_string
  exact ⟨⟨f, fd, hf, F, fn_mk (k := 2) F sc_law_string (fun h => by cases h) fun cdv A outer s H E md Z hmd AM tk => ⟨_,
    (dss_cons (DS.to (own' := []) (ds_set (i := 1) sc_law_string.nd (de_add AM.K (de_mulS (de_str) (de_int)) (de_str))))
      (dss_one (ds_ret (de_join (de_str) (de_lc AM sc_law_string.nd (oc := [("_law_k", 2)]) (di_rng1 (by rfl) T.b_range (de_call (fr := false) AM tk c_law_draw (by decide) hmd (da_cons (de_var (i := 0)) (da_cons (de_int) (da_nil))) (cnt_cons (cnt_cons (cnt_nil))))) (blkOk_by (own := [("_law_k", 2)]) (N := N_law_string) (sc := defScope s_law_string) (by decide +kernel)) (fun _ _ _ _ _ => dg_name (i := 2) sc_law_string.nd) (fun _ _ _ _ _ => dts_nil) (fun _ _ _ _ _ => DE.canon (de_call (fr := false) (AM.blk) takesN c_law_pick (by decide) hmd (da_cons (de_var (i := 0)) (da_cons (de_var (i := 1)) (da_nil))) (cnt_cons (cnt_cons (cnt_nil))))))))))⟩⟩, fun _ _ _ _ _ _ us hl => match us, hl with | [_], _ => rfl⟩
def b_law_any_value : DL.Env → M DrS (Fl × DL.Env) := sSeq (sSet 1 (mLst (aCons (o2 dSub (mCal (aCons (vr 0) (aCons (cst (.int 73)) (aNil))) m_law_draw) (cst (.int 2))) (aCons (o2 dPow (cst (.int 10)) (cst (.int 9))) (aCons (o2 dPow (cst (.int 10)) (cst (.int 64))) (aCons (o1 dNeg (cst (.int 4))) (aNil)))))))
    (sSeq (sSet 2 (mLst (aCons (cst .non) (aCons (cst (.bl true)) (aCons (cst (.bl false)) (aCons (mTup (aNil)) (aCons (mLst (aNil)) (aCons (mDnew) (aCons (mTup (aCons (cst (.int 4)) (aNil))) (aCons (mLst (aCons (cst (.str "a")) (aNil))) (aCons (mTup (aCons (cst (.str "a")) (aNil))) (aCons (mDisp (ppCons (cst (.str "a")) (cst (.int 4)) (ppNil))) (aCons (cst (.str "4")) (aCons (o2 dMulS (cst (.str "a")) (cst (.int 8))) (aCons (o2 dMulS (cst (.str "a")) (cst (.int 9))) (aNil))))))))))))))))
    (sRet (mCal (aCons (vr 0) (aCons (mLst (aCons (mCal (aCons (vr 0) (aNil)) m_law_string) (aCons (mCal (aCons (vr 0) (aCons (vr 1) (aNil))) m_law_pick) (aCons (mCal (aCons (vr 0) (aCons (vr 2) (aNil))) m_law_pick) (aNil))))) (aNil))) m_law_pick)))
def m_law_any_value : List D → M DrS D := runB 3 b_law_any_value
theorem cal_law_any_value (T : Txt K mg) : Callee P w K mg base "_law_any_value" s_law_any_value ["_law_draws"] 4 (SpD K mg Draw 1 false m_law_any_value) := by
  have c_law_draw := cal_law_draw (P := P) (w := w) (base := base) T
  have c_law_pick := cal_law_pick (P := P) (w := w) (base := base) T
  have c_law_string := cal_law_string (P := P) (w := w) (base := base) T
  obtain ⟨f, fd, hf, F⟩ := T.f_law_any_value
  exact ⟨⟨f, fd, hf, F, fn_mk (k := 3) F sc_law_any_value (fun h => by cases h) fun cdv A outer s H E md Z hmd AM tk => ⟨_,
    (dss_cons (DS.to (own' := []) (ds_set (i := 1) sc_law_any_value.nd (DE.frz (de_lst (da_cons (de_sub (de_call (fr := false) AM tk c_law_draw (by decide) hmd (da_cons (de_var (i := 0)) (da_cons (de_int) (da_nil))) (cnt_cons (cnt_cons (cnt_nil)))) (de_int)) (da_cons (de_pow (de_int) (de_int)) (da_cons (de_pow (de_int) (de_int)) (da_cons (de_neg (de_int)) (da_nil))))) (cnt_cons (cnt_cons (cnt_cons (cnt_cons (cnt_nil)))))))))
      (dss_cons (DS.to (own' := []) (ds_set (i := 2) sc_law_any_value.nd (DE.frz (de_lst (da_cons (de_non) (da_cons (de_bl) (da_cons (de_bl) (da_cons (de_tup (da_nil) (cnt_nil)) (da_cons (DE.frz (de_lst (da_nil) (cnt_nil))) (da_cons (DE.frz (de_dnew)) (da_cons (de_tup (da_cons (de_int) (da_nil)) (cnt_cons (cnt_nil))) (da_cons (DE.frz (de_lst (da_cons (de_str) (da_nil)) (cnt_cons (cnt_nil)))) (da_cons (de_tup (da_cons (de_str) (da_nil)) (cnt_cons (cnt_nil))) (da_cons (DE.frz (de_disp (dpp_cons (de_str) (de_int) (dpp_nil)))) (da_cons (de_str) (da_cons (de_mulS (de_str) (de_int)) (da_cons (de_mulS (de_str) (de_int)) (da_nil)))))))))))))) (cnt_cons (cnt_cons (cnt_cons (cnt_cons (cnt_cons (cnt_cons (cnt_cons (cnt_cons (cnt_cons (cnt_cons (cnt_cons (cnt_cons (cnt_cons (cnt_nil))))))))))))))))))
      (dss_one (ds_ret (de_call (fr := false) AM tk c_law_pick (by decide) hmd (da_cons (de_var (i := 0)) (da_cons (DE.frz (de_lst (da_cons (de_call (fr := false) AM tk c_law_string (by decide) hmd (da_cons (de_var (i := 0)) (da_nil)) (cnt_cons (cnt_nil))) (da_cons (de_call (fr := false) AM tk c_law_pick (by decide) hmd (da_cons (de_var (i := 0)) (da_cons (de_var (i := 1)) (da_nil))) (cnt_cons (cnt_cons (cnt_nil)))) (da_cons (de_call (fr := false) AM tk c_law_pick (by decide) hmd (da_cons (de_var (i := 0)) (da_cons (de_var (i := 2)) (da_nil))) (cnt_cons (cnt_cons (cnt_nil)))) (da_nil)))) (cnt_cons (cnt_cons (cnt_cons (cnt_nil)))))) (da_nil))) (cnt_cons (cnt_cons (cnt_nil))))))))⟩⟩, fun _ _ _ _ _ _ us hl => match us, hl with | [_], _ => rfl⟩
def b_law : DL.Env → M DrS (Fl × DL.Env) := sSeq (sFor (iRg1 (o2 dAdd (cst (.int 20)) (o2 dMin2 (o1 dLen (vr 0)) (cst (.int 40))))) (gSet 2) (sSeq (sSet 3 (mCal (aCons (vr 1) (aNil)) m_law_any_value))
    (sSeq (sSet 4 (o1 dRepr (vr 3)))
    (sSeq (sSet 5 (mLst (aCons (mCalP (aCons (vr 3) (aNil)) m_law_is_name) (aCons (anV (mCalP (aCons (vr 3) (aCons (cst (.int 4)) (aCons (cst (.int 60)) (aNil)))) m_law_is_number) (o2 dEq (o2 dMod (o1 dInt (vr 3)) (cst (.int 2))) (cst (.int 0)))) (aNil)))))
    (sSeq (sIf (tsb (o2 dNe (o1 dRepr (mLst (aCons (mCalP (aCons (vr 3) (aNil)) m_is_name) (aCons (mCalP (aCons (vr 3) (aNil)) m_is_period) (aNil))))) (o1 dRepr (vr 5)))) (sRet (cst (.bl false))) (sNx))
    (sIf (orr (tsb (o2 dNe (o1 dRepr (mLst (aCons (mCalKP [0] (aCons (vr 3) (aNil)) m_is_name) (aCons (mCalKP [0] (aCons (vr 3) (aNil)) m_is_period) (aNil))))) (o1 dRepr (vr 5)))) (tsb (o2 dNe (o1 dRepr (vr 3)) (vr 4)))) (sRet (cst (.bl false))) (sNx)))))))
    (sRet (cst (.bl true)))
theorem law_fn (T : Txt K mg) {fa : Addr} (hfa : mg "law" = some (.ref fa)) (hm : ∀ (ns : List Int) (s : DrS), ns.length ≤ 63 → ∃ ρ' s', b_law (some (.scr ns) :: some .drw :: List.replicate 4 none) s = some (.ok (.rt (.bl true), ρ'), s')) :
    ∃ fd : FuncData, (∀ (s : Shared) (u : Value), BindsTo s fd ⟨[u], []⟩ [("_law_script", u)]) ∧ ∀ base : Heap, FnG P w K mg base 5 fa fd ["_law_script"] (spLaw K) := by
  obtain ⟨f, fd, hf, F⟩ := T.f_law
  cases hfa.symm.trans hf
  have F' := F
  obtain ⟨oc, od, kV, doc, pm, an, cdv, ct, osl, rfl, lk, hcd⟩ := F.ex
  refine ⟨PySem.W.fnOf "law" "law" (defArgs s_law) (defBody s_law) (defScope s_law) .none kV doc pm an cdv ct, fun s u => .of_eq rfl, fun base => ?_⟩
  have c_is_name := cal_is_name (P := P) (w := w) (base := base) T
  have c_is_period := cal_is_period (P := P) (w := w) (base := base) T
  have c_law_state := cal_law_state (P := P) (w := w) (base := base) T
  have c_law_is_number := cal_law_is_number (P := P) (w := w) (base := base) T
  have c_law_is_name := cal_law_is_name (P := P) (w := w) (base := base) T
  have c_law_any_value := cal_law_any_value (P := P) (w := w) (base := base) T
  exact law_mk (k := 4) (N := N_law) (mst := m_law_state) F' sc_law rfl (by decide) st_ok (fun cdv A outer s H E AM tk => p_set 1 sc_law.nd (pe_callG AM tk c_law_state (by decide) (by rfl) (pa_cons (p_var 0) pa_nil))) (fun cdv A outer s H E md Z H0 hmd AM tk => ⟨_,
    (dss_cons (ds_for AM (di_rng1 (by rfl) T.b_range (de_add AM.K (de_int) (de_min2 AM (by rfl) T.b_min (de_len AM (by rfl) T.b_len (de_var (i := 0))) (de_int)))) (dg_name (i := 2) sc_law.nd) (dss_cons (DS.to (own' := []) (ds_set (i := 3) sc_law.nd (de_call (fr := false) AM tk c_law_any_value (by decide) hmd (da_cons (de_var (i := 1)) (da_nil)) (cnt_cons (cnt_nil)))))
      (dss_cons (DS.to (own' := []) (ds_set (i := 4) sc_law.nd (de_repr AM (by rfl) T.b_repr (de_var (i := 3)))))
      (dss_cons (DS.to (own' := []) (ds_set (i := 5) sc_law.nd (DE.frz (de_lst (da_cons (de_callP (fr := false) AM tk c_law_is_name (by decide) (da_cons (de_var (i := 3)) (da_nil)) (cnt_cons (cnt_nil))) (da_cons (de_and AM (de_callP (fr := false) AM tk c_law_is_number (by decide) (da_cons (de_var (i := 3)) (da_cons (de_int) (da_cons (de_int) (da_nil)))) (cnt_cons (cnt_cons (cnt_cons (cnt_nil))))) (de_one (de_cmp (op_eqX AM) (d_eq AM.K) (de_mod (de_toint (by rfl) T.b_int (de_var (i := 3))) (de_int)) (de_int) (nomark _)))) (da_nil))) (cnt_cons (cnt_cons (cnt_nil)))))))
      (dss_cons (ds_if (own' := []) (dt_cmp (op_neX AM) (d_ne AM.K) (de_repr AM (by rfl) T.b_repr (de_lst (da_cons (de_callP (fr := false) AM tk c_is_name (by decide) (da_cons (de_var (i := 3)) (da_nil)) (cnt_cons (cnt_nil))) (da_cons (de_callP (fr := false) AM tk c_is_period (by decide) (da_cons (de_var (i := 3)) (da_nil)) (cnt_cons (cnt_nil))) (da_nil))) (cnt_cons (cnt_cons (cnt_nil))))) (de_repr AM (by rfl) T.b_repr (de_var (i := 5))) (nomark _)) (dss_one (ds_ret (de_bl))) (dss_nil))
      (dss_one (ds_if (own' := []) (DW.dt (dw_or (dt_cmp (op_neX AM) (d_ne AM.K) (de_repr AM (by rfl) T.b_repr (de_lst (da_cons (de_callKP (fr := false) (ks := ["thing"]) (pm := [0]) AM tk c_is_name (by decide) (dk_cons (de_var (i := 3)) (dk_nil)) (cnt_cons (cnt_nil)) (fun _ _ _ _ _ _ us hl => match us, hl with | [_], _ => rfl) (fun us hl => match us, hl with | [_], _ => rfl)) (da_cons (de_callKP (fr := false) (ks := ["thing"]) (pm := [0]) AM tk c_is_period (by decide) (dk_cons (de_var (i := 3)) (dk_nil)) (cnt_cons (cnt_nil)) (fun _ _ _ _ _ _ us hl => match us, hl with | [_], _ => rfl) (fun us hl => match us, hl with | [_], _ => rfl)) (da_nil))) (cnt_cons (cnt_cons (cnt_nil))))) (de_repr AM (by rfl) T.b_repr (de_var (i := 5))) (nomark _)) (dw_or1 (dt_cmp (op_neX AM) (d_ne AM.K) (de_repr AM (by rfl) T.b_repr (de_var (i := 3))) (de_var (i := 4)) (nomark _))))) (dss_one (ds_ret (de_bl))) (dss_nil))))))))
      (dss_one (ds_ret (de_bl))))⟩) hm
end
end Law

namespace Law
open PySem L2 DL
/-! ### plain law -/
def letters : Str := "abcdefghijklmnopqrstuvwxyz"
def nameOk (x : Str) : Bool := decide (1 ≤ (x.length : Int)) && decide ((x.length : Int) ≤ 8) && x.cps.toList.all fun c => decide (c ∈ letters.cps.toList)
def signs (x : Str) : List D := x.cps.toList.map fun c => .str ⟨#[c]⟩
theorem in_letters (c : Nat) : dInB (.str ⟨#[c]⟩) (.str letters) = some (decide (c ∈ letters.cps.toList)) := rfl
theorem bls_map {α : Type} (f : α → Bool) : ∀ l : List α, bls (l.map fun a => D.bl (f a)) = some (l.map f)
  | [] => rfl
  | a :: l => by
    show (bls (l.map fun a => D.bl (f a))).map (f a :: ·) = _
    rw [bls_map f l]
    rfl
theorem name_str {x : Str} (hl : x.length ≤ 100000) : m_is_name [.str x] = DL.ret (.bl (nameOk x)) := by
  have hz : x.length ≤ sizeLine := Nat.le_trans hl (by decide)
  have hx : x.cps.toList.length = x.length := Array.length_toList
  have h1 : dIsi (.str x) (.ty "str") = some (.bl true) := by
    show (isTy "str" "str").map D.bl = _
    rw [show isTy "str" "str" = some true from by decide +kernel]
    rfl
  unfold m_is_name
  rw [runB_eq]
  simp only [b_is_name, sSeq, sIf, sSet, sRet, sNx, sRetN, mLst, mTup, mDnew, mDisp, ppCons, ppNil, o1, o2, vr, cst, mCal, mCalP, mCalKP, pick, aCons, aNil, anV, orV, ntV, tsb, tru, nt, an, orr, ife, chn, joi, asB, asS, asI, List.map_cons, List.map_nil, List.cons_append, List.nil_append, List.length_cons, List.length_nil, List.getElem?_cons_succ, List.getElem?_cons_zero, List.set_cons_zero, List.set_cons_succ, List.filterMap_cons, List.filterMap_nil, bnd_ret, lft_some, lft_none, pur_ret, bnd_assoc, bnd_stk, List.replicate_succ, List.replicate_zero, Nat.reduceAdd, Nat.reduceSub, h1, dTru, Bool.not_true, dLen, if_pos hz, dLe, Option.bind_some, asB]
  by_cases c1 : (1 : Int) ≤ x.length
  · by_cases c2 : (x.length : Int) ≤ 8
    · simp only [decide_eq_true c1, decide_eq_true c2, sSeq, sIf, sSet, sRet, sNx, sRetN, mLst, mTup, mDnew, mDisp, ppCons, ppNil, o1, o2, vr, cst, mCal, mCalP, mCalKP, pick, aCons, aNil, anV, orV, ntV, tsb, tru, nt, an, orr, ife, chn, joi, asB, asS, asI, List.map_cons, List.map_nil, List.cons_append, List.nil_append, List.length_cons, List.length_nil, List.getElem?_cons_succ, List.getElem?_cons_zero, List.set_cons_zero, List.set_cons_succ, List.filterMap_cons, List.filterMap_nil, bnd_ret, lft_some, lft_none, pur_ret, bnd_assoc, bnd_stk, List.replicate_succ, List.replicate_zero, Nat.reduceAdd, Nat.reduceSub, asB, Bool.false_eq_true, if_false, Bool.not_true]
      have : mCmp (iSeq (vr 0)) (gSet 1) yes (o2 dIn (vr 1) (cst (D.str letters))) [1] [some (D.str x), none] = (DL.ret (.lst (x.cps.toList.map fun c => D.bl (decide (c ∈ letters.cps.toList)))) : M Unit D) := by
        unfold mCmp iSeq
        simp only [sSeq, sIf, sSet, sRet, sNx, sRetN, mLst, mTup, mDnew, mDisp, ppCons, ppNil, o1, o2, vr, cst, mCal, mCalP, mCalKP, pick, aCons, aNil, anV, orV, ntV, tsb, tru, nt, an, orr, ife, chn, joi, asB, asS, asI, List.map_cons, List.map_nil, List.cons_append, List.nil_append, List.length_cons, List.length_nil, List.getElem?_cons_succ, List.getElem?_cons_zero, List.set_cons_zero, List.set_cons_succ, List.filterMap_cons, List.filterMap_nil, bnd_ret, lft_some, lft_none, pur_ret, bnd_assoc, bnd_stk, List.replicate_succ, List.replicate_zero, Nat.reduceAdd, Nat.reduceSub]
        rw [if_pos (by rw [List.length_map, hx]; exact hz), cmpF_eq (p := fun _ => true) (g := fun d => (dIn d (.str letters)).getD .non)]
        · rw [nox_ret, bnd_ret, List.filter_eq_self.mpr (by simp), List.map_map]
          rfl
        · intro d hd
          obtain ⟨c, _, rfl⟩ := List.mem_map.mp hd
          exact ⟨_, rfl, rfl, fun _ => rfl⟩
      show bnd (mCmp (iSeq (vr 0)) (gSet 1) yes (o2 dIn (vr 1) (cst (D.str letters))) [1] [some (D.str x), none]) _ = _
      rw [this, bnd_ret]
      have h2 : dAll (.lst (x.cps.toList.map fun c => D.bl (decide (c ∈ letters.cps.toList)))) = some (.bl (nameOk x)) := by
        show (bls _).map _ = _
        rw [bls_map, Option.map_some]
        unfold nameOk
        rw [decide_eq_true c1, decide_eq_true c2, List.all_map]
        rfl
      rw [h2]
      rfl
    · simp only [decide_eq_true c1, decide_eq_false c2, sSeq, sIf, sSet, sRet, sNx, sRetN, mLst, mTup, mDnew, mDisp, ppCons, ppNil, o1, o2, vr, cst, mCal, mCalP, mCalKP, pick, aCons, aNil, anV, orV, ntV, tsb, tru, nt, an, orr, ife, chn, joi, asB, asS, asI, List.map_cons, List.map_nil, List.cons_append, List.nil_append, List.length_cons, List.length_nil, List.getElem?_cons_succ, List.getElem?_cons_zero, List.set_cons_zero, List.set_cons_succ, List.filterMap_cons, List.filterMap_nil, bnd_ret, lft_some, lft_none, pur_ret, bnd_assoc, bnd_stk, List.replicate_succ, List.replicate_zero, Nat.reduceAdd, Nat.reduceSub, asB, Bool.false_eq_true, if_false, Bool.not_false, if_true]
      unfold nameOk
      rw [decide_eq_false c2, Bool.and_false, Bool.false_and]
  · simp only [decide_eq_false c1, sSeq, sIf, sSet, sRet, sNx, sRetN, mLst, mTup, mDnew, mDisp, ppCons, ppNil, o1, o2, vr, cst, mCal, mCalP, mCalKP, pick, aCons, aNil, anV, orV, ntV, tsb, tru, nt, an, orr, ife, chn, joi, asB, asS, asI, List.map_cons, List.map_nil, List.cons_append, List.nil_append, List.length_cons, List.length_nil, List.getElem?_cons_succ, List.getElem?_cons_zero, List.set_cons_zero, List.set_cons_succ, List.filterMap_cons, List.filterMap_nil, bnd_ret, lft_some, lft_none, pur_ret, bnd_assoc, bnd_stk, List.replicate_succ, List.replicate_zero, Nat.reduceAdd, Nat.reduceSub, asB, Bool.false_eq_true, if_false, Bool.not_false, if_true]
    unfold nameOk
    rw [decide_eq_false c1, Bool.false_and, Bool.false_and]
theorem toPys_strs : ∀ l : List Nat, toPys (l.map fun c => D.str ⟨#[c]⟩) = some (l.map fun c => PyData.str ⟨#[c]⟩)
  | [] => rfl
  | c :: l => by
    show (match toPy (D.str ⟨#[c]⟩), toPys (l.map fun c => D.str ⟨#[c]⟩) with | some x, some xs => some (x :: xs) | _, _ => none) = _
    rw [toPys_strs l]
    rfl
theorem lawname_str {x : Str} (hl : x.length ≤ 100000) (hc : ∀ c ∈ x.cps.toList, c < 0x110000) : m_law_is_name [.str x] = DL.ret (.bl (nameOk x)) := by
  have hz : x.length ≤ sizeLine := Nat.le_trans hl (by decide)
  have hx : x.cps.toList.length = x.length := Array.length_toList
  have h1 : dIsi (.str x) (.ty "str") = some (.bl true) := by
    show (isTy "str" "str").map D.bl = _
    rw [show isTy "str" "str" = some true from by decide +kernel]
    rfl
  unfold m_law_is_name
  rw [runB_eq]
  simp only [b_law_is_name, sSeq, sIf, sSet, sRet, sNx, sRetN, mLst, mTup, mDnew, mDisp, ppCons, ppNil, o1, o2, vr, cst, mCal, mCalP, mCalKP, pick, aCons, aNil, anV, orV, ntV, tsb, tru, nt, an, orr, ife, chn, joi, asB, asS, asI, List.map_cons, List.map_nil, List.cons_append, List.nil_append, List.length_cons, List.length_nil, List.getElem?_cons_succ, List.getElem?_cons_zero, List.set_cons_zero, List.set_cons_succ, List.filterMap_cons, List.filterMap_nil, bnd_ret, lft_some, lft_none, pur_ret, bnd_assoc, bnd_stk, List.replicate_succ, List.replicate_zero, Nat.reduceAdd, Nat.reduceSub, h1, dTru, Bool.not_true, dLen, if_pos hz, dLe, Option.bind_some, asB]
  by_cases c1 : (1 : Int) ≤ x.length
  · by_cases c2 : (x.length : Int) ≤ 8
    · simp only [decide_eq_true c1, decide_eq_true c2, sSeq, sIf, sSet, sRet, sNx, sRetN, mLst, mTup, mDnew, mDisp, ppCons, ppNil, o1, o2, vr, cst, mCal, mCalP, mCalKP, pick, aCons, aNil, anV, orV, ntV, tsb, tru, nt, an, orr, ife, chn, joi, asB, asS, asI, List.map_cons, List.map_nil, List.cons_append, List.nil_append, List.length_cons, List.length_nil, List.getElem?_cons_succ, List.getElem?_cons_zero, List.set_cons_zero, List.set_cons_succ, List.filterMap_cons, List.filterMap_nil, bnd_ret, lft_some, lft_none, pur_ret, bnd_assoc, bnd_stk, List.replicate_succ, List.replicate_zero, Nat.reduceAdd, Nat.reduceSub, asB, Bool.false_eq_true, if_false, Bool.not_true]
      have : mCmp (iSeq (vr 0)) (gSet 1) (tsb (o2 dNotIn (vr 1) (cst (D.str letters)))) (vr 1) [1] [some (D.str x), none] = (DL.ret (.lst ((x.cps.toList.filter fun c => !decide (c ∈ letters.cps.toList)).map fun c => D.str ⟨#[c]⟩)) : M Unit D) := by
        unfold mCmp iSeq
        simp only [sSeq, sIf, sSet, sRet, sNx, sRetN, mLst, mTup, mDnew, mDisp, ppCons, ppNil, o1, o2, vr, cst, mCal, mCalP, mCalKP, pick, aCons, aNil, anV, orV, ntV, tsb, tru, nt, an, orr, ife, chn, joi, asB, asS, asI, List.map_cons, List.map_nil, List.cons_append, List.nil_append, List.length_cons, List.length_nil, List.getElem?_cons_succ, List.getElem?_cons_zero, List.set_cons_zero, List.set_cons_succ, List.filterMap_cons, List.filterMap_nil, bnd_ret, lft_some, lft_none, pur_ret, bnd_assoc, bnd_stk, List.replicate_succ, List.replicate_zero, Nat.reduceAdd, Nat.reduceSub]
        rw [if_pos (by rw [List.length_map, hx]; exact hz), cmpF_eq (p := fun d => ((dInB d (.str letters)).map fun b => !b).getD false) (g := id)]
        · rw [nox_ret, bnd_ret, List.map_id, List.filter_map]
          rfl
        · intro d hd
          obtain ⟨c, _, rfl⟩ := List.mem_map.mp hd
          exact ⟨_, rfl, rfl, fun _ => rfl⟩
      show bnd (mCmp (iSeq (vr 0)) (gSet 1) (tsb (o2 dNotIn (vr 1) (cst (D.str letters)))) (vr 1) [1] [some (D.str x), none]) _ = _
      rw [this, bnd_ret]
      have h2 : dEq (.lst ((x.cps.toList.filter fun c => !decide (c ∈ letters.cps.toList)).map fun c => D.str ⟨#[c]⟩)) (.lst []) = some (.bl (nameOk x)) := by
        have hp : Plain (.lst ((x.cps.toList.filter fun c => !decide (c ∈ letters.cps.toList)).map fun c => D.str ⟨#[c]⟩)) := (plain_lst (n := 0) fun d hd => by
          obtain ⟨c, hc', rfl⟩ := List.mem_map.mp hd
          have h3 := hc c (List.mem_filter.mp hc').1
          exact plain_str (by unfold PyData.strOk; simpa using h3)).plain
        obtain ⟨b, e1, e2⟩ := dEq_plain hp ((plain_lst (n := 0) (ds := []) (by simp)).plain)
        rw [e1]
        congr 2
        unfold nameOk
        rw [decide_eq_true c1, decide_eq_true c2, Bool.true_and, Bool.true_and, Bool.eq_iff_iff, e2, D.lst.injEq, List.map_eq_nil_iff, List.filter_eq_nil_iff, List.all_eq_true]
        simp
      rw [h2]
      rfl
    · simp only [decide_eq_true c1, decide_eq_false c2, sSeq, sIf, sSet, sRet, sNx, sRetN, mLst, mTup, mDnew, mDisp, ppCons, ppNil, o1, o2, vr, cst, mCal, mCalP, mCalKP, pick, aCons, aNil, anV, orV, ntV, tsb, tru, nt, an, orr, ife, chn, joi, asB, asS, asI, List.map_cons, List.map_nil, List.cons_append, List.nil_append, List.length_cons, List.length_nil, List.getElem?_cons_succ, List.getElem?_cons_zero, List.set_cons_zero, List.set_cons_succ, List.filterMap_cons, List.filterMap_nil, bnd_ret, lft_some, lft_none, pur_ret, bnd_assoc, bnd_stk, List.replicate_succ, List.replicate_zero, Nat.reduceAdd, Nat.reduceSub, asB, Bool.false_eq_true, if_false, Bool.not_false, if_true]
      unfold nameOk
      rw [decide_eq_false c2, Bool.and_false, Bool.false_and]
  · simp only [decide_eq_false c1, sSeq, sIf, sSet, sRet, sNx, sRetN, mLst, mTup, mDnew, mDisp, ppCons, ppNil, o1, o2, vr, cst, mCal, mCalP, mCalKP, pick, aCons, aNil, anV, orV, ntV, tsb, tru, nt, an, orr, ife, chn, joi, asB, asS, asI, List.map_cons, List.map_nil, List.cons_append, List.nil_append, List.length_cons, List.length_nil, List.getElem?_cons_succ, List.getElem?_cons_zero, List.set_cons_zero, List.set_cons_succ, List.filterMap_cons, List.filterMap_nil, bnd_ret, lft_some, lft_none, pur_ret, bnd_assoc, bnd_stk, List.replicate_succ, List.replicate_zero, Nat.reduceAdd, Nat.reduceSub, asB, Bool.false_eq_true, if_false, Bool.not_false, if_true]
    unfold nameOk
    rw [decide_eq_false c1, Bool.false_and, Bool.false_and]

/-- what the law may ask of -/
structure OKv (d : D) : Prop where
  rp : ∃ x, dRepr d = some (.str x)
  nm : ∃ b, m_is_name [d] = DL.ret (.bl b) ∧ m_law_is_name [d] = DL.ret (.bl b)
  pr : (∃ i, d = .int i ∧ m_is_period [d] = DL.ret (.bl (decide (4 ≤ i ∧ i ≤ 60 ∧ i % 2 = 0))) ∧ m_law_is_number [d, .int 4, .int 60] = DL.ret (.bl (decide (4 ≤ i ∧ i ≤ 60)))) ∨
    (m_is_period [d] = DL.ret (.bl false) ∧ m_law_is_number [d, .int 4, .int 60] = DL.ret (.bl false))
theorem ok_str {x : Str} (hl : x.length ≤ 100000) (hc : ∀ c ∈ x.cps.toList, c < 0x110000) : OKv (.str x) where
  rp := ⟨_, dRepr_str hl fun c h => Nat.lt_trans (hc c h) (by decide)⟩
  nm := ⟨_, name_str hl, lawname_str hl hc⟩
  pr := .inr ⟨rfl, rfl⟩
theorem is_int (i : Int) : m_is_integer [.int i] = DL.ret (.bl true) := rfl
theorem is_betw (i : Int) : m_is_between [.int i, .int 4, .int 60] = DL.ret (.bl (decide (4 ≤ i ∧ i ≤ 60))) := by
  unfold m_is_between
  rw [runB_eq]
  simp only [b_is_between, sSeq, sIf, sSet, sRet, sNx, sRetN, mLst, mTup, mDnew, mDisp, ppCons, ppNil, o1, o2, vr, cst, mCal, mCalP, mCalKP, pick, aCons, aNil, anV, orV, ntV, tsb, tru, nt, an, orr, ife, chn, joi, asB, asS, asI, List.map_cons, List.map_nil, List.cons_append, List.nil_append, List.length_cons, List.length_nil, List.getElem?_cons_succ, List.getElem?_cons_zero, List.set_cons_zero, List.set_cons_succ, List.filterMap_cons, List.filterMap_nil, bnd_ret, lft_some, lft_none, pur_ret, bnd_assoc, bnd_stk, List.replicate_succ, List.replicate_zero, Nat.reduceAdd, Nat.reduceSub, is_int, dTru, dLe, Option.bind_some, asB]
  by_cases c1 : (4 : Int) ≤ i
  · simp only [sSeq, sIf, sSet, sRet, sNx, sRetN, mLst, mTup, mDnew, mDisp, ppCons, ppNil, o1, o2, vr, cst, mCal, mCalP, mCalKP, pick, aCons, aNil, anV, orV, ntV, tsb, tru, nt, an, orr, ife, chn, joi, asB, asS, asI, List.map_cons, List.map_nil, List.cons_append, List.nil_append, List.length_cons, List.length_nil, List.getElem?_cons_succ, List.getElem?_cons_zero, List.set_cons_zero, List.set_cons_succ, List.filterMap_cons, List.filterMap_nil, bnd_ret, lft_some, lft_none, pur_ret, bnd_assoc, bnd_stk, List.replicate_succ, List.replicate_zero, Nat.reduceAdd, Nat.reduceSub, c1, true_and, decide_true]
  · simp only [sSeq, sIf, sSet, sRet, sNx, sRetN, mLst, mTup, mDnew, mDisp, ppCons, ppNil, o1, o2, vr, cst, mCal, mCalP, mCalKP, pick, aCons, aNil, anV, orV, ntV, tsb, tru, nt, an, orr, ife, chn, joi, asB, asS, asI, List.map_cons, List.map_nil, List.cons_append, List.nil_append, List.length_cons, List.length_nil, List.getElem?_cons_succ, List.getElem?_cons_zero, List.set_cons_zero, List.set_cons_succ, List.filterMap_cons, List.filterMap_nil, bnd_ret, lft_some, lft_none, pur_ret, bnd_assoc, bnd_stk, List.replicate_succ, List.replicate_zero, Nat.reduceAdd, Nat.reduceSub, c1, false_and, decide_false]
theorem is_num (i : Int) : m_law_is_number [.int i, .int 4, .int 60] = DL.ret (.bl (decide (4 ≤ i ∧ i ≤ 60))) := by
  have h1 : dIsi (.int i) (.ty "int") = some (.bl true) := rfl
  have h2 : dIsi (.int i) (.ty "bool") = some (.bl false) := rfl
  unfold m_law_is_number
  rw [runB_eq]
  simp only [b_law_is_number, sSeq, sIf, sSet, sRet, sNx, sRetN, mLst, mTup, mDnew, mDisp, ppCons, ppNil, o1, o2, vr, cst, mCal, mCalP, mCalKP, pick, aCons, aNil, anV, orV, ntV, tsb, tru, nt, an, orr, ife, chn, joi, asB, asS, asI, List.map_cons, List.map_nil, List.cons_append, List.nil_append, List.length_cons, List.length_nil, List.getElem?_cons_succ, List.getElem?_cons_zero, List.set_cons_zero, List.set_cons_succ, List.filterMap_cons, List.filterMap_nil, bnd_ret, lft_some, lft_none, pur_ret, bnd_assoc, bnd_stk, List.replicate_succ, List.replicate_zero, Nat.reduceAdd, Nat.reduceSub, h1, h2, dTru, dLe, Option.bind_some, asB, Bool.not_false]
  by_cases c1 : (4 : Int) ≤ i
  · simp only [sSeq, sIf, sSet, sRet, sNx, sRetN, mLst, mTup, mDnew, mDisp, ppCons, ppNil, o1, o2, vr, cst, mCal, mCalP, mCalKP, pick, aCons, aNil, anV, orV, ntV, tsb, tru, nt, an, orr, ife, chn, joi, asB, asS, asI, List.map_cons, List.map_nil, List.cons_append, List.nil_append, List.length_cons, List.length_nil, List.getElem?_cons_succ, List.getElem?_cons_zero, List.set_cons_zero, List.set_cons_succ, List.filterMap_cons, List.filterMap_nil, bnd_ret, lft_some, lft_none, pur_ret, bnd_assoc, bnd_stk, List.replicate_succ, List.replicate_zero, Nat.reduceAdd, Nat.reduceSub, c1, true_and, decide_true]
  · simp only [sSeq, sIf, sSet, sRet, sNx, sRetN, mLst, mTup, mDnew, mDisp, ppCons, ppNil, o1, o2, vr, cst, mCal, mCalP, mCalKP, pick, aCons, aNil, anV, orV, ntV, tsb, tru, nt, an, orr, ife, chn, joi, asB, asS, asI, List.map_cons, List.map_nil, List.cons_append, List.nil_append, List.length_cons, List.length_nil, List.getElem?_cons_succ, List.getElem?_cons_zero, List.set_cons_zero, List.set_cons_succ, List.filterMap_cons, List.filterMap_nil, bnd_ret, lft_some, lft_none, pur_ret, bnd_assoc, bnd_stk, List.replicate_succ, List.replicate_zero, Nat.reduceAdd, Nat.reduceSub, c1, false_and, decide_false]
theorem is_per (i : Int) : m_is_period [.int i] = DL.ret (.bl (decide (4 ≤ i ∧ i ≤ 60 ∧ i % 2 = 0))) := by
  unfold m_is_period
  rw [runB_eq]
  simp only [b_is_period, sSeq, sIf, sSet, sRet, sNx, sRetN, mLst, mTup, mDnew, mDisp, ppCons, ppNil, o1, o2, vr, cst, mCal, mCalP, mCalKP, pick, aCons, aNil, anV, orV, ntV, tsb, tru, nt, an, orr, ife, chn, joi, asB, asS, asI, List.map_cons, List.map_nil, List.cons_append, List.nil_append, List.length_cons, List.length_nil, List.getElem?_cons_succ, List.getElem?_cons_zero, List.set_cons_zero, List.set_cons_succ, List.filterMap_cons, List.filterMap_nil, bnd_ret, lft_some, lft_none, pur_ret, bnd_assoc, bnd_stk, List.replicate_succ, List.replicate_zero, Nat.reduceAdd, Nat.reduceSub, is_betw]
  by_cases c1 : 4 ≤ i ∧ i ≤ 60
  · simp only [decide_eq_true c1, dTru, sSeq, sIf, sSet, sRet, sNx, sRetN, mLst, mTup, mDnew, mDisp, ppCons, ppNil, o1, o2, vr, cst, mCal, mCalP, mCalKP, pick, aCons, aNil, anV, orV, ntV, tsb, tru, nt, an, orr, ife, chn, joi, asB, asS, asI, List.map_cons, List.map_nil, List.cons_append, List.nil_append, List.length_cons, List.length_nil, List.getElem?_cons_succ, List.getElem?_cons_zero, List.set_cons_zero, List.set_cons_succ, List.filterMap_cons, List.filterMap_nil, bnd_ret, lft_some, lft_none, pur_ret, bnd_assoc, bnd_stk, List.replicate_succ, List.replicate_zero, Nat.reduceAdd, Nat.reduceSub, dInt, dMod, dEq_int]
    simp only [show ((0 : Int) < 2) = True from by simp, if_true, sSeq, sIf, sSet, sRet, sNx, sRetN, mLst, mTup, mDnew, mDisp, ppCons, ppNil, o1, o2, vr, cst, mCal, mCalP, mCalKP, pick, aCons, aNil, anV, orV, ntV, tsb, tru, nt, an, orr, ife, chn, joi, asB, asS, asI, List.map_cons, List.map_nil, List.cons_append, List.nil_append, List.length_cons, List.length_nil, List.getElem?_cons_succ, List.getElem?_cons_zero, List.set_cons_zero, List.set_cons_succ, List.filterMap_cons, List.filterMap_nil, bnd_ret, lft_some, lft_none, pur_ret, bnd_assoc, bnd_stk, List.replicate_succ, List.replicate_zero, Nat.reduceAdd, Nat.reduceSub, dEq_int]
    congr 3
    simp [c1]
  · simp only [decide_eq_false c1, dTru, sSeq, sIf, sSet, sRet, sNx, sRetN, mLst, mTup, mDnew, mDisp, ppCons, ppNil, o1, o2, vr, cst, mCal, mCalP, mCalKP, pick, aCons, aNil, anV, orV, ntV, tsb, tru, nt, an, orr, ife, chn, joi, asB, asS, asI, List.map_cons, List.map_nil, List.cons_append, List.nil_append, List.length_cons, List.length_nil, List.getElem?_cons_succ, List.getElem?_cons_zero, List.set_cons_zero, List.set_cons_succ, List.filterMap_cons, List.filterMap_nil, bnd_ret, lft_some, lft_none, pur_ret, bnd_assoc, bnd_stk, List.replicate_succ, List.replicate_zero, Nat.reduceAdd, Nat.reduceSub]
    congr 2
    rw [eq_comm, decide_eq_false_iff_not]
    exact fun h => c1 ⟨h.1, h.2.1⟩
theorem ok_int {i : Int} (h : reprOk (.int i) = true) : OKv (.int i) where
  rp := by
    refine ⟨(PyData.int i).shown, ?_⟩
    show (if reprOk (.int i) = true then _ else _) = _
    rw [if_pos h]
  nm := ⟨false, rfl, rfl⟩
  pr := .inl ⟨i, rfl, is_per i, is_num i⟩
theorem ok_other {d : D} (h1 : (dRepr d).isSome = true) (h2 : m_is_name [d] = DL.ret (.bl false)) (h3 : m_law_is_name [d] = DL.ret (.bl false)) (h4 : m_is_period [d] = DL.ret (.bl false)) (h5 : m_law_is_number [d, .int 4, .int 60] = DL.ret (.bl false)) : OKv d := by
  refine ⟨?_, ⟨false, h2, h3⟩, .inr ⟨h4, h5⟩⟩
  unfold dRepr at h1 ⊢
  split at h1
  · rename_i x e
    split at h1
    · exact ⟨_, if_pos (by assumption)⟩
    · cases h1
  · cases h1
theorem small_int (i : Int) (h0 : -2 ≤ i) (h1 : i ≤ 70) : reprOk (.int i) = true := by
  have : ∀ r : Fin 73, reprOk (.int ((r.val : Int) - 2)) = true := by decide +kernel
  have h := this ⟨(i + 2).toNat, by omega⟩
  rw [show (((i + 2).toNat : Nat) : Int) - 2 = i from by omega] at h
  exact h
def sg : Str := "abcxyzabcxyzabcxyzabcxyzabcxyzabcxyzA1 -"
theorem sat_string : Sat (m_law_string [.drw]) OKv := by
  unfold m_law_string
  rw [runB_eq]
  simp only [b_law_string, sSeq, sIf, sSet, sRet, sNx, sRetN, mLst, mTup, mDnew, mDisp, ppCons, ppNil, o1, o2, vr, cst, mCal, mCalP, mCalKP, pick, aCons, aNil, anV, orV, ntV, tsb, tru, nt, an, orr, ife, chn, joi, asB, asS, asI, List.map_cons, List.map_nil, List.cons_append, List.nil_append, List.length_cons, List.length_nil, List.getElem?_cons_succ, List.getElem?_cons_zero, List.set_cons_zero, List.set_cons_succ, List.filterMap_cons, List.filterMap_nil, bnd_ret, lft_some, lft_none, pur_ret, bnd_assoc, bnd_stk, List.replicate_succ, List.replicate_zero, Nat.reduceAdd, Nat.reduceSub]
  have h1 : dMulS (.str "abcxyz") (.int 6) = some (.str "abcxyzabcxyzabcxyzabcxyzabcxyzabcxyz") := by rfl
  have h2 : dAdd (.str "abcxyzabcxyzabcxyzabcxyzabcxyzabcxyz") (.str "A1 -") = some (.str sg) := by rfl
  simp only [h1, sSeq, sIf, sSet, sRet, sNx, sRetN, mLst, mTup, mDnew, mDisp, ppCons, ppNil, o1, o2, vr, cst, mCal, mCalP, mCalKP, pick, aCons, aNil, anV, orV, ntV, tsb, tru, nt, an, orr, ife, chn, joi, asB, asS, asI, List.map_cons, List.map_nil, List.cons_append, List.nil_append, List.length_cons, List.length_nil, List.getElem?_cons_succ, List.getElem?_cons_zero, List.set_cons_zero, List.set_cons_succ, List.filterMap_cons, List.filterMap_nil, bnd_ret, lft_some, lft_none, pur_ret, bnd_assoc, bnd_stk, List.replicate_succ, List.replicate_zero, Nat.reduceAdd, Nat.reduceSub, h2]
  have h3 : Sat (mCmp (iRg1 (mCal (aCons (vr 0) (aCons (cst (D.int 10)) aNil)) m_law_draw)) (gSet 2) yes (mCal (aCons (vr 0) (aCons (vr 1) aNil)) m_law_pick) [2] [some D.drw, some (.str sg), none]) fun d => ∃ ys : List D, d = .lst ys ∧ ys.length ≤ 9 ∧ ∀ y ∈ ys, ∃ c ∈ sg.cps.toList, y = .str ⟨#[c]⟩ := by
    unfold mCmp iRg1
    simp only [sSeq, sIf, sSet, sRet, sNx, sRetN, mLst, mTup, mDnew, mDisp, ppCons, ppNil, o1, o2, vr, cst, mCal, mCalP, mCalKP, pick, aCons, aNil, anV, orV, ntV, tsb, tru, nt, an, orr, ife, chn, joi, asB, asS, asI, List.map_cons, List.map_nil, List.cons_append, List.nil_append, List.length_cons, List.length_nil, List.getElem?_cons_succ, List.getElem?_cons_zero, List.set_cons_zero, List.set_cons_succ, List.filterMap_cons, List.filterMap_nil, bnd_ret, lft_some, lft_none, pur_ret, bnd_assoc, bnd_stk, List.replicate_succ, List.replicate_zero, Nat.reduceAdd, Nat.reduceSub]
    refine sat_bnd (sat_draw (by decide) (by decide) (Q := fun y => ∃ r : Int, y = .int r ∧ 0 ≤ r ∧ r < 10) fun r a b => ⟨r, rfl, a, b⟩) ?_
    rintro _ ⟨r, rfl, a, b⟩
    simp only [sSeq, sIf, sSet, sRet, sNx, sRetN, mLst, mTup, mDnew, mDisp, ppCons, ppNil, o1, o2, vr, cst, mCal, mCalP, mCalKP, pick, aCons, aNil, anV, orV, ntV, tsb, tru, nt, an, orr, ife, chn, joi, asB, asS, asI, List.map_cons, List.map_nil, List.cons_append, List.nil_append, List.length_cons, List.length_nil, List.getElem?_cons_succ, List.getElem?_cons_zero, List.set_cons_zero, List.set_cons_succ, List.filterMap_cons, List.filterMap_nil, bnd_ret, lft_some, lft_none, pur_ret, bnd_assoc, bnd_stk, List.replicate_succ, List.replicate_zero, Nat.reduceAdd, Nat.reduceSub]
    refine (sat_lcR (Q := fun y => ∃ c ∈ sg.cps.toList, y = .str ⟨#[c]⟩) a (by omega) fun k _ _ => ?_).mono fun d ⟨ys, e1, e2, e3⟩ => ⟨ys, e1, by omega, e3⟩
    simp only [wipeD, sSeq, sIf, sSet, sRet, sNx, sRetN, mLst, mTup, mDnew, mDisp, ppCons, ppNil, o1, o2, vr, cst, mCal, mCalP, mCalKP, pick, aCons, aNil, anV, orV, ntV, tsb, tru, nt, an, orr, ife, chn, joi, asB, asS, asI, List.map_cons, List.map_nil, List.cons_append, List.nil_append, List.length_cons, List.length_nil, List.getElem?_cons_succ, List.getElem?_cons_zero, List.set_cons_zero, List.set_cons_succ, List.filterMap_cons, List.filterMap_nil, bnd_ret, lft_some, lft_none, pur_ret, bnd_assoc, bnd_stk, List.replicate_succ, List.replicate_zero, Nat.reduceAdd, Nat.reduceSub]
    exact pick_str (by decide +kernel) (by decide +kernel)
  refine sat_bnd h3 ?_
  rintro _ ⟨ys, rfl, hl, hy⟩
  obtain ⟨x, e1, e2, e3⟩ := dJoin_signs (P := fun c => c ∈ sg.cps.toList) hy (by omega)
  rw [e1]
  simp only [sSeq, sIf, sSet, sRet, sNx, sRetN, mLst, mTup, mDnew, mDisp, ppCons, ppNil, o1, o2, vr, cst, mCal, mCalP, mCalKP, pick, aCons, aNil, anV, orV, ntV, tsb, tru, nt, an, orr, ife, chn, joi, asB, asS, asI, List.map_cons, List.map_nil, List.cons_append, List.nil_append, List.length_cons, List.length_nil, List.getElem?_cons_succ, List.getElem?_cons_zero, List.set_cons_zero, List.set_cons_succ, List.filterMap_cons, List.filterMap_nil, bnd_ret, lft_some, lft_none, pur_ret, bnd_assoc, bnd_stk, List.replicate_succ, List.replicate_zero, Nat.reduceAdd, Nat.reduceSub]
  refine sat_ret (ok_str (by omega) fun c hc => ?_)
  have : ∀ c ∈ sg.cps.toList, c < 0x110000 := by decide +kernel
  exact this c (e3 c hc)
def others : List D := [.non, .bl true, .bl false, .tup [], .lst [], .dic [], .tup [.int 4], .lst [.str "a"], .tup [.str "a"], .dic [(.inr "a", .int 4)], .str "4", .str "aaaaaaaa", .str "aaaaaaaaa"]
theorem ok_others : ∀ d ∈ others, OKv d := by
  intro d hd
  simp only [others, List.mem_cons, List.not_mem_nil, or_false] at hd
  rcases hd with rfl | rfl | rfl | rfl | rfl | rfl | rfl | rfl | rfl | rfl | rfl | rfl | rfl
  · exact ok_other (by decide +kernel) rfl rfl rfl rfl
  · exact ok_other (by decide +kernel) rfl rfl rfl rfl
  · exact ok_other (by decide +kernel) rfl rfl rfl rfl
  · exact ok_other (by decide +kernel) rfl rfl rfl rfl
  · exact ok_other (by decide +kernel) rfl rfl rfl rfl
  · exact ok_other (by decide +kernel) rfl rfl rfl rfl
  · exact ok_other (by decide +kernel) rfl rfl rfl rfl
  · exact ok_other (by decide +kernel) rfl rfl rfl rfl
  · exact ok_other (by decide +kernel) rfl rfl rfl rfl
  · exact ok_other (by decide +kernel) rfl rfl rfl rfl
  · exact ok_str (by decide +kernel) (by decide +kernel)
  · exact ok_str (by decide +kernel) (by decide +kernel)
  · exact ok_str (by decide +kernel) (by decide +kernel)
theorem sat_any : Sat (m_law_any_value [.drw]) OKv := by
  unfold m_law_any_value
  rw [runB_eq]
  have e1 : dMulS (.str "a") (.int 8) = some (.str "aaaaaaaa") := rfl
  have e2 : dMulS (.str "a") (.int 9) = some (.str "aaaaaaaaa") := rfl
  have e3 : dPow (.int 10) (.int 9) = some (.int (10 ^ 9)) := rfl
  have e4 : dPow (.int 10) (.int 64) = some (.int (10 ^ 64)) := rfl
  have e5 : dNeg (.int 4) = some (.int (-4)) := rfl
  have e6 : mergeD [] [(.inr "a", .int 4)] = [(.inr "a", .int 4)] := rfl
  have e7 : asK (.str "a") = some (.inr "a") := rfl
  simp only [b_law_any_value, sSeq, sIf, sSet, sRet, sNx, sRetN, mLst, mTup, mDnew, mDisp, ppCons, ppNil, o1, o2, vr, cst, mCal, mCalP, mCalKP, pick, aCons, aNil, anV, orV, ntV, tsb, tru, nt, an, orr, ife, chn, joi, asB, asS, asI, List.map_cons, List.map_nil, List.cons_append, List.nil_append, List.length_cons, List.length_nil, List.getElem?_cons_succ, List.getElem?_cons_zero, List.set_cons_zero, List.set_cons_succ, List.filterMap_cons, List.filterMap_nil, bnd_ret, lft_some, lft_none, pur_ret, bnd_assoc, bnd_stk, List.replicate_succ, List.replicate_zero, Nat.reduceAdd, Nat.reduceSub, e1, e2, e3, e4, e5, e6, e7]
  refine sat_bnd (sat_draw (by decide) (by decide) (Q := fun y => ∃ r : Int, y = .int r ∧ 0 ≤ r ∧ r < 73) fun r a b => ⟨r, rfl, a, b⟩) ?_
  rintro _ ⟨r, rfl, a, b⟩
  simp only [dSub, sSeq, sIf, sSet, sRet, sNx, sRetN, mLst, mTup, mDnew, mDisp, ppCons, ppNil, o1, o2, vr, cst, mCal, mCalP, mCalKP, pick, aCons, aNil, anV, orV, ntV, tsb, tru, nt, an, orr, ife, chn, joi, asB, asS, asI, List.map_cons, List.map_nil, List.cons_append, List.nil_append, List.length_cons, List.length_nil, List.getElem?_cons_succ, List.getElem?_cons_zero, List.set_cons_zero, List.set_cons_succ, List.filterMap_cons, List.filterMap_nil, bnd_ret, lft_some, lft_none, pur_ret, bnd_assoc, bnd_stk, List.replicate_succ, List.replicate_zero, Nat.reduceAdd, Nat.reduceSub]
  refine sat_bnd sat_string fun d1 h1 => ?_
  refine sat_bnd (DL.pick_lst (by simp) (by simp)) fun d2 h2 => ?_
  refine sat_bnd (DL.pick_lst (xs := others) (by decide) (by decide)) fun d3 h3 => ?_
  refine sat_bnd (DL.pick_lst (by simp) (by simp)) fun d4 h4 => sat_ret ?_
  simp only [List.mem_cons, List.not_mem_nil, or_false] at h2 h4
  rcases h4 with rfl | rfl | rfl
  · exact h1
  · rcases h2 with rfl | rfl | rfl | rfl
    · exact ok_int (small_int _ (by omega) (by omega))
    · exact ok_int (by decide +kernel)
    · exact ok_int (by decide +kernel)
    · exact ok_int (by decide +kernel)
  · exact ok_others _ h3
theorem rep2 (b c : Bool) : ∃ x, dRepr (.lst [.bl b, .bl c]) = some (.str x) := by
  cases b <;> cases c <;> exact ⟨_, rfl⟩
theorem dNe_refl (x : Str) : dNe (.str x) (.str x) = some (.bl false) := by
  show some (D.bl (!(x == x))) = _
  rw [beq_self_eq_true]
  rfl
theorem law_math (ns : List Int) (s : DrS) (hl : ns.length ≤ 63) : ∃ ρ' s', b_law (some (.scr ns) :: some .drw :: List.replicate 4 none) s = some (.ok (.rt (.bl true), ρ'), s') := by
  have key : Sat (b_law (some (.scr ns) :: some .drw :: List.replicate 4 none)) fun x => x.1 = .rt (.bl true) := by
    simp only [b_law, sSeq, sIf, sSet, sRet, sNx, sRetN, mLst, mTup, mDnew, mDisp, ppCons, ppNil, o1, o2, vr, cst, mCal, mCalP, mCalKP, pick, aCons, aNil, anV, orV, ntV, tsb, tru, nt, an, orr, ife, chn, joi, asB, asS, asI, List.map_cons, List.map_nil, List.cons_append, List.nil_append, List.length_cons, List.length_nil, List.getElem?_cons_succ, List.getElem?_cons_zero, List.set_cons_zero, List.set_cons_succ, List.filterMap_cons, List.filterMap_nil, bnd_ret, lft_some, lft_none, pur_ret, bnd_assoc, bnd_stk, List.replicate_succ, List.replicate_zero, Nat.reduceAdd, Nat.reduceSub]
    unfold sFor iRg1
    simp only [sSeq, sIf, sSet, sRet, sNx, sRetN, mLst, mTup, mDnew, mDisp, ppCons, ppNil, o1, o2, vr, cst, mCal, mCalP, mCalKP, pick, aCons, aNil, anV, orV, ntV, tsb, tru, nt, an, orr, ife, chn, joi, asB, asS, asI, List.map_cons, List.map_nil, List.cons_append, List.nil_append, List.length_cons, List.length_nil, List.getElem?_cons_succ, List.getElem?_cons_zero, List.set_cons_zero, List.set_cons_succ, List.filterMap_cons, List.filterMap_nil, bnd_ret, lft_some, lft_none, pur_ret, bnd_assoc, bnd_stk, List.replicate_succ, List.replicate_zero, Nat.reduceAdd, Nat.reduceSub, dLen, dMin2, dAdd]
    have hr : ∀ n : Int, 0 ≤ n → n ≤ 1000 → -(2 ^ 62) ≤ n ∧ n < 2 ^ 62 := fun n _ _ => ⟨by omega, by omega⟩
    rw [if_pos (hr _ (by split <;> omega) (by split <;> omega)), bnd_ret]
    refine sat_bnd (sat_for (I := fun _ ρ => ∃ a b c d, ρ = [some (.scr ns), some .drw, a, b, c, d]) (R := fun _ => False) (i := 0) ⟨none, none, none, none, rfl⟩ ?_) ?_
    · rintro j d ρ hj _ ⟨a, b, c, e, rfl⟩
      refine ⟨_, rfl, ?_⟩
      simp only [sSeq, sIf, sSet, sRet, sNx, sRetN, mLst, mTup, mDnew, mDisp, ppCons, ppNil, o1, o2, vr, cst, mCal, mCalP, mCalKP, pick, aCons, aNil, anV, orV, ntV, tsb, tru, nt, an, orr, ife, chn, joi, asB, asS, asI, List.map_cons, List.map_nil, List.cons_append, List.nil_append, List.length_cons, List.length_nil, List.getElem?_cons_succ, List.getElem?_cons_zero, List.set_cons_zero, List.set_cons_succ, List.filterMap_cons, List.filterMap_nil, bnd_ret, lft_some, lft_none, pur_ret, bnd_assoc, bnd_stk, List.replicate_succ, List.replicate_zero, Nat.reduceAdd, Nat.reduceSub]
      refine sat_bnd sat_any fun v hv => ?_
      obtain ⟨x, hx⟩ := hv.rp
      obtain ⟨b1, n1, n2⟩ := hv.nm
      rcases hv.pr with ⟨i, rfl, p1, p2⟩ | ⟨p1, p2⟩
      · by_cases c1 : 4 ≤ i ∧ i ≤ 60
        · have p3 : m_is_period [.int i] = DL.ret (.bl (decide (i % 2 = 0))) := by
            rw [p1]
            congr 3
            simp [c1]
          obtain ⟨y, hy⟩ := rep2 b1 (decide (i % 2 = 0))
          simp only [hx, sSeq, sIf, sSet, sRet, sNx, sRetN, mLst, mTup, mDnew, mDisp, ppCons, ppNil, o1, o2, vr, cst, mCal, mCalP, mCalKP, pick, aCons, aNil, anV, orV, ntV, tsb, tru, nt, an, orr, ife, chn, joi, asB, asS, asI, List.map_cons, List.map_nil, List.cons_append, List.nil_append, List.length_cons, List.length_nil, List.getElem?_cons_succ, List.getElem?_cons_zero, List.set_cons_zero, List.set_cons_succ, List.filterMap_cons, List.filterMap_nil, bnd_ret, lft_some, lft_none, pur_ret, bnd_assoc, bnd_stk, List.replicate_succ, List.replicate_zero, Nat.reduceAdd, Nat.reduceSub, n1, n2, p3, p2, decide_eq_true c1, dTru, dInt, dMod, show ((0 : Int) < 2) = True from by simp, if_true, dEq_int, hy, dNe_refl, Bool.false_eq_true, if_false]
          exact sat_ret (.inl ⟨.inl rfl, _, _, _, _, rfl⟩)
        · have p3 : m_is_period [.int i] = DL.ret (.bl false) := by
            rw [p1]
            congr 2
            rw [decide_eq_false_iff_not]
            exact fun h => c1 ⟨h.1, h.2.1⟩
          obtain ⟨y, hy⟩ := rep2 b1 false
          simp only [hx, sSeq, sIf, sSet, sRet, sNx, sRetN, mLst, mTup, mDnew, mDisp, ppCons, ppNil, o1, o2, vr, cst, mCal, mCalP, mCalKP, pick, aCons, aNil, anV, orV, ntV, tsb, tru, nt, an, orr, ife, chn, joi, asB, asS, asI, List.map_cons, List.map_nil, List.cons_append, List.nil_append, List.length_cons, List.length_nil, List.getElem?_cons_succ, List.getElem?_cons_zero, List.set_cons_zero, List.set_cons_succ, List.filterMap_cons, List.filterMap_nil, bnd_ret, lft_some, lft_none, pur_ret, bnd_assoc, bnd_stk, List.replicate_succ, List.replicate_zero, Nat.reduceAdd, Nat.reduceSub, n1, n2, p3, p2, decide_eq_false c1, dTru, hy, dNe_refl, Bool.false_eq_true, if_false]
          exact sat_ret (.inl ⟨.inl rfl, _, _, _, _, rfl⟩)
      · obtain ⟨y, hy⟩ := rep2 b1 false
        simp only [hx, sSeq, sIf, sSet, sRet, sNx, sRetN, mLst, mTup, mDnew, mDisp, ppCons, ppNil, o1, o2, vr, cst, mCal, mCalP, mCalKP, pick, aCons, aNil, anV, orV, ntV, tsb, tru, nt, an, orr, ife, chn, joi, asB, asS, asI, List.map_cons, List.map_nil, List.cons_append, List.nil_append, List.length_cons, List.length_nil, List.getElem?_cons_succ, List.getElem?_cons_zero, List.set_cons_zero, List.set_cons_succ, List.filterMap_cons, List.filterMap_nil, bnd_ret, lft_some, lft_none, pur_ret, bnd_assoc, bnd_stk, List.replicate_succ, List.replicate_zero, Nat.reduceAdd, Nat.reduceSub, n1, n2, p1, p2, dTru, hy, dNe_refl, Bool.false_eq_true, if_false]
        exact sat_ret (.inl ⟨.inl rfl, _, _, _, _, rfl⟩)
    · rintro ⟨fl, ρ⟩ (⟨rfl, a, b, c, d, rfl⟩ | ⟨_, _, h⟩)
      · exact sat_ret rfl
      · exact h.elim
  obtain ⟨⟨fl, ρ'⟩, s', e, q⟩ := key s
  exact ⟨ρ', s', by rw [e, show fl = _ from q]⟩
end Law

theorem Law.law_end {P : PySem.Program} {w : PySem.World} {K : PySem.W.Frag} {mg : PySem.Str → Option PySem.Value} {h : PySem.Heap} {fa : PySem.Addr} (KX : K.In h) (T : Law.Txt K mg) (hfa : mg "law" = some (.ref fa)) :
    ∃ fd : PySem.FuncData, (∀ (s : PySem.Shared) (u : PySem.Value), PySem.BindsTo s fd ⟨[u], []⟩ [("_law_script", u)]) ∧ ∀ base : PySem.Heap, K.In base → base.Ns PySem.mainGlobals mg → DL.FnG P w K mg base 5 fa fd ["_law_script"] (DL.spLaw K) := by
  obtain ⟨fd, hb, hF⟩ := Law.law_fn (P := P) (w := w) T hfa Law.law_math
  exact ⟨fd, hb, fun base _ _ => hF base⟩
open PySem PySem.W PyProof.Rows in
set_option maxRecDepth 100000 in
set_option maxHeartbeats 0 in
theorem PySem.Challenge.cw_evenback_k02_names_and_periods_judged_holds : PySem.Challenge.rw_evenback_k02_names_and_periods_judged.Holds := by
  w_on; o_law; k_head; (case hw => w_witness2)
  k_fill
  refine DL.walk_law (l := PySem.Challenge.rw_evenback_k02_names_and_periods_judged) (k := 5) (x := "_law_script") rfl rfl ⟨rfl, by decide, by decide⟩ (fun w h Y => PySem.W.kIn_of Y) ?F
  case F =>
    intro w mg fa h KX G hmg
    refine' Law.law_end KX ?T hmg
    case T =>
      refine' ⟨?f_is_name, ?f_is_integer, ?f_is_between, ?f_is_period, ?f_law_state, ?f_law_draw, ?f_law_pick, ?f_law_is_number, ?f_law_is_name, ?f_law_string, ?f_law_any_value, ?f_law, ?c_GREATEST_PERIOD, ?c_LEAST_PERIOD, ?c_LETTERS, ?c_MOST_LETTERS, ?b_abs, ?b_all, ?b_bool, ?b_int, ?b_isinstance, ?b_len, ?b_min, ?b_range, ?b_repr, ?b_str⟩
      (case f_is_name => refine' DL.txt_fn KX G ?a ?l ?c ?k; (case a => k_is); (case l => k_is); (case c => k_is); (case k => k_is))
      (case f_is_integer => refine' DL.txt_fn KX G ?a ?l ?c ?k; (case a => k_is); (case l => k_is); (case c => k_is); (case k => k_is))
      (case f_is_between => refine' DL.txt_fn KX G ?a ?l ?c ?k; (case a => k_is); (case l => k_is); (case c => k_is); (case k => k_is))
      (case f_is_period => refine' DL.txt_fn KX G ?a ?l ?c ?k; (case a => k_is); (case l => k_is); (case c => k_is); (case k => k_is))
      (case f_law_state => refine' DL.txt_fn KX G ?a ?l ?c ?k; (case a => k_is); (case l => k_is); (case c => k_is); (case k => k_is))
      (case f_law_draw => refine' DL.txt_fn KX G ?a ?l ?c ?k; (case a => k_is); (case l => k_is); (case c => k_is); (case k => k_is))
      (case f_law_pick => refine' DL.txt_fn KX G ?a ?l ?c ?k; (case a => k_is); (case l => k_is); (case c => k_is); (case k => k_is))
      (case f_law_is_number => refine' DL.txt_fn KX G ?a ?l ?c ?k; (case a => k_is); (case l => k_is); (case c => k_is); (case k => k_is))
      (case f_law_is_name => refine' DL.txt_fn KX G ?a ?l ?c ?k; (case a => k_is); (case l => k_is); (case c => k_is); (case k => k_is))
      (case f_law_string => refine' DL.txt_fn KX G ?a ?l ?c ?k; (case a => k_is); (case l => k_is); (case c => k_is); (case k => k_is))
      (case f_law_any_value => refine' DL.txt_fn KX G ?a ?l ?c ?k; (case a => k_is); (case l => k_is); (case c => k_is); (case k => k_is))
      (case f_law => refine' DL.txt_fn KX G ?a ?l ?c ?k; (case a => k_is); (case l => k_is); (case c => k_is); (case k => k_is))
      (case c_GREATEST_PERIOD => exact DL.txt_int KX G (by k_is))
      (case c_LEAST_PERIOD => exact DL.txt_int KX G (by k_is))
      (case c_LETTERS => exact DL.txt_str KX G (by k_is))
      (case c_MOST_LETTERS => exact DL.txt_int KX G (by k_is))
      (case b_abs => exact PySem.W.mg_none_of KX G (by k_is))
      (case b_all => exact PySem.W.mg_none_of KX G (by k_is))
      (case b_bool => exact PySem.W.mg_none_of KX G (by k_is))
      (case b_int => exact PySem.W.mg_none_of KX G (by k_is))
      (case b_isinstance => exact PySem.W.mg_none_of KX G (by k_is))
      (case b_len => exact PySem.W.mg_none_of KX G (by k_is))
      (case b_min => exact PySem.W.mg_none_of KX G (by k_is))
      (case b_range => exact PySem.W.mg_none_of KX G (by k_is))
      (case b_repr => exact PySem.W.mg_none_of KX G (by k_is))
      (case b_str => exact PySem.W.mg_none_of KX G (by k_is))
