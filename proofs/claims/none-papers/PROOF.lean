import PyProof.Rows.All
import Wide.All
import OpenK.AllK
import Wide.FinOn
import KE.KStateDown
import HandS.ForMost
import HandS.TupAny
import HandS.TupMul
import HandS.TupLe
import HandS.Deep
import HandS.IsInst
import HandS.Style
import HandS.NoneIn
import HandS.Zip
import HandS.Walk
import HandS.TupLen
import HandS.Conv
import HandS.More
import HandS.TupSets
import KE.SortData
import KE.KDictKeyed
import KE.KDictDisplayH
import KE.GoesEnum
import HandS.Defaults
import KE.KDictCopyH
import KE.KDictPairs
import KE.KDictSum
import Wide.Seal
import PyProof.DictWalks
import HandS.SetFor
import HandS.Head0
import HandS.Head1
import HandS.Head2
import HandS.HeadEnd
import HandS.HeadHook1
import HandS.HeadHook2
import PySem.Challenge.RW_settlepages_k49_whole_none_papers
set_option Elab.async false
set_option linter.all false
set_option maxRecDepth 100000
set_option maxHeartbeats 1000000
/-! Pages, part A: data D, what a value stands for (Rep), pure denotations of expressions (PD) and tests (PTD). -/
namespace Pg
open PySem PySem.Spec PyProof.Rows L2

/-- Python data without addresses; cell: the one list or dict that may be written -/
inductive D where
  | non | bl (b : Bool) | int (i : Int) | str (x : Str)
  | tup (ds : List D) | lst (ds : List D) | dI (kvs : List (Int × D)) | dP (kvs : List ((Int × Int) × D)) | cell

/-- the cell that may be written, and what data may not lean on -/
structure Gh where
  c : Option Addr
  bad : List Addr
def Gh.ok (g : Gh) (a : Addr) : Prop := a ∉ g.bad ∧ g.c ≠ some a

mutual
inductive Rep (cs : Gh) (H : Hp) : V → D → Prop
  | non : Rep cs H .non .non
  | bl (b : Bool) : Rep cs H (.bl b) (.bl b)
  | int (i : Int) : Rep cs H (.int i) (.int i)
  | str (x : Str) : Rep cs H (.str x) (.str x)
  | tup {a : Addr} {xs : List V} {ds : List D} : cs.ok a → H a = some (.tup xs) → Reps cs H xs ds → Rep cs H (.ref a) (.tup ds)
  | lst {a : Addr} {xs : List V} {ds : List D} : cs.ok a → H a = some (.lst xs) → Reps cs H xs ds → Rep cs H (.ref a) (.lst ds)
  | dI {a : Addr} {kvs : List (Key × V)} {ks : List (Int × D)} : cs.ok a → Rd H a (.dK kvs) → RepI cs H kvs ks → Rep cs H (.ref a) (.dI ks)
  | dP {a : Addr} {kvs : List (List Key × V)} {ks : List ((Int × Int) × D)} : cs.ok a → Rd H a (.dT kvs) → RepP cs H kvs ks → Rep cs H (.ref a) (.dP ks)
  | cell {a : Addr} : cs.c = some a → Rep cs H (.ref a) .cell
inductive Reps (cs : Gh) (H : Hp) : List V → List D → Prop
  | nil : Reps cs H [] []
  | cons {v : V} {d : D} {vs : List V} {ds : List D} : Rep cs H v d → Reps cs H vs ds → Reps cs H (v :: vs) (d :: ds)
inductive RepI (cs : Gh) (H : Hp) : List (Key × V) → List (Int × D) → Prop
  | nil : RepI cs H [] []
  | cons {k : Int} {v : V} {d : D} {vs : List (Key × V)} {ds : List (Int × D)} : Rep cs H v d → RepI cs H vs ds → RepI cs H ((.inl k, v) :: vs) ((k, d) :: ds)
inductive RepP (cs : Gh) (H : Hp) : List (List Key × V) → List ((Int × Int) × D) → Prop
  | nil : RepP cs H [] []
  | cons {a b : Int} {v : V} {d : D} {vs : List (List Key × V)} {ds : List ((Int × Int) × D)} : Rep cs H v d → RepP cs H vs ds → RepP cs H (([.inl a, .inl b], v) :: vs) (((a, b), d) :: ds)
end

/-- all that was tracked, but the cell, is as it was -/
def Ext (cs : Gh) (H H' : Hp) : Prop := ∀ b o, cs.c ≠ some b → H b = some o → H' b = some o
theorem Ext.refl {cs : Gh} {H : Hp} : Ext cs H H := fun _ _ _ h => h
theorem Ext.trans {cs : Gh} {H H1 H2 : Hp} (a : Ext cs H H1) (b : Ext cs H1 H2) : Ext cs H H2 := fun c o n h => b c o n (a c o n h)
theorem Ext.new {cs : Gh} {H : Hp} {p : Addr} {o : HO} (h : H p = none) : Ext cs H (upd H p o) := fun b u _ e => by
  rw [upd_ne (ne_of_none e h)]; exact e

/-- a weaker step: what a datum leans on may be read as before -/
def Sub (cs : Gh) (H H' : Hp) : Prop := ∀ a, cs.ok a →
  (∀ xs, H a = some (.tup xs) → H' a = some (.tup xs)) ∧ (∀ xs, H a = some (.lst xs) → H' a = some (.lst xs)) ∧
  (∀ k, Rd H a (.dK k) → Rd H' a (.dK k)) ∧ (∀ k, Rd H a (.dT k) → Rd H' a (.dT k))
theorem head_ne {cs : Gh} {a : Addr} (h : cs.ok a) : cs.c ≠ some a := h.2
theorem Ext.sub {cs : Gh} {H H' : Hp} (e : Ext cs H H') : Sub cs H H' := fun a n =>
  ⟨fun xs h => e _ _ (head_ne n) h, fun xs h => e _ _ (head_ne n) h, fun k h => h.elim (fun h => .inl (e _ _ (head_ne n) h)) fun ⟨o, h⟩ => .inr ⟨o, e _ _ (head_ne n) h⟩,
    fun k h => h.elim (fun h => .inl (e _ _ (head_ne n) h)) fun ⟨o, h⟩ => .inr ⟨o, e _ _ (head_ne n) h⟩⟩

mutual
theorem Rep.sub {cs : Gh} {H H' : Hp} (s : Sub cs H H') : ∀ {v : V} {d : D}, Rep cs H v d → Rep cs H' v d
  | _, _, .non => .non
  | _, _, .bl b => .bl b
  | _, _, .int i => .int i
  | _, _, .str x => .str x
  | _, _, .tup n h r => .tup n ((s _ n).1 _ h) (Reps.sub s r)
  | _, _, .lst n h r => .lst n ((s _ n).2.1 _ h) (Reps.sub s r)
  | _, _, .dI n h r => .dI n ((s _ n).2.2.1 _ h) (RepI.sub s r)
  | _, _, .dP n h r => .dP n ((s _ n).2.2.2 _ h) (RepP.sub s r)
  | _, _, .cell h => .cell h
theorem Reps.sub {cs : Gh} {H H' : Hp} (s : Sub cs H H') : ∀ {v : List V} {d : List D}, Reps cs H v d → Reps cs H' v d
  | _, _, .nil => .nil
  | _, _, .cons r t => .cons (Rep.sub s r) (Reps.sub s t)
theorem RepI.sub {cs : Gh} {H H' : Hp} (s : Sub cs H H') : ∀ {v : List (Key × V)} {d : List (Int × D)}, RepI cs H v d → RepI cs H' v d
  | _, _, .nil => .nil
  | _, _, .cons r t => .cons (Rep.sub s r) (RepI.sub s t)
theorem RepP.sub {cs : Gh} {H H' : Hp} (s : Sub cs H H') : ∀ {v : List (List Key × V)} {d : List ((Int × Int) × D)}, RepP cs H v d → RepP cs H' v d
  | _, _, .nil => .nil
  | _, _, .cons r t => .cons (Rep.sub s r) (RepP.sub s t)
end
theorem Rep.mono {cs : Gh} {H H' : Hp} {v : V} {d : D} (r : Rep cs H v d) (e : Ext cs H H') : Rep cs H' v d := r.sub e.sub
theorem Reps.mono {cs : Gh} {H H' : Hp} {v : List V} {d : List D} (r : Reps cs H v d) (e : Ext cs H H') : Reps cs H' v d := r.sub e.sub
theorem RepI.mono {cs : Gh} {H H' : Hp} {v : List (Key × V)} {d : List (Int × D)} (r : RepI cs H v d) (e : Ext cs H H') : RepI cs H' v d := r.sub e.sub
theorem RepP.mono {cs : Gh} {H H' : Hp} {v : List (List Key × V)} {d : List ((Int × Int) × D)} (r : RepP cs H v d) (e : Ext cs H H') : RepP cs H' v d := r.sub e.sub

theorem Reps.length {cs : Gh} {H : Hp} : ∀ {vs : List V} {ds : List D}, Reps cs H vs ds → vs.length = ds.length
  | _, _, .nil => rfl
  | _, _, .cons _ t => by rw [List.length_cons, List.length_cons, t.length]
theorem Reps.get {cs : Gh} {H : Hp} : ∀ {vs : List V} {ds : List D} {i : Nat} {d : D}, Reps cs H vs ds → ds[i]? = some d → ∃ v, vs[i]? = some v ∧ Rep cs H v d
  | _, _, _, _, .nil, e => by simp at e
  | _, _, 0, _, .cons r _, e => by simp at e; subst e; exact ⟨_, rfl, r⟩
  | _, _, i + 1, d, .cons _ t, e => by
    obtain ⟨v, h1, h2⟩ := Reps.get (i := i) (d := d) t (by simpa using e)
    exact ⟨v, by simpa using h1, h2⟩
theorem Reps.getV {cs : Gh} {H : Hp} : ∀ {vs : List V} {ds : List D} {i : Nat} {v : V}, Reps cs H vs ds → vs[i]? = some v → ∃ d, ds[i]? = some d ∧ Rep cs H v d
  | _, _, _, _, .nil, e => by simp at e
  | _, _, 0, _, .cons r _, e => by simp at e; subst e; exact ⟨_, rfl, r⟩
  | _, _, i + 1, d, .cons _ t, e => by
    obtain ⟨v, h1, h2⟩ := Reps.getV (i := i) (v := d) t (by simpa using e)
    exact ⟨v, by simpa using h1, h2⟩
theorem Reps.append {cs : Gh} {H : Hp} : ∀ {vs ws : List V} {ds es : List D}, Reps cs H vs ds → Reps cs H ws es → Reps cs H (vs ++ ws) (ds ++ es)
  | _, _, _, _, .nil, s => s
  | _, _, _, _, .cons r t, s => .cons r (Reps.append t s)
theorem Reps.take {cs : Gh} {H : Hp} : ∀ {vs : List V} {ds : List D} (n : Nat), Reps cs H vs ds → Reps cs H (vs.take n) (ds.take n)
  | _, _, 0, _ => .nil
  | _, _, _ + 1, .nil => .nil
  | _, _, n + 1, .cons r t => .cons r (Reps.take n t)
theorem Reps.drop {cs : Gh} {H : Hp} : ∀ {vs : List V} {ds : List D} (n : Nat), Reps cs H vs ds → Reps cs H (vs.drop n) (ds.drop n)
  | _, _, 0, r => r
  | _, _, _ + 1, .nil => .nil
  | _, _, n + 1, .cons _ t => Reps.drop n t
theorem Reps.set {cs : Gh} {H : Hp} {v : V} {d : D} (r : Rep cs H v d) : ∀ {vs : List V} {ds : List D} (i : Nat), Reps cs H vs ds → Reps cs H (vs.set i v) (ds.set i d)
  | _, _, _, .nil => .nil
  | _, _, 0, .cons _ t => .cons r t
  | _, _, i + 1, .cons q t => .cons q (Reps.set r i t)
theorem Reps.one {cs : Gh} {H : Hp} {v : V} {d : D} (r : Rep cs H v d) : Reps cs H [v] [d] := .cons r .nil
theorem RepI.length {cs : Gh} {H : Hp} : ∀ {vs : List (Key × V)} {ds : List (Int × D)}, RepI cs H vs ds → vs.length = ds.length
  | _, _, .nil => rfl
  | _, _, .cons _ t => by rw [List.length_cons, List.length_cons, t.length]
theorem RepP.length {cs : Gh} {H : Hp} : ∀ {vs : List (List Key × V)} {ds : List ((Int × Int) × D)}, RepP cs H vs ds → vs.length = ds.length
  | _, _, .nil => rfl
  | _, _, .cons _ t => by rw [List.length_cons, List.length_cons, t.length]

/-- what stands in the cell -/
def Cont (cs : Gh) (H : Hp) (a : Addr) : D → Prop
  | .lst ds => ∃ xs, H a = some (.lst xs) ∧ Reps cs H xs ds
  | .dP ks => ∃ kvs, H a = some (.dT kvs) ∧ RepP cs H kvs ks
  | _ => False
theorem Cont.there {cs : Gh} {H : Hp} {a : Addr} {d : D} (c : Cont cs H a d) : H a ≠ none := by
  cases d with
  | lst ds => obtain ⟨xs, e, _⟩ := c; rw [e]; exact fun z => nomatch z
  | dP ks => obtain ⟨xs, e, _⟩ := c; rw [e]; exact fun z => nomatch z
  | _ => exact False.elim c
/-- the cells are there; the first one holds s -/
def NoTup (o : Option HO) : Prop := ∃ u, o = some u ∧ ∀ xs, u ≠ .tup xs
theorem NoTup.there {o : Option HO} (h : NoTup o) : o ≠ none := by obtain ⟨u, rfl, _⟩ := h; exact fun z => nomatch z
theorem Cont.noTup {cs : Gh} {H : Hp} {a : Addr} {d : D} (c : Cont cs H a d) : NoTup (H a) := by
  cases d with
  | lst ds => obtain ⟨xs, e, _⟩ := c; exact ⟨_, e, fun _ z => nomatch z⟩
  | dP ks => obtain ⟨xs, e, _⟩ := c; exact ⟨_, e, fun _ z => nomatch z⟩
  | _ => exact False.elim c
def SOk (cs : Gh) (s : D) (H : Hp) : Prop := (∀ a ∈ cs.bad, NoTup (H a)) ∧ ∀ a, cs.c = some a → Cont cs H a s
theorem SOk.fresh {cs : Gh} {s : D} {H : Hp} {p : Addr} (h : SOk cs s H) (e : H p = none) : cs.ok p := ⟨fun m => (h.1 p m).there e, fun z => (h.2 p z).there e⟩
/-- the cell itself stands as it stood -/
theorem SOk.step {cs : Gh} {s : D} {H H' : Hp} (h : SOk cs s H) (e : Ext cs H H') (k : ∀ a, cs.c = some a → H' a = H a) : SOk cs s H' := by
  refine ⟨fun a m => ?_, fun a ha => ?_⟩
  · by_cases hd : cs.c = some a
    · rw [k a hd]; exact h.1 a m
    · obtain ⟨u, q, n⟩ := h.1 a m
      exact ⟨u, e a u hd q, n⟩
  · have c := h.2 a ha
    cases s with
    | lst ds => obtain ⟨xs, e1, r⟩ := c; exact ⟨xs, by rw [k a ha]; exact e1, r.mono e⟩
    | dP ks => obtain ⟨xs, e1, r⟩ := c; exact ⟨xs, by rw [k a ha]; exact e1, r.mono e⟩
    | _ => exact False.elim c
/-- a tuple is none of the cells -/
theorem SOk.tup {cs : Gh} {s : D} {H : Hp} {p : Addr} {xs : List V} (h : SOk cs s H) (e : H p = some (.tup xs)) : cs.ok p := by
  refine ⟨fun m => ?_, fun z => ?_⟩
  · obtain ⟨u, q, n⟩ := h.1 p m
    rw [e] at q; cases q
    exact n xs rfl
  · obtain ⟨u, q, n⟩ := (h.2 p z).noTup
    rw [e] at q; cases q
    exact n xs rfl
theorem SOk.new {cs : Gh} {s : D} {H : Hp} {p : Addr} {o : HO} (h : SOk cs s H) (e : H p = none) : SOk cs s (upd H p o) :=
  h.step (Ext.new e) fun a ha => upd_ne fun z => (h.fresh e).2 (z ▸ ha)

abbrev Env := List (Option D)
/-- the slots hold what the environment says -/
def EnvR (cs : Gh) (H : Hp) (σ : L2.St) (ρ : Env) : Prop := ρ.length ≤ σ.length ∧ ∀ (i : Nat) (d : D), ρ[i]? = some (some d) → ∃ v, σ[i]? = some (some v) ∧ Rep cs H v d
theorem EnvR.sub {cs : Gh} {H H' : Hp} {σ : L2.St} {ρ : Env} (h : EnvR cs H σ ρ) (e : Sub cs H H') : EnvR cs H' σ ρ :=
  ⟨h.1, fun i d q => let ⟨v, h1, h2⟩ := h.2 i d q; ⟨v, h1, h2.sub e⟩⟩
theorem EnvR.mono {cs : Gh} {H H' : Hp} {σ : L2.St} {ρ : Env} (h : EnvR cs H σ ρ) (e : Ext cs H H') : EnvR cs H' σ ρ := h.sub e.sub
theorem EnvR.set {cs : Gh} {H : Hp} {σ : L2.St} {ρ : Env} {v : V} {d : D} (h : EnvR cs H σ ρ) (i : Nat) (r : Rep cs H v d) : EnvR cs H (σ.set i (some v)) (ρ.set i (some d)) := by
  refine ⟨by rw [List.length_set, List.length_set]; exact h.1, fun j e q => ?_⟩
  by_cases hj : i = j
  · subst hj
    have hi : i < ρ.length := by
      have := (List.getElem?_eq_some_iff.mp q).1
      rwa [List.length_set] at this
    rw [List.getElem?_set_self hi] at q
    cases q
    exact ⟨v, List.getElem?_set_self (Nat.lt_of_lt_of_le hi h.1), r⟩
  · rw [List.getElem?_set_ne hj] at q
    rw [List.getElem?_set_ne hj]
    exact h.2 j e q

/-! ### denotations -/
def bnd {α β : Type} (x : Option (α × D)) (f : α → D → Option (β × D)) : Option (β × D) := match x with
  | some (a, s) => f a s
  | none => none
theorem bnd_some {α β : Type} (a : α) (s : D) (f : α → D → Option (β × D)) : bnd (some (a, s)) f = f a s := rfl
theorem bnd_none {α β : Type} (f : α → D → Option (β × D)) : bnd none f = none := rfl
theorem bnd_inv {α β : Type} {x : Option (α × D)} {f : α → D → Option (β × D)} {r : β × D} (h : bnd x f = some r) : ∃ a s, x = some (a, s) ∧ f a s = some r := by
  cases x with
  | none => cases h
  | some p => exact ⟨p.1, p.2, rfl, h⟩
/-- a pure result -/
def ret (x : Option D) (s : D) : Option (D × D) := match x with
  | some d => some (d, s)
  | none => none
theorem ret_inv {x : Option D} {s : D} {r : D × D} (h : ret x s = some r) : x = some r.1 ∧ r.2 = s := by
  cases x with
  | none => cases h
  | some d => cases h; exact ⟨rfl, rfl⟩

abbrev E := Env → D → Option (D × D)
abbrev EB := Env → D → Option (Bool × D)
abbrev EA := Env → D → Option (List D × D)

/-- an expression's pure denotation -/
def PD (X : Cx) (e : Expr) (f : E) : Prop := ∃ t, PE X e t ∧ ∀ (cs : Gh) (σ : L2.St) (H : Hp) (ρ : Env) (s d s' : D) (Q : VK), EnvR cs H σ ρ → SOk cs s H → f ρ s = some (d, s') →
  (∀ v H', Ext cs H H' → SOk cs s' H' → Rep cs H' v d → Q v H') → t σ H Q
def PTD (X : Cx) (e : Expr) (f : EB) : Prop := ∃ t, PT X e t ∧ ∀ (cs : Gh) (σ : L2.St) (H : Hp) (ρ : Env) (s : D) (b : Bool) (s' : D) (Q : Bool → Hp → Prop), EnvR cs H σ ρ → SOk cs s H → f ρ s = some (b, s') →
  (∀ H', Ext cs H H' → SOk cs s' H' → Q b H') → t σ H Q
def PWD (X : Cx) (e : Expr) (f : EB) : Prop := ∃ t, PW X e t ∧ ∀ (cs : Gh) (σ : L2.St) (H : Hp) (ρ : Env) (s : D) (b : Bool) (s' : D) (Q : Bool → Hp → Prop), EnvR cs H σ ρ → SOk cs s H → f ρ s = some (b, s') →
  (∀ H', Ext cs H H' → SOk cs s' H' → Q b H') → t σ H Q
def PAD (X : Cx) (es : List Expr) (f : EA) : Prop := ∃ t, PA X es t ∧ ∀ (cs : Gh) (σ : L2.St) (H : Hp) (ρ : Env) (s : D) (ds : List D) (s' : D) (Q : List V → Hp → Prop), EnvR cs H σ ρ → SOk cs s H → f ρ s = some (ds, s') →
  (∀ vs H', Ext cs H H' → SOk cs s' H' → Reps cs H' vs ds → Q vs H') → t σ H Q

/-- an operation on data (s: the cell) -/
abbrev R2D := D → D → D → Option D
def OpD (X : Cx) (f : Value → Value → Sem Value) (r : R2D) : Prop := ∃ rv, OpR X f rv ∧ ∀ (cs : Gh) (H : Hp) (s x y d : D) (u v : V) (Q : VK), SOk cs s H → Rep cs H u x → Rep cs H v y → r s x y = some d →
  (∀ w H', Ext cs H H' → SOk cs s H' → Rep cs H' w d → Q w H') → rv u v H Q
/-- a call of a builtin on data -/
abbrev RLD := D → List D → Option D
def CallD (X : Cx) (f : Value) (r : RLD) : Prop := ∃ rv, CallR X f rv ∧ ∀ (cs : Gh) (H : Hp) (s d : D) (xs : List D) (us : List V) (Q : VK), SOk cs s H → Reps cs H us xs → r s xs = some d →
  (∀ w H', Ext cs H H' → SOk cs s H' → Rep cs H' w d → Q w H') → rv us H Q

section
variable {X : Cx} {a b c : Expr} {fa fb fc : E} {pos : Pos}

/-! ### names, constants -/
def eVar (i : Nat) : E := fun ρ s => match ρ[i]? with
  | some (some d) => some (d, s)
  | _ => none
def eC (d : D) : E := fun _ s => some (d, s)
def eNever : E := fun _ _ => none
theorem pd_var {i : Nat} {e : Expr} (h : PE X e (tVar i)) : PD X e (eVar i) := ⟨_, h, fun cs σ H ρ s d s' Q hρ hs hf k => by
  unfold eVar at hf
  split at hf
  · rename_i d0 e0
    cases hf
    obtain ⟨v, h1, h2⟩ := hρ.2 i _ e0
    exact ⟨v, h1, k v H .refl hs h2⟩
  · cases hf⟩
theorem pd_int {i : Int} {j : Nat} : PD X (.Constant (.int i) j pos) (eC (.int i)) := ⟨_, pe_int, fun cs σ H ρ s d s' Q hρ hs hf k => by cases hf; exact k _ H .refl hs (.int i)⟩
theorem pd_bl {i : Bool} {j : Nat} : PD X (.Constant (.bool i) j pos) (eC (.bl i)) := ⟨_, pe_bl, fun cs σ H ρ s d s' Q hρ hs hf k => by cases hf; exact k _ H .refl hs (.bl i)⟩
theorem pd_non {j : Nat} : PD X (.Constant .none j pos) (eC .non) := ⟨_, pe_non, fun cs σ H ρ s d s' Q hρ hs hf k => by cases hf; exact k _ H .refl hs .non⟩
theorem pd_str {i : Str} {j : Nat} : PD X (.Constant (.str i) j pos) (eC (.str i)) := ⟨_, pe_str, fun cs σ H ρ s d s' Q hρ hs hf k => by cases hf; exact k _ H .refl hs (.str i)⟩
/-- a module's constant -/
theorem pd_gint {e : Expr} {i : Int} (h : PE X e (tC (.int i))) : PD X e (eC (.int i)) := ⟨_, h, fun cs σ H ρ s d s' Q hρ hs hf k => by cases hf; exact k _ H .refl hs (.int i)⟩
theorem pd_gstr {e : Expr} {i : Str} (h : PE X e (tC (.str i))) : PD X e (eC (.str i)) := ⟨_, h, fun cs σ H ρ s d s' Q hρ hs hf k => by cases hf; exact k _ H .refl hs (.str i)⟩
/-- what is never reached -/
theorem pd_never {e : Expr} : PD X e eNever := ⟨fun _ _ _ => False, ⟨fun _ _ _ _ _ _ h => h.elim⟩, fun cs σ H ρ s d s' Q hρ hs hf k => by cases hf⟩

/-! ### operators -/
def eOp (r : R2D) (fa fb : E) : E := fun ρ s => bnd (fa ρ s) fun x s1 => bnd (fb ρ s1) fun y s2 => ret (r s2 x y) s2
/-- the two parts, then what is done with them -/
theorem op_run {rv : R2} {r : R2D} {ta tb : TE}
    (ha : ∀ (cs : Gh) (σ : L2.St) (H : Hp) (ρ : Env) (s d s' : D) (Q : VK), EnvR cs H σ ρ → SOk cs s H → fa ρ s = some (d, s') → (∀ v H', Ext cs H H' → SOk cs s' H' → Rep cs H' v d → Q v H') → ta σ H Q)
    (hb : ∀ (cs : Gh) (σ : L2.St) (H : Hp) (ρ : Env) (s d s' : D) (Q : VK), EnvR cs H σ ρ → SOk cs s H → fb ρ s = some (d, s') → (∀ v H', Ext cs H H' → SOk cs s' H' → Rep cs H' v d → Q v H') → tb σ H Q)
    (ho : ∀ (cs : Gh) (H : Hp) (s x y d : D) (u v : V) (Q : VK), SOk cs s H → Rep cs H u x → Rep cs H v y → r s x y = some d → (∀ w H', Ext cs H H' → SOk cs s H' → Rep cs H' w d → Q w H') → rv u v H Q)
    (cs : Gh) (σ : L2.St) (H : Hp) (ρ : Env) (s d s' : D) (Q : VK) (hρ : EnvR cs H σ ρ) (hs : SOk cs s H) (hf : eOp r fa fb ρ s = some (d, s'))
    (k : ∀ v H', Ext cs H H' → SOk cs s' H' → Rep cs H' v d → Q v H') : tOp rv ta tb σ H Q := by
  obtain ⟨x, s1, e1, hf⟩ := bnd_inv hf
  obtain ⟨y, s2, e2, hf⟩ := bnd_inv hf
  obtain ⟨e3, e4⟩ := ret_inv hf
  cases e4
  refine ha cs σ H ρ s x s1 _ hρ hs e1 fun u H1 x1 k1 r1 => ?_
  refine hb cs σ H1 ρ s1 y s' _ (hρ.mono x1) k1 e2 fun v H2 x2 k2 r2 => ?_
  exact ho cs H2 s' x y d u v Q k2 (r1.mono x2) r2 e3 fun w H3 x3 k3 r3 => k w H3 ((x1.trans x2).trans x3) k3 r3
theorem pd_op {op : Operator} {r : R2D} (ho : OpD X (binaryOp op) r) (ha : PD X a fa) (hb : PD X b fb) : PD X (.BinOp a op b pos) (eOp r fa fb) := by
  obtain ⟨rv, ho, go⟩ := ho
  obtain ⟨ta, ha, ga⟩ := ha
  obtain ⟨tb, hb, gb⟩ := hb
  exact ⟨_, pe_op ho ha hb, op_run ga gb go⟩
theorem pd_cmp {op : CmpOp} {r : R2D} (ho : OpD X (compareOp op) r) (ha : PD X a fa) (hb : PD X b fb) (hm : behindInMarks op b = false := by first | exact nomark _ | rfl) : PD X (.Compare a [op] [b] pos) (eOp r fa fb) := by
  obtain ⟨rv, ho, go⟩ := ho
  obtain ⟨ta, ha, ga⟩ := ha
  obtain ⟨tb, hb, gb⟩ := hb
  exact ⟨_, pe_cmpR ho ha hb hm, op_run ga gb go⟩
/-- a value that is a truth value -/
def eB (f : E) : EB := fun ρ s => bnd (f ρ s) fun d s1 => match d with
  | .bl b => some (b, s1)
  | _ => none
theorem eB_inv {f : E} {ρ : Env} {s : D} {r : Bool × D} (h : eB f ρ s = some r) : f ρ s = some (.bl r.1, r.2) := by
  obtain ⟨d, s1, e, h⟩ := bnd_inv h
  cases d <;> first | (cases h; exact e) | cases h
theorem b_run {t : TE} {f : E}
    (g : ∀ (cs : Gh) (σ : L2.St) (H : Hp) (ρ : Env) (s d s' : D) (Q : VK), EnvR cs H σ ρ → SOk cs s H → f ρ s = some (d, s') → (∀ v H', Ext cs H H' → SOk cs s' H' → Rep cs H' v d → Q v H') → t σ H Q)
    (cs : Gh) (σ : L2.St) (H : Hp) (ρ : Env) (s : D) (b : Bool) (s' : D) (Q : Bool → Hp → Prop) (hρ : EnvR cs H σ ρ) (hs : SOk cs s H) (hf : eB f ρ s = some (b, s'))
    (k : ∀ H', Ext cs H H' → SOk cs s' H' → Q b H') : tB t σ H Q := by
  refine g cs σ H ρ s _ _ _ hρ hs (eB_inv hf) fun v H1 x1 k1 r1 => ?_
  cases r1
  exact ⟨b, rfl, k H1 x1 k1⟩
theorem ptd_cmp {op : CmpOp} {r : R2D} (ho : OpD X (compareOp op) r) (ha : PD X a fa) (hb : PD X b fb) (hm : behindInMarks op b = false := by first | exact nomark _ | rfl) : PTD X (.Compare a [op] [b] pos) (eB (eOp r fa fb)) := by
  obtain ⟨rv, ho, go⟩ := ho
  obtain ⟨ta, ha, ga⟩ := ha
  obtain ⟨tb, hb, gb⟩ := hb
  exact ⟨_, pt_cmpR ho ha hb hm, b_run (op_run ga gb go)⟩
theorem ptd_val {e : Expr} {f : E} (h : PD X e f) (he : ∀ whole, isTrue e X.env whole = (do let v ← whole; standAt e.pos; holding [v] (truthy v)) := by intro _; rfl) : PTD X e (eB f) := by
  obtain ⟨t, h, g⟩ := h
  exact ⟨_, pt_val h he, b_run g⟩

/-! ### dicts: in, not in, an item -/
def dicOf (s : D) : D → D
  | .cell => s
  | d => d
def kinOf (s x d : D) : Option (Option D) := match dicOf s d, x with
  | .dI ks, .int k => some (ks.lookup k)
  | .dP ks, .tup [.int a, .int b] => some (ks.lookup (a, b))
  | _, _ => none
def rDIn : R2D := fun s x d => (kinOf s x d).map fun o => .bl o.isSome
def rDNotIn : R2D := fun s x d => (kinOf s x d).map fun o => .bl (!o.isSome)
def rDGet : R2D := fun s d x => (kinOf s x d).bind id
end
end Pg
set_option Elab.async false
set_option linter.all false
set_option maxRecDepth 100000
set_option maxHeartbeats 1000000
/-! Pages, part B: plain data and its equality; operators, subscripts, tests. -/
namespace Pg
open PySem PySem.Spec PyProof.Rows L2

/-! ### plain data (no truth values, no dicts), at most n deep -/
def plN : Nat → D → Bool
  | _, .int _ => true
  | _, .non => true
  | _, .str x => PyData.strOk x
  | n + 1, .tup ds => ds.all (plN n)
  | n + 1, .lst ds => ds.all (plN n)
  | _, _ => false
mutual
def toPy : D → PyData
  | .non => .none
  | .bl b => .bool b
  | .int i => .int i
  | .str x => .str x
  | .tup ds => .tuple (toPys ds)
  | .lst ds => .list (toPys ds)
  | _ => .none
def toPys : List D → List PyData
  | [] => []
  | d :: ds => toPy d :: toPys ds
end
theorem plN_int {n : Nat} {i : Int} : plN n (.int i) = true := by cases n <;> rfl
theorem plN_non {n : Nat} : plN n .non = true := by cases n <;> rfl
theorem plN_str {n : Nat} {x : Str} : plN n (.str x) = PyData.strOk x := by cases n <;> rfl
theorem plN_tup {n : Nat} {ds : List D} : plN (n + 1) (.tup ds) = ds.all (plN n) := rfl
theorem plN_lst {n : Nat} {ds : List D} : plN (n + 1) (.lst ds) = ds.all (plN n) := rfl
theorem plN_succ : ∀ {n : Nat} {d : D}, plN n d = true → plN (n + 1) d = true
  | _, .non, _ => plN_non
  | n, .bl b, h => by cases n <;> cases h
  | _, .int _, _ => plN_int
  | n, .str x, h => by rw [plN_str] at h ⊢; exact h
  | 0, .tup ds, h => by cases h
  | n + 1, .tup ds, h => by
    rw [plN_tup, List.all_eq_true] at h ⊢
    exact fun x hx => plN_succ (h x hx)
  | 0, .lst ds, h => by cases h
  | n + 1, .lst ds, h => by
    rw [plN_lst, List.all_eq_true] at h ⊢
    exact fun x hx => plN_succ (h x hx)
  | n, .dI ks, h => by cases n <;> cases h
  | n, .dP ks, h => by cases n <;> cases h
  | n, .cell, h => by cases n <;> cases h
theorem toPys_map : ∀ ds : List D, toPys ds = ds.map toPy
  | [] => by rw [toPys]; rfl
  | d :: ds => by rw [toPys, toPys_map ds]; rfl

theorem canLay_pl : ∀ (n : Nat) (d : D), plN n d = true → (toPy d).canLay0 = true ∧ (toPy d).depth ≤ n
  | n, .non, _ => by rw [toPy]; exact ⟨by rw [PyData.canLay0], by rw [PyData.depth]; exact Nat.zero_le _⟩
  | n, .bl b, h => by cases n <;> cases h
  | n, .int i, _ => by rw [toPy]; exact ⟨by rw [PyData.canLay0], by rw [PyData.depth]; exact Nat.zero_le _⟩
  | n, .str x, h => by rw [plN_str] at h; rw [toPy]; exact ⟨by rw [PyData.canLay0]; exact h, by rw [PyData.depth]; exact Nat.zero_le _⟩
  | 0, .tup ds, h => by cases h
  | n + 1, .tup ds, h => by
    rw [plN_tup, List.all_eq_true] at h
    have q : ∀ (es : List D), (∀ x ∈ es, plN n x = true) → PyData.canLayAll0 (toPys es) = true ∧ PyData.depthAll (toPys es) ≤ n := by
      intro es
      induction es with
      | nil => intro _; rw [toPys]; exact ⟨by rw [PyData.canLayAll0], by rw [PyData.depthAll]; exact Nat.zero_le _⟩
      | cons e es ih =>
        intro hh
        obtain ⟨a1, a2⟩ := canLay_pl n e (hh e List.mem_cons_self)
        obtain ⟨b1, b2⟩ := ih fun x hx => hh x (List.mem_cons_of_mem _ hx)
        rw [toPys]
        exact ⟨by rw [PyData.canLayAll0, a1, b1]; rfl, by rw [PyData.depthAll]; omega⟩
    obtain ⟨q1, q2⟩ := q ds h
    rw [toPy]
    exact ⟨by rw [PyData.canLay0]; exact q1, by rw [PyData.depth]; omega⟩
  | 0, .lst ds, h => by cases h
  | n + 1, .lst ds, h => by
    rw [plN_lst, List.all_eq_true] at h
    have q : ∀ (es : List D), (∀ x ∈ es, plN n x = true) → PyData.canLayAll0 (toPys es) = true ∧ PyData.depthAll (toPys es) ≤ n := by
      intro es
      induction es with
      | nil => intro _; rw [toPys]; exact ⟨by rw [PyData.canLayAll0], by rw [PyData.depthAll]; exact Nat.zero_le _⟩
      | cons e es ih =>
        intro hh
        obtain ⟨a1, a2⟩ := canLay_pl n e (hh e List.mem_cons_self)
        obtain ⟨b1, b2⟩ := ih fun x hx => hh x (List.mem_cons_of_mem _ hx)
        rw [toPys]
        exact ⟨by rw [PyData.canLayAll0, a1, b1]; rfl, by rw [PyData.depthAll]; omega⟩
    obtain ⟨q1, q2⟩ := q ds h
    rw [toPy]
    exact ⟨by rw [PyData.canLay0]; exact q1, by rw [PyData.depth]; omega⟩
  | n, .dI ks, h => by cases n <;> cases h
  | n, .dP ks, h => by cases n <;> cases h
  | n, .cell, h => by cases n <;> cases h
theorem shaped_pl {n : Nat} {d : D} (h : plN n d = true) (hn : n ≤ 60) : SeqAt.shaped (toPy d) = true := by
  obtain ⟨h1, h2⟩ := canLay_pl n d h
  unfold SeqAt.shaped
  rw [h1, decide_eq_true (by omega)]
  rfl

theorem eqv_pl : ∀ (n : Nat) (d e : D), plN n d = true → plN n e = true → (PyData.eqv (toPy d) (toPy e) = true ↔ d = e) := by
  intro n
  induction n with
  | zero =>
    intro d e hd he
    cases d <;> cases e <;> first | (cases hd; done) | (cases he; done) | (simp [toPy, PyData.eqv])
  | succ n ih =>
    have all : ∀ (ds es : List D), (∀ x ∈ ds, plN n x = true) → (∀ x ∈ es, plN n x = true) → (PyData.eqvAll (toPys ds) (toPys es) = true ↔ ds = es) := by
      intro ds
      induction ds with
      | nil =>
        intro es _ _
        cases es with
        | nil => simp [toPys, PyData.eqvAll]
        | cons e es => simp [toPys, PyData.eqvAll]
      | cons d ds ihd =>
        intro es h1 h2
        cases es with
        | nil => simp [toPys, PyData.eqvAll]
        | cons e es =>
          simp only [toPys, PyData.eqvAll, Bool.and_eq_true, List.cons.injEq]
          rw [ih d e (h1 d List.mem_cons_self) (h2 e List.mem_cons_self), ihd es (fun x hx => h1 x (List.mem_cons_of_mem _ hx)) fun x hx => h2 x (List.mem_cons_of_mem _ hx)]
    intro d e hd he
    cases d with
    | bl b => cases hd
    | dI ks => cases hd
    | dP ks => cases hd
    | cell => cases hd
    | tup ds =>
      cases e with
      | tup es =>
        rw [plN_tup, List.all_eq_true] at hd he
        simp only [toPy, PyData.eqv, D.tup.injEq]
        exact all ds es hd he
      | bl b => cases he
      | dI ks => cases he
      | dP ks => cases he
      | cell => cases he
      | _ => simp [toPy, PyData.eqv]
    | lst ds =>
      cases e with
      | lst es =>
        rw [plN_lst, List.all_eq_true] at hd he
        simp only [toPy, PyData.eqv, D.lst.injEq]
        exact all ds es hd he
      | bl b => cases he
      | dI ks => cases he
      | dP ks => cases he
      | cell => cases he
      | _ => simp [toPy, PyData.eqv]
    | _ =>
      cases e with
      | bl b => cases he
      | dI ks => cases he
      | dP ks => cases he
      | cell => cases he
      | _ => simp [toPy, PyData.eqv]

theorem plN_of_mem {n : Nat} {ds : List D} (h : ds.all (plN n) = true) : ∀ x ∈ ds, plN n x = true := List.all_eq_true.mp h

mutual
theorem Rep.dp {K : PySem.W.Frag} {cs : Gh} {H : Hp} : ∀ {v : V} {d : D}, Rep cs H v d → (∃ n, plN n d = true) → Dp K H v (toPy d)
  | _, _, .non, _ => by rw [toPy]; exact .non
  | _, _, .bl b, _ => by rw [toPy]; exact .bl b
  | _, _, .int i, _ => by rw [toPy]; exact .int i
  | _, _, .str x, _ => by rw [toPy]; exact .str x
  | _, _, .tup n h r, p => by
    rw [toPy]
    refine .tup (SqT.of h) (Reps.dp r ?_)
    obtain ⟨m, p⟩ := p
    cases m with
    | zero => cases p
    | succ m => exact ⟨m, plN_of_mem p⟩
  | _, _, .lst n h r, p => by
    rw [toPy]
    refine .lst (SqL.of h) (Reps.dp r ?_)
    obtain ⟨m, p⟩ := p
    cases m with
    | zero => cases p
    | succ m => exact ⟨m, plN_of_mem p⟩
  | _, _, .dI n h r, p => by obtain ⟨m, p⟩ := p; cases m <;> cases p
  | _, _, .dP n h r, p => by obtain ⟨m, p⟩ := p; cases m <;> cases p
  | _, _, .cell h, p => by obtain ⟨m, p⟩ := p; cases m <;> cases p
theorem Reps.dp {K : PySem.W.Frag} {cs : Gh} {H : Hp} : ∀ {v : List V} {d : List D}, Reps cs H v d → (∃ n, ∀ x ∈ d, plN n x = true) → DpAll K H v (toPys d)
  | _, _, .nil, _ => by rw [toPys]; exact .nil
  | _, _, .cons r t, ⟨n, p⟩ => by
    rw [toPys]
    exact .cons (Rep.dp r ⟨n, p _ List.mem_cons_self⟩) (Reps.dp t ⟨n, fun x hx => p x (List.mem_cons_of_mem _ hx)⟩)
end
/-- the same datum -/
noncomputable def deq (x y : D) : Bool := @decide (x = y) (Classical.propDecidable _)
theorem deq_iff {x y : D} : deq x y = true ↔ x = y := by unfold deq; exact @decide_eq_true_iff _ (Classical.propDecidable _)
theorem eqv_deq {n : Nat} {d e : D} (hd : plN n d = true) (he : plN n e = true) : PyData.eqv (toPy d) (toPy e) = deq d e := by
  have h := eqv_pl n d e hd he
  cases h1 : PyData.eqv (toPy d) (toPy e) with
  | true => exact (deq_iff.mpr (h.mp h1)).symm
  | false =>
    cases h2 : deq d e with
    | true => rw [h.mpr (deq_iff.mp h2)] at h1; cases h1
    | false => rfl

section
variable {X : Cx}
/-! ### == and != -/
noncomputable def kEq (x y : D) : Option Bool := match x, y with
  | .bl a, .bl b => some (a == b)
  | x, y => if plN 8 x && plN 8 y then some (deq x y) else none
noncomputable def rEq : R2D := fun _ x y => (kEq x y).map .bl
noncomputable def rNe : R2D := fun _ x y => (kEq x y).map fun b => .bl (!b)
theorem kEq_cases {x y : D} {b : Bool} (h : kEq x y = some b) : (∃ a c, x = .bl a ∧ y = .bl c ∧ b = (a == c)) ∨ (plN 8 x = true ∧ plN 8 y = true ∧ b = deq x y) := by
  unfold kEq at h
  split at h
  · cases h; exact .inl ⟨_, _, rfl, rfl, rfl⟩
  · split at h
    · rename_i hp
      cases h
      obtain ⟨h1, h2⟩ := Bool.and_eq_true_iff.mp hp
      exact .inr ⟨h1, h2, rfl⟩
    · cases h
theorem map_inv {α β : Type} {o : Option α} {f : α → β} {b : β} (h : o.map f = some b) : ∃ a, o = some a ∧ b = f a := by
  cases o with
  | none => cases h
  | some a => cases h; exact ⟨a, rfl, rfl⟩
theorem od_eq (hu : X.A.units + 150 < cLine) : OpD X (compareOp .Eq) rEq := by
  refine ⟨_, op_eq.or (op_eqD (by omega)), fun cs H s x y d u v Q hs rx ry hr k => ?_⟩
  obtain ⟨b, e, rfl⟩ := map_inv hr
  rcases kEq_cases e with ⟨a, c, rfl, rfl, rfl⟩ | ⟨p1, p2, rfl⟩
  · cases rx
    cases ry
    refine .inl ⟨rfl, ?_⟩
    rw [dec_bl]
    exact k _ H .refl hs (.bl _)
  · refine .inr ⟨_, _, rx.dp ⟨_, p1⟩, ry.dp ⟨_, p2⟩, shaped_pl p1 (by decide), shaped_pl p2 (by decide), ?_⟩
    rw [eqv_deq p1 p2]
    exact k _ H .refl hs (.bl _)
theorem od_ne (hu : X.A.units + 150 < cLine) : OpD X (compareOp .NotEq) rNe := by
  refine ⟨_, op_ne.or (op_neD (by omega)), fun cs H s x y d u v Q hs rx ry hr k => ?_⟩
  obtain ⟨b, e, rfl⟩ := map_inv hr
  rcases kEq_cases e with ⟨a, c, rfl, rfl, rfl⟩ | ⟨p1, p2, rfl⟩
  · cases rx
    cases ry
    refine .inl ⟨rfl, ?_⟩
    rw [dec_bl]
    exact k _ H .refl hs (.bl _)
  · refine .inr ⟨_, _, rx.dp ⟨_, p1⟩, ry.dp ⟨_, p2⟩, shaped_pl p1 (by decide), shaped_pl p2 (by decide), ?_⟩
    rw [eqv_deq p1 p2]
    exact k _ H .refl hs (.bl _)

/-! ### order of ints, of tuples of ints -/
def ints? : List D → Option (List Int)
  | [] => some []
  | .int i :: r => (ints? r).map (i :: ·)
  | _ => none
theorem ints?_eq : ∀ {ds : List D} {ns : List Int}, ints? ds = some ns → ds = ns.map .int
  | [], _, h => by cases h; rfl
  | .int i :: r, _, h => by
    obtain ⟨ms, e, rfl⟩ := map_inv (show (ints? r).map (i :: ·) = some _ from h)
    rw [ints?_eq e]; rfl
  | .non :: _, _, h => by cases h
  | .bl _ :: _, _, h => by cases h
  | .str _ :: _, _, h => by cases h
  | .tup _ :: _, _, h => by cases h
  | .lst _ :: _, _, h => by cases h
  | .dI _ :: _, _, h => by cases h
  | .dP _ :: _, _, h => by cases h
  | .cell :: _, _, h => by cases h
theorem ints?_map : ∀ ns : List Int, ints? (ns.map .int) = some ns
  | [] => rfl
  | n :: ns => by show (ints? (ns.map .int)).map (n :: ·) = _; rw [ints?_map ns]; rfl
theorem Reps.ints {cs : Gh} {H : Hp} : ∀ {ns : List Int} {vs : List V}, Reps cs H vs (ns.map .int) → vs = ns.map V.int
  | [], _, r => by cases r; rfl
  | n :: ns, _, r => by
    cases r with
    | cons h t => cases h; rw [List.map_cons, Reps.ints t]
theorem Reps.ofInts {cs : Gh} {H : Hp} : ∀ (ns : List Int), Reps cs H (ns.map V.int) (ns.map D.int)
  | [] => .nil
  | n :: ns => .cons (.int n) (Reps.ofInts ns)
def rLt : R2D := fun _ x y => match x, y with
  | .int i, .int j => some (.bl (decide (i < j)))
  | .tup a, .tup b => (ints? a).bind fun ns => (ints? b).map fun ms => .bl (HT.lexLt ns ms)
  | _, _ => none
def rLe : R2D := fun _ x y => match x, y with
  | .int i, .int j => some (.bl (decide (i ≤ j)))
  | _, _ => none
def rGt : R2D := fun _ x y => match x, y with
  | .int i, .int j => some (.bl (decide (j < i)))
  | _, _ => none
def rGe : R2D := fun _ x y => match x, y with
  | .int i, .int j => some (.bl (decide (j ≤ i)))
  | _, _ => none
theorem od_lt (hu : X.A.units + 150 < cLine) : OpD X (compareOp .Lt) rLt := by
  refine ⟨_, op_lt.or (op_ltT (by omega)), fun cs H s x y d u v Q hs rx ry hr k => ?_⟩
  unfold rLt at hr
  split at hr
  · cases hr
    cases rx
    cases ry
    exact .inl ⟨_, _, rfl, rfl, k _ H .refl hs (.bl _)⟩
  · rename_i a b
    cases ea : ints? a with
    | none => rw [ea] at hr; cases hr
    | some ns =>
      cases eb : ints? b with
      | none => rw [ea, eb] at hr; cases hr
      | some ms =>
        rw [ea, eb] at hr
        cases hr
        have e1 := ints?_eq ea
        have e2 := ints?_eq eb
        subst e1 e2
        cases rx with
        | tup n1 h1 r1 =>
          cases ry with
          | tup n2 h2 r2 =>
            have q1 := r1.ints
            have q2 := r2.ints
            subst q1 q2
            exact .inr ⟨_, _, ns, ms, rfl, rfl, SqT.of h1, SqT.of h2, k _ H .refl hs (.bl _)⟩
  · cases hr
theorem od_le : OpD X (compareOp .LtE) rLe := by
  refine ⟨_, op_le, fun cs H s x y d u v Q hs rx ry hr k => ?_⟩
  unfold rLe at hr
  split at hr
  · cases hr; cases rx; cases ry; exact ⟨_, _, rfl, rfl, k _ H .refl hs (.bl _)⟩
  · cases hr
theorem od_gt : OpD X (compareOp .Gt) rGt := by
  refine ⟨_, op_gt, fun cs H s x y d u v Q hs rx ry hr k => ?_⟩
  unfold rGt at hr
  split at hr
  · cases hr; cases rx; cases ry; exact ⟨_, _, rfl, rfl, k _ H .refl hs (.bl _)⟩
  · cases hr
theorem od_ge : OpD X (compareOp .GtE) rGe := by
  refine ⟨_, op_ge, fun cs H s x y d u v Q hs rx ry hr k => ?_⟩
  unfold rGe at hr
  split at hr
  · cases hr; cases rx; cases ry; exact ⟨_, _, rfl, rfl, k _ H .refl hs (.bl _)⟩
  · cases hr

/-! ### in, not in: lists and tuples of plain data -/
/-- in a tuple of data -/
def rInT (K : PySem.W.Frag) : R2 := fun x y H Q => ∃ d ds, Dp K H x d ∧ Dp K H y (.tuple ds) ∧ SeqAt.shaped d = true ∧ SeqAt.shaped (.tuple ds) = true ∧ Q (.bl (ds.any fun z => PyData.eqv z d)) H
def rNotInT (K : PySem.W.Frag) : R2 := fun x y H Q => ∃ d ds, Dp K H x d ∧ Dp K H y (.tuple ds) ∧ SeqAt.shaped d = true ∧ SeqAt.shaped (.tuple ds) = true ∧ Q (.bl (!ds.any fun z => PyData.eqv z d)) H
theorem op_inT (hu : X.A.units + 65 < cLine) : OpR X (compareOp .In) (rInT X.K) := by
  rintro pins s σ H x y v u Q I rx ry ⟨d, ds, hd, he, sd, se, q⟩
  obtain ⟨as, r1⟩ := hd.reads I d x v rx
  obtain ⟨bs, r2⟩ := he.reads I (.tuple ds) y u ry
  exact SeqAt.in_tuple_reads r2 r1 (SeqAt.canLay_of_shaped se) (SeqAt.canLay_of_shaped sd) (room_in_shaped sd hu) ⟨.bl _, H, I, rfl, q⟩
theorem op_notInT (hu : X.A.units + 65 < cLine) : OpR X (compareOp .NotIn) (rNotInT X.K) := by
  rintro pins s σ H x y v u Q I rx ry ⟨d, ds, hd, he, sd, se, q⟩
  obtain ⟨as, r1⟩ := hd.reads I d x v rx
  obtain ⟨bs, r2⟩ := he.reads I (.tuple ds) y u ry
  exact SeqAt.notIn_tuple_reads r2 r1 (SeqAt.canLay_of_shaped se) (SeqAt.canLay_of_shaped sd) (room_in_shaped sd hu) ⟨.bl _, H, I, rfl, q⟩
/-- the items of a list, of a tuple -/
def seqOf (s : D) : D → Option (List D)
  | .lst ds => some ds
  | .tup ds => some ds
  | .cell => match s with
    | .lst ds => some ds
    | _ => none
  | _ => none
noncomputable def kIn (s x y : D) : Option Bool := match seqOf s y with
  | some ds => if plN 7 x && ds.all (plN 7) then some (ds.any fun z => deq z x) else none
  | none => none
noncomputable def rIn : R2D := fun s x y => (kIn s x y).map .bl
noncomputable def rNotIn : R2D := fun s x y => (kIn s x y).map fun b => .bl (!b)
theorem any_deq {n : Nat} {x : D} (hx : plN n x = true) : ∀ {ds : List D}, ds.all (plN n) = true → ((toPys ds).any fun z => PyData.eqv z (toPy x)) = ds.any fun z => deq z x
  | [], _ => by rw [toPys]; rfl
  | d :: ds, h => by
    rw [List.all_cons, Bool.and_eq_true] at h
    rw [toPys, List.any_cons, List.any_cons, eqv_deq h.1 hx, any_deq hx h.2]
theorem Rep.plainOfCell {cs : Gh} {H : Hp} {a : Addr} {s : D} {ds : List D} (hs : SOk cs s H) (h : cs.c = some a) (e : s = .lst ds) : ∃ xs, H a = some (.lst xs) ∧ Reps cs H xs ds := by
  subst e
  exact hs.2 a h
theorem kIn_run {K : PySem.W.Frag} {cs : Gh} {H : Hp} {s x y : D} {u v : V} {b : Bool} (hs : SOk cs s H) (rx : Rep cs H u x) (ry : Rep cs H v y) (h : kIn s x y = some b) :
    ∃ dx ds, Dp K H u dx ∧ SeqAt.shaped dx = true ∧ b = (ds.any fun z => PyData.eqv z dx) ∧ ((Dp K H v (.list ds) ∧ SeqAt.shaped (.list ds) = true) ∨ (Dp K H v (.tuple ds) ∧ SeqAt.shaped (.tuple ds) = true)) := by
  unfold kIn at h
  split at h
  · rename_i ds es
    split at h
    · rename_i hp
      obtain ⟨p1, p2⟩ := Bool.and_eq_true_iff.mp hp
      have eb : b = ds.any fun z => deq z x := (Option.some.inj h).symm
      rw [← any_deq p1 p2] at eb
      refine ⟨toPy x, toPys ds, rx.dp ⟨_, p1⟩, shaped_pl p1 (by decide), eb, ?_⟩
      have hl : SeqAt.shaped (.list (toPys ds)) = true := by
        have := shaped_pl (n := 8) (d := .lst ds) p2 (by decide)
        rwa [toPy] at this
      have ht : SeqAt.shaped (.tuple (toPys ds)) = true := by
        have := shaped_pl (n := 8) (d := .tup ds) p2 (by decide)
        rwa [toPy] at this
      cases y with
      | lst ds' =>
        cases es
        cases ry with
        | lst n h r => exact .inl ⟨.lst (SqL.of h) (Reps.dp r ⟨_, plN_of_mem p2⟩), hl⟩
      | tup ds' =>
        cases es
        cases ry with
        | tup n h r => exact .inr ⟨.tup (SqT.of h) (Reps.dp r ⟨_, plN_of_mem p2⟩), ht⟩
      | cell =>
        cases ry with
        | cell hc =>
          have es' : s = .lst ds := by
            cases s <;> first | (cases es; rfl) | cases es
          obtain ⟨xs, h, r⟩ := Rep.plainOfCell hs hc es'
          exact .inl ⟨.lst (SqL.of h) (Reps.dp r ⟨_, plN_of_mem p2⟩), hl⟩
      | _ => cases es
    · cases h
  · cases h
theorem od_in (hu : X.A.units + 150 < cLine) : OpD X (compareOp .In) rIn := by
  refine ⟨_, (op_inD (by omega)).or (op_inT (by omega)), fun cs H s x y d u v Q hs rx ry hr k => ?_⟩
  obtain ⟨b, e, rfl⟩ := map_inv hr
  obtain ⟨dx, ds, h1, h2, rfl, h4⟩ := kIn_run (K := X.K) hs rx ry e
  rcases h4 with ⟨h4, h5⟩ | ⟨h4, h5⟩
  · exact .inl ⟨dx, ds, h1, h4, h2, h5, k _ H .refl hs (.bl _)⟩
  · exact .inr ⟨dx, ds, h1, h4, h2, h5, k _ H .refl hs (.bl _)⟩
theorem od_notIn (hu : X.A.units + 150 < cLine) : OpD X (compareOp .NotIn) rNotIn := by
  refine ⟨_, (op_notInD (by omega)).or (op_notInT (by omega)), fun cs H s x y d u v Q hs rx ry hr k => ?_⟩
  obtain ⟨b, e, rfl⟩ := map_inv hr
  obtain ⟨dx, ds, h1, h2, rfl, h4⟩ := kIn_run (K := X.K) hs rx ry e
  rcases h4 with ⟨h4, h5⟩ | ⟨h4, h5⟩
  · exact .inl ⟨dx, ds, h1, h4, h2, h5, k _ H .refl hs (.bl _)⟩
  · exact .inr ⟨dx, ds, h1, h4, h2, h5, k _ H .refl hs (.bl _)⟩

/-! ### is, is not: None, truth values -/
def rIsN : R2D := fun _ x y => match y with
  | .non => some (.bl (match x with | .non => true | _ => false))
  | _ => none
def rNotN : R2D := fun _ x y => match y with
  | .non => some (.bl (match x with | .non => false | _ => true))
  | _ => none
def rIsB : R2D := fun _ x y => match x, y with
  | .bl a, .bl b => some (.bl (a == b))
  | _, _ => none
def rNotB : R2D := fun _ x y => match x, y with
  | .bl a, .bl b => some (.bl (!(a == b)))
  | _, _ => none
theorem od_isN : OpD X (compareOp .Is) rIsN := by
  refine ⟨_, op_isN, fun cs H s x y d u v Q hs rx ry hr k => ?_⟩
  unfold rIsN at hr
  split at hr
  · cases hr
    cases ry
    refine ⟨rfl, ?_⟩
    cases rx <;> exact k _ H .refl hs (.bl _)
  · cases hr
theorem od_notN : OpD X (compareOp .IsNot) rNotN := by
  refine ⟨_, op_notN, fun cs H s x y d u v Q hs rx ry hr k => ?_⟩
  unfold rNotN at hr
  split at hr
  · cases hr
    cases ry
    refine ⟨rfl, ?_⟩
    cases rx <;> exact k _ H .refl hs (.bl _)
  · cases hr
theorem od_isB : OpD X (compareOp .Is) rIsB := by
  refine ⟨_, op_is_bl, fun cs H s x y d u v Q hs rx ry hr k => ?_⟩
  unfold rIsB at hr
  split at hr
  · cases hr
    cases rx
    cases ry
    exact ⟨_, _, rfl, rfl, k _ H .refl hs (.bl _)⟩
  · cases hr
theorem od_notB : OpD X (compareOp .IsNot) rNotB := by
  refine ⟨_, op_isnot_bl, fun cs H s x y d u v Q hs rx ry hr k => ?_⟩
  unfold rNotB at hr
  split at hr
  · cases hr
    cases rx
    cases ry
    exact ⟨_, _, rfl, rfl, k _ H .refl hs (.bl _)⟩
  · cases hr
end
end Pg
set_option Elab.async false
set_option linter.all false
set_option maxRecDepth 100000
set_option maxHeartbeats 1000000
/-! Pages, part C: arithmetic, joining, dicts' items, subscripts and slices, truth, displays, calls. -/
namespace Pg
open PySem PySem.Spec PyProof.Rows L2

def lim : Nat := 100000
theorem lim_line {n : Nat} (h : n ≤ lim) : n ≤ sizeLine := Nat.le_trans h (by decide)
theorem lim_lt {n : Nat} (h : n ≤ lim) : n < sizeLine := Nat.lt_of_le_of_lt h (by decide)
section
variable {X : Cx} {a b c : Expr} {fa fb fc : E} {pos : Pos}
/-! ### arithmetic, joining -/
def rAdd : R2D := fun _ x y => match x, y with
  | .int i, .int j => some (.int (i + j))
  | .tup a, .tup b => if a.length + b.length ≤ lim then some (.tup (a ++ b)) else none
  | .lst a, .lst b => if a.length + b.length ≤ lim then some (.lst (a ++ b)) else none
  | _, _ => none
theorem od_add : OpD X (binaryOp .Add) rAdd := by
  refine ⟨_, op_add.or (op_catA.or op_cat), fun cs H s x y d u v Q hs rx ry hr k => ?_⟩
  unfold rAdd at hr
  split at hr
  · cases hr
    cases rx
    cases ry
    exact .inl ⟨_, _, rfl, rfl, k _ H .refl hs (.int _)⟩
  · split at hr
    · rename_i hl
      cases hr
      cases rx with
      | tup n1 h1 r1 =>
        cases ry with
        | tup n2 h2 r2 =>
          have e1 := r1.length
          have e2 := r2.length
          refine .inr (.inl ⟨_, _, _, _, rfl, rfl, SqT.of h1, SqT.of h2, lim_line (by rw [e1, e2]; exact hl), fun z => ?_, fun _ z => ?_, fun _ _ p hp => ?_⟩)
          · subst z; cases r1; exact k _ H .refl hs (.tup n2 h2 r2)
          · subst z; cases r2; rw [List.append_nil] at k; exact k _ H .refl hs (.tup n1 h1 r1)
          · exact k _ _ (.new hp) (hs.new hp) (.tup (hs.fresh hp) upd_same ((r1.append r2).mono (.new hp)))
    · cases hr
  · split at hr
    · rename_i hl
      cases hr
      cases rx with
      | lst n1 h1 r1 =>
        cases ry with
        | lst n2 h2 r2 =>
          have e1 := r1.length
          have e2 := r2.length
          refine .inr (.inr ⟨_, _, _, _, rfl, rfl, h1, h2, lim_line (by rw [e1, e2]; exact hl), fun p hp => ?_⟩)
          exact k _ _ (.new hp) (hs.new hp) (.lst (hs.fresh hp) upd_same ((r1.append r2).mono (.new hp)))
    · cases hr
  · cases hr
def rSub : R2D := fun _ x y => match x, y with
  | .int i, .int j => some (.int (i - j))
  | _, _ => none
theorem od_sub : OpD X (binaryOp .Sub) rSub := by
  refine ⟨_, op_sub, fun cs H s x y d u v Q hs rx ry hr k => ?_⟩
  unfold rSub at hr
  split at hr
  · cases hr; cases rx; cases ry; exact ⟨_, _, rfl, rfl, k _ H .refl hs (.int _)⟩
  · cases hr
def rMul : R2D := fun _ x y => match x, y with
  | .int i, .int j => if (-(2 ^ 64) < i ∧ i < 2 ^ 64) ∨ (-(2 ^ 64) < j ∧ j < 2 ^ 64) then some (.int (i * j)) else none
  | .tup a, .int k => if a ≠ [] ∧ 2 ≤ k ∧ k ≤ 1000 ∧ a.length ≤ 1000 then some (.tup (List.replicate k.toNat a).flatten) else none
  | _, _ => none
theorem Reps.rep {cs : Gh} {H : Hp} {vs : List V} {ds : List D} (r : Reps cs H vs ds) : ∀ n : Nat, Reps cs H (List.replicate n vs).flatten (List.replicate n ds).flatten
  | 0 => .nil
  | n + 1 => by
    rw [List.replicate_succ, List.replicate_succ, List.flatten_cons, List.flatten_cons]
    exact r.append (Reps.rep r n)
open Classical in
theorem od_mul : OpD X (binaryOp .Mult) rMul := by
  refine ⟨_, op_mul.or op_repT, fun cs H s x y d u v Q hs rx ry hr k => ?_⟩
  unfold rMul at hr
  split at hr
  · split at hr
    · rename_i hc
      cases hr; cases rx; cases ry
      exact .inl ⟨_, _, rfl, rfl, hc, k _ H .refl hs (.int _)⟩
    · cases hr
  · split at hr
    · rename_i hc
      cases hr
      cases ry
      cases rx with
      | tup n1 h1 r1 =>
        refine .inr ⟨_, _, _, rfl, rfl, SqT.of h1, fun z => hc.1 (by subst z; cases r1; rfl), hc.2.1, hc.2.2.1, by rw [r1.length]; exact hc.2.2.2, fun p hp => ?_⟩
        exact k _ _ (.new hp) (hs.new hp) (.tup (hs.fresh hp) upd_same ((r1.rep _).mono (.new hp)))
    · cases hr
  · cases hr
def rMod : R2D := fun _ x y => match x, y with
  | .int i, .int j => if 0 < j then some (.int (i % j)) else none
  | _, _ => none
theorem od_mod : OpD X (binaryOp .Mod) rMod := by
  refine ⟨_, op_mod, fun cs H s x y d u v Q hs rx ry hr k => ?_⟩
  unfold rMod at hr
  split at hr
  · split at hr
    · rename_i hc
      cases hr; cases rx; cases ry; exact ⟨_, _, rfl, rfl, hc, k _ H .refl hs (.int _)⟩
    · cases hr
  · cases hr
def rDiv : R2D := fun _ x y => match x, y with
  | .int i, .int j => if 0 < j ∧ j < 1073741824 then some (.int (i / j)) else none
  | _, _ => none
theorem od_div : OpD X (binaryOp .FloorDiv) rDiv := by
  refine ⟨_, op_fdiv, fun cs H s x y d u v Q hs rx ry hr k => ?_⟩
  unfold rDiv at hr
  split at hr
  · split at hr
    · rename_i hc
      cases hr; cases rx; cases ry; exact ⟨_, _, rfl, rfl, hc, k _ H .refl hs (.int _)⟩
    · cases hr
  · cases hr
def eNeg (fa : E) : E := fun ρ s => bnd (fa ρ s) fun x s1 => match x with
  | .int i => some (.int (-i), s1)
  | _ => none
theorem pd_neg (ha : PD X a fa) : PD X (.UnaryOp .USub a pos) (eNeg fa) := by
  obtain ⟨ta, ha, ga⟩ := ha
  refine ⟨_, pe_un un_neg ha, fun cs σ H ρ s d s' Q hρ hs hf k => ?_⟩
  obtain ⟨x, s1, e1, hf⟩ := bnd_inv hf
  refine ga cs σ H ρ s x s1 _ hρ hs e1 fun u H1 x1 k1 r1 => ?_
  cases x <;> first | (cases hf; done) | skip
  cases hf
  cases r1
  exact ⟨_, rfl, k _ H1 x1 k1 (.int _)⟩

/-! ### dicts -/
theorem valI {cs : Gh} {H : Hp} (k : Int) : ∀ {kvs : List (Key × V)} {ks : List (Int × D)}, RepI cs H kvs ks →
    (valV kvs (Sum.inl k) = none ∧ ks.lookup k = none) ∨ ∃ v d, valV kvs (Sum.inl k) = some v ∧ ks.lookup k = some d ∧ Rep cs H v d
  | _, _, .nil => .inl ⟨valV_nil, rfl⟩
  | _, _, .cons (k := j) (v := v) (d := d) r t => by
    by_cases e : j = k
    · subst e
      exact .inr ⟨v, d, valV_pos rfl, List.lookup_cons_self, r⟩
    · have hb : (k == j) = false := beq_eq_false_iff_ne.mpr fun z => e z.symm
      rw [List.lookup_cons, hb, valV_neg (fun z => e (Sum.inl.inj z))]
      exact valI k t
theorem valP {cs : Gh} {H : Hp} (a b : Int) : ∀ {kvs : List (List Key × V)} {ks : List ((Int × Int) × D)}, RepP cs H kvs ks →
    (valV kvs [Sum.inl a, Sum.inl b] = none ∧ ks.lookup (a, b) = none) ∨ ∃ v d, valV kvs [Sum.inl a, Sum.inl b] = some v ∧ ks.lookup (a, b) = some d ∧ Rep cs H v d
  | _, _, .nil => .inl ⟨valV_nil, rfl⟩
  | _, _, .cons (a := i) (b := j) (v := v) (d := d) r t => by
    by_cases e : (i, j) = (a, b)
    · cases e
      exact .inr ⟨v, d, valV_pos rfl, List.lookup_cons_self, r⟩
    · have hb : ((a, b) == (i, j)) = false := beq_eq_false_iff_ne.mpr fun z => e z.symm
      rw [List.lookup_cons, hb, valV_neg (fun z => e (by
        injection z with z1 z2
        injection z2 with z2 _
        rw [Sum.inl.inj z1, Sum.inl.inj z2]))]
      exact valP a b t
/-- what a dict holds, by addresses and by data -/
theorem kinOf_run {cs : Gh} {H : Hp} {s x y : D} {u v : V} {o : Option D} (hs : SOk cs s H) (rx : Rep cs H u x) (ry : Rep cs H v y) (h : kinOf s x y = some o) :
    ∃ a ov, v = .ref a ∧ DGet H a u ov ∧ ((ov = none ∧ o = none) ∨ ∃ w d, ov = some w ∧ o = some d ∧ Rep cs H w d) := by
  have keyP : ∀ {a b : Int} {u : V}, Rep cs H u (.tup [.int a, .int b]) → ∃ p, u = .ref p ∧ H p = some (.tup (([.inl a, .inl b] : List Key).map kV)) := by
    intro a b u r
    cases r with
    | tup n h r =>
      cases r with
      | cons r1 r =>
        cases r with
        | cons r2 r =>
          cases r; cases r1; cases r2
          exact ⟨_, rfl, h⟩
  unfold kinOf at h
  split at h
  · rename_i ks k es
    cases h
    have hk : u = .int k := by cases rx; rfl
    subst hk
    have hd : y = .dI ks := by
      cases y with
      | cell =>
        cases ry with
        | cell hc =>
          have c := hs.2 _ hc
          have es' : s = .dI ks := es
          rw [es'] at c
          exact False.elim c
      | dI ks' => cases es; rfl
      | _ => cases es
    subst hd
    cases ry with
    | @dI a kvs _ n hr r =>
      rcases valI k r with ⟨e1, e2⟩ | ⟨w, d, e1, e2, r'⟩
      · exact ⟨a, none, rfl, .inl ⟨kvs, .inl k, hr, rfl, e1.symm⟩, .inl ⟨rfl, e2⟩⟩
      · exact ⟨a, some w, rfl, .inl ⟨kvs, .inl k, hr, rfl, e1.symm⟩, .inr ⟨w, d, rfl, e2, r'⟩⟩
  · rename_i ks i j es
    cases h
    obtain ⟨p, rfl, hp⟩ := keyP rx
    have fin : ∀ {a : Addr} {kvs : List (List Key × V)}, Rd H a (.dT kvs) → RepP cs H kvs ks → ∃ ov, DGet H a (.ref p) ov ∧ ((ov = none ∧ ks.lookup (i, j) = none) ∨ ∃ w d, ov = some w ∧ ks.lookup (i, j) = some d ∧ Rep cs H w d) := by
      intro a kvs hr r
      rcases valP i j r with ⟨e1, e2⟩ | ⟨w, d, e1, e2, r'⟩
      · exact ⟨none, .inr ⟨kvs, _, p, hr, rfl, hp, e1.symm⟩, .inl ⟨rfl, e2⟩⟩
      · exact ⟨some w, .inr ⟨kvs, _, p, hr, rfl, hp, e1.symm⟩, .inr ⟨w, d, rfl, e2, r'⟩⟩
    cases y with
    | cell =>
      cases ry with
      | @cell a hc =>
        have c := hs.2 _ hc
        have es' : s = .dP ks := es
        rw [es'] at c
        obtain ⟨kvs, e1, r⟩ := c
        obtain ⟨ov, g1, g2⟩ := fin (.inl e1) r
        exact ⟨a, ov, rfl, g1, g2⟩
    | dP ks' =>
      cases es
      cases ry with
      | @dP a kvs _ n hr r =>
        obtain ⟨ov, g1, g2⟩ := fin hr r
        exact ⟨a, ov, rfl, g1, g2⟩
    | _ => cases es
  · cases h
/-- the run of k in d -/
theorem din_run {fa fb : E} {ta tb : TE}
    (ga : ∀ (cs : Gh) (σ : L2.St) (H : Hp) (ρ : Env) (s d s' : D) (Q : VK), EnvR cs H σ ρ → SOk cs s H → fa ρ s = some (d, s') → (∀ v H', Ext cs H H' → SOk cs s' H' → Rep cs H' v d → Q v H') → ta σ H Q)
    (gb : ∀ (cs : Gh) (σ : L2.St) (H : Hp) (ρ : Env) (s d s' : D) (Q : VK), EnvR cs H σ ρ → SOk cs s H → fb ρ s = some (d, s') → (∀ v H', Ext cs H H' → SOk cs s' H' → Rep cs H' v d → Q v H') → tb σ H Q)
    (cs : Gh) (σ : L2.St) (H : Hp) (ρ : Env) (s d s' : D) (Q : VK) (hρ : EnvR cs H σ ρ) (hs : SOk cs s H) (hf : eOp rDIn fa fb ρ s = some (d, s'))
    (k : ∀ v H', Ext cs H H' → SOk cs s' H' → Rep cs H' v d → Q v H') : tDIn ta tb σ H Q := by
  obtain ⟨x, s1, e1, hf⟩ := bnd_inv hf
  obtain ⟨y, s2, e2, hf⟩ := bnd_inv hf
  obtain ⟨e3, e4⟩ := ret_inv hf
  cases e4
  obtain ⟨o, e5, e6⟩ := map_inv e3
  subst e6
  refine ga cs σ H ρ s x s1 _ hρ hs e1 fun u H1 x1 k1 r1 => ?_
  refine gb cs σ H1 ρ s1 y s' _ (hρ.mono x1) k1 e2 fun v H2 x2 k2 r2 => ?_
  obtain ⟨a, ov, rfl, g, h⟩ := kinOf_run k2 (r1.mono x2) r2 e5
  refine ⟨a, ov, rfl, g, ?_⟩
  rcases h with ⟨rfl, rfl⟩ | ⟨w, d, rfl, rfl, _⟩
  · exact k _ H2 (x1.trans x2) k2 (.bl _)
  · exact k _ H2 (x1.trans x2) k2 (.bl _)
theorem dnotin_run {fa fb : E} {ta tb : TE}
    (ga : ∀ (cs : Gh) (σ : L2.St) (H : Hp) (ρ : Env) (s d s' : D) (Q : VK), EnvR cs H σ ρ → SOk cs s H → fa ρ s = some (d, s') → (∀ v H', Ext cs H H' → SOk cs s' H' → Rep cs H' v d → Q v H') → ta σ H Q)
    (gb : ∀ (cs : Gh) (σ : L2.St) (H : Hp) (ρ : Env) (s d s' : D) (Q : VK), EnvR cs H σ ρ → SOk cs s H → fb ρ s = some (d, s') → (∀ v H', Ext cs H H' → SOk cs s' H' → Rep cs H' v d → Q v H') → tb σ H Q)
    (cs : Gh) (σ : L2.St) (H : Hp) (ρ : Env) (s d s' : D) (Q : VK) (hρ : EnvR cs H σ ρ) (hs : SOk cs s H) (hf : eOp rDNotIn fa fb ρ s = some (d, s'))
    (k : ∀ v H', Ext cs H H' → SOk cs s' H' → Rep cs H' v d → Q v H') : tDNotIn ta tb σ H Q := by
  obtain ⟨x, s1, e1, hf⟩ := bnd_inv hf
  obtain ⟨y, s2, e2, hf⟩ := bnd_inv hf
  obtain ⟨e3, e4⟩ := ret_inv hf
  cases e4
  obtain ⟨o, e5, e6⟩ := map_inv e3
  subst e6
  refine ga cs σ H ρ s x s1 _ hρ hs e1 fun u H1 x1 k1 r1 => ?_
  refine gb cs σ H1 ρ s1 y s' _ (hρ.mono x1) k1 e2 fun v H2 x2 k2 r2 => ?_
  obtain ⟨a, ov, rfl, g, h⟩ := kinOf_run k2 (r1.mono x2) r2 e5
  refine ⟨a, ov, rfl, g, ?_⟩
  rcases h with ⟨rfl, rfl⟩ | ⟨w, d, rfl, rfl, _⟩
  · exact k _ H2 (x1.trans x2) k2 (.bl _)
  · exact k _ H2 (x1.trans x2) k2 (.bl _)
theorem pd_din (hu : X.A.units + 150 < cLine) (ha : PD X a fa) (hb : PD X b fb) (hm : behindInMarks .In b = false := by rfl) : PD X (.Compare a [.In] [b] pos) (eOp rDIn fa fb) := by
  obtain ⟨ta, ha, ga⟩ := ha
  obtain ⟨tb, hb, gb⟩ := hb
  exact ⟨_, pe_cmp (pc_din (by omega) ha hb) hm, din_run ga gb⟩
theorem ptd_din (hu : X.A.units + 150 < cLine) (ha : PD X a fa) (hb : PD X b fb) (hm : behindInMarks .In b = false := by rfl) : PTD X (.Compare a [.In] [b] pos) (eB (eOp rDIn fa fb)) := by
  obtain ⟨ta, ha, ga⟩ := ha
  obtain ⟨tb, hb, gb⟩ := hb
  exact ⟨_, pt_cmp (pc_din (by omega) ha hb) hm, b_run (din_run ga gb)⟩
theorem pd_dnotin (hu : X.A.units + 150 < cLine) (ha : PD X a fa) (hb : PD X b fb) (hm : behindInMarks .NotIn b = false := by rfl) : PD X (.Compare a [.NotIn] [b] pos) (eOp rDNotIn fa fb) := by
  obtain ⟨ta, ha, ga⟩ := ha
  obtain ⟨tb, hb, gb⟩ := hb
  exact ⟨_, pe_cmp (pc_dnotin (by omega) ha hb) hm, dnotin_run ga gb⟩
theorem ptd_dnotin (hu : X.A.units + 150 < cLine) (ha : PD X a fa) (hb : PD X b fb) (hm : behindInMarks .NotIn b = false := by rfl) : PTD X (.Compare a [.NotIn] [b] pos) (eB (eOp rDNotIn fa fb)) := by
  obtain ⟨ta, ha, ga⟩ := ha
  obtain ⟨tb, hb, gb⟩ := hb
  exact ⟨_, pt_cmp (pc_dnotin (by omega) ha hb) hm, b_run (dnotin_run ga gb)⟩
theorem pd_dget (hu : X.A.units + 150 < cLine) (ha : PD X a fa) (hb : PD X b fb) (hn : NoSl b) : PD X (.Subscript a b pos) (eOp rDGet fa fb) := by
  obtain ⟨ta, ha, ga⟩ := ha
  obtain ⟨tb, hb, gb⟩ := hb
  refine ⟨_, pe_dget (by omega) ha hb hn, fun cs σ H ρ s d s' Q hρ hs hf k => ?_⟩
  obtain ⟨x, s1, e1, hf⟩ := bnd_inv hf
  obtain ⟨y, s2, e2, hf⟩ := bnd_inv hf
  obtain ⟨e3, e4⟩ := ret_inv hf
  cases e4
  have e5 : kinOf s' y x = some (some d) := by
    unfold rDGet at e3
    cases q : kinOf s' y x with
    | none => rw [q] at e3; cases e3
    | some o =>
      rw [q] at e3
      have e3' : o = some d := e3
      rw [e3']
  refine ga cs σ H ρ s x s1 _ hρ hs e1 fun u H1 x1 k1 r1 => ?_
  refine gb cs σ H1 ρ s1 y s' _ (hρ.mono x1) k1 e2 fun v H2 x2 k2 r2 => ?_
  obtain ⟨a, ov, rfl, g, h⟩ := kinOf_run k2 r2 (r1.mono x2) e5
  rcases h with ⟨_, z⟩ | ⟨w, d, rfl, z, r⟩
  · cases z
  · cases z
    exact ⟨a, w, rfl, g, k _ H2 (x1.trans x2) k2 r⟩

/-! ### an item of a list, of a tuple -/
def rIx : R2D := fun s x y => match seqOf s x, y with
  | some ds, .int i => atI ds i
  | _, _ => none
theorem Reps.atI {cs : Gh} {H : Hp} {vs : List V} {ds : List D} {i : Int} {d : D} (r : Reps cs H vs ds) (h : atI ds i = some d) : ∃ v, atI vs i = some v ∧ Rep cs H v d := by
  unfold L2.atI at h ⊢
  rw [r.length]
  cases e : ixN ds.length i with
  | none => rw [e] at h; cases h
  | some j =>
    rw [e] at h
    exact r.get h
theorem seqOf_run {cs : Gh} {H : Hp} {s x : D} {u : V} {ds : List D} (hs : SOk cs s H) (r : Rep cs H u x) (h : seqOf s x = some ds) :
    ∃ a xs, u = .ref a ∧ Reps cs H xs ds ∧ (H a = some (.lst xs) ∨ H a = some (.tup xs)) := by
  cases x with
  | lst ds' =>
    cases h
    cases r with
    | lst n h r => exact ⟨_, _, rfl, r, .inl h⟩
  | tup ds' =>
    cases h
    cases r with
    | tup n h r => exact ⟨_, _, rfl, r, .inr h⟩
  | cell =>
    cases r with
    | cell hc =>
      have es : s = .lst ds := by
        cases s <;> first | (cases h; rfl) | cases h
      obtain ⟨xs, h, r⟩ := Rep.plainOfCell hs hc es
      exact ⟨_, xs, rfl, r, .inl h⟩
  | _ => cases h
theorem pd_ix (ha : PD X a fa) (hb : PD X b fb) (hp : PlainIx b) : PD X (.Subscript a b pos) (eOp rIx fa fb) := by
  obtain ⟨ta, ha, ga⟩ := ha
  obtain ⟨tb, hb, gb⟩ := hb
  refine ⟨_, pe_ix (ix_list.or ix_tup) ha hb hp, op_run ga gb fun cs H s x y d u v Q hs rx ry hr k => ?_⟩
  unfold rIx at hr
  split at hr
  · rename_i ds i e
    cases ry
    obtain ⟨a, xs, rfl, r, h⟩ := seqOf_run hs rx e
    obtain ⟨w, e2, rw'⟩ := r.atI hr
    rcases h with h | h
    · exact .inl ⟨a, xs, i, w, rfl, rfl, SqL.of h, e2, k _ H .refl hs rw'⟩
    · exact .inr ⟨a, xs, i, w, rfl, rfl, SqT.of h, e2, k _ H .refl hs rw'⟩
  · cases hr

/-! ### slices -/
abbrev EO := Env → D → Option (Option Int × D)
def POD (X : Cx) (e : Option Expr) (f : EO) : Prop := ∃ t, PO X e t ∧ ∀ (cs : Gh) (σ : L2.St) (H : Hp) (ρ : Env) (s : D) (o : Option Int) (s' : D) (Q : Option Int → Hp → Prop), EnvR cs H σ ρ → SOk cs s H → f ρ s = some (o, s') →
  (∀ H', Ext cs H H' → SOk cs s' H' → Q o H') → t σ H Q
def oNone : EO := fun _ s => some (none, s)
def oSome (fa : E) : EO := fun ρ s => bnd (fa ρ s) fun x s1 => match x with
  | .int i => some (some i, s1)
  | _ => none
theorem pod_none : POD X none oNone := ⟨_, po_none, fun cs σ H ρ s o s' Q hρ hs hf k => by cases hf; exact k H .refl hs⟩
theorem pod_some (ha : PD X a fa) : POD X (some a) (oSome fa) := by
  obtain ⟨ta, ha, ga⟩ := ha
  refine ⟨_, po_some ha, fun cs σ H ρ s o s' Q hρ hs hf k => ?_⟩
  obtain ⟨x, s1, e1, hf⟩ := bnd_inv hf
  refine ga cs σ H ρ s x s1 _ hρ hs e1 fun u H1 x1 k1 r1 => ?_
  cases x <;> first | (cases hf; done) | skip
  cases hf
  cases r1
  exact ⟨_, rfl, k H1 x1 k1⟩
/-- the items from lo up to hi -/
def cutD (xs : List D) (lo hi : Option Int) : List D := (xs.drop (HT.sIx xs.length 0 lo)).take (HT.sIx xs.length xs.length hi - HT.sIx xs.length 0 lo)
def eSl (fa : E) (fl fh : EO) : E := fun ρ s => bnd (fa ρ s) fun x s1 => bnd (fl ρ s1) fun lo s2 => bnd (fh ρ s2) fun hi s3 => match x with
  | .tup ds => some (.tup (cutD ds lo hi), s3)
  | .lst ds => some (.lst (cutD ds lo hi), s3)
  | _ => none
theorem Reps.cut {cs : Gh} {H : Hp} {vs : List V} {ds : List D} (r : Reps cs H vs ds) (lo hi : Option Int) : Reps cs H (cutV vs lo hi) (cutD ds lo hi) := by
  unfold cutV cutD
  rw [r.length]
  exact (r.drop _).take _
theorem cutD_whole {ds : List D} {lo hi : Option Int} (h1 : HT.sIx ds.length 0 lo = 0) (h2 : HT.sIx ds.length ds.length hi = ds.length) : cutD ds lo hi = ds := by
  unfold cutD
  rw [h1, h2, Nat.sub_zero]
  show ds.take ds.length = ds
  exact List.take_length
theorem pd_slice {lo hi : Option Expr} {fl fh : EO} {p2 : Pos} (ha : PD X a fa) (hl : POD X lo fl) (hh : POD X hi fh) : PD X (.Subscript a (.Slice lo hi none p2) pos) (eSl fa fl fh) := by
  obtain ⟨ta, ha, ga⟩ := ha
  obtain ⟨tl, hl, gl⟩ := hl
  obtain ⟨th, hh, gh⟩ := hh
  refine ⟨_, pe_slice (sl_list.or sl_tupA) ha hl hh, fun cs σ H ρ s d s' Q hρ hs hf k => ?_⟩
  obtain ⟨x, s1, e1, hf⟩ := bnd_inv hf
  obtain ⟨i, s2, e2, hf⟩ := bnd_inv hf
  obtain ⟨j, s3, e3, hf⟩ := bnd_inv hf
  refine ga cs σ H ρ s x s1 _ hρ hs e1 fun u H1 x1 k1 r1 => ?_
  refine gl cs σ H1 ρ s1 i s2 _ (hρ.mono x1) k1 e2 fun H2 x2 k2 => ?_
  refine gh cs σ H2 ρ s2 j s3 _ ((hρ.mono x1).mono x2) k2 e3 fun H3 x3 k3 => ?_
  have xx := (x1.trans x2).trans x3
  have r3 := (r1.mono x2).mono x3
  cases x with
  | tup ds =>
    cases hf
    cases r3 with
    | @tup a xs _ n h r =>
      have e := r.length
      refine .inr ⟨a, xs, rfl, SqT.of h, fun z => ?_, fun z p hp => ?_⟩
      · rw [e] at z
        rw [cutD_whole z.1 z.2] at k
        exact k _ H3 xx k3 (.tup n h r)
      · exact k _ _ (xx.trans (.new hp)) (k3.new hp) (.tup (k3.fresh hp) upd_same ((r.cut i j).mono (.new hp)))
  | lst ds =>
    cases hf
    cases r3 with
    | @lst a xs _ n h r =>
      exact .inl ⟨a, xs, rfl, SqL.of h, fun p hp => k _ _ (xx.trans (.new hp)) (k3.new hp) (.lst (k3.fresh hp) upd_same ((r.cut i j).mono (.new hp)))⟩
  | _ => cases hf

/-! ### chains of comparisons -/
def eChain (r r' : R2D) (fa fb fc : E) : E := fun ρ s => bnd (fa ρ s) fun x s1 => bnd (fb ρ s1) fun y s2 => match r s2 x y with
  | some (.bl true) => bnd (fc ρ s2) fun z s3 => ret (r' s3 y z) s3
  | some (.bl false) => some (.bl false, s2)
  | _ => none
theorem chain_run {rv rv' : R2} {r r' : R2D} {ta tb tc : TE}
    (ga : ∀ (cs : Gh) (σ : L2.St) (H : Hp) (ρ : Env) (s d s' : D) (Q : VK), EnvR cs H σ ρ → SOk cs s H → fa ρ s = some (d, s') → (∀ v H', Ext cs H H' → SOk cs s' H' → Rep cs H' v d → Q v H') → ta σ H Q)
    (gb : ∀ (cs : Gh) (σ : L2.St) (H : Hp) (ρ : Env) (s d s' : D) (Q : VK), EnvR cs H σ ρ → SOk cs s H → fb ρ s = some (d, s') → (∀ v H', Ext cs H H' → SOk cs s' H' → Rep cs H' v d → Q v H') → tb σ H Q)
    (gc : ∀ (cs : Gh) (σ : L2.St) (H : Hp) (ρ : Env) (s d s' : D) (Q : VK), EnvR cs H σ ρ → SOk cs s H → fc ρ s = some (d, s') → (∀ v H', Ext cs H H' → SOk cs s' H' → Rep cs H' v d → Q v H') → tc σ H Q)
    (go : ∀ (cs : Gh) (H : Hp) (s x y d : D) (u v : V) (Q : VK), SOk cs s H → Rep cs H u x → Rep cs H v y → r s x y = some d → (∀ w H', Ext cs H H' → SOk cs s H' → Rep cs H' w d → Q w H') → rv u v H Q)
    (go' : ∀ (cs : Gh) (H : Hp) (s x y d : D) (u v : V) (Q : VK), SOk cs s H → Rep cs H u x → Rep cs H v y → r' s x y = some d → (∀ w H', Ext cs H H' → SOk cs s H' → Rep cs H' w d → Q w H') → rv' u v H Q)
    (cs : Gh) (σ : L2.St) (H : Hp) (ρ : Env) (s d s' : D) (Q : VK) (hρ : EnvR cs H σ ρ) (hs : SOk cs s H) (hf : eChain r r' fa fb fc ρ s = some (d, s'))
    (k : ∀ v H', Ext cs H H' → SOk cs s' H' → Rep cs H' v d → Q v H') : tChain rv rv' ta tb tc σ H Q := by
  obtain ⟨x, s1, e1, hf⟩ := bnd_inv hf
  obtain ⟨y, s2, e2, hf⟩ := bnd_inv hf
  refine ga cs σ H ρ s x s1 _ hρ hs e1 fun u H1 x1 k1 r1 => ?_
  refine gb cs σ H1 ρ s1 y s2 _ (hρ.mono x1) k1 e2 fun v H2 x2 k2 r2 => ?_
  split at hf
  · rename_i e3
    refine go cs H2 s2 x y _ u v _ k2 (r1.mono x2) r2 e3 fun w H3 x3 k3 r3 => ?_
    cases r3
    refine ⟨true, rfl, iteT ?_⟩
    obtain ⟨z, s3, e4, hf⟩ := bnd_inv hf
    obtain ⟨e5, e6⟩ := ret_inv hf
    cases e6
    refine gc cs σ H3 ρ s2 z s' _ (((hρ.mono x1).mono x2).mono x3) k3 e4 fun w2 H4 x4 k4 r4 => ?_
    exact go' cs H4 s' y z d v w2 Q k4 ((r2.mono x3).mono x4) r4 e5 fun w3 H5 x5 k5 r5 => k w3 H5 ((((x1.trans x2).trans x3).trans x4).trans x5) k5 r5
  · rename_i e3
    cases hf
    refine go cs H2 s' x y _ u v _ k2 (r1.mono x2) r2 e3 fun w H3 x3 k3 r3 => ?_
    cases r3
    exact ⟨false, rfl, iteF (k _ H3 ((x1.trans x2).trans x3) k3 (.bl _))⟩
  · cases hf
theorem pd_chain {op op' : CmpOp} {r r' : R2D} (ho : OpD X (compareOp op) r) (ho' : OpD X (compareOp op') r') (ha : PD X a fa) (hb : PD X b fb) (hc : PD X c fc)
    (hm : lastMarks [op, op'] [b, c] = false := by with_unfolding_all rfl) : PD X (.Compare a [op, op'] [b, c] pos) (eChain r r' fa fb fc) := by
  obtain ⟨ta, ha, ga⟩ := ha
  obtain ⟨tb, hb, gb⟩ := hb
  obtain ⟨tc, hc, gc⟩ := hc
  obtain ⟨rv, ho, go⟩ := ho
  obtain ⟨rv', ho', go'⟩ := ho'
  exact ⟨_, pe_chain ho ho' ha hb hc hm, chain_run ga gb gc go go'⟩
theorem ptd_chain {op op' : CmpOp} {r r' : R2D} (ho : OpD X (compareOp op) r) (ho' : OpD X (compareOp op') r') (ha : PD X a fa) (hb : PD X b fb) (hc : PD X c fc)
    (hm : lastMarks [op, op'] [b, c] = false := by with_unfolding_all rfl) : PTD X (.Compare a [op, op'] [b, c] pos) (eB (eChain r r' fa fb fc)) := by
  obtain ⟨ta, ha, ga⟩ := ha
  obtain ⟨tb, hb, gb⟩ := hb
  obtain ⟨tc, hc, gc⟩ := hc
  obtain ⟨rv, ho, go⟩ := ho
  obtain ⟨rv', ho', go'⟩ := ho'
  exact ⟨_, pt_chain ho ho' ha hb hc hm, b_run (chain_run ga gb gc go go')⟩

/-! ### and, or, not; a if t else b -/
variable {rest : List Expr} {ba bb : EB}
def eAnd (fa fb : E) : E := fun ρ s => bnd (fa ρ s) fun x s1 => match x with
  | .bl true => fb ρ s1
  | .bl false => some (.bl false, s1)
  | _ => none
def eOr (fa fb : E) : E := fun ρ s => bnd (fa ρ s) fun x s1 => match x with
  | .bl true => some (.bl true, s1)
  | .bl false => fb ρ s1
  | _ => none
def eNot (fa : E) : E := fun ρ s => bnd (fa ρ s) fun x s1 => match x with
  | .bl b => some (.bl (!b), s1)
  | _ => none
theorem pd_one {op : BoolOp} (ha : PD X a fa) : PD X (.BoolOp op [a] pos) fa := by
  obtain ⟨ta, ha, ga⟩ := ha
  exact ⟨_, pe_one ha, ga⟩
theorem pd_and (ha : PD X a fa) (hb : PD X (.BoolOp .And (b :: rest) pos) fb) : PD X (.BoolOp .And (a :: b :: rest) pos) (eAnd fa fb) := by
  obtain ⟨ta, ha, ga⟩ := ha
  obtain ⟨tb, hb, gb⟩ := hb
  refine ⟨_, pe_and ha hb, fun cs σ H ρ s d s' Q hρ hs hf k => ?_⟩
  obtain ⟨x, s1, e1, hf⟩ := bnd_inv hf
  refine ga cs σ H ρ s x s1 _ hρ hs e1 fun u H1 x1 k1 r1 => ?_
  split at hf
  · cases r1
    exact ⟨true, rfl, iteT (gb cs σ H1 ρ s1 d s' _ (hρ.mono x1) k1 hf fun v H2 x2 k2 r2 => k v H2 (x1.trans x2) k2 r2)⟩
  · cases r1; cases hf
    exact ⟨false, rfl, iteF (k _ H1 x1 k1 (.bl _))⟩
  · cases hf
theorem pd_or (ha : PD X a fa) (hb : PD X (.BoolOp .Or (b :: rest) pos) fb) : PD X (.BoolOp .Or (a :: b :: rest) pos) (eOr fa fb) := by
  obtain ⟨ta, ha, ga⟩ := ha
  obtain ⟨tb, hb, gb⟩ := hb
  refine ⟨_, pe_or ha hb, fun cs σ H ρ s d s' Q hρ hs hf k => ?_⟩
  obtain ⟨x, s1, e1, hf⟩ := bnd_inv hf
  refine ga cs σ H ρ s x s1 _ hρ hs e1 fun u H1 x1 k1 r1 => ?_
  split at hf
  · cases r1; cases hf
    exact ⟨true, rfl, iteT (k _ H1 x1 k1 (.bl _))⟩
  · cases r1
    exact ⟨false, rfl, iteF (gb cs σ H1 ρ s1 d s' _ (hρ.mono x1) k1 hf fun v H2 x2 k2 r2 => k v H2 (x1.trans x2) k2 r2)⟩
  · cases hf
theorem pd_not (ha : PD X a fa) : PD X (.UnaryOp .Not a pos) (eNot fa) := by
  obtain ⟨ta, ha, ga⟩ := ha
  refine ⟨_, pe_not ha, fun cs σ H ρ s d s' Q hρ hs hf k => ?_⟩
  obtain ⟨x, s1, e1, hf⟩ := bnd_inv hf
  refine ga cs σ H ρ s x s1 _ hρ hs e1 fun u H1 x1 k1 r1 => ?_
  split at hf
  · cases r1; cases hf
    exact ⟨_, rfl, k _ H1 x1 k1 (.bl _)⟩
  · cases hf
/-- tests -/
def bAnd (fa fb : EB) : EB := fun ρ s => bnd (fa ρ s) fun x s1 => if x then fb ρ s1 else some (false, s1)
def bOr (fa fb : EB) : EB := fun ρ s => bnd (fa ρ s) fun x s1 => if x then some (true, s1) else fb ρ s1
def bNot (fa : EB) : EB := fun ρ s => bnd (fa ρ s) fun x s1 => some (!x, s1)
theorem pwd_and1 (ha : PTD X a ba) : PWD X (.BoolOp .And [a] pos) ba := by
  obtain ⟨ta, ha, ga⟩ := ha
  exact ⟨_, pw_and1 ha, ga⟩
theorem pwd_or1 (ha : PTD X a ba) : PWD X (.BoolOp .Or [a] pos) ba := by
  obtain ⟨ta, ha, ga⟩ := ha
  exact ⟨_, pw_or1 ha, ga⟩
theorem pwd_and (ha : PTD X a ba) (hb : PWD X (.BoolOp .And (b :: rest) pos) bb) : PWD X (.BoolOp .And (a :: b :: rest) pos) (bAnd ba bb) := by
  obtain ⟨ta, ha, ga⟩ := ha
  obtain ⟨tb, hb, gb⟩ := hb
  refine ⟨_, pw_and ha hb, fun cs σ H ρ s d s' Q hρ hs hf k => ?_⟩
  obtain ⟨x, s1, e1, hf⟩ := bnd_inv hf
  refine ga cs σ H ρ s x s1 _ hρ hs e1 fun H1 x1 k1 => ?_
  cases x with
  | true => exact iteT (gb cs σ H1 ρ s1 d s' _ (hρ.mono x1) k1 hf fun H2 x2 k2 => k H2 (x1.trans x2) k2)
  | false => cases hf; exact iteF (k H1 x1 k1)
theorem pwd_or (ha : PTD X a ba) (hb : PWD X (.BoolOp .Or (b :: rest) pos) bb) : PWD X (.BoolOp .Or (a :: b :: rest) pos) (bOr ba bb) := by
  obtain ⟨ta, ha, ga⟩ := ha
  obtain ⟨tb, hb, gb⟩ := hb
  refine ⟨_, pw_or ha hb, fun cs σ H ρ s d s' Q hρ hs hf k => ?_⟩
  obtain ⟨x, s1, e1, hf⟩ := bnd_inv hf
  refine ga cs σ H ρ s x s1 _ hρ hs e1 fun H1 x1 k1 => ?_
  cases x with
  | false => exact iteF (gb cs σ H1 ρ s1 d s' _ (hρ.mono x1) k1 hf fun H2 x2 k2 => k H2 (x1.trans x2) k2)
  | true => cases hf; exact iteT (k H1 x1 k1)
theorem ptd_w {e : Expr} (h : PWD X e ba) : PTD X e ba := by
  obtain ⟨t, h, g⟩ := h
  exact ⟨_, h.pt, g⟩
theorem ptd_not (ha : PTD X a ba) : PTD X (.UnaryOp .Not a pos) (bNot ba) := by
  obtain ⟨ta, ha, ga⟩ := ha
  refine ⟨_, pt_not ha, fun cs σ H ρ s d s' Q hρ hs hf k => ?_⟩
  obtain ⟨x, s1, e1, hf⟩ := bnd_inv hf
  cases hf
  exact ga cs σ H ρ s x s' _ hρ hs e1 fun H1 x1 k1 => k H1 x1 k1
def eIf (ba : EB) (fa fb : E) : E := fun ρ s => bnd (ba ρ s) fun x s1 => if x then fa ρ s1 else fb ρ s1
theorem pd_if {t : Expr} (ht : PTD X t ba) (ha : PD X a fa) (hb : PD X b fb) : PD X (.IfExp t a b pos) (eIf ba fa fb) := by
  obtain ⟨tt, ht, gt⟩ := ht
  obtain ⟨ta, ha, ga⟩ := ha
  obtain ⟨tb, hb, gb⟩ := hb
  refine ⟨_, pe_ifExp ht ha hb, fun cs σ H ρ s d s' Q hρ hs hf k => ?_⟩
  obtain ⟨x, s1, e1, hf⟩ := bnd_inv hf
  refine gt cs σ H ρ s x s1 _ hρ hs e1 fun H1 x1 k1 => ?_
  cases x with
  | true => exact iteT (ga cs σ H1 ρ s1 d s' _ (hρ.mono x1) k1 hf fun v H2 x2 k2 r2 => k v H2 (x1.trans x2) k2 r2)
  | false => exact iteF (gb cs σ H1 ρ s1 d s' _ (hρ.mono x1) k1 hf fun v H2 x2 k2 r2 => k v H2 (x1.trans x2) k2 r2)

/-! ### argument lists, displays -/
variable {es : List Expr} {fs : EA}
def aNil : EA := fun _ s => some ([], s)
def aCons (fa : E) (fs : EA) : EA := fun ρ s => bnd (fa ρ s) fun x s1 => bnd (fs ρ s1) fun xs s2 => some (x :: xs, s2)
theorem pad_nil : PAD X [] aNil := ⟨_, pa_nil, fun cs σ H ρ s d s' Q hρ hs hf k => by cases hf; exact k _ H .refl hs .nil⟩
theorem pad_cons (ha : PD X a fa) (hr : PAD X es fs) (hst : starEach (a :: es) X.env = (false, eval a X.env) :: starEach es X.env := by rfl) : PAD X (a :: es) (aCons fa fs) := by
  obtain ⟨ta, ha, ga⟩ := ha
  obtain ⟨tr, hr, gr⟩ := hr
  refine ⟨_, pa_cons ha hr hst, fun cs σ H ρ s ds s' Q hρ hs hf k => ?_⟩
  obtain ⟨x, s1, e1, hf⟩ := bnd_inv hf
  obtain ⟨xs, s2, e2, hf⟩ := bnd_inv hf
  cases hf
  refine ga cs σ H ρ s x s1 _ hρ hs e1 fun u H1 x1 k1 r1 => ?_
  exact gr cs σ H1 ρ s1 xs s' _ (hρ.mono x1) k1 e2 fun vs H2 x2 k2 r2 => k _ H2 (x1.trans x2) k2 (.cons (r1.mono x2) r2)
def eTup (fs : EA) : E := fun ρ s => bnd (fs ρ s) fun xs s1 => if xs.length ≤ lim then some (.tup xs, s1) else none
def eLst (fs : EA) : E := fun ρ s => bnd (fs ρ s) fun xs s1 => if xs.length ≤ lim then some (.lst xs, s1) else none
theorem pd_tup {j : Nat} (h : PAD X es fs) : PD X (.Tuple es j pos) (eTup fs) := by
  obtain ⟨t, h, g⟩ := h
  refine ⟨_, pe_tup h, fun cs σ H ρ s d s' Q hρ hs hf k => ?_⟩
  obtain ⟨xs, s1, e1, hf⟩ := bnd_inv hf
  split at hf
  · rename_i hl
    cases hf
    refine g cs σ H ρ s xs s' _ hρ hs e1 fun vs H1 x1 k1 r1 => ⟨lim_line (by rw [r1.length]; exact hl), fun p hp => ?_⟩
    exact k _ _ (x1.trans (.new hp)) (k1.new hp) (.tup (k1.fresh hp) upd_same (r1.mono (.new hp)))
  · cases hf
theorem pd_lst (h : PAD X es fs) : PD X (.List es pos) (eLst fs) := by
  obtain ⟨t, h, g⟩ := h
  refine ⟨_, pe_lst h, fun cs σ H ρ s d s' Q hρ hs hf k => ?_⟩
  obtain ⟨xs, s1, e1, hf⟩ := bnd_inv hf
  split at hf
  · rename_i hl
    cases hf
    refine g cs σ H ρ s xs s' _ hρ hs e1 fun vs H1 x1 k1 r1 => ⟨lim_line (by rw [r1.length]; exact hl), fun p hp => ?_⟩
    exact k _ _ (x1.trans (.new hp)) (k1.new hp) (.lst (k1.fresh hp) upd_same (r1.mono (.new hp)))
  · cases hf

/-! ### calls -/
abbrev Fn := List D → D → Option (D × D)
/-- what a def promises: the function F on data -/
def spF (n : Nat) (F : Fn) : Sp := fun vs H Q _ => vs.length = n ∧ ∃ (cs : Gh) (s : D) (ds : List D) (d s' : D), SOk cs s H ∧ Reps cs H vs ds ∧ F ds s = some (d, s') ∧ ∀ v H', Ext cs H H' → SOk cs s' H' → Rep cs H' v d → Q v H'
def eCall (n : Nat) (F : Fn) (fs : EA) : E := fun ρ s => bnd (fs ρ s) fun xs s1 => if xs.length = n then F xs s1 else none
theorem pd_callOf {n : Nat} {F : Fn} {e : Expr} {t : TA} (h : PE X e (tCall (spF n F) [] E0 t))
    (g : ∀ (cs : Gh) (σ : L2.St) (H : Hp) (ρ : Env) (s : D) (ds : List D) (s' : D) (Q : List V → Hp → Prop), EnvR cs H σ ρ → SOk cs s H → fs ρ s = some (ds, s') → (∀ vs H', Ext cs H H' → SOk cs s' H' → Reps cs H' vs ds → Q vs H') → t σ H Q) :
    PD X e (eCall n F fs) := by
  refine ⟨_, h, fun cs σ H ρ s d s' Q hρ hs hf k => ?_⟩
  obtain ⟨xs, s1, e1, hf⟩ := bnd_inv hf
  split at hf
  · rename_i hl
    refine g cs σ H ρ s xs s1 _ hρ hs e1 fun vs H1 x1 k1 r1 => ?_
    rw [List.append_nil]
    exact ⟨by rw [r1.length]; exact hl, cs, s1, xs, d, s', k1, r1, hf, fun v H2 x2 k2 r2 => k v H2 (x1.trans x2) k2 r2⟩
  · cases hf
theorem pd_call {n k : Nat} {F : Fn} {f : Addr} {fd : FuncData} {ps : List Str} {x : Str} {p : Pos} (G : FnOk X.prog X.w X.K X.mg X.base CX0 k f fd ps (spF n F)) (hr : Room k X.A) (hg : Gl X x) (hm : X.mg x = some (.ref f)) (hk : PySem.W.keepIn X.K (.ref f) = true)
    (hb : Binds X.K fd ps []) (ha : PAD X (a :: es) fs) (hdb : (x == ("__debug__" : Str)) = false := by decide) (he : starEach (a :: es) X.env = (false, eval a X.env) :: starEach es X.env := by rfl)
    (hpl : (backTo pos (starEach es X.env)).any (·.1) = false := by rfl) : PD X (.Call (.Name x p) (a :: es) [] pos) (eCall n F fs) := by
  obtain ⟨t, ha, ga⟩ := ha
  exact pd_callOf (pe_call G hr hg hm hk hb .nil pass0 ha hdb he hpl) ga
theorem pd_call0 {n k : Nat} {F : Fn} {f : Addr} {fd : FuncData} {ps : List Str} {x : Str} {p : Pos} (G : FnOk X.prog X.w X.K X.mg X.base CX0 k f fd ps (spF n F)) (hr : Room k X.A) (hg : Gl X x) (hm : X.mg x = some (.ref f)) (hk : PySem.W.keepIn X.K (.ref f) = true)
    (hb : Binds X.K fd ps []) (hdb : (x == ("__debug__" : Str)) = false := by decide) : PD X (.Call (.Name x p) [] [] pos) (eCall n F aNil) :=
  pd_callOf (pe_call0 G hr hg hm hk hb .nil pass0 hdb) fun cs σ H ρ s ds s' Q hρ hs hf k => by cases hf; exact k _ H .refl hs .nil

/-- a builtin -/
def eCB (r : RLD) (fs : EA) : E := fun ρ s => bnd (fs ρ s) fun xs s1 => ret (r s1 xs) s1
theorem cb_run {rv : List V → Hp → VK → Prop} {r : RLD} {t : TA}
    (g : ∀ (cs : Gh) (σ : L2.St) (H : Hp) (ρ : Env) (s : D) (ds : List D) (s' : D) (Q : List V → Hp → Prop), EnvR cs H σ ρ → SOk cs s H → fs ρ s = some (ds, s') → (∀ vs H', Ext cs H H' → SOk cs s' H' → Reps cs H' vs ds → Q vs H') → t σ H Q)
    (go : ∀ (cs : Gh) (H : Hp) (s d : D) (xs : List D) (us : List V) (Q : VK), SOk cs s H → Reps cs H us xs → r s xs = some d → (∀ w H', Ext cs H H' → SOk cs s H' → Rep cs H' w d → Q w H') → rv us H Q)
    (cs : Gh) (σ : L2.St) (H : Hp) (ρ : Env) (s d s' : D) (Q : VK) (hρ : EnvR cs H σ ρ) (hs : SOk cs s H) (hf : eCB r fs ρ s = some (d, s'))
    (k : ∀ v H', Ext cs H H' → SOk cs s' H' → Rep cs H' v d → Q v H') : tCB rv t σ H Q := by
  obtain ⟨xs, s1, e1, hf⟩ := bnd_inv hf
  obtain ⟨e2, e3⟩ := ret_inv hf
  cases e3
  exact g cs σ H ρ s xs s' _ hρ hs e1 fun vs H1 x1 k1 r1 => go cs H1 s' d xs vs Q k1 r1 e2 fun w H2 x2 k2 r2 => k w H2 (x1.trans x2) k2 r2
theorem pd_callB {id : String} {r : RLD} {x : Str} {p : Pos} (hc : CallD X (.builtin id) r) (hg : Gl X x) (hm : X.mg x = none) (hv : bootBuiltins x = some (.builtin id)) (ha : PAD X (a :: es) fs) (hn : x ≠ "__name__" := by decide) (hdb : (x == ("__debug__" : Str)) = false := by decide)
    (he : starEach (a :: es) X.env = (false, eval a X.env) :: starEach es X.env := by rfl) (hpl : (backTo pos (starEach es X.env)).any (·.1) = false := by rfl) : PD X (.Call (.Name x p) (a :: es) [] pos) (eCB r fs) := by
  obtain ⟨rv, hc, go⟩ := hc
  obtain ⟨t, ha, ga⟩ := ha
  exact ⟨_, pe_callB hc hg hm hv ha hn hdb he hpl, cb_run ga go⟩
theorem pd_callTy {T : String} {r : RLD} {x : Str} {p : Pos} (hc : CallD X (.type T) r) (hg : Gl X x) (hm : X.mg x = none) (hv : bootBuiltins x = some (.type T)) (ha : PAD X (a :: es) fs) (hn : x ≠ "__name__" := by decide) (hdb : (x == ("__debug__" : Str)) = false := by decide)
    (he : starEach (a :: es) X.env = (false, eval a X.env) :: starEach es X.env := by rfl) (hpl : (backTo pos (starEach es X.env)).any (·.1) = false := by rfl) : PD X (.Call (.Name x p) (a :: es) [] pos) (eCB r fs) := by
  obtain ⟨rv, hc, go⟩ := hc
  obtain ⟨t, ha, ga⟩ := ha
  exact ⟨_, pe_callTy hc hg hm hv ha hn hdb he hpl, cb_run ga go⟩

/-! ### builtins -/
def rLen : RLD := fun _ xs => match xs with
  | [.tup ds] => some (.int ds.length)
  | [.lst ds] => some (.int ds.length)
  | _ => none
theorem cd_len : CallD X (.builtin "len") rLen := by
  refine ⟨_, call_len_seq, fun cs H s d xs us Q hs r hr k => ?_⟩
  unfold rLen at hr
  split at hr
  · cases hr
    cases r with
    | cons r t =>
      cases t
      cases r with
      | tup n h r => exact ⟨_, _, rfl, .inr (SqT.of h), by rw [r.length]; exact k _ H .refl hs (.int _)⟩
  · cases hr
    cases r with
    | cons r t =>
      cases t
      cases r with
      | lst n h r => exact ⟨_, _, rfl, .inl (SqL.of h), by rw [r.length]; exact k _ H .refl hs (.int _)⟩
  · cases hr
def bls? : List D → Option (List Bool)
  | [] => some []
  | .bl b :: r => (bls? r).map (b :: ·)
  | _ => none
theorem bls?_eq : ∀ {ds : List D} {bs : List Bool}, bls? ds = some bs → ds = bs.map .bl
  | [], _, h => by cases h; rfl
  | .bl b :: r, _, h => by
    obtain ⟨ms, e, rfl⟩ := map_inv (show (bls? r).map (b :: ·) = some _ from h)
    rw [bls?_eq e]; rfl
  | .non :: _, _, h => by cases h
  | .int _ :: _, _, h => by cases h
  | .str _ :: _, _, h => by cases h
  | .tup _ :: _, _, h => by cases h
  | .lst _ :: _, _, h => by cases h
  | .dI _ :: _, _, h => by cases h
  | .dP _ :: _, _, h => by cases h
  | .cell :: _, _, h => by cases h
theorem bls?_map : ∀ bs : List Bool, bls? (bs.map .bl) = some bs
  | [] => rfl
  | b :: bs => by show (bls? (bs.map .bl)).map (b :: ·) = _; rw [bls?_map bs]; rfl
theorem Reps.bls {cs : Gh} {H : Hp} : ∀ {bs : List Bool} {vs : List V}, Reps cs H vs (bs.map .bl) → vs = bs.map V.bl
  | [], _, r => by cases r; rfl
  | b :: bs, _, r => by
    cases r with
    | cons h t => cases h; rw [List.map_cons, Reps.bls t]
def rAll : RLD := fun _ xs => match xs with
  | [.lst ds] => (bls? ds).map fun bs => .bl (bs.all id)
  | _ => none
def rAny : RLD := fun _ xs => match xs with
  | [.lst ds] => (bls? ds).map fun bs => .bl (bs.any id)
  | _ => none
theorem cd_all (hc : X.calm = true) : CallD X (.builtin "all") rAll := by
  refine ⟨_, cr_all hc, fun cs H s d xs us Q hs r hr k => ?_⟩
  unfold rAll at hr
  split at hr
  · obtain ⟨bs, e, rfl⟩ := map_inv hr
    have e1 := bls?_eq e
    subst e1
    cases r with
    | cons r t =>
      cases t
      cases r with
      | lst n h r =>
        have e2 := r.bls
        subst e2
        exact ⟨_, bs, rfl, SqL.of h, k _ H .refl hs (.bl _)⟩
  · cases hr
theorem cd_any (hc : X.calm = true) : CallD X (.builtin "any") rAny := by
  refine ⟨_, cr_any hc, fun cs H s d xs us Q hs r hr k => ?_⟩
  unfold rAny at hr
  split at hr
  · obtain ⟨bs, e, rfl⟩ := map_inv hr
    have e1 := bls?_eq e
    subst e1
    cases r with
    | cons r t =>
      cases t
      cases r with
      | lst n h r =>
        have e2 := r.bls
        subst e2
        exact ⟨_, bs, rfl, SqL.of h, k _ H .refl hs (.bl _)⟩
  · cases hr
def rInt : RLD := fun _ xs => match xs with
  | [.int i] => some (.int i)
  | _ => none
theorem cd_int : CallD X (.type "int") rInt := by
  refine ⟨_, call_int1, fun cs H s d xs us Q hs r hr k => ?_⟩
  unfold rInt at hr
  split at hr
  · cases hr
    cases r with
    | cons r t => cases t; cases r; exact .inl ⟨_, rfl, k _ H .refl hs (.int _)⟩
  · cases hr
def rTuple : RLD := fun _ xs => match xs with
  | [.lst ds] => some (.tup ds)
  | [.tup ds] => some (.tup ds)
  | _ => none
theorem cd_tuple : CallD X (.type "tuple") rTuple := by
  refine ⟨_, call_tuple_of, fun cs H s d xs us Q hs r hr k => ?_⟩
  unfold rTuple at hr
  split at hr
  · cases hr
    cases r with
    | cons r t =>
      cases t
      cases r with
      | lst n h r => exact ⟨_, _, rfl, .inl ⟨SqL.of h, fun p hp => k _ _ (.new hp) (hs.new hp) (.tup (hs.fresh hp) upd_same (r.mono (.new hp)))⟩⟩
  · cases hr
    cases r with
    | cons r t =>
      cases t
      cases r with
      | tup n h r => exact ⟨_, _, rfl, .inr ⟨SqT.of h, k _ H .refl hs (.tup n h r)⟩⟩
  · cases hr
def rList : RLD := fun _ xs => match xs with
  | [.lst ds] => some (.lst ds)
  | [.tup ds] => some (.lst ds)
  | _ => none
theorem cd_list : CallD X (.type "list") rList := by
  refine ⟨_, call_list_of, fun cs H s d xs us Q hs r hr k => ?_⟩
  unfold rList at hr
  split at hr
  · cases hr
    cases r with
    | cons r t =>
      cases t
      cases r with
      | lst n h r => exact ⟨_, _, rfl, .inl (SqL.of h), fun p hp => k _ _ (.new hp) (hs.new hp) (.lst (hs.fresh hp) upd_same (r.mono (.new hp)))⟩
  · cases hr
    cases r with
    | cons r t =>
      cases t
      cases r with
      | tup n h r => exact ⟨_, _, rfl, .inr (SqT.of h), fun p hp => k _ _ (.new hp) (hs.new hp) (.lst (hs.fresh hp) upd_same (r.mono (.new hp)))⟩
  · cases hr

/-! ### isinstance -/
def eIsi (q : D → Option Bool) (fa : E) : E := fun ρ s => bnd (fa ρ s) fun x s1 => match q x with
  | some b => some (.bl b, s1)
  | none => none
def qInt : D → Option Bool
  | .int _ => some true
  | .bl _ => some true
  | .non => some false
  | .str _ => some false
  | .tup _ => some false
  | .lst _ => some false
  | _ => none
def qBool : D → Option Bool
  | .int _ => some false
  | .bl _ => some true
  | .non => some false
  | .str _ => some false
  | .tup _ => some false
  | .lst _ => some false
  | _ => none
def qTup : D → Option Bool
  | .int _ => some false
  | .bl _ => some false
  | .non => some false
  | .str _ => some false
  | .tup _ => some true
  | .lst _ => some false
  | _ => none
/-- the type of a datum -/
theorem ty_of {K : PySem.W.Frag} {cs : Gh} {H : Hp} {v : V} {d : D} (r : Rep cs H v d) (q : (qInt d).isSome = true) :
    ∃ T : String, TyX K H v (.type T) ∧ ((∃ i, d = .int i) ∧ T = "int" ∨ (∃ b, d = .bl b) ∧ T = "bool" ∨ d = .non ∧ T = "NoneType" ∨ (∃ x, d = .str x) ∧ T = "str" ∨ (∃ x, d = .tup x) ∧ T = "tuple" ∨ (∃ x, d = .lst x) ∧ T = "list") := by
  cases r with
  | non => exact ⟨_, .base .non, .inr (.inr (.inl ⟨rfl, rfl⟩))⟩
  | bl b => exact ⟨_, .base (.bl b), .inr (.inl ⟨⟨b, rfl⟩, rfl⟩)⟩
  | int i => exact ⟨_, .base (.int i), .inl ⟨⟨i, rfl⟩, rfl⟩⟩
  | str x => exact ⟨_, .base (.str x), .inr (.inr (.inr (.inl ⟨⟨x, rfl⟩, rfl⟩)))⟩
  | tup n h r => exact ⟨_, .base (.tup h), .inr (.inr (.inr (.inr (.inl ⟨⟨_, rfl⟩, rfl⟩))))⟩
  | lst n h r => exact ⟨_, .base (.lst h), .inr (.inr (.inr (.inr (.inr ⟨⟨_, rfl⟩, rfl⟩))))⟩
  | dI => cases q
  | dP => cases q
  | cell => cases q
theorem pd_isiOf {T : String} {q : D → Option Bool} {p p2 : Pos} {y : Str} (hg : Gl X "isinstance") (hm : X.mg "isinstance" = none) (hT : PE X (.Name y p2) (tC (.ty T)))
    (hq : ∀ d b, q d = some b → (qInt d).isSome = true ∧ ∀ S : String, ((∃ i, d = .int i) ∧ S = "int" ∨ (∃ b, d = .bl b) ∧ S = "bool" ∨ d = .non ∧ S = "NoneType" ∨ (∃ x, d = .str x) ∧ S = "str" ∨ (∃ x, d = .tup x) ∧ S = "tuple" ∨ (∃ x, d = .lst x) ∧ S = "list") →
      PySem.W.kitOne X.K (.type S) (.type T) = some b)
    (ha : PD X a fa) (he : starEach [a, .Name y p2] X.env = (false, eval a X.env) :: starEach [.Name y p2] X.env := by rfl) (he2 : starEach [.Name y p2] X.env = (false, eval (.Name y p2) X.env) :: starEach [] X.env := by rfl)
    (hpl : (backTo pos (starEach [.Name y p2] X.env)).any (·.1) = false := by rfl) :
    PD X (.Call (.Name "isinstance" p) [a, .Name y p2] [] pos) (eIsi q fa) := by
  obtain ⟨ta, ha, ga⟩ := ha
  refine ⟨_, pe_callB call_isi hg hm (by decide +kernel) (pa_cons ha (pa_cons hT pa_nil he2) he) (by decide) (by decide) he hpl, fun cs σ H ρ s d s' Q hρ hs hf k => ?_⟩
  obtain ⟨x, s1, e1, hf⟩ := bnd_inv hf
  refine ga cs σ H ρ s x s1 _ hρ hs e1 fun u H1 x1 k1 r1 => ?_
  cases hb : q x with
  | none => rw [hb] at hf; cases hf
  | some b =>
    rw [hb] at hf
    cases hf
    obtain ⟨h1, h2⟩ := hq x b hb
    obtain ⟨S, ty, hS⟩ := ty_of (K := X.K) r1 h1
    exact ⟨u, .ty T, .type S, .type T, b, rfl, .ty T, ty, h2 S hS, k _ H1 x1 k1 (.bl b)⟩
end
end Pg
set_option Elab.async false
set_option linter.all false
set_option maxRecDepth 100000
set_option maxHeartbeats 1000000
/-! Pages, part D: targets, statements, loops, comprehensions, defs. -/
namespace Pg
open PySem PySem.Spec PyProof.Rows L2

/-! ### other cells, other bounds -/
mutual
theorem Rep.change {cs cs' : Gh} {H : Hp} (h1 : ∀ a, cs.ok a → H a ≠ none → cs'.ok a) (h2 : ∀ a, cs.c = some a → cs'.c = some a) : ∀ {v : V} {d : D}, Rep cs H v d → Rep cs' H v d
  | _, _, .non => .non
  | _, _, .bl b => .bl b
  | _, _, .int i => .int i
  | _, _, .str x => .str x
  | _, _, .tup n h r => .tup (h1 _ n (by rw [h]; exact fun z => nomatch z)) h (Reps.change h1 h2 r)
  | _, _, .lst n h r => .lst (h1 _ n (by rw [h]; exact fun z => nomatch z)) h (Reps.change h1 h2 r)
  | _, _, .dI n h r => .dI (h1 _ n (h.elim (fun h => by rw [h]; exact fun z => nomatch z) fun ⟨_, h⟩ => by rw [h]; exact fun z => nomatch z)) h (RepI.change h1 h2 r)
  | _, _, .dP n h r => .dP (h1 _ n (h.elim (fun h => by rw [h]; exact fun z => nomatch z) fun ⟨_, h⟩ => by rw [h]; exact fun z => nomatch z)) h (RepP.change h1 h2 r)
  | _, _, .cell h => .cell (h2 _ h)
theorem Reps.change {cs cs' : Gh} {H : Hp} (h1 : ∀ a, cs.ok a → H a ≠ none → cs'.ok a) (h2 : ∀ a, cs.c = some a → cs'.c = some a) : ∀ {v : List V} {d : List D}, Reps cs H v d → Reps cs' H v d
  | _, _, .nil => .nil
  | _, _, .cons r t => .cons (Rep.change h1 h2 r) (Reps.change h1 h2 t)
theorem RepI.change {cs cs' : Gh} {H : Hp} (h1 : ∀ a, cs.ok a → H a ≠ none → cs'.ok a) (h2 : ∀ a, cs.c = some a → cs'.c = some a) : ∀ {v : List (Key × V)} {d : List (Int × D)}, RepI cs H v d → RepI cs' H v d
  | _, _, .nil => .nil
  | _, _, .cons r t => .cons (Rep.change h1 h2 r) (RepI.change h1 h2 t)
theorem RepP.change {cs cs' : Gh} {H : Hp} (h1 : ∀ a, cs.ok a → H a ≠ none → cs'.ok a) (h2 : ∀ a, cs.c = some a → cs'.c = some a) : ∀ {v : List (List Key × V)} {d : List ((Int × Int) × D)}, RepP cs H v d → RepP cs' H v d
  | _, _, .nil => .nil
  | _, _, .cons r t => .cons (Rep.change h1 h2 r) (RepP.change h1 h2 t)
end
/-- one more address that nothing leans on -/
abbrev Gh.add (g : Gh) (L : Addr) : Gh := ⟨g.c, L :: g.bad⟩
section
variable {cs : Gh} {H H' : Hp} {L : Addr}
theorem add_ok (hL : H L = none) : ∀ a, cs.ok a → H a ≠ none → (cs.add L).ok a := fun a h n => ⟨fun m => (List.mem_cons.mp m).elim (fun e => n (e ▸ hL)) h.1, h.2⟩
theorem drop_ok : ∀ a, (cs.add L).ok a → H a ≠ none → cs.ok a := fun a h _ => ⟨fun m => h.1 (List.mem_cons_of_mem _ m), h.2⟩
theorem Rep.drop {v : V} {d : D} (r : Rep (cs.add L) H v d) : Rep cs H v d := r.change drop_ok fun _ h => h
theorem Reps.drop' {v : List V} {d : List D} (r : Reps (cs.add L) H v d) : Reps cs H v d := r.change drop_ok fun _ h => h
theorem EnvR.add {σ : L2.St} {ρ : Env} (h : EnvR cs H σ ρ) (hL : H L = none) : EnvR (cs.add L) H σ ρ := ⟨h.1, fun i d q => let ⟨v, h1, h2⟩ := h.2 i d q; ⟨v, h1, h2.change (add_ok hL) fun _ h => h⟩⟩
theorem SOk.drop {s : D} (h : SOk (cs.add L) s H) : SOk cs s H := ⟨fun a m => h.1 a (List.mem_cons_of_mem _ m), fun a ha => by
  have c := h.2 a ha
  cases s with
  | lst ds => obtain ⟨xs, e, r⟩ := c; exact ⟨xs, e, r.change drop_ok fun _ h => h⟩
  | dP ks => obtain ⟨xs, e, r⟩ := c; exact ⟨xs, e, r.change drop_ok fun _ h => h⟩
  | _ => exact False.elim c⟩
/-- the hidden object at L is laid or written -/
theorem sub_hidden {o : HO} : Sub (cs.add L) H (upd H L o) := fun a h => by
  have ne : a ≠ L := fun e => h.1 (by rw [e]; exact List.mem_cons_self)
  refine ⟨fun xs e => by rw [upd_ne ne]; exact e, fun xs e => by rw [upd_ne ne]; exact e, fun k e => ?_, fun k e => ?_⟩
  · rcases e with e | ⟨ob, e⟩
    · exact .inl (by rw [upd_ne ne]; exact e)
    · exact .inr ⟨ob, by rw [upd_ne ne]; exact e⟩
  · rcases e with e | ⟨ob, e⟩
    · exact .inl (by rw [upd_ne ne]; exact e)
    · exact .inr ⟨ob, by rw [upd_ne ne]; exact e⟩
theorem SOk.add {s : D} {o : HO} (h : SOk cs s H) (hL : H L = none) (ho : ∀ xs, o ≠ .tup xs) : SOk (cs.add L) s (upd H L o) := by
  have hc : cs.c ≠ some L := (h.fresh hL).2
  refine ⟨fun a m => ?_, fun a ha => ?_⟩
  · by_cases e : a = L
    · subst e; rw [upd_same]; exact ⟨o, rfl, ho⟩
    · rw [upd_ne e]; exact h.1 a ((List.mem_cons.mp m).resolve_left e)
  · have c := h.2 a ha
    have ne : a ≠ L := fun e => hc (e ▸ ha)
    cases s with
    | lst ds => obtain ⟨xs, e, r⟩ := c; exact ⟨xs, by rw [upd_ne ne]; exact e, (r.change (cs' := cs.add L) (add_ok hL) fun _ h => h).sub sub_hidden⟩
    | dP ks => obtain ⟨xs, e, r⟩ := c; exact ⟨xs, by rw [upd_ne ne]; exact e, (r.change (cs' := cs.add L) (add_ok hL) fun _ h => h).sub sub_hidden⟩
    | _ => exact False.elim c
theorem SOk.hidden {s : D} {o : HO} (h : SOk (cs.add L) s H) (hc : cs.c ≠ some L) (ho : ∀ xs, o ≠ .tup xs) : SOk (cs.add L) s (upd H L o) := by
  refine ⟨fun a m => ?_, fun a ha => ?_⟩
  · by_cases e : a = L
    · subst e; rw [upd_same]; exact ⟨o, rfl, ho⟩
    · rw [upd_ne e]; exact h.1 a m
  · have c := h.2 a ha
    have ne : a ≠ L := fun e => hc (e ▸ ha)
    cases s with
    | lst ds => obtain ⟨xs, e, r⟩ := c; exact ⟨xs, by rw [upd_ne ne]; exact e, r.sub sub_hidden⟩
    | dP ks => obtain ⟨xs, e, r⟩ := c; exact ⟨xs, by rw [upd_ne ne]; exact e, r.sub sub_hidden⟩
    | _ => exact False.elim c
end

/-! ### targets -/
/-- only the slots at is may have changed -/
def OnlyAt (is : List Nat) (σ σ' : L2.St) : Prop := σ'.length = σ.length ∧ ∀ i : Nat, i ∉ is → σ'[i]? = σ[i]?
theorem OnlyAt.trans {is : List Nat} {σ σ1 σ2 : L2.St} (a : OnlyAt is σ σ1) (b : OnlyAt is σ1 σ2) : OnlyAt is σ σ2 := ⟨b.1.trans a.1, fun i h => (b.2 i h).trans (a.2 i h)⟩
theorem wipe_in {σ : L2.St} {i : Nat} : ∀ {vs : List Nat}, i ∈ vs → i < σ.length → (wipe σ vs)[i]? = some none
  | v :: vs, h, hi => by
    unfold wipe
    by_cases e : v = i
    · subst e
      exact List.getElem?_set_self (by rw [wipe_length]; exact hi)
    · rw [List.getElem?_set_ne e]
      exact wipe_in ((List.mem_cons.mp h).resolve_left fun z => e z.symm) hi
theorem OnlyAt.wipe {is vs : List Nat} {σ σ' : L2.St} (h : OnlyAt is σ σ') (hs : ∀ i ∈ is, i ∈ vs) : wipe σ' vs = wipe σ vs := by
  apply List.ext_getElem?
  intro i
  by_cases hi : i ∈ vs
  · by_cases hl : i < σ.length
    · rw [wipe_in hi hl, wipe_in hi (by rw [h.1]; exact hl)]
    · rw [List.getElem?_eq_none (by rw [wipe_length, h.1]; omega), List.getElem?_eq_none (by rw [wipe_length]; omega)]
  · rw [wipe_out hi, wipe_out hi, h.2 i fun z => hi (hs i z)]
abbrev TD := D → Env → Option Env
def PGD (X : Cx) (target : Expr) (is : List Nat) (tg : TD) : Prop := ∃ g, PG X target g ∧ ∀ (cs : Gh) (H : Hp) (σ : L2.St) (ρ ρ' : Env) (v : V) (d : D) (Q : L2.St → Hp → Prop), EnvR cs H σ ρ → Rep cs H v d → tg d ρ = some ρ' →
  (∀ σ', EnvR cs H σ' ρ' → OnlyAt is σ σ' → Q σ' H) → g v σ H Q
abbrev TDs := List D → Env → Option Env
def PGsD (X : Cx) (ts : List Expr) (is : List Nat) (tg : TDs) : Prop := ∃ g, PGs X ts g ∧ ∀ (cs : Gh) (H : Hp) (σ : L2.St) (ρ ρ' : Env) (vs : List V) (ds : List D) (Q : L2.St → Hp → Prop), EnvR cs H σ ρ → Reps cs H vs ds → tg ds ρ = some ρ' →
  (∀ σ', EnvR cs H σ' ρ' → OnlyAt is σ σ' → Q σ' H) → g vs σ H Q
def tName (i : Nat) : TD := fun d ρ => some (ρ.set i (some d))
theorem OnlyAt.set {i : Nat} {σ : L2.St} {o : Option V} : OnlyAt [i] σ (σ.set i o) := ⟨List.length_set .., fun j h => List.getElem?_set_ne fun e => h (by rw [← e]; exact List.mem_singleton.mpr rfl)⟩
theorem OnlyAt.mono {is js : List Nat} {σ σ' : L2.St} (h : OnlyAt is σ σ') (hs : ∀ i ∈ is, i ∈ js) : OnlyAt js σ σ' := ⟨h.1, fun i hi => h.2 i fun z => hi (hs i z)⟩
theorem pgd_name {X : Cx} {i : Nat} {x : Str} {pos : Pos} (h : PG X (.Name x pos) (gName i)) : PGD X (.Name x pos) [i] (tName i) :=
  ⟨_, h, fun cs H σ ρ ρ' v d Q hρ r ht k => by cases ht; exact k _ (hρ.set i r) .set⟩
def tsNil : TDs := fun ds ρ => match ds with
  | [] => some ρ
  | _ => none
def tsCons (t : TD) (u : TDs) : TDs := fun ds ρ => match ds with
  | d :: ds => match t d ρ with
    | some ρ1 => u ds ρ1
    | none => none
  | [] => none
theorem pgsd_nil {X : Cx} : PGsD X [] [] tsNil := ⟨_, pgs_nil, fun cs H σ ρ ρ' vs ds Q hρ r ht k => by
  cases r with
  | nil => cases ht; exact ⟨rfl, k σ hρ ⟨rfl, fun _ _ => rfl⟩⟩
  | cons r t => cases ht⟩
theorem pgsd_cons {X : Cx} {e : Expr} {es : List Expr} {is js : List Nat} {t : TD} {u : TDs} (h1 : PGD X e is t) (h2 : PGsD X es js u)
    (hs : (assignEach (e :: es) X.env).map (·.2) = assign e X.env :: (assignEach es X.env).map (·.2) := by rfl) : PGsD X (e :: es) (is ++ js) (tsCons t u) := by
  obtain ⟨g, h1, k1⟩ := h1
  obtain ⟨gs, h2, k2⟩ := h2
  refine ⟨_, pgs_cons h1 h2 hs, fun cs H σ ρ ρ' vs ds Q hρ r ht k => ?_⟩
  cases r with
  | nil => cases ht
  | @cons v d vs ds r rr =>
    unfold tsCons at ht
    cases e1 : t d ρ with
    | none => simp only [e1] at ht; cases ht
    | some ρ1 =>
      simp only [e1] at ht
      exact ⟨v, vs, rfl, k1 cs H σ ρ ρ1 v d _ hρ r e1 fun σ1 hρ1 o1 => k2 cs H σ1 ρ1 ρ' vs ds _ hρ1 rr ht fun σ2 hρ2 o2 =>
        k σ2 hρ2 ((o1.mono fun i hi => List.mem_append_left _ hi).trans (o2.mono fun i hi => List.mem_append_right _ hi))⟩
/-- (a, b, ..) = a tuple or a list of that many -/
def tTup (n : Nat) (u : TDs) : TD := fun d ρ => match d with
  | .tup ds => if ds.length = n then u ds ρ else none
  | .lst ds => if ds.length = n then u ds ρ else none
  | _ => none
theorem pg_or {X : Cx} {e : Expr} {g h : TG} (a : PG X e g) (b : PG X e h) : PG X e (fun v σ H Q => g v σ H Q ∨ h v σ H Q) :=
  ⟨fun pins s σ H v u Q I r q => q.elim (a.run pins s σ H v u Q I r) (b.run pins s σ H v u Q I r)⟩
theorem pgd_tup {X : Cx} {es : List Expr} {k : Nat} {pos : Pos} {is : List Nat} {u : TDs} {n : Nat} (hc : X.calm = true) (h : PGsD X es is u)
    (hn : (assignEach es X.env).length = n := by rfl) (hst : (assignEach es X.env).findIdx? (·.1) = none := by rfl) : PGD X (.Tuple es k pos) is (tTup n u) := by
  obtain ⟨g, h, kk⟩ := h
  refine ⟨_, pg_or (pg_tup hc h hn hst) (pg_unl hc h hn hst), fun cs H σ ρ ρ' v d Q hρ r ht k => ?_⟩
  unfold tTup at ht
  cases r with
  | @tup a xs ds n1 h1 r =>
    simp only at ht
    split at ht
    · rename_i hl
      exact .inl ⟨a, xs, rfl, SqT.of h1, by rw [r.length]; exact hl, kk cs H σ ρ ρ' xs ds Q hρ r ht k⟩
    · cases ht
  | @lst a xs ds n1 h1 r =>
    simp only at ht
    split at ht
    · rename_i hl
      exact .inr ⟨a, xs, rfl, SqL.of h1, by rw [r.length]; exact hl, kk cs H σ ρ ρ' xs ds Q hρ r ht k⟩
    · cases ht
  | _ => cases ht

/-! ### statements -/
inductive Out where
  | nx (ρ : Env) | rt (d : D) | bk (ρ : Env) | ct (ρ : Env)
abbrev ES := Env → D → Option (Out × D)
def Post (cs : Gh) (H : Hp) (o : Out) (s' : D) (En : Ends) : Prop := match o with
  | .nx ρ => ∀ σ' H', Ext cs H H' → SOk cs s' H' → EnvR cs H' σ' ρ → En.nx σ' H'
  | .rt d => ∀ v H', Ext cs H H' → SOk cs s' H' → Rep cs H' v d → En.rt v H'
  | .bk ρ => ∀ σ' H', Ext cs H H' → SOk cs s' H' → EnvR cs H' σ' ρ → En.bk σ' H'
  | .ct ρ => ∀ σ' H', Ext cs H H' → SOk cs s' H' → EnvR cs H' σ' ρ → En.ct σ' H'
theorem Post.later {cs : Gh} {H H1 : Hp} {o : Out} {s' : D} {En : Ends} (p : Post cs H o s' En) (e : Ext cs H H1) : Post cs H1 o s' En := by
  cases o with
  | nx ρ => exact fun σ' H' x k r => p σ' H' (e.trans x) k r
  | rt d => exact fun v H' x k r => p v H' (e.trans x) k r
  | bk ρ => exact fun σ' H' x k r => p σ' H' (e.trans x) k r
  | ct ρ => exact fun σ' H' x k r => p σ' H' (e.trans x) k r
/-- what is claimed of a statement's reading -/
def SGood (t : TS) (g : ES) : Prop := ∀ (cs : Gh) (σ : L2.St) (H : Hp) (ρ : Env) (s : D) (o : Out) (s' : D) (En : Ends), EnvR cs H σ ρ → SOk cs s H → g ρ s = some (o, s') → Post cs H o s' En → t En σ H
def PSD (X : Cx) (st : Stmt) (g : ES) : Prop := ∃ t, PS X st t ∧ SGood t g
def PSsD (X : Cx) (st : List Stmt) (g : ES) : Prop := ∃ t, PSs X st t ∧ SGood t g
section
variable {X : Cx} {st : Stmt} {rest : List Stmt} {g h : ES} {e : Expr} {fe : E} {pos : Pos}
def sNil : ES := fun ρ s => some (.nx ρ, s)
def sSeq (g h : ES) : ES := fun ρ s => bnd (g ρ s) fun o s1 => match o with
  | .nx ρ1 => h ρ1 s1
  | o => some (o, s1)
theorem pssd_nil : PSsD X [] sNil := ⟨_, pss_nil, fun cs σ H ρ s o s' En hρ hs hf p => by cases hf; exact p σ H .refl hs hρ⟩
theorem pssd_cons (h1 : PSD X st g) (h2 : PSsD X rest h) : PSsD X (st :: rest) (sSeq g h) := by
  obtain ⟨t, h1, g1⟩ := h1
  obtain ⟨u, h2, g2⟩ := h2
  refine ⟨_, pss_cons h1 h2, fun cs σ H ρ s o s' En hρ hs hf p => ?_⟩
  obtain ⟨o1, s1, e1, hf⟩ := bnd_inv hf
  refine g1 cs σ H ρ s o1 s1 _ hρ hs e1 ?_
  cases o1 with
  | nx ρ1 => exact fun σ1 H1 x1 k1 r1 => g2 cs σ1 H1 ρ1 s1 o s' En r1 k1 hf (p.later x1)
  | rt d => cases hf; exact p
  | bk ρ => cases hf; exact p
  | ct ρ => cases hf; exact p
theorem pssd_one (h1 : PSD X st g) : PSsD X [st] g := by
  obtain ⟨t, h1, g1⟩ := h1
  exact ⟨_, pss_one h1, g1⟩
def sRet (fe : E) : ES := fun ρ s => bnd (fe ρ s) fun d s1 => some (.rt d, s1)
theorem psd_ret (he : PD X e fe) : PSD X (.Return (some e) pos) (sRet fe) := by
  obtain ⟨t, he, ge⟩ := he
  refine ⟨_, ps_ret he, fun cs σ H ρ s o s' En hρ hs hf p => ?_⟩
  obtain ⟨d, s1, e1, hf⟩ := bnd_inv hf
  cases hf
  exact ge cs σ H ρ s d s' _ hρ hs e1 p
def sIf (b : EB) (g h : ES) : ES := fun ρ s => bnd (b ρ s) fun c s1 => if c then g ρ s1 else h ρ s1
theorem psd_if {c : Expr} {a b : List Stmt} {fb : EB} (hc : PTD X c fb) (ha : PSsD X a g) (hb : PSsD X b h) : PSD X (.If c a b pos) (sIf fb g h) := by
  obtain ⟨tc, hc, gc⟩ := hc
  obtain ⟨ta, ha, ga⟩ := ha
  obtain ⟨tb, hb, gb⟩ := hb
  refine ⟨_, ps_if hc ha hb, fun cs σ H ρ s o s' En hρ hs hf p => ?_⟩
  obtain ⟨x, s1, e1, hf⟩ := bnd_inv hf
  refine gc cs σ H ρ s x s1 _ hρ hs e1 fun H1 x1 k1 => ?_
  cases x with
  | true => exact iteT (ga cs σ H1 ρ s1 o s' En (hρ.mono x1) k1 hf (p.later x1))
  | false => exact iteF (gb cs σ H1 ρ s1 o s' En (hρ.mono x1) k1 hf (p.later x1))
def sNever : ES := fun _ _ => none
theorem psd_never : PSD X st sNever := ⟨_, ps_never, fun cs σ H ρ s o s' En hρ hs hf p => by cases hf⟩
theorem pssd_never {sts : List Stmt} : PSsD X sts sNever := ⟨_, pss_never, fun cs σ H ρ s o s' En hρ hs hf p => by cases hf⟩
theorem pssd_doc {x : Str} {j : Nat} {p1 p2 : Pos} (h2 : PSsD X rest h) : PSsD X (.Expr (.Constant (.str x) j p1) p2 :: rest) h := by
  obtain ⟨u, h2, g2⟩ := h2
  exact ⟨_, pss_cons ps_doc h2, g2⟩
def sAsg (fe : E) (tg : TD) : ES := fun ρ s => bnd (fe ρ s) fun d s1 => match tg d ρ with
  | some ρ' => some (.nx ρ', s1)
  | none => none
theorem asg_good {te : TE} {gg : TG} {tg : TD} {is : List Nat}
    (ge : ∀ (cs : Gh) (σ : L2.St) (H : Hp) (ρ : Env) (s d s' : D) (Q : VK), EnvR cs H σ ρ → SOk cs s H → fe ρ s = some (d, s') → (∀ v H', Ext cs H H' → SOk cs s' H' → Rep cs H' v d → Q v H') → te σ H Q)
    (gt : ∀ (cs : Gh) (H : Hp) (σ : L2.St) (ρ ρ' : Env) (v : V) (d : D) (Q : L2.St → Hp → Prop), EnvR cs H σ ρ → Rep cs H v d → tg d ρ = some ρ' → (∀ σ', EnvR cs H σ' ρ' → OnlyAt is σ σ' → Q σ' H) → gg v σ H Q) :
    SGood (tAsg te gg) (sAsg fe tg) := fun cs σ H ρ s o s' En hρ hs hf p => by
  obtain ⟨d, s1, e1, hf⟩ := bnd_inv hf
  cases e2 : tg d ρ with
  | none => rw [e2] at hf; cases hf
  | some ρ' =>
    rw [e2] at hf
    cases hf
    exact ge cs σ H ρ s d s' _ hρ hs e1 fun v H1 x1 k1 r1 => gt cs H1 σ ρ ρ' v d _ (hρ.mono x1) r1 e2 fun σ' r _ => p σ' H1 x1 k1 r
theorem psd_asg {target : Expr} {is : List Nat} {tg : TD} (he : PD X e fe) (hg : PGD X target is tg) (hs : swapsWithSole [target] e pos.line X.env = pure false := by rfl) (hw : swappedStores [target] e X.env = pure none := by rfl)
    (h1 : (assignEach [target] X.env).map (·.2) = [assign target X.env] := by rfl) : PSD X (.Assign [target] e pos) (sAsg fe tg) := by
  obtain ⟨te, he, ge⟩ := he
  obtain ⟨gg, hg, gt⟩ := hg
  exact ⟨_, ps_asg he hg hs hw h1, asg_good ge gt⟩
/-- name = value -/
theorem psd_set {i : Nat} {x : Str} {pos' : Pos} (hN : X.N.Nodup) (hi : X.N[i]? = some x) (hx : Loc X.env.scope x) (he : PD X e fe) (hs : swapsWith e (some (.Name x pos')) pos.line X.env = pure false := by rfl)
    (hf : X.fn x = true ∨ X.env.scope.names.lookup x = some .local := by first | exact .inl rfl | exact .inr rfl | assumption) : PSD X (.Assign [.Name x pos'] e pos) (sAsg fe (tName i)) := by
  obtain ⟨te, he, ge⟩ := he
  exact ⟨_, ps_set hN hi hx he hs hf, asg_good (is := [i]) ge fun cs H σ ρ ρ' v d Q hρ r ht k => by cases ht; exact k _ (hρ.set i r) .set⟩
/-- a, b = x, y and a, b, c = x, y, z, plain local names -/
def sPar2 (i j : Nat) (fs : EA) : ES := fun ρ s => bnd (fs ρ s) fun ds s1 => match ds with
  | [x, y] => some (.nx ((ρ.set i (some x)).set j (some y)), s1)
  | _ => none
theorem psd_par2 {i j : Nat} {x y : Str} {a b : Expr} {fs : EA} {px py pt : Pos} {kt k2 : Nat} {pt2 : Pos} (hc : X.calm = true) (hN : X.N.Nodup) (hi : X.N[i]? = some x) (hj : X.N[j]? = some y) (hij : i ≠ j)
    (hx : X.env.scope.names.lookup x = some .local) (hy : X.env.scope.names.lookup y = some .local) (ha : PAD X [a, b] fs)
    (hw : swappedStores [.Tuple [.Name x px, .Name y py] kt pt] (.Tuple [a, b] k2 pt2) X.env = pure (some [x, y]) := by rfl)
    (hs : swapsWithSole [.Tuple [.Name x px, .Name y py] kt pt] (.Tuple [a, b] k2 pt2) pos.line X.env = pure false := by rfl) :
    PSD X (.Assign [.Tuple [.Name x px, .Name y py] kt pt] (.Tuple [a, b] k2 pt2) pos) (sPar2 i j fs) := by
  obtain ⟨ta, ha, ga⟩ := ha
  refine ⟨_, ps_par hc hN hi hj hij hx hy ha hw hs, fun cs σ H ρ s o s' En hρ hs hf p => ?_⟩
  obtain ⟨ds, s1, e1, hf⟩ := bnd_inv hf
  refine ga cs σ H ρ s ds s1 _ hρ hs e1 fun vs H1 x1 k1 r1 => ?_
  split at hf
  · cases hf
    cases r1 with
    | cons r1 r2 =>
      cases r2 with
      | cons r2 r3 =>
        cases r3
        exact ⟨_, _, rfl, p _ H1 x1 k1 (((hρ.mono x1).set i r1).set j r2)⟩
  · cases hf
def sPar3 (i j l : Nat) (fs : EA) : ES := fun ρ s => bnd (fs ρ s) fun ds s1 => match ds with
  | [x, y, z] => some (.nx (((ρ.set i (some x)).set j (some y)).set l (some z)), s1)
  | _ => none
theorem psd_par3 {i j l : Nat} {x y z : Str} {a b c : Expr} {fs : EA} {px py pz pt : Pos} {kt k2 : Nat} {pt2 : Pos} (hc : X.calm = true) (hN : X.N.Nodup) (hi : X.N[i]? = some x) (hj : X.N[j]? = some y) (hl : X.N[l]? = some z) (hij : i ≠ j) (hil : i ≠ l) (hjl : j ≠ l)
    (hx : X.env.scope.names.lookup x = some .local) (hy : X.env.scope.names.lookup y = some .local) (hz : X.env.scope.names.lookup z = some .local) (ha : PAD X [a, b, c] fs)
    (hw : swappedStores [.Tuple [.Name x px, .Name y py, .Name z pz] kt pt] (.Tuple [a, b, c] k2 pt2) X.env = pure (some [x, y, z]) := by rfl)
    (hs : swapsWithSole [.Tuple [.Name x px, .Name y py, .Name z pz] kt pt] (.Tuple [a, b, c] k2 pt2) pos.line X.env = pure false := by rfl) :
    PSD X (.Assign [.Tuple [.Name x px, .Name y py, .Name z pz] kt pt] (.Tuple [a, b, c] k2 pt2) pos) (sPar3 i j l fs) := by
  obtain ⟨ta, ha, ga⟩ := ha
  refine ⟨_, ps_par3 hc hN hi hj hl hij hil hjl hx hy hz ha hw hs, fun cs σ H ρ s o s' En hρ hs hf p => ?_⟩
  obtain ⟨ds, s1, e1, hf⟩ := bnd_inv hf
  refine ga cs σ H ρ s ds s1 _ hρ hs e1 fun vs H1 x1 k1 r1 => ?_
  split at hf
  · cases hf
    cases r1 with
    | cons r1 r2 =>
      cases r2 with
      | cons r2 r3 =>
        cases r3 with
        | cons r3 r4 =>
          cases r4
          exact ⟨_, _, _, rfl, p _ H1 x1 k1 ((((hρ.mono x1).set i r1).set j r2).set l r3)⟩
  · cases hf
/-- e, its value dropped -/
def sDrop (fe : E) : ES := fun ρ s => bnd (fe ρ s) fun _ s1 => some (.nx ρ, s1)
theorem psd_expr (he : PD X e fe) (hs : swapsWith e none pos.line X.env = pure false := by rfl) : PSD X (.Expr e pos) (sDrop fe) := by
  obtain ⟨te, he, ge⟩ := he
  refine ⟨_, ps_expr he hs, fun cs σ H ρ s o s' En hρ hs hf p => ?_⟩
  obtain ⟨d, s1, e1, hf⟩ := bnd_inv hf
  cases hf
  exact ge cs σ H ρ s d s' _ hρ hs e1 fun v H1 x1 k1 _ => p σ H1 x1 k1 (hρ.mono x1)

/-! ### while, with a bound of the turns -/
def whileGo (b : EB) (g : ES) : Nat → ES
  | 0, _, _ => none
  | n + 1, ρ, s => bnd (b ρ s) fun c s1 => if c then bnd (g ρ s1) fun o s2 => match o with
      | .nx ρ1 => whileGo b g n ρ1 s2
      | .ct ρ1 => whileGo b g n ρ1 s2
      | .bk ρ1 => some (.nx ρ1, s2)
      | .rt d => some (.rt d, s2)
    else some (.nx ρ, s1)
theorem psd_while (n : Nat) {c : Expr} {body : List Stmt} {fb : EB} (hp : PassesOwn (model X.prog X.w) X.A X.env X.xe) (hc : PTD X c fb) (hb : PSsD X body g) : PSD X (.While c body [] pos) (whileGo fb g n) := by
  obtain ⟨tc, hc, gc⟩ := hc
  obtain ⟨tb, hb, gb⟩ := hb
  refine ⟨_, ps_while hp hc hb, fun cs σ H ρ s o s' En hρ hs hf p => ?_⟩
  refine ⟨fun m σ1 H1 => ∃ ρ1 s1, EnvR cs H1 σ1 ρ1 ∧ SOk cs s1 H1 ∧ whileGo fb g m ρ1 s1 = some (o, s') ∧ Post cs H1 o s' En, ⟨n, ρ, s, hρ, hs, hf, p⟩, ?_⟩
  rintro m σ1 H1 ⟨ρ1, s1, hρ1, hs1, hf1, p1⟩
  cases m with
  | zero => cases hf1
  | succ m =>
    obtain ⟨x, s2, e2, hf1⟩ := bnd_inv hf1
    refine gc cs σ1 H1 ρ1 s1 x s2 _ hρ1 hs1 e2 fun H2 x2 k2 => ?_
    cases x with
    | false => cases hf1; exact iteF (p1 σ1 H2 x2 k2 (hρ1.mono x2))
    | true =>
      refine iteT ⟨fun σ' H' => ∃ ρ1 s1, EnvR cs H' σ' ρ1 ∧ SOk cs s1 H' ∧ whileGo fb g m ρ1 s1 = some (o, s') ∧ Post cs H' o s' En, fun σ' H' q => ⟨m, Nat.lt_succ_self m, q⟩, ?_⟩
      have hf2 : bnd (g ρ1 s2) (fun o s2 => match o with
        | .nx ρ1 => whileGo fb g m ρ1 s2
        | .ct ρ1 => whileGo fb g m ρ1 s2
        | .bk ρ1 => some (.nx ρ1, s2)
        | .rt d => some (.rt d, s2)) = some (o, s') := hf1
      obtain ⟨o3, s3, e3, hf3⟩ := bnd_inv hf2
      refine gb cs σ1 H2 ρ1 s2 o3 s3 _ (hρ1.mono x2) k2 e3 ?_
      cases o3 with
      | nx ρ3 => exact fun σ' H' x3 k3 r3 => ⟨ρ3, s3, r3, k3, hf3, (p1.later x2).later x3⟩
      | ct ρ3 => exact fun σ' H' x3 k3 r3 => ⟨ρ3, s3, r3, k3, hf3, (p1.later x2).later x3⟩
      | bk ρ3 => cases hf3; exact p1.later x2
      | rt d => cases hf3; exact p1.later x2

/-! ### what is walked -/
abbrev EI := Env → D → Option (List D × D)
/-- what data may lean on is as it was -/
def ExtW (cs : Gh) (H H' : Hp) : Prop := ∀ b o, cs.ok b → H b = some o → H' b = some o
theorem Ext.w {cs : Gh} {H H' : Hp} (e : Ext cs H H') : ExtW cs H H' := fun b o h => e b o h.2
/-- a walk over the items xs, from the heap H1 on, whatever else is hidden meanwhile -/
structure WalkD (cs : Gh) (H1 : Hp) (J : It) (xs : List D) : Prop where
  ex : ∃ (G : Hp → Prop) (Y : Nat → Hp → V → Hp → Prop), Walk J xs.length G Y ∧ (∀ H2, ExtW cs H1 H2 → G H2) ∧
    ∀ (cs' : Gh) (i : Nat) (H2 : Hp) (v : V) (H3 : Hp), cs'.c = cs.c → (∀ a, cs.ok a → H1 a ≠ none → cs'.ok a) → ExtW cs H1 H2 → i < xs.length → Y i H2 v H3 →
      ∃ x, xs[i]? = some x ∧ Ext cs H2 H3 ∧ ∀ s, SOk cs' s H2 → SOk cs' s H3 ∧ Rep cs' H3 v x
def IGood (wi : TI) (fi : EI) : Prop := ∀ (cs : Gh) (σ : L2.St) (H : Hp) (ρ : Env) (s : D) (xs : List D) (s' : D) (R : It → Hp → Prop), EnvR cs H σ ρ → SOk cs s H → fi ρ s = some (xs, s') →
  (∀ J H1, Ext cs H H1 → SOk cs s' H1 → WalkD cs H1 J xs → R J H1) → wi σ H R
def PID (X : Cx) (tg iter : Expr) (fi : EI) : Prop := ∃ wi, PI X tg iter wi ∧ IGood wi fi
def forGo (tg : TD) (g : ES) : List D → ES
  | [], ρ, s => some (.nx ρ, s)
  | x :: xs, ρ, s => match tg x ρ with
    | none => none
    | some ρ1 => bnd (g ρ1 s) fun o s1 => match o with
      | .nx ρ2 => forGo tg g xs ρ2 s1
      | .ct ρ2 => forGo tg g xs ρ2 s1
      | .bk ρ2 => some (.nx ρ2, s1)
      | .rt d => some (.rt d, s1)
def sFor (fi : EI) (tg : TD) (g : ES) : ES := fun ρ s => bnd (fi ρ s) fun xs s1 => forGo tg g xs ρ s1
theorem for_core {gg : TG} {tg : TD} {is : List Nat} {tb : TS}
    (gt : ∀ (cs : Gh) (H : Hp) (σ : L2.St) (ρ ρ' : Env) (v : V) (d : D) (Q : L2.St → Hp → Prop), EnvR cs H σ ρ → Rep cs H v d → tg d ρ = some ρ' → (∀ σ', EnvR cs H σ' ρ' → OnlyAt is σ σ' → Q σ' H) → gg v σ H Q)
    (gb : SGood tb g) {cs : Gh} {σ : L2.St} {H1 : Hp} {ρ : Env} {s1 s' : D} {o : Out} {En : Ends} {J : It} {xs : List D} (W : WalkD cs H1 J xs) (k1 : SOk cs s1 H1) (hρ : EnvR cs H1 σ ρ) (hf : forGo tg g xs ρ s1 = some (o, s')) (p : Post cs H1 o s' En) :
    ∃ W : Nat → Nat → L2.St → Hp → Prop, (∃ m, W 0 m σ H1) ∧ ∀ i m σ H, W i m σ H →
      (J.stop i H ∧ En.nx σ H) ∨ (J.go i H ∧ ∃ N : L2.St → Hp → Prop, (∀ σ' H', N σ' H' → ∃ m', m' < m ∧ W (i + 1) m' σ' H') ∧ ∀ x H', J.yld i H x H' → gg x σ H' fun σ2 H2 => tb { En with nx := N, ct := N, bk := En.nx } σ2 H2) := by
  obtain ⟨G, Y, w, hG, hY⟩ := W.ex
  refine for_it w (fun i σ2 H2 => ∃ ρ2 s2, Ext cs H1 H2 ∧ SOk cs s2 H2 ∧ EnvR cs H2 σ2 ρ2 ∧ forGo tg g (xs.drop i) ρ2 s2 = some (o, s')) ⟨ρ, s1, .refl, k1, hρ, hf⟩ (fun i σ2 H2 _ ⟨_, _, x2, _⟩ => hG H2 x2.w) ?_ ?_
  · rintro i v σ2 H2 H3 hi ⟨ρ2, s2, x2, k2, r2, hf2⟩ y
    obtain ⟨x, hx, x3, k3⟩ := hY cs i H2 v H3 rfl (fun _ h _ => h) x2.w hi y
    have hd : xs.drop i = x :: xs.drop (i + 1) := by
      rw [List.drop_eq_getElem_cons hi]
      have := List.getElem?_eq_getElem hi
      rw [hx] at this
      rw [Option.some.inj this]
    rw [hd] at hf2
    unfold forGo at hf2
    cases e2 : tg x ρ2 with
    | none => rw [e2] at hf2; cases hf2
    | some ρ3 =>
      rw [e2] at hf2
      refine gt cs H3 σ2 ρ2 ρ3 v x _ (r2.mono x3) (k3 s2 k2).2 e2 fun σ3 r3 _ => ?_
      obtain ⟨o4, s4, e4, hf4⟩ := bnd_inv hf2
      refine gb cs σ3 H3 ρ3 s2 o4 s4 _ r3 (k3 s2 k2).1 e4 ?_
      have xx : Ext cs H1 H3 := x2.trans x3
      cases o4 with
      | nx ρ4 => exact fun σ' H' x4 k4 r4 => ⟨ρ4, s4, xx.trans x4, k4, r4, hf4⟩
      | ct ρ4 => exact fun σ' H' x4 k4 r4 => ⟨ρ4, s4, xx.trans x4, k4, r4, hf4⟩
      | bk ρ4 => cases hf4; exact p.later xx
      | rt d => cases hf4; exact p.later xx
  · rintro σ2 H2 ⟨ρ2, s2, x2, k2, r2, hf2⟩
    rw [List.drop_length] at hf2
    cases hf2
    exact p σ2 H2 x2 k2 r2
theorem for_good {wi : TI} {fi : EI} {gg : TG} {tg : TD} {is : List Nat} {tb : TS} (gi : IGood wi fi)
    (gt : ∀ (cs : Gh) (H : Hp) (σ : L2.St) (ρ ρ' : Env) (v : V) (d : D) (Q : L2.St → Hp → Prop), EnvR cs H σ ρ → Rep cs H v d → tg d ρ = some ρ' → (∀ σ', EnvR cs H σ' ρ' → OnlyAt is σ σ' → Q σ' H) → gg v σ H Q)
    (gb : SGood tb g) : SGood (tFor wi gg tb) (sFor fi tg g) := fun cs σ H ρ s o s' En hρ hs hf p => by
  obtain ⟨xs, s1, e1, hf⟩ := bnd_inv hf
  exact gi cs σ H ρ s xs s1 _ hρ hs e1 fun J H1 x1 k1 W => for_core gt gb W k1 (hρ.mono x1) hf (p.later x1)
theorem psd_for {target iter : Expr} {body : List Stmt} {fi : EI} {tg : TD} {is : List Nat} (hp : PassesOwn (model X.prog X.w) X.A X.env X.xe) (hc : X.calm = true) (hi : PID X target iter fi) (hg : PGD X target is tg) (hb : PSsD X body g)
    (hs : ∀ x, foldedSetIterable iter X.env x = pure x := by intro _; rfl) : PSD X (.For target iter body [] pos) (sFor fi tg g) := by
  obtain ⟨wi, hi, gi⟩ := hi
  obtain ⟨gg, hg, gt⟩ := hg
  obtain ⟨tb, hb, gb⟩ := hb
  exact ⟨_, ps_for hp hc hi hg hb hs, for_good gi gt gb⟩
end

/-! ### comprehensions -/
def wipeD (ρ : Env) : List Nat → Env
  | [] => ρ
  | v :: vs => (wipeD ρ vs).set v none
theorem wipeD_some {ρ : Env} {i : Nat} {d : D} : ∀ {vs : List Nat}, (wipeD ρ vs)[i]? = some (some d) → ρ[i]? = some (some d) ∧ i ∉ vs
  | [], h => ⟨h, fun z => nomatch z⟩
  | v :: vs, h => by
    unfold wipeD at h
    by_cases e : v = i
    · subst e
      by_cases hl : v < (wipeD ρ vs).length
      · rw [List.getElem?_set_self hl] at h; cases h
      · rw [List.getElem?_eq_none (by rw [List.length_set]; omega)] at h; cases h
    · rw [List.getElem?_set_ne e] at h
      obtain ⟨h1, h2⟩ := wipeD_some h
      exact ⟨h1, fun z => (List.mem_cons.mp z).elim (fun q => e q.symm) h2⟩
theorem wipeD_length (ρ : Env) : ∀ vs : List Nat, (wipeD ρ vs).length = ρ.length
  | [] => rfl
  | v :: vs => by unfold wipeD; rw [List.length_set, wipeD_length ρ vs]
theorem EnvR.wipe {cs : Gh} {H : Hp} {σ : L2.St} {ρ : Env} (h : EnvR cs H σ ρ) (vs : List Nat) : EnvR cs H (wipe σ vs) (wipeD ρ vs) := by
  refine ⟨by rw [wipeD_length, wipe_length]; exact h.1, fun i d q => ?_⟩
  obtain ⟨q1, q2⟩ := wipeD_some q
  obtain ⟨v, h1, h2⟩ := h.2 i d q1
  exact ⟨v, by rw [wipe_out q2]; exact h1, h2⟩
def lcGo (tg : TD) (tt : EB) (te : E) (ρ : Env) : List D → D → Option (List D × D)
  | [], s => some ([], s)
  | x :: xs, s => match tg x ρ with
    | none => none
    | some ρ2 => bnd (tt ρ2 s) fun b s1 => if b then bnd (te ρ2 s1) fun y s2 => bnd (lcGo tg tt te ρ xs s2) fun ys s3 => some (y :: ys, s3) else lcGo tg tt te ρ xs s1
theorem lcGo_len {tg : TD} {tt : EB} {te : E} {ρ : Env} : ∀ {xs : List D} {s : D} {r : List D × D}, lcGo tg tt te ρ xs s = some r → r.1.length ≤ xs.length
  | [], s, r, h => by cases h; exact Nat.le_refl _
  | x :: xs, s, r, h => by
    unfold lcGo at h
    cases e : tg x ρ with
    | none => rw [e] at h; cases h
    | some ρ2 =>
      rw [e] at h
      obtain ⟨b, s1, e1, h⟩ := bnd_inv h
      cases b with
      | true =>
        obtain ⟨y, s2, e2, h⟩ := bnd_inv (show bnd (te ρ2 s1) (fun y s2 => bnd (lcGo tg tt te ρ xs s2) fun ys s3 => some (y :: ys, s3)) = some r from h)
        obtain ⟨ys, s3, e3, h⟩ := bnd_inv h
        cases h
        have q : ys.length ≤ xs.length := lcGo_len e3
        show (y :: ys).length ≤ (x :: xs).length
        rw [List.length_cons, List.length_cons]
        omega
      | false =>
        have := lcGo_len (show lcGo tg tt te ρ xs s1 = some r from h)
        rw [List.length_cons]
        omega
def eLc (fi : EI) (tg : TD) (tt : EB) (te : E) (vs : List Nat) : E := fun ρ s => bnd (fi ρ s) fun xs s1 => if xs.length ≤ lim then bnd (lcGo tg tt te (wipeD ρ vs) xs s1) fun ys s2 => some (.lst ys, s2) else none
def PTsD (X : Cx) (ifs : List Expr) (f : EB) : Prop := ∃ t, PTs X ifs t ∧ ∀ (cs : Gh) (σ : L2.St) (H : Hp) (ρ : Env) (s : D) (b : Bool) (s' : D) (Q : Bool → Hp → Prop), EnvR cs H σ ρ → SOk cs s H → f ρ s = some (b, s') →
  (∀ H', Ext cs H H' → SOk cs s' H' → Q b H') → t σ H Q
def bYes : EB := fun _ s => some (true, s)
theorem lc_coreD {gg : TG} {tg : TD} {is : List Nat} {tt : TT} {bt : EB} {te : TE} {fe : E} {vs : List Nat}
    (gt : ∀ (cs : Gh) (H : Hp) (σ : L2.St) (ρ ρ' : Env) (v : V) (d : D) (Q : L2.St → Hp → Prop), EnvR cs H σ ρ → Rep cs H v d → tg d ρ = some ρ' → (∀ σ', EnvR cs H σ' ρ' → OnlyAt is σ σ' → Q σ' H) → gg v σ H Q)
    (his : ∀ i ∈ is, i ∈ vs)
    (gb : ∀ (cs : Gh) (σ : L2.St) (H : Hp) (ρ : Env) (s : D) (b : Bool) (s' : D) (Q : Bool → Hp → Prop), EnvR cs H σ ρ → SOk cs s H → bt ρ s = some (b, s') → (∀ H', Ext cs H H' → SOk cs s' H' → Q b H') → tt σ H Q)
    (ge : ∀ (cs : Gh) (σ : L2.St) (H : Hp) (ρ : Env) (s d s' : D) (Q : VK), EnvR cs H σ ρ → SOk cs s H → fe ρ s = some (d, s') → (∀ v H', Ext cs H H' → SOk cs s' H' → Rep cs H' v d → Q v H') → te σ H Q)
    {cs : Gh} {σ : L2.St} {H1 : Hp} {ρ : Env} {s1 s' : D} {ys xs : List D} {Q : VK} {J : It} (W : WalkD cs H1 J xs) (k1 : SOk cs s1 H1) (hρ : EnvR cs H1 σ ρ) (hlim : xs.length ≤ lim) (e9 : lcGo tg bt fe (wipeD ρ vs) xs s1 = some (ys, s'))
    (k : ∀ v H', Ext cs H1 H' → SOk cs s' H' → Rep cs H' v (.lst ys) → Q v H') :
    ∀ D, H1 D = none → ∃ W : Nat → Nat → Hp → Prop, (∃ m, W 0 m (upd H1 D (.lst []))) ∧ ∀ i m H, W i m H →
      (J.stop i H ∧ Q (.ref D) H) ∨ (J.go i H ∧ ∃ Nx : Hp → Prop, (∀ H', Nx H' → ∃ m', m' < m ∧ W (i + 1) m' H') ∧ ∀ x H', J.yld i H x H' → gg x (wipe σ vs) H' fun σ2 H2 => wipe σ2 vs = wipe σ vs ∧ tt σ2 H2 fun b H3 =>
        if b = true then te σ2 H3 fun y H4 => ∃ acc, H4 D = some (.lst acc) ∧ acc.length < sizeLine ∧ Nx (upd H4 D (.lst (acc ++ [y]))) else Nx H3) := by
  obtain ⟨G, Y, w, hG, hY⟩ := W.ex
  intro L hL
  have hLh : cs.c ≠ some L := (k1.fresh hL).2
  have ro : ∀ a, cs.ok a → H1 a ≠ none → (cs.add L).ok a := add_ok hL
  -- the list at L grows; nothing leans on it
  refine lc_it w (fun i H2 => ∃ (acc : List V) (as zs : List D) (s2 : D), Ext cs H1 H2 ∧ Sub (cs.add L) H1 H2 ∧ H2 L = some (.lst acc) ∧ Reps (cs.add L) H2 acc as ∧ as.length ≤ i ∧ SOk (cs.add L) s2 H2 ∧ lcGo tg bt fe (wipeD ρ vs) (xs.drop i) s2 = some (zs, s') ∧ ys = as ++ zs)
    ⟨[], [], ys, s1, .new hL, sub_hidden, upd_same, .nil, Nat.zero_le _, k1.add hL (fun _ z => nomatch z), e9, rfl⟩ (fun i H2 _ ⟨_, _, _, _, x2, _⟩ => hG H2 x2.w) ?_ ?_
  · rintro i v H2 H3 hi ⟨acc, as, zs, s2, x2, b2, eL, rL, hl, k2, hf2, ey⟩ y
    obtain ⟨x, hx, x3, k3⟩ := hY (cs.add L) i H2 v H3 rfl ro x2.w hi y
    have hd : xs.drop i = x :: xs.drop (i + 1) := by
      rw [List.drop_eq_getElem_cons hi]
      have := List.getElem?_eq_getElem hi
      rw [hx] at this
      rw [Option.some.inj this]
    rw [hd] at hf2
    unfold lcGo at hf2
    cases e2 : tg x (wipeD ρ vs) with
    | none => rw [e2] at hf2; cases hf2
    | some ρ3 =>
      rw [e2] at hf2
      have x3' : Ext (cs.add L) H2 H3 := x3
      have hρ3 : EnvR (cs.add L) H3 (wipe σ vs) (wipeD ρ vs) := ((((hρ).add hL).sub b2).mono x3').wipe vs
      refine gt (cs.add L) H3 (wipe σ vs) (wipeD ρ vs) ρ3 v x _ hρ3 (k3 s2 k2).2 e2 fun σ3 r3 o3 => ?_
      refine ⟨by rw [o3.wipe his]; exact (OnlyAt.wipe (is := vs) (σ := σ) ⟨wipe_length σ vs, fun i h => wipe_out h⟩ fun i h => h), ?_⟩
      obtain ⟨b, s4, e4, hf4⟩ := bnd_inv hf2
      refine gb (cs.add L) σ3 H3 ρ3 s2 b s4 _ r3 (k3 s2 k2).1 e4 fun H4 x4 k4 => ?_
      have x4' : Ext cs H3 H4 := x4
      cases b with
      | true =>
        obtain ⟨z, s5, e5, hf5⟩ := bnd_inv (show bnd (fe ρ3 s4) (fun y s2 => bnd (lcGo tg bt fe (wipeD ρ vs) (xs.drop (i + 1)) s2) fun ys s3 => some (y :: ys, s3)) = some (zs, s') from hf4)
        obtain ⟨ws, s6, e6, hf6⟩ := bnd_inv hf5
        cases hf6
        refine iteT (ge (cs.add L) σ3 H4 ρ3 s4 z s5 _ (r3.mono x4) k4 e5 fun u H5 x5 k5 r5 => ?_)
        have x5' : Ext cs H4 H5 := x5
        have eL5 : H5 L = some (.lst acc) := x5 _ _ hLh (x4 _ _ hLh (x3 _ _ hLh eL))
        have ll : acc.length ≤ lim := by
          have h1 := rL.length
          omega
        have rL5 : Reps (cs.add L) H5 acc as := (((rL.mono x3').mono x4).mono x5)
        refine ⟨acc, eL5, lim_lt ll, acc ++ [u], as ++ [z], ws, s5, fun b o hb e => ?_, ?_, upd_same, (rL5.append (.one r5)).sub sub_hidden, by rw [List.length_append, List.length_singleton]; omega, k5.hidden hLh (fun _ z => nomatch z), e6, by rw [ey, List.append_assoc]; rfl⟩
        · rw [upd_ne (ne_of_none e hL)]
          exact x5' b o hb (x4' b o hb (x3 b o hb (x2 b o hb e)))
        · exact fun a h => ⟨fun xs e => (sub_hidden a h).1 xs ((x5.sub a h).1 xs ((x4.sub a h).1 xs ((x3'.sub a h).1 xs ((b2 a h).1 xs e)))),
            fun xs e => (sub_hidden a h).2.1 xs ((x5.sub a h).2.1 xs ((x4.sub a h).2.1 xs ((x3'.sub a h).2.1 xs ((b2 a h).2.1 xs e)))),
            fun xs e => (sub_hidden a h).2.2.1 xs ((x5.sub a h).2.2.1 xs ((x4.sub a h).2.2.1 xs ((x3'.sub a h).2.2.1 xs ((b2 a h).2.2.1 xs e)))),
            fun xs e => (sub_hidden a h).2.2.2 xs ((x5.sub a h).2.2.2 xs ((x4.sub a h).2.2.2 xs ((x3'.sub a h).2.2.2 xs ((b2 a h).2.2.2 xs e))))⟩
      | false =>
        exact iteF ⟨acc, as, zs, s4, (x2.trans x3).trans x4', fun a h => ⟨fun xs e => (x4.sub a h).1 xs ((x3'.sub a h).1 xs ((b2 a h).1 xs e)), fun xs e => (x4.sub a h).2.1 xs ((x3'.sub a h).2.1 xs ((b2 a h).2.1 xs e)),
          fun xs e => (x4.sub a h).2.2.1 xs ((x3'.sub a h).2.2.1 xs ((b2 a h).2.2.1 xs e)), fun xs e => (x4.sub a h).2.2.2 xs ((x3'.sub a h).2.2.2 xs ((b2 a h).2.2.2 xs e))⟩, x4 _ _ hLh (x3 _ _ hLh eL), (rL.mono x3').mono x4, Nat.le_succ_of_le hl, k4, hf4, ey⟩
  · rintro H2 ⟨acc, as, zs, s2, x2, b2, eL, rL, hl, k2, hf2, ey⟩
    rw [List.drop_length] at hf2
    cases hf2
    rw [List.append_nil] at ey
    subst ey
    exact k _ H2 x2 k2.drop (.lst (k1.fresh hL) eL rL.drop')
theorem lc_good {wi : TI} {fi : EI} {gg : TG} {tg : TD} {is : List Nat} {tt : TT} {bt : EB} {te : TE} {fe : E} {vs : List Nat} (gi : IGood wi fi)
    (gt : ∀ (cs : Gh) (H : Hp) (σ : L2.St) (ρ ρ' : Env) (v : V) (d : D) (Q : L2.St → Hp → Prop), EnvR cs H σ ρ → Rep cs H v d → tg d ρ = some ρ' → (∀ σ', EnvR cs H σ' ρ' → OnlyAt is σ σ' → Q σ' H) → gg v σ H Q)
    (his : ∀ i ∈ is, i ∈ vs)
    (gb : ∀ (cs : Gh) (σ : L2.St) (H : Hp) (ρ : Env) (s : D) (b : Bool) (s' : D) (Q : Bool → Hp → Prop), EnvR cs H σ ρ → SOk cs s H → bt ρ s = some (b, s') → (∀ H', Ext cs H H' → SOk cs s' H' → Q b H') → tt σ H Q)
    (ge : ∀ (cs : Gh) (σ : L2.St) (H : Hp) (ρ : Env) (s d s' : D) (Q : VK), EnvR cs H σ ρ → SOk cs s H → fe ρ s = some (d, s') → (∀ v H', Ext cs H H' → SOk cs s' H' → Rep cs H' v d → Q v H') → te σ H Q)
    (cs : Gh) (σ : L2.St) (H : Hp) (ρ : Env) (s d s' : D) (Q : VK) (hρ : EnvR cs H σ ρ) (hs : SOk cs s H) (hf : eLc fi tg bt fe vs ρ s = some (d, s'))
    (k : ∀ v H', Ext cs H H' → SOk cs s' H' → Rep cs H' v d → Q v H') : tLc wi gg tt te vs σ H Q := by
  obtain ⟨xs, s1, e1, hf⟩ := bnd_inv hf
  split at hf
  · rename_i hlim
    obtain ⟨ys, s9, e9, hf⟩ := bnd_inv hf
    cases hf
    exact gi cs σ H ρ s xs s1 _ hρ hs e1 fun J H1 x1 k1 W => lc_coreD gt his gb ge W k1 (hρ.mono x1) hlim e9 fun v H' x2 k2 r2 => k v H' (x1.trans x2) k2 r2
  · cases hf
end Pg
set_option Elab.async false
set_option linter.all false
set_option maxRecDepth 100000
set_option maxHeartbeats 1000000
/-! Pages, part E: the canonical readings; comprehensions as rules; what is walked; the cell's stores; defs. -/
namespace Pg
open PySem PySem.Spec PyProof.Rows L2

/-! ### canonical readings -/
def tOf (f : E) : TE := fun σ H Q => ∃ (cs : Gh) (ρ : Env) (s d s' : D), EnvR cs H σ ρ ∧ SOk cs s H ∧ f ρ s = some (d, s') ∧ ∀ v H', Ext cs H H' → SOk cs s' H' → Rep cs H' v d → Q v H'
theorem PD.pe {X : Cx} {e : Expr} {f : E} (h : PD X e f) : PE X e (tOf f) := by
  obtain ⟨t, h, g⟩ := h
  exact ⟨fun pins s σ H Q I ⟨cs, ρ, s1, d, s', h1, h2, h3, h4⟩ => h.run pins s σ H Q I (g cs σ H ρ s1 d s' Q h1 h2 h3 h4)⟩
theorem tOf_good {f : E} (cs : Gh) (σ : L2.St) (H : Hp) (ρ : Env) (s d s' : D) (Q : VK) (h1 : EnvR cs H σ ρ) (h2 : SOk cs s H) (h3 : f ρ s = some (d, s')) (h4 : ∀ v H', Ext cs H H' → SOk cs s' H' → Rep cs H' v d → Q v H') : tOf f σ H Q :=
  ⟨cs, ρ, s, d, s', h1, h2, h3, h4⟩
def bOf (f : EB) : TT := fun σ H Q => ∃ (cs : Gh) (ρ : Env) (s : D) (b : Bool) (s' : D), EnvR cs H σ ρ ∧ SOk cs s H ∧ f ρ s = some (b, s') ∧ ∀ H', Ext cs H H' → SOk cs s' H' → Q b H'
theorem bOf_good {f : EB} (cs : Gh) (σ : L2.St) (H : Hp) (ρ : Env) (s : D) (b : Bool) (s' : D) (Q : Bool → Hp → Prop) (h1 : EnvR cs H σ ρ) (h2 : SOk cs s H) (h3 : f ρ s = some (b, s')) (h4 : ∀ H', Ext cs H H' → SOk cs s' H' → Q b H') : bOf f σ H Q :=
  ⟨cs, ρ, s, b, s', h1, h2, h3, h4⟩
theorem PTsD.pts {X : Cx} {ifs : List Expr} {f : EB} (h : PTsD X ifs f) : PTs X ifs (bOf f) := by
  obtain ⟨t, h, g⟩ := h
  exact ⟨fun pins s σ H Q I ⟨cs, ρ, s1, d, s', h1, h2, h3, h4⟩ => h.run pins s σ H Q I (g cs σ H ρ s1 d s' Q h1 h2 h3 h4)⟩
theorem ptsd_nil {X : Cx} : PTsD X [] bYes := ⟨_, pts_nil, fun cs σ H ρ s b s' Q h1 h2 h3 h4 => by cases h3; exact h4 H .refl h2⟩
theorem ptsd_one {X : Cx} {c : Expr} {f : EB} (h : PTD X c f) : PTsD X [c] f := by
  obtain ⟨t, h, g⟩ := h
  exact ⟨_, pts_one h, g⟩
def gOf (is : List Nat) (tg : TD) : TG := fun v σ H Q => ∃ (cs : Gh) (ρ ρ' : Env) (d : D), EnvR cs H σ ρ ∧ Rep cs H v d ∧ tg d ρ = some ρ' ∧ ∀ σ', EnvR cs H σ' ρ' → OnlyAt is σ σ' → Q σ' H
theorem PGD.pg {X : Cx} {target : Expr} {is : List Nat} {tg : TD} (h : PGD X target is tg) : PG X target (gOf is tg) := by
  obtain ⟨g, h, k⟩ := h
  exact ⟨fun pins s σ H v u Q I r ⟨cs, ρ, ρ', d, h1, h2, h3, h4⟩ => h.run pins s σ H v u Q I r (k cs H σ ρ ρ' v d Q h1 h2 h3 h4)⟩
theorem gOf_good {is : List Nat} {tg : TD} (cs : Gh) (H : Hp) (σ : L2.St) (ρ ρ' : Env) (v : V) (d : D) (Q : L2.St → Hp → Prop) (h1 : EnvR cs H σ ρ) (h2 : Rep cs H v d) (h3 : tg d ρ = some ρ') (h4 : ∀ σ', EnvR cs H σ' ρ' → OnlyAt is σ σ' → Q σ' H) : gOf is tg v σ H Q :=
  ⟨cs, ρ, ρ', d, h1, h2, h3, h4⟩
def iOf (fi : EI) : TI := fun σ H R => ∃ (cs : Gh) (ρ : Env) (s : D) (xs : List D) (s' : D), EnvR cs H σ ρ ∧ SOk cs s H ∧ fi ρ s = some (xs, s') ∧ ∀ J H1, Ext cs H H1 → SOk cs s' H1 → WalkD cs H1 J xs → R J H1
theorem PID.pi {X : Cx} {tg iter : Expr} {fi : EI} (h : PID X tg iter fi) : PI X tg iter (iOf fi) := by
  obtain ⟨w, h, k⟩ := h
  exact ⟨fun pins s σ H R I ⟨cs, ρ, s1, xs, s', h1, h2, h3, h4⟩ => h.run pins s σ H R I (k cs σ H ρ s1 xs s' R h1 h2 h3 h4)⟩
theorem iOf_good {fi : EI} : IGood (iOf fi) fi := fun cs σ H ρ s xs s' R h1 h2 h3 h4 => ⟨cs, ρ, s, xs, s', h1, h2, h3, h4⟩

section
variable {X : Cx}
/-- in a comprehension's block -/
abbrev InBlk (X : Cx) (scope : Scope) (P : Cx → Prop) : Prop := ∀ (s : Shared) (H : Hp) (C : Addr) (cl : List (Str × Addr)) (fp : List Addr), P (X.blk s H scope (compEnvC scope cl C X.env) fp)
theorem pd_lc {elt tg iter : Expr} {ifs : List Expr} {scope : Scope} {own : List (Str × Nat)} {pos : Pos} {fi : EI} {is : List Nat} {td : TD} {bt : EB} {fe : E} (hc : X.calm = true) (hN : X.N.Nodup) (hi : PID X tg iter fi) (ok : BlkOk X.N X.env.scope scope own)
    (his : ∀ i ∈ is, i ∈ own.map (·.2)) (hg : InBlk X scope fun Y => PGD Y tg is td) (ht : InBlk X scope fun Y => PTsD Y ifs bt) (he : InBlk X scope fun Y => PD Y elt fe) (hs : ∀ x, foldedSetIterable iter X.env x = pure x := by intro _; rfl) :
    PD X (.ListComp elt [⟨tg, iter, ifs, 0⟩] scope pos) (eLc fi td bt fe (own.map (·.2))) :=
  ⟨_, pe_lc hc hN hi.pi ok (fun s H C cl fp => (hg s H C cl fp).pg) (fun s H C cl fp => (ht s H C cl fp).pts) (fun s H C cl fp => (he s H C cl fp).pe) hs, lc_good iOf_good gOf_good his bOf_good tOf_good⟩
theorem psd_setLc {i : Nat} {y : Str} {py : Pos} {elt tg iter : Expr} {ifs : List Expr} {scope : Scope} {own : List (Str × Nat)} {pos spos : Pos} {fi : EI} {is : List Nat} {td : TD} {bt : EB} {fe : E} (hc : X.calm = true) (hN : X.N.Nodup)
    (hy : X.N[i]? = some y) (hyl : X.env.scope.names.lookup y = some .local) (hsw : swapsWith (.ListComp elt [⟨tg, iter, ifs, 0⟩] scope pos) (some (.Name y py)) spos.line X.env = pure true) (hi : PID X tg iter fi) (ok : BlkOk X.N X.env.scope scope own)
    (his : ∀ i ∈ is, i ∈ own.map (·.2)) (hg : InBlk X scope fun Y => PGD Y tg is td) (ht : InBlk X scope fun Y => PTsD Y ifs bt) (he : InBlk X scope fun Y => PD Y elt fe) (hs : ∀ x, foldedSetIterable iter X.env x = pure x := by intro _; rfl) :
    PSD X (.Assign [.Name y py] (.ListComp elt [⟨tg, iter, ifs, 0⟩] scope pos) spos) (sAsg (eLc fi td bt fe (own.map (·.2))) (tName i)) :=
  ⟨_, ps_setLc hc hN hy hyl hsw hi.pi ok (fun s H C cl fp => (hg s H C cl fp).pg) (fun s H C cl fp => (ht s H C cl fp).pts) (fun s H C cl fp => (he s H C cl fp).pe) hs,
    asg_good (is := [i]) (lc_good iOf_good gOf_good his bOf_good tOf_good) fun cs H σ ρ ρ' v d Q hρ r ht k => by cases ht; exact k _ (hρ.set i r) .set⟩

/-! ### what is walked -/
theorem ExtW.sub {cs : Gh} {H H' : Hp} (e : ExtW cs H H') : Sub cs H H' := fun a n =>
  ⟨fun xs h => e _ _ n h, fun xs h => e _ _ n h, fun k h => h.elim (fun h => .inl (e _ _ n h)) fun ⟨o, h⟩ => .inr ⟨o, e _ _ n h⟩, fun k h => h.elim (fun h => .inl (e _ _ n h)) fun ⟨o, h⟩ => .inr ⟨o, e _ _ n h⟩⟩
theorem Rep.carry {cs cs' : Gh} {H1 H2 : Hp} {v : V} {d : D} (r : Rep cs H1 v d) (hc : cs'.c = cs.c) (ho : ∀ a, cs.ok a → H1 a ≠ none → cs'.ok a) (e : ExtW cs H1 H2) : Rep cs' H2 v d := by
  have r1 : Rep ⟨cs.c, cs.bad ++ cs'.bad⟩ H1 v d := r.change (cs' := ⟨cs.c, cs.bad ++ cs'.bad⟩) (fun a h n => ⟨fun m => (List.mem_append.mp m).elim h.1 (ho a h n).1, h.2⟩) fun _ h => h
  have r2 : Rep ⟨cs.c, cs.bad ++ cs'.bad⟩ H2 v d := Rep.sub (cs := ⟨cs.c, cs.bad ++ cs'.bad⟩) (H := H1) (H' := H2) (fun a h => e.sub a ⟨fun m => h.1 (List.mem_append_left _ m), h.2⟩) r1
  exact r2.change (fun a h _ => ⟨fun m => h.1 (List.mem_append_right _ m), by rw [hc]; exact h.2⟩) fun a h => by rw [hc]; exact h
theorem pi_or {tg iter : Expr} {w1 w2 : TI} (h1 : PI X tg iter w1) (h2 : PI X tg iter w2) : PI X tg iter (fun σ H R => w1 σ H R ∨ w2 σ H R) :=
  ⟨fun pins s σ H R I q => q.elim (h1.run pins s σ H R I) (h2.run pins s σ H R I)⟩
/-- a list, a tuple -/
def iSeq (fe : E) : EI := fun ρ s => bnd (fe ρ s) fun d s1 => match d with
  | .lst ds => some (ds, s1)
  | .tup ds => some (ds, s1)
  | _ => none
theorem pid_seq {tg e : Expr} {fe : E} (he : PD X e fe) : PID X tg e (iSeq fe) := by
  obtain ⟨t, he, g⟩ := he
  refine ⟨_, pi_or (pi_list he) (pi_tup he), fun cs σ H ρ s xs s' R hρ hs hf k => ?_⟩
  obtain ⟨d, s1, e1, hf⟩ := bnd_inv hf
  cases d with
  | lst ds =>
    cases hf
    refine .inl (g cs σ H ρ s _ _ _ hρ hs e1 fun v H1 x1 k1 r1 => ?_)
    cases r1 with
    | @lst a vs _ n h r =>
      refine ⟨a, rfl, ⟨vs, SqL.of h⟩, k _ H1 x1 k1 ⟨_, _, r.length ▸ walk_list (K := X.K) (a := a) (xs := vs), fun H2 e => SqL.of (e _ _ n h), ?_⟩⟩
      rintro cs' i H2 v H3 hc ho e hi ⟨rfl, hv⟩
      obtain ⟨x, hx, rx⟩ := r.getV hv
      exact ⟨x, hx, .refl, fun s hs => ⟨hs, rx.carry hc ho e⟩⟩
  | tup ds =>
    cases hf
    refine .inr (g cs σ H ρ s _ _ _ hρ hs e1 fun v H1 x1 k1 r1 => ?_)
    cases r1 with
    | @tup a vs _ n h r =>
      refine ⟨a, rfl, ⟨vs, SqT.of h⟩, k _ H1 x1 k1 ⟨_, _, r.length ▸ walk_tup (K := X.K) (a := a) (xs := vs), fun H2 e => SqT.of (e _ _ n h), ?_⟩⟩
      rintro cs' i H2 v H3 hc ho e hi ⟨rfl, hv⟩
      obtain ⟨x, hx, rx⟩ := r.getV hv
      exact ⟨x, hx, .refl, fun s hs => ⟨hs, rx.carry hc ho e⟩⟩
  | _ => cases hf
/-- range(n) -/
def iRng (fe : E) : EI := fun ρ s => bnd (fe ρ s) fun d s1 => match d with
  | .int (.ofNat n) => if n ≤ 1000 then some ((List.range n).map fun (i : Nat) => D.int i, s1) else none
  | _ => none
theorem pid_range {tg a : Expr} {fe : E} {p pos : Pos} (hg : Gl X "range") (hm : X.mg "range" = none) (ha : PD X a fe) (hs : starEach [a] X.env = [(false, eval a X.env)] := by rfl) : PID X tg (.Call (.Name "range" p) [a] [] pos) (iRng fe) := by
  obtain ⟨t, ha, g⟩ := ha
  refine ⟨_, pi_range1 hg hm (pa_cons ha pa_nil (by rw [hs]; rfl)) hs, fun cs σ H ρ s xs s' R hρ hs hf k => ?_⟩
  obtain ⟨d, s1, e1, hf⟩ := bnd_inv hf
  split at hf
  · rename_i n
    split at hf
    · rename_i hj
      cases hf
      refine g cs σ H ρ s _ _ _ hρ hs e1 fun v H1 x1 k1 r1 => ?_
      cases r1
      have c1 : -(2 ^ 62) ≤ Int.ofNat n := by
        show -(2 ^ 62) ≤ ((n : Nat) : Int)
        omega
      have c2 : Int.ofNat n < 2 ^ 62 := by
        show ((n : Nat) : Int) < 2 ^ 62
        omega
      refine ⟨Int.ofNat n, rfl, c1, c2, k _ H1 x1 k1 ⟨fun _ => True, YFn fun (i : Nat) => .int (0 + i), ?_, fun _ _ => trivial, ?_⟩⟩
      · rw [List.length_map, List.length_range]
        exact walk_range
      · rintro cs' i H2 v H3 hc ho e hi ⟨rfl, rfl⟩
        rw [List.length_map, List.length_range] at hi
        refine ⟨.int i, ?_, .refl, fun s hs => ⟨hs, by show Rep cs' _ (.int (0 + (i : Int))) _; rw [Int.zero_add]; exact .int _⟩⟩
        rw [List.getElem?_map, List.getElem?_range hi]
        rfl
    · cases hf
  · cases hf

/-! ### stores to the cell -/
theorem SOk.put {cs : Gh} {s s' : D} {H : Hp} {a : Addr} {o : HO} (h : SOk cs s H) (hc : cs.c = some a) (c : Cont cs (upd H a o) a s') : SOk cs s' (upd H a o) := by
  refine ⟨fun b m => ?_, fun b hb => ?_⟩
  · by_cases e : b = a
    · subst e; exact c.noTup
    · rw [upd_ne e]; exact h.1 b m
  · rw [hc] at hb; cases hb; exact c
theorem Ext.put {cs : Gh} {H : Hp} {a : Addr} {o : HO} (hc : cs.c = some a) : Ext cs H (upd H a o) := fun b u n e => by
  rw [upd_ne fun z => n (by rw [hc, z])]; exact e
/-- cell[i] = e -/
def sCellSet (i : Nat) (fi fe : E) : ES := fun ρ s => bnd (fe ρ s) fun d s1 => match ρ[i]? with
  | some (some .cell) => bnd (fi ρ s1) fun x s2 => match x, s2 with
    | .int k, .lst ds => match ixN ds.length k with
      | some j => some (.nx ρ, .lst (ds.set j d))
      | none => none
    | _, _ => none
  | _ => none
theorem psd_cellSet {i : Nat} {o ix e : Expr} {fi fe : E} {pos pos' : Pos} (ho : PE X o (tVar i)) (hi : PD X ix fi) (he : PD X e fe)
    (ha : ∀ v, assign (.Subscript o ix pos') X.env v = (do
      let ov ← holding [v] (eval o X.env)
      let iv ← holding [v, ov] (eval ix X.env)
      standAt pos'
      holding [v, ov, iv] (setItem ov iv v)
      release [v, ov, iv] []) := by intro _; rfl) (hs : swapsWithSole [.Subscript o ix pos'] e pos.line X.env = pure false := by rfl) (hw : swappedStores [.Subscript o ix pos'] e X.env = pure none := by rfl)
    (h1 : (assignEach [.Subscript o ix pos'] X.env).map (·.2) = [assign (.Subscript o ix pos') X.env] := by rfl) : PSD X (.Assign [.Subscript o ix pos'] e pos) (sCellSet i fi fe) := by
  obtain ⟨te, he, ge⟩ := he
  obtain ⟨ti, hi, gi⟩ := hi
  refine ⟨_, ps_asg he (pg_sub ho hi set_list ha) hs hw h1, fun cs σ H ρ s o' s' En hρ hs hf p => ?_⟩
  obtain ⟨d, s1, e1, hf⟩ := bnd_inv hf
  split at hf
  · rename_i ec
    obtain ⟨x, s2, e2, hf⟩ := bnd_inv hf
    refine ge cs σ H ρ s d s1 _ hρ hs e1 fun v H1 x1 k1 r1 => ?_
    obtain ⟨w, hw, rw'⟩ := (hρ.mono x1).2 i _ ec
    refine ⟨w, hw, gi cs σ H1 ρ s1 x s2 _ (hρ.mono x1) k1 e2 fun u H2 x2 k2 r2 => ?_⟩
    cases rw' with
    | @cell a hc =>
      split at hf
      · rename_i k ds
        cases r2
        have c := k2.2 a hc
        obtain ⟨xs, hx, rx⟩ := c
        split at hf
        · rename_i j ej
          cases hf
          refine ⟨a, xs, k, j, rfl, rfl, hx, by rw [rx.length]; exact ej, ?_⟩
          have xx : Ext cs H2 (upd H2 a (.lst (xs.set j v))) := .put hc
          exact p σ _ ((x1.trans x2).trans xx) (k2.put hc ⟨_, upd_same, (rx.set (r1.mono x2) j).mono xx⟩) (((hρ.mono x1).mono x2).mono xx)
        · cases hf
      · cases hf
  · cases hf
/-- cell.append(e) -/
def sCellApp (i : Nat) (fe : E) : ES := fun ρ s => match ρ[i]?, s with
  | some (some .cell), .lst _ => bnd (fe ρ s) fun d s1 => match s1 with
    | .lst ds => if ds.length ≤ lim then some (.nx ρ, .lst (ds ++ [d])) else none
    | _ => none
  | _, _ => none
theorem psd_cellApp {i : Nat} {o e : Expr} {fe : E} {apos cpos pos : Pos} (ho : PE X o (tVar i)) (he : PD X e fe)
    (hbase : attributeBase o "append" X.env (eval o X.env) = eval o X.env := by rfl)
    (hfew : ((backTo cpos (starEach [e] X.env)).all (fun x => !x.1) && (backToKw cpos (keywordEach [] X.env)).all (fun x => x.1.isSome)
      && decide (([e] : List Expr).length + ([] : List Keyword).length + (if ([] : List Keyword).isEmpty then 0 else 1) < 30)) = true := by rfl)
    (hline : (apos.endLine == cpos.line) = true := by rfl) (hst : starEach [e] X.env = (false, eval e X.env) :: starEach [] X.env := by rfl) (hplain : (backTo cpos (starEach [] X.env)).any (·.1) = false := by rfl)
    (hs : swapsWith (.Call (.Attribute o "append" apos) [e] [] cpos) none pos.line X.env = pure false := by rfl) : PSD X (.Expr (.Call (.Attribute o "append" apos) [e] [] cpos) pos) (sCellApp i fe) := by
  obtain ⟨te, he, ge⟩ := he
  refine ⟨_, ps_expr (pe_bm PySem.F.plainAttrs_list PySem.F.slot_list_append PySem.F.type_list_append mt_append ho (pa_cons he pa_nil hst) hbase hfew hline hst hplain) hs, fun cs σ H ρ s o' s' En hρ hs hf p => ?_⟩
  unfold sCellApp at hf
  split at hf
  · rename_i ds0 ec
    obtain ⟨d, s1, e1, hf⟩ := bnd_inv hf
    obtain ⟨w, hw, rw'⟩ := hρ.2 i _ ec
    cases rw' with
    | @cell a hc =>
      obtain ⟨xs0, h0, _⟩ := hs.2 a hc
      split at hf
      · rename_i ds
        split at hf
        · rename_i hl
          cases hf
          refine ⟨.ref a, hw, .inl ⟨rfl, xs0, SqL.of h0⟩, ge cs σ H ρ _ d _ _ hρ hs e1 fun v H1 x1 k1 r1 => ?_⟩
          obtain ⟨xs, hx, rx⟩ := k1.2 a hc
          have xx : Ext cs H1 (upd H1 a (.lst (xs ++ [v]))) := .put hc
          exact ⟨a, xs, v, rfl, rfl, hx, lim_lt (by rw [rx.length]; exact hl), p σ _ (x1.trans xx) (k1.put hc ⟨_, upd_same, (rx.append (.one r1)).mono xx⟩) ((hρ.mono x1).mono xx)⟩
        · cases hf
      · cases hf
  · cases hf
end
end Pg
set_option Elab.async false
set_option linter.all false
set_option maxRecDepth 100000
set_option maxHeartbeats 1000000
/-! Pages, part F: defs. -/
namespace Pg
open PySem PySem.Spec PyProof.Rows L2

/-- what a body hands back -/
def bodyOut : Option (Out × D) → Option (D × D)
  | some (.rt d, s) => some (d, s)
  | some (.nx _, s) => some (.non, s)
  | _ => none
def startD (m : Nat) (ds : List D) : Env := ds.map some ++ List.replicate (m - ds.length) none
/-- the function of a def with n parameters and m names in all -/
def defF (m n : Nat) (g : ES) : Fn := fun ds s => if ds.length = n then bodyOut (g (startD m ds) s) else none
theorem start_env {cs : Gh} {H : Hp} {N : List Str} {vs : List V} {ds : List D} (r : Reps cs H vs ds) : EnvR cs H (start N vs) (startD N.length ds) := by
  have hl := r.length
  refine ⟨?_, fun i d q => ?_⟩
  · unfold L2.start startD
    rw [List.length_append, List.length_append, List.length_map, List.length_map, List.length_replicate, List.length_replicate, hl]
    exact Nat.le_refl _
  · unfold startD at q
    by_cases hi : i < ds.length
    · rw [List.getElem?_append_left (by rw [List.length_map]; exact hi), List.getElem?_map] at q
      cases e : ds[i]? with
      | none => rw [e] at q; cases q
      | some d' =>
        rw [e] at q
        cases q
        obtain ⟨v, h1, h2⟩ := r.get e
        refine ⟨v, ?_, h2⟩
        unfold L2.start
        rw [List.getElem?_append_left (by rw [List.length_map, hl]; exact hi), List.getElem?_map, h1]
        rfl
    · rw [List.getElem?_append_right (by rw [List.length_map]; omega), List.getElem?_replicate] at q
      split at q <;> cases q
/-- the def x stands in the module and computes F -/
structure DefOk (P : Program) (w : World) (K : PySem.W.Frag) (mg : Str → Option Value) (base : Heap) (x : Str) (k n : Nat) (F : Fn) : Prop where
  ex : ∃ (f : Addr) (fd : FuncData) (ps : List Str), mg x = some (.ref f) ∧ PySem.W.keepIn K (.ref f) = true ∧ Binds K fd ps [] ∧ FnOk P w K mg base CX0 k f fd ps (spF n F)
theorem DefOk.mono {P : Program} {w : World} {K : PySem.W.Frag} {mg : Str → Option Value} {base : Heap} {x : Str} {j k n : Nat} {F : Fn} (h : DefOk P w K mg base x j n F) (l : j ≤ k) : DefOk P w K mg base x k n F :=
  let ⟨f, fd, ps, h1, h2, h3, h4⟩ := h.ex; ⟨f, fd, ps, h1, h2, h3, h4.mono l⟩
section
variable {P : Program} {w : World} {K : PySem.W.Frag} {mg : Str → Option Value} {base : Heap} {x : Str} {f : Addr} {fd : FuncData} {params : Arguments} {body : List Stmt} {scope : Scope}
theorem def_ok {N ps : List Str} {k : Nat} {g : ES} (F0 : FunD K x x params body scope [] [] f fd) (hm : mg x = some (.ref f)) (S : FnScope N ps scope) (b : Binds K fd ps [])
    (hb : ∀ (cdv : Value) (A : Around) (outer : List PySem.Env) (s : Shared) (H : Hp) (E : XK), Room k (A.deeper (envOfC x scope s.heap.objs.size f cdv)) → PSsD (cxOf CX0 P w K mg base N x scope f cdv A outer s H E).nox body g) :
    DefOk P w K mg base x (k + 1) ps.length (defF N.length ps.length g) := by
  refine ⟨f, fd, ps, hm, F0.kp, b, F0.ok S (fun vs H Q E h => h.1) fun cdv A outer s H vs Q E hr h => ?_⟩
  obtain ⟨hl, cs, s0, ds, d, s', hs, r, hf, k⟩ := h
  obtain ⟨t, ht, gt⟩ := hb cdv A outer s H E hr
  refine ⟨t, ht.nox, ?_⟩
  unfold defF at hf
  split at hf
  · cases e : g (startD N.length ds) s0 with
    | none => rw [e] at hf; cases hf
    | some q =>
      obtain ⟨o, s1⟩ := q
      rw [e] at hf
      refine gt cs (start N vs) H (startD N.length ds) s0 o s1 _ (start_env r) hs e ?_
      cases o with
      | nx ρ => cases hf; exact fun σ' H' x k1 _ => k _ H' x k1 .non
      | rt d' => cases hf; exact fun v H' x k1 r1 => k v H' x k1 r1
      | bk ρ => cases hf
      | ct ρ => cases hf
  · cases hf
end
section
variable {X : Cx} {a : Expr} {es : List Expr} {fs : EA} {pos p : Pos} {k n : Nat} {F : Fn} {x : Str}
theorem pd_callD (G : DefOk X.prog X.w X.K X.mg X.base x k n F) (hr : Room k X.A) (hg : Gl X x) (ha : PAD X (a :: es) fs) (hdb : (x == ("__debug__" : Str)) = false := by decide)
    (he : starEach (a :: es) X.env = (false, eval a X.env) :: starEach es X.env := by rfl) (hpl : (backTo pos (starEach es X.env)).any (·.1) = false := by rfl) : PD X (.Call (.Name x p) (a :: es) [] pos) (eCall n F fs) := by
  obtain ⟨f, fd, ps, h1, h2, h3, h4⟩ := G.ex
  exact pd_call h4 hr hg h1 h2 h3 ha hdb he hpl
theorem pd_callD0 (G : DefOk X.prog X.w X.K X.mg X.base x k n F) (hr : Room k X.A) (hg : Gl X x) (hdb : (x == ("__debug__" : Str)) = false := by decide) : PD X (.Call (.Name x p) [] [] pos) (eCall n F aNil) := by
  obtain ⟨f, fd, ps, h1, h2, h3, h4⟩ := G.ex
  exact pd_call0 h4 hr hg h1 h2 h3 hdb
theorem hu_room (hr : Room k X.A) : X.A.units + 150 < cLine := by have := hr.un; omega
/-- a module's constant by name -/
theorem pd_constI {i : Int} (hg : Gl X x) (hm : ∃ t, X.mg x = some (.int i t)) (hd : (x == ("__debug__" : Str)) = false := by decide) : PD X (.Name x pos) (eC (.int i)) := by
  obtain ⟨t, hm⟩ := hm
  exact pd_gint (pe_glob hg hm ⟨t, rfl⟩ hd)
theorem pd_constS {i : Str} (hg : Gl X x) (hm : ∃ t, X.mg x = some (.str i t)) (hd : (x == ("__debug__" : Str)) = false := by decide) : PD X (.Name x pos) (eC (.str i)) := by
  obtain ⟨t, hm⟩ := hm
  exact pd_gstr (pe_glob hg hm ⟨t, rfl⟩ hd)
theorem kit_int : ∀ d b, qInt d = some b → (qInt d).isSome = true ∧ ∀ S : String, ((∃ i, d = .int i) ∧ S = "int" ∨ (∃ b, d = .bl b) ∧ S = "bool" ∨ d = .non ∧ S = "NoneType" ∨ (∃ x, d = .str x) ∧ S = "str" ∨ (∃ x, d = .tup x) ∧ S = "tuple" ∨ (∃ x, d = .lst x) ∧ S = "list") →
    PySem.W.kitOne X.K (.type S) (.type "int") = some b := by
  intro d b h
  refine ⟨by rw [h]; rfl, ?_⟩
  rintro S (⟨⟨_, rfl⟩, rfl⟩ | ⟨⟨_, rfl⟩, rfl⟩ | ⟨rfl, rfl⟩ | ⟨⟨_, rfl⟩, rfl⟩ | ⟨⟨_, rfl⟩, rfl⟩ | ⟨⟨_, rfl⟩, rfl⟩) <;> cases h <;> exact kit_ty (by decide +kernel)
theorem kit_bool : ∀ d b, qBool d = some b → (qInt d).isSome = true ∧ ∀ S : String, ((∃ i, d = .int i) ∧ S = "int" ∨ (∃ b, d = .bl b) ∧ S = "bool" ∨ d = .non ∧ S = "NoneType" ∨ (∃ x, d = .str x) ∧ S = "str" ∨ (∃ x, d = .tup x) ∧ S = "tuple" ∨ (∃ x, d = .lst x) ∧ S = "list") →
    PySem.W.kitOne X.K (.type S) (.type "bool") = some b := by
  intro d b h
  refine ⟨by (cases d <;> first | rfl | cases h), ?_⟩
  rintro S (⟨⟨_, rfl⟩, rfl⟩ | ⟨⟨_, rfl⟩, rfl⟩ | ⟨rfl, rfl⟩ | ⟨⟨_, rfl⟩, rfl⟩ | ⟨⟨_, rfl⟩, rfl⟩ | ⟨⟨_, rfl⟩, rfl⟩) <;> cases h <;> exact kit_ty (by decide +kernel)
theorem kit_tup : ∀ d b, qTup d = some b → (qInt d).isSome = true ∧ ∀ S : String, ((∃ i, d = .int i) ∧ S = "int" ∨ (∃ b, d = .bl b) ∧ S = "bool" ∨ d = .non ∧ S = "NoneType" ∨ (∃ x, d = .str x) ∧ S = "str" ∨ (∃ x, d = .tup x) ∧ S = "tuple" ∨ (∃ x, d = .lst x) ∧ S = "list") →
    PySem.W.kitOne X.K (.type S) (.type "tuple") = some b := by
  intro d b h
  refine ⟨by (cases d <;> first | rfl | cases h), ?_⟩
  rintro S (⟨⟨_, rfl⟩, rfl⟩ | ⟨⟨_, rfl⟩, rfl⟩ | ⟨rfl, rfl⟩ | ⟨⟨_, rfl⟩, rfl⟩ | ⟨⟨_, rfl⟩, rfl⟩ | ⟨⟨_, rfl⟩, rfl⟩) <;> cases h <;> exact kit_ty (by decide +kernel)
theorem pd_isiT {p2 : Pos} {fa : E} (hg : Gl X "isinstance") (hm : X.mg "isinstance" = none) (hg2 : Gl X "tuple") (hm2 : X.mg "tuple" = none) (ha : PD X a fa)
    (he : starEach [a, .Name "tuple" p2] X.env = (false, eval a X.env) :: starEach [.Name "tuple" p2] X.env := by rfl) : PD X (.Call (.Name "isinstance" p) [a, .Name "tuple" p2] [] pos) (eIsi qTup fa) :=
  pd_isiOf hg hm (pe_bltn hg2 hm2 (by decide +kernel) rfl) kit_tup ha he
theorem pd_isiI {p2 : Pos} {fa : E} (hg : Gl X "isinstance") (hm : X.mg "isinstance" = none) (hg2 : Gl X "int") (hm2 : X.mg "int" = none) (ha : PD X a fa)
    (he : starEach [a, .Name "int" p2] X.env = (false, eval a X.env) :: starEach [.Name "int" p2] X.env := by rfl) : PD X (.Call (.Name "isinstance" p) [a, .Name "int" p2] [] pos) (eIsi qInt fa) :=
  pd_isiOf hg hm (pe_bltn hg2 hm2 (by decide +kernel) rfl) kit_int ha he
theorem pd_isiB {p2 : Pos} {fa : E} (hg : Gl X "isinstance") (hm : X.mg "isinstance" = none) (hg2 : Gl X "bool") (hm2 : X.mg "bool" = none) (ha : PD X a fa)
    (he : starEach [a, .Name "bool" p2] X.env = (false, eval a X.env) :: starEach [.Name "bool" p2] X.env := by rfl) : PD X (.Call (.Name "isinstance" p) [a, .Name "bool" p2] [] pos) (eIsi qBool fa) :=
  pd_isiOf hg hm (pe_bltn hg2 hm2 (by decide +kernel) rfl) kit_bool ha he
end
end Pg
set_option Elab.async false
set_option linter.all false
set_option maxRecDepth 100000
set_option maxHeartbeats 1000000
/-! Pages, part G: dicts walked by their keys, stores to a dict, get with a default, enumerate and zip of tuples, comprehensions of two clauses. -/
namespace Pg
open PySem PySem.Spec PyProof.Rows L2

/-! ### a dict that is locked while it is walked -/
section
variable {cs : Gh} {H H' : Hp} {a : Addr} {u : HO} {od : Obj}
def IsDct : HO → Prop
  | .dK _ => True
  | .dT _ => True
  | _ => False
theorem sub_lock (h : H a = some u) (hu : IsDct u) : Sub cs H (upd H a (.frz od u)) := fun b _ => by
  by_cases e : b = a
  · subst e
    refine ⟨fun xs q => ?_, fun xs q => ?_, fun k q => ?_, fun k q => ?_⟩
    · rw [h] at q; cases q; exact hu.elim
    · rw [h] at q; cases q; exact hu.elim
    · rcases q with q | ⟨o, q⟩
      · rw [h] at q; cases q; exact .inr ⟨od, upd_same⟩
      · rw [h] at q; cases q; exact hu.elim
    · rcases q with q | ⟨o, q⟩
      · rw [h] at q; cases q; exact .inr ⟨od, upd_same⟩
      · rw [h] at q; cases q; exact hu.elim
  · exact ⟨fun xs q => by rw [upd_ne e]; exact q, fun xs q => by rw [upd_ne e]; exact q, fun k q => q.elim (fun q => .inl (by rw [upd_ne e]; exact q)) fun ⟨o, q⟩ => .inr ⟨o, by rw [upd_ne e]; exact q⟩,
      fun k q => q.elim (fun q => .inl (by rw [upd_ne e]; exact q)) fun ⟨o, q⟩ => .inr ⟨o, by rw [upd_ne e]; exact q⟩⟩
theorem sub_unlock (h : H a = some (.frz od u)) (hu : IsDct u) : Sub cs H (upd H a u) := fun b _ => by
  by_cases e : b = a
  · subst e
    refine ⟨fun xs q => ?_, fun xs q => ?_, fun k q => ?_, fun k q => ?_⟩
    · rw [h] at q; cases q
    · rw [h] at q; cases q
    · rcases q with q | ⟨o, q⟩
      · rw [h] at q; cases q
      · rw [h] at q; cases q; exact .inl upd_same
    · rcases q with q | ⟨o, q⟩
      · rw [h] at q; cases q
      · rw [h] at q; cases q; exact .inl upd_same
  · exact ⟨fun xs q => by rw [upd_ne e]; exact q, fun xs q => by rw [upd_ne e]; exact q, fun k q => q.elim (fun q => .inl (by rw [upd_ne e]; exact q)) fun ⟨o, q⟩ => .inr ⟨o, by rw [upd_ne e]; exact q⟩,
      fun k q => q.elim (fun q => .inl (by rw [upd_ne e]; exact q)) fun ⟨o, q⟩ => .inr ⟨o, by rw [upd_ne e]; exact q⟩⟩
theorem SOk.over {s : D} {o : HO} (h : SOk cs s H) (hc : cs.c ≠ some a) (ho : ∀ xs, o ≠ .tup xs) (e : Sub cs H (upd H a o)) : SOk cs s (upd H a o) := by
  refine ⟨fun b m => ?_, fun b hb => ?_⟩
  · by_cases z : b = a
    · subst z; rw [upd_same]; exact ⟨o, rfl, ho⟩
    · rw [upd_ne z]; exact h.1 b m
  · have ne : b ≠ a := fun z => hc (z ▸ hb)
    have c := h.2 b hb
    cases s with
    | lst ds => obtain ⟨xs, q, r⟩ := c; exact ⟨xs, by rw [upd_ne ne]; exact q, r.sub e⟩
    | dP ks => obtain ⟨xs, q, r⟩ := c; exact ⟨xs, by rw [upd_ne ne]; exact q, r.sub e⟩
    | _ => exact False.elim c
/-- locked, run, unlocked: all is as it was but what came -/
theorem ext_lock (h : H a = some u) (hu : IsDct u) (hc : cs.c ≠ some a) (e : Ext cs (upd H a (.frz od u)) H') : H' a = some (.frz od u) ∧ Ext cs H (upd H' a u) := by
  refine ⟨e a _ hc upd_same, fun b o n q => ?_⟩
  by_cases z : b = a
  · subst z
    rw [h] at q; cases q
    exact upd_same
  · rw [upd_ne z]
    exact e b o n (by rw [upd_ne z]; exact q)
end
/-- the keys of the dict in slot i -/
def iKey (i : Nat) : EI := fun ρ s => match ρ[i]? with
  | some (some (.dI ks)) => some (ks.map fun k => D.int k.1, s)
  | some (some (.dP ks)) => some (ks.map fun k => D.tup [.int k.1.1, .int k.1.2], s)
  | _ => none
theorem RepI.key {cs : Gh} {H : Hp} : ∀ {kvs : List (Key × V)} {ks : List (Int × D)} {i : Nat} {k : Key} {v : V}, RepI cs H kvs ks → kvs[i]? = some (k, v) → ∃ j d, k = .inl j ∧ ks[i]? = some (j, d)
  | _, _, _, _, _, .nil, e => by simp at e
  | _, _, 0, _, _, .cons (k := j) (d := d) _ _, e => by simp at e; obtain ⟨rfl, _⟩ := e; exact ⟨j, d, rfl, rfl⟩
  | _, _, i + 1, _, _, .cons _ t, e => by
    obtain ⟨j, d, h1, h2⟩ := RepI.key (i := i) t (by simpa using e)
    exact ⟨j, d, h1, by simpa using h2⟩
theorem RepP.key {cs : Gh} {H : Hp} : ∀ {kvs : List (List Key × V)} {ks : List ((Int × Int) × D)} {i : Nat} {k : List Key} {v : V}, RepP cs H kvs ks → kvs[i]? = some (k, v) → ∃ p q d, k = [.inl p, .inl q] ∧ ks[i]? = some ((p, q), d)
  | _, _, _, _, _, .nil, e => by simp at e
  | _, _, 0, _, _, .cons (a := p) (b := q) (d := d) _ _, e => by simp at e; obtain ⟨rfl, _⟩ := e; exact ⟨p, q, d, rfl, rfl⟩
  | _, _, i + 1, _, _, .cons _ t, e => by
    obtain ⟨p, q, d, h1, h2⟩ := RepP.key (i := i) t (by simpa using e)
    exact ⟨p, q, d, h1, by simpa using h2⟩
/-- the walk over the keys of a locked dict: the tuples of the keys are wanted somewhere in the heap, not among what is hidden -/
theorem walk_dI {cs : Gh} {H1 : Hp} {a : Addr} {o : Obj} {kvs : List (Key × V)} {ks : List (Int × D)} (n : cs.ok a) (h : H1 a = some (.frz o (.dK kvs))) (r : RepI cs H1 kvs ks) : WalkD cs H1 (Itk a o kvs) (ks.map fun k => D.int k.1) := by
  refine ⟨_, _, (by rw [List.length_map, ← r.length]; exact walk_keys), fun H2 e => e _ _ n h, ?_⟩
  rintro cs' i H2 v H3 hc ho e hi ⟨rfl, k, w, hk, rfl⟩
  obtain ⟨j, d, rfl, hd⟩ := r.key hk
  refine ⟨.int j, by rw [List.getElem?_map, hd]; rfl, .refl, fun s hs => ⟨hs, .int _⟩⟩
theorem walk_dP {cs : Gh} {H1 : Hp} {a : Addr} {o : Obj} {kvs : List (List Key × V)} {ks : List ((Int × Int) × D)} (n : cs.ok a) (h : H1 a = some (.frz o (.dT kvs))) (r : RepP cs H1 kvs ks) : WalkD cs H1 (Itkt a o kvs) (ks.map fun k => D.tup [.int k.1.1, .int k.1.2]) := by
  refine ⟨_, _, (by rw [List.length_map, ← r.length]; exact walk_keysT), fun H2 e => e _ _ n h, ?_⟩
  rintro cs' i H2 v H3 hc ho e hi ⟨rfl, k, w, q, hk, rfl, hq⟩
  obtain ⟨p1, p2, d, rfl, hd⟩ := r.key hk
  refine ⟨.tup [.int p1, .int p2], by rw [List.getElem?_map, hd]; rfl, .refl, fun s hs => ⟨hs, .tup (hs.tup hq) hq (.cons (.int _) (.cons (.int _) .nil))⟩⟩
section
variable {X : Cx}
theorem ps_or {st : Stmt} {t u : TS} (h : PS X st t) (h' : PS X st u) : PS X st (fun En σ H => t En σ H ∨ u En σ H) :=
  ⟨fun pins s σ H En I q => q.elim (h.run pins s σ H En I) (h'.run pins s σ H En I)⟩
theorem pe_or' {e : Expr} {t u : TE} (h : PE X e t) (h' : PE X e u) : PE X e (fun σ H Q => t σ H Q ∨ u σ H Q) :=
  ⟨fun pins s σ H Q I q => q.elim (h.run pins s σ H Q I) (h'.run pins s σ H Q I)⟩
/-- the dict in a slot, as it stands -/
theorem key_slot {cs : Gh} {H : Hp} {σ : L2.St} {ρ : Env} {s s' : D} {i : Nat} {xs : List D} (hρ : EnvR cs H σ ρ) (hf : iKey i ρ s = some (xs, s')) :
    s' = s ∧ ∃ (a : Addr) (u : HO), σ[i]? = some (some (.ref a)) ∧ cs.ok a ∧ IsDct u ∧ Rd H a u ∧
      (∀ (o : Obj) (H1 : Hp), Sub cs H H1 → H1 a = some (.frz o u) → ∃ J, WalkD cs H1 J xs ∧ ((∃ kvs, u = .dK kvs ∧ J = Itk a o kvs) ∨ ∃ kvs, u = .dT kvs ∧ J = Itkt a o kvs)) := by
  unfold iKey at hf
  split at hf
  · rename_i ks e
    cases hf
    obtain ⟨v, h1, r⟩ := hρ.2 i _ e
    cases r with
    | @dI a kvs _ n h r => exact ⟨rfl, a, .dK kvs, h1, n, trivial, h, fun o H1 sb q => ⟨_, walk_dI n q (r.sub sb), .inl ⟨kvs, rfl, rfl⟩⟩⟩
  · rename_i ks e
    cases hf
    obtain ⟨v, h1, r⟩ := hρ.2 i _ e
    cases r with
    | @dP a kvs _ n h r => exact ⟨rfl, a, .dT kvs, h1, n, trivial, h, fun o H1 sb q => ⟨_, walk_dP n q (r.sub sb), .inr ⟨kvs, rfl, rfl⟩⟩⟩
  · cases hf
/-- for target in d, d the dict in slot i -/
theorem psd_forKeys {i : Nat} {target iter : Expr} {body : List Stmt} {pos : Pos} {tg : TD} {is : List Nat} {g : ES} (hp : PassesOwn (model X.prog X.w) X.A X.env X.xe) (hc : X.calm = true) (hi : PE X iter (tVar i)) (hg : PGD X target is tg) (hb : PSsD X body g)
    (hs : ∀ x, foldedSetIterable iter X.env x = pure x := by intro _; rfl) : PSD X (.For target iter body [] pos) (sFor (iKey i) tg g) := by
  obtain ⟨gg, hg, gt⟩ := hg
  obtain ⟨tb, hb, gb⟩ := hb
  have h0 := ps_for (pos := pos) hp hc (pi_keys hi) hg hb hs
  refine ⟨_, ps_or (ps_lock h0) h0, fun cs σ H ρ s o s' En hρ hs hf0 p => ?_⟩
  obtain ⟨xs, s1, e1, hf⟩ := bnd_inv hf0
  clear hf0
  obtain ⟨rfl, a, u, h1, n, hu, hr, hw⟩ := key_slot hρ e1
  -- the loop itself, from a heap where d is locked
  have core : ∀ (od : Obj) (H1 : Hp) (En' : Ends), Sub cs H H1 → H1 a = some (.frz od u) → SOk cs s1 H1 → Post cs H1 o s' En' → tFor (iKeys (tVar i)) gg tb En' σ H1 := by
    intro od H1 En' sb q k1 p1
    obtain ⟨J, W, hJ⟩ := hw od H1 sb q
    have fin := for_core gt gb W k1 (hρ.sub sb) hf p1
    refine ⟨.ref a, h1, a, od, rfl, ?_⟩
    rcases hJ with ⟨kvs, rfl, rfl⟩ | ⟨kvs, rfl, rfl⟩
    · exact .inl ⟨kvs, q, fin⟩
    · exact .inr ⟨kvs, q, fin⟩
  rcases hr with hr | ⟨od, hr⟩
  · refine .inl ⟨a, u, hr, by cases u <;> first | trivial | exact hu.elim, fun od => core od _ _ (sub_lock hr hu) upd_same (hs.over n.2 (fun _ z => nomatch z) (sub_lock hr hu)) ?_⟩
    have nt : ∀ xs, u ≠ .tup xs := fun xs z => by rw [z] at hu; exact hu
    cases o with
    | nx ρ' =>
      intro σ' H' x k r
      obtain ⟨q1, q2⟩ := ext_lock hr hu n.2 x
      exact ⟨q1, p σ' _ q2 (k.over n.2 nt (sub_unlock q1 hu)) (r.sub (sub_unlock q1 hu))⟩
    | rt d =>
      intro v H' x k r
      obtain ⟨q1, q2⟩ := ext_lock hr hu n.2 x
      exact ⟨q1, p v _ q2 (k.over n.2 nt (sub_unlock q1 hu)) (r.sub (sub_unlock q1 hu))⟩
    | bk ρ' =>
      intro σ' H' x k r
      obtain ⟨q1, q2⟩ := ext_lock hr hu n.2 x
      exact ⟨q1, p σ' _ q2 (k.over n.2 nt (sub_unlock q1 hu)) (r.sub (sub_unlock q1 hu))⟩
    | ct ρ' =>
      intro σ' H' x k r
      obtain ⟨q1, q2⟩ := ext_lock hr hu n.2 x
      exact ⟨q1, p σ' _ q2 (k.over n.2 nt (sub_unlock q1 hu)) (r.sub (sub_unlock q1 hu))⟩
  · exact .inr (core od H En (fun b _ => ⟨fun _ q => q, fun _ q => q, fun _ q => q, fun _ q => q⟩) hr hs p)
/-- [elt for target in d if ..], d the dict in slot i -/
theorem pd_lcKeys {i : Nat} {elt tg iter : Expr} {ifs : List Expr} {scope : Scope} {own : List (Str × Nat)} {pos : Pos} {is : List Nat} {td : TD} {bt : EB} {fe : E} (hc : X.calm = true) (hN : X.N.Nodup) (hi : PE X iter (tVar i)) (ok : BlkOk X.N X.env.scope scope own)
    (his : ∀ i ∈ is, i ∈ own.map (·.2)) (hg : InBlk X scope fun Y => PGD Y tg is td) (ht : InBlk X scope fun Y => PTsD Y ifs bt) (he : InBlk X scope fun Y => PD Y elt fe) (hs : ∀ x, foldedSetIterable iter X.env x = pure x := by intro _; rfl) :
    PD X (.ListComp elt [⟨tg, iter, ifs, 0⟩] scope pos) (eLc (iKey i) td bt fe (own.map (·.2))) := by
  have h0 := pe_lc (pos := pos) hc hN (pi_keys (tg := tg) hi) ok (fun s H C cl fp => (hg s H C cl fp).pg) (fun s H C cl fp => (ht s H C cl fp).pts) (fun s H C cl fp => (he s H C cl fp).pe) hs
  refine ⟨_, pe_or' (pe_lock h0) h0, fun cs σ H ρ s d s' Q hρ hs hf0 k => ?_⟩
  obtain ⟨xs, s1, e1, hf⟩ := bnd_inv hf0
  clear hf0
  obtain ⟨rfl, a, u, h1, n, hu, hr, hw⟩ := key_slot hρ e1
  split at hf
  · rename_i hlim
    obtain ⟨ys, s9, e9, hf⟩ := bnd_inv hf
    cases hf
    have core : ∀ (od : Obj) (H1 : Hp) (Q' : VK), Sub cs H H1 → H1 a = some (.frz od u) → SOk cs s1 H1 → (∀ v H', Ext cs H1 H' → SOk cs s' H' → Rep cs H' v (.lst ys) → Q' v H') → tLc (iKeys (tVar i)) (gOf is td) (bOf bt) (tOf fe) (own.map (·.2)) σ H1 Q' := by
      intro od H1 Q' sb q k1 p1
      obtain ⟨J, W, hJ⟩ := hw od H1 sb q
      have fin := lc_coreD (gOf_good (is := is) (tg := td)) his (bOf_good (f := bt)) (tOf_good (f := fe)) W k1 (hρ.sub sb) hlim e9 p1
      refine ⟨.ref a, h1, a, od, rfl, ?_⟩
      rcases hJ with ⟨kvs, rfl, rfl⟩ | ⟨kvs, rfl, rfl⟩
      · exact .inl ⟨kvs, q, fin⟩
      · exact .inr ⟨kvs, q, fin⟩
    rcases hr with hr | ⟨od, hr⟩
    · refine .inl ⟨a, u, hr, by cases u <;> first | trivial | exact hu.elim, fun od => core od _ _ (sub_lock hr hu) upd_same (hs.over n.2 (fun _ z => nomatch z) (sub_lock hr hu)) fun v H' x k2 r => ?_⟩
      have nt : ∀ xs, u ≠ .tup xs := fun xs z => by rw [z] at hu; exact hu
      obtain ⟨q1, q2⟩ := ext_lock hr hu n.2 x
      exact ⟨q1, k v _ q2 (k2.over n.2 nt (sub_unlock q1 hu)) (r.sub (sub_unlock q1 hu))⟩
    · exact .inr (core od H Q (fun b _ => ⟨fun _ q => q, fun _ q => q, fun _ q => q, fun _ q => q⟩) hr hs k)
  · cases hf

/-! ### cell[k] = e, the cell a dict with pairs as keys -/
def putP (ks : List ((Int × Int) × D)) (k : Int × Int) (d : D) : List ((Int × Int) × D) := if (ks.lookup k).isSome then ks.map fun e => if e.1 = k then (k, d) else e else ks ++ [(k, d)]
theorem RepP.append {cs : Gh} {H : Hp} : ∀ {vs ws : List (List Key × V)} {ds es : List ((Int × Int) × D)}, RepP cs H vs ds → RepP cs H ws es → RepP cs H (vs ++ ws) (ds ++ es)
  | _, _, _, _, .nil, s => s
  | _, _, _, _, .cons r t, s => .cons r (RepP.append t s)
theorem RepP.put {cs : Gh} {H : Hp} {kvs : List (List Key × V)} {ks : List ((Int × Int) × D)} {v : V} {d : D} (a b : Int) (r : RepP cs H kvs ks) (rv : Rep cs H v d) : RepP cs H (putK kvs [.inl a, .inl b] v) (putP ks (a, b) d) := by
  unfold putK putP
  have hany : (kvs.any fun kv => decide (kv.1 = ([.inl a, .inl b] : List Key))) = (ks.lookup (a, b)).isSome := by
    rw [valV_any]
    rcases valP a b r with ⟨e1, e2⟩ | ⟨w, e, e1, e2, _⟩ <;> rw [e1, e2] <;> rfl
  rw [hany]
  split
  · have go : ∀ {kvs : List (List Key × V)} {ks : List ((Int × Int) × D)}, RepP cs H kvs ks → RepP cs H (kvs.map fun kv => if kv.1 = ([.inl a, .inl b] : List Key) then (kv.1, v) else kv) (ks.map fun e => if e.1 = (a, b) then ((a, b), d) else e) := by
      intro kvs ks r
      induction kvs generalizing ks with
      | nil => cases r; exact .nil
      | cons p kvs ih =>
        cases r with
        | @cons i j w e _ es r t =>
          rw [List.map_cons, List.map_cons]
          by_cases q : (i, j) = (a, b)
          · cases q
            rw [if_pos rfl, if_pos rfl]
            exact .cons rv (ih t)
          · rw [if_neg q, if_neg fun z => q (by
              injection z with z1 z2
              injection z2 with z2 _
              rw [Sum.inl.inj z1, Sum.inl.inj z2])]
            exact .cons r (ih t)
    exact go r
  · exact r.append (.cons rv .nil)
def sCellPut (i : Nat) (fk fe : E) : ES := fun ρ s => bnd (fe ρ s) fun d s1 => match ρ[i]? with
  | some (some .cell) => bnd (fk ρ s1) fun x s2 => match x, s2 with
    | .tup [.int a, .int b], .dP ks => if ks.length ≤ lim then some (.nx ρ, .dP (putP ks (a, b) d)) else none
    | _, _ => none
  | _ => none
theorem psd_cellPut {i : Nat} {o k e : Expr} {fk fe : E} {pos pos' : Pos} (hu : X.A.units + 150 < cLine) (ho : PE X o (tVar i)) (hk : PD X k fk) (he : PD X e fe)
    (hs : swapsWith e (some (.Subscript o k pos')) pos.line X.env = pure false := by rfl) : PSD X (.Assign [.Subscript o k pos'] e pos) (sCellPut i fk fe) := by
  obtain ⟨te, he, ge⟩ := he
  obtain ⟨tk, hk, gk⟩ := hk
  refine ⟨_, ps_dput (by omega) ho hk he hs, fun cs σ H ρ s o' s' En hρ hs hf p => ?_⟩
  obtain ⟨d, s1, e1, hf⟩ := bnd_inv hf
  split at hf
  · rename_i ec
    obtain ⟨x, s2, e2, hf⟩ := bnd_inv hf
    refine ge cs σ H ρ s d s1 _ hρ hs e1 fun v H1 x1 k1 r1 => ?_
    obtain ⟨w, hw, rw'⟩ := (hρ.mono x1).2 i _ ec
    refine ⟨w, hw, gk cs σ H1 ρ s1 x s2 _ (hρ.mono x1) k1 e2 fun u H2 x2 k2 r2 => ?_⟩
    cases rw' with
    | @cell a hc =>
      split at hf
      · rename_i i1 j1 ks
        split at hf
        · rename_i hl
          cases hf
          obtain ⟨kvs, hx, rx⟩ := k2.2 a hc
          cases r2 with
          | @tup q _ _ n2 h2 r2 =>
            cases r2 with
            | cons r3 r4 =>
              cases r4 with
              | cons r4 r5 =>
                cases r5; cases r3; cases r4
                have xx : Ext cs H2 (upd H2 a (.dT (putK kvs [.inl i1, .inl j1] v))) := .put hc
                exact ⟨a, _, rfl, .inr ⟨kvs, [.inl i1, .inl j1], q, hx, rfl, h2, lim_lt (by rw [rx.length]; exact hl), rfl⟩,
                  p σ _ ((x1.trans x2).trans xx) (k2.put hc ⟨_, upd_same, (rx.put i1 j1 (r1.mono x2)).mono xx⟩) (((hρ.mono x1).mono x2).mono xx)⟩
        · cases hf
      · cases hf
  · cases hf

/-! ### d.get(k, x) -/
def eGet (fd fk fx : E) : E := fun ρ s => bnd (fd ρ s) fun d s1 => bnd (fk ρ s1) fun k s2 => bnd (fx ρ s2) fun x s3 => match d with
  | .dP _ => match kinOf s3 k d with
    | some (some v) => some (v, s3)
    | some none => some (x, s3)
    | none => none
  | _ => none
theorem pd_get {o e f : Expr} {fd fk fx : E} {apos cpos : Pos} (hu : X.A.units + 150 < cLine) (ho : PD X o fd) (he : PD X e fk) (hf : PD X f fx) (m : M2 X o "get" apos e f cpos) : PD X (.Call (.Attribute o "get" apos) [e, f] [] cpos) (eGet fd fk fx) := by
  obtain ⟨td, ho, go⟩ := ho
  obtain ⟨tk, he, ge⟩ := he
  obtain ⟨tx, hf, gf⟩ := hf
  refine ⟨_, pe_dget2 (by omega) ho he hf m, fun cs σ H ρ s d s' Q hρ hs hf k => ?_⟩
  obtain ⟨d1, s1, e1, hf1⟩ := bnd_inv hf
  clear hf
  obtain ⟨d2, s2, e2, hf2⟩ := bnd_inv hf1
  clear hf1
  obtain ⟨d3, s3, e3, hf⟩ := bnd_inv hf2
  clear hf2
  refine go cs σ H ρ s d1 s1 _ hρ hs e1 fun u H1 x1 k1 r1 => ?_
  cases d1 with
  | dP ks =>
    have r1' := r1
    cases r1 with
    | @dP a kvs _ n h r =>
      refine ⟨a, rfl, .inr ⟨kvs, h⟩, ?_⟩
      refine ge cs σ H1 ρ s1 d2 s2 _ (hρ.mono x1) k1 e2 fun v H2 x2 k2 r2 => ?_
      refine gf cs σ H2 ρ s2 d3 s3 _ ((hρ.mono x1).mono x2) k2 e3 fun w H3 x3 k3 r3 => ?_
      simp only at hf
      cases e5 : kinOf s3 d2 (.dP ks) with
      | none => rw [e5] at hf; cases hf
      | some o5 =>
        obtain ⟨a', ov, ea, g, hh⟩ := kinOf_run k3 (r2.mono x3) ((r1'.mono x2).mono x3) e5
        cases ea
        rw [e5] at hf
        cases o5 with
        | some v0 =>
          cases hf
          rcases hh with ⟨_, z⟩ | ⟨w', d', rfl, z, r'⟩
          · cases z
          · cases z
            exact ⟨_, g, k _ H3 ((x1.trans x2).trans x3) k3 r'⟩
        | none =>
          cases hf
          rcases hh with ⟨rfl, _⟩ | ⟨w', d', _, z, r'⟩
          · exact ⟨_, g, k _ H3 ((x1.trans x2).trans x3) k3 r3⟩
          · cases z
  | _ => cases hf
end
end Pg
set_option Elab.async false
set_option linter.all false
set_option maxRecDepth 100000
set_option maxHeartbeats 2000000
/-! Pages, part I: enumerate and zip of tuples, comprehensions of two clauses, t[::-1]. -/
namespace Pg
open PySem PySem.Spec PyProof.Rows L2
open AutoSeq1 (wpAny_loadPart')

/-! ### enumerate(t), t a tuple -/
set_option maxHeartbeats 4000000 in
theorem en_new {v : Value} {o : Obj} {S : Heap → Prop} (B : Begins v o S) :
    Meets (Builtin.«enumerate.__new__» ⟨[.type "enumerate", v], []⟩) (fun _ R s => S s.heap ∧ R (.ok (.ret (.ref (s.heap.push o).objs.size)))
      { s with heap := (s.heap.push o).push { cls := .type "enumerate", data := .fields #[.none, .bool false, .ref s.heap.objs.size, rawInt 0, .none, .none] } }) := .of_wp fun prog w A R s hh => by
  obtain ⟨hp, gg, dd, tt, oo⟩ := s
  obtain ⟨b1, hh⟩ := hh
  have hsub := sub_enumerate
  have step : ∀ {A' : Around} {E : Value → Shared → Prop} {Q : Value → Shared → Prop}, Q (.ref hp.objs.size) ⟨hp.push o, gg, dd, tt, oo⟩ → wpAny (model prog w) A' (pyIter v) Q E ⟨hp, gg, dd, tt, oo⟩ := fun q => B.iter prog w _ _ ⟨hp, gg, dd, tt, oo⟩ _ b1 q
  wp_walk using step
  refine wpAny_stack_any fun st => wpAny_pure ?_
  split
  · rename_i cl _ _ _ _ _
    cases (cl == Value.type "enumerate") <;> (wp_walk using step; exact ⟨_, rfl, hh⟩)
  · wp_walk using step
    exact ⟨_, rfl, hh⟩
section
variable {prog : Program} {w : World} {A : Around} {E : Value → Shared → Prop} {s : Shared}
theorem en_call {t : Addr} {items : Array Value} {Q : Value → Shared → Prop} (ht : s.heap.IsTuple t items)
    (q : ∀ h', IsEnum h' (s.heap.objs.size + 1) s.heap.objs.size 0 .none → h'.IsTupleIter s.heap.objs.size t 0 → (∀ b o, s.heap.get? b = some o → h'.get? b = some o) → Q (.ref (s.heap.objs.size + 1)) { s with heap := h' }) :
    wpAny (model prog w) A (call (.type "enumerate") [.ref t]) Q E s := by
  refine callType_new F.called_enumerate (by decide) (F.typeCall_enumerate_1 _) (F.newCall_enumerate_1 _) (fun obj => F.args_object_init_2 obj _) F.entry_enumerate_new (en_new (begins_tuple t items)) ⟨ht, ?_⟩
  have z := Heap.size_push s.heap { cls := .type "tuple_iterator", data := .fields #[.ref t, .int 0 0] }
  have he : IsEnum ((s.heap.push { cls := .type "tuple_iterator", data := .fields #[.ref t, .int 0 0] }).push { cls := .type "enumerate", data := .fields #[.none, .bool false, .ref s.heap.objs.size, rawInt 0, .none, .none] })
      (s.heap.objs.size + 1) s.heap.objs.size 0 .none := by
    have e1 := Heap.get?_push_size (s.heap.push { cls := .type "tuple_iterator", data := .fields #[.ref t, .int 0 0] }) (o := { cls := .type "enumerate", data := .fields #[.none, .bool false, .ref s.heap.objs.size, rawInt 0, .none, .none] }) rfl
    rw [z] at e1
    exact e1
  rw [z]
  exact ⟨⟨_, he, rfl⟩, q _ he ⟨_, Heap.get?_push_of_some _ (Heap.get?_push_size _ rfl), rfl, rfl⟩ fun b o e => Heap.get?_push_of_some _ (Heap.get?_push_of_some _ e)⟩
end
/-- the tuple at a as it stands at each turn, its items counted in new pairs -/
def ItE (K : PySem.W.Frag) (a : Addr) : It :=
  ⟨fun i H => ∃ (xs : List V) (x : V), SqT K H a xs ∧ xs[i]? = some x, fun i H v H' => ∃ T x, v = .ref T ∧ H T = none ∧ H' = upd H T (.tup [.int (i : Nat), x]) ∧ ∀ xs, SqT K H a xs → xs[i]? = some x, fun i H => ∃ xs : List V, SqT K H a xs ∧ xs.length = i⟩
theorem turn_enT {P : Program} {w : World} {K : PySem.W.Frag} {elts : List Expr} {kk : Nat} {tpos : Pos} (a e it : Addr) :
    Turn P w K (.Tuple elts kk tpos) (ItE K a) [e, it] e (fun i h => (∃ old, IsEnum h e it ((i : Nat) : Int) old) ∧ h.IsTupleIter it a i ∧ e ≠ it) where
  mem := List.mem_cons_self
  obj := by
    rintro i h ⟨⟨old, he⟩, ⟨o, ho, hc, hd⟩, _⟩ b hb
    rcases List.mem_cons.mp hb with rfl | hb
    · exact ⟨_, he, fun v q => nomatch q⟩
    · rw [List.mem_singleton.mp hb]
      exact ⟨o, ho, fun v q => by rw [hd] at q; cases q⟩
  keep := by
    rintro i h h' ⟨⟨old, he⟩, ⟨o, ho, r⟩, hne⟩ k
    exact ⟨⟨old, k e (by simp) _ he⟩, ⟨o, k it (by simp) o ho, r⟩, hne⟩
  item := by
    rintro X rfl rfl rfl hc i pins s σ H E I hf ⟨⟨old, he⟩, hit, hne⟩ ⟨xs, x, hq, hx⟩
    obtain ⟨its, rv, p, hz⟩ := I.tuple hq
    obtain ⟨u, hu, ru⟩ := rv.get hx
    have p' : s.heap.IsTuple a its.toArray := p
    have hel : e < s.heap.objs.size := Heap.lt_size he
    have hil : it < s.heap.objs.size := by obtain ⟨_, q, _⟩ := hit; exact Heap.lt_size q
    have hai : a ≠ it := fun z => by
      obtain ⟨o1, q1, c1, _⟩ := hit
      obtain ⟨o2, q2, c2, _⟩ := p
      rw [z, q1] at q2; cases q2
      rw [c1] at c2
      exact absurd (Value.type.inj c2) (by decide)
    have hea : e ≠ a := fun z => by
      obtain ⟨o2, q2, c2, _⟩ := p
      rw [← z] at q2
      have q3 : s.heap.get? e = some _ := he
      rw [q3] at q2; cases q2
      exact absurd (Value.type.inj c2) (by decide)
    have hi : i < its.toArray.size := by
      have := (List.getElem?_eq_some_iff.mp hu).1
      simpa using this
    refine wpAny_pyNext_enum_itemD (n := its.toArray.size) (Draws.tuple (A := X.A.in1) (show X.A.in1.handled = none from I.ok.hd hc) it a hai its.toArray) he ⟨hit, p'⟩ hi hne (by simp [hne, hea]) fun y h' tk hy ho hs' hT hsz hk => ?_
    have ey : y = u := by
      have h1 : its.toArray[i]? = some y := hy
      have h2 : its.toArray[i]? = some u := by simpa using hu
      rw [h1] at h2
      exact Option.some.inj h2
    subst ey
    refine ⟨_, rfl, wpAny_letOwnedTupleGo_enum (s := { s with heap := h', toks := tk + 1 }) ho fun h'' he' sb => ?_⟩
    have hT2 : h''.get? s.heap.objs.size = some { cls := .type "tuple", data := .seq #[.int i tk, y] } := (sb.2 _ (Nat.ne_of_gt hel)).trans hT
    have fin := I.turnedNew (t' := tk + 1) (h' := h'') (T := s.heap.objs.size) (ob := .tup [.int (i : Nat), x]) (ch := [e, it])
      (fun b ob hb q => (sb.2 b (fun z => hb (by simp [z]))).trans (hk b ob (fun z => hb (by simp [z])) (fun z => hb (by simp [z])) q)) hf (Nat.le_refl _)
      ⟨by show 2 ≤ sizeLine; decide, [.int i tk, y], .cons ⟨_, rfl⟩ (.cons ru .nil), ⟨_, hT2, rfl, _, rfl⟩⟩
    refine ⟨.ref s.heap.objs.size, _, fin, rfl, ⟨_, x, rfl, I.hok.fresh (Nat.le_refl _), rfl, fun ys hy => by rw [I.tuple_inj hy hq]; exact hx⟩, ⟨⟨y, ?_⟩, ?_, hne⟩, fun b hb => ?_⟩
    · rw [show ((i + 1 : Nat) : Int) = (i : Int) + 1 by omega]
      exact he'
    · obtain ⟨o, q, r⟩ := hs'.1
      exact ⟨o, (sb.2 it (Ne.symm hne)).trans q, r⟩
    · have hb' : b < s.heap.objs.size := by
        rcases List.mem_cons.mp hb with z | z
        · rw [z]; exact hel
        · rw [List.mem_singleton.mp z]; exact hil
      rw [upd_ne (Nat.ne_of_lt hb')]
      exact (hf b hb).1
  done := by
    rintro X rfl rfl rfl hc i pins s σ H E I hf ⟨⟨old, he⟩, hit, hne⟩ ⟨xs, hq, hx⟩
    obtain ⟨its, rv, p, hz⟩ := I.tuple hq
    have p' : s.heap.IsTuple a its.toArray := p
    have hai : a ≠ it := fun z => by
      obtain ⟨o1, q1, c1, _⟩ := hit
      obtain ⟨o2, q2, c2, _⟩ := p
      rw [z, q1] at q2; cases q2
      rw [c1] at c2
      exact absurd (Value.type.inj c2) (by decide)
    obtain ⟨f0, f1, f2, f3, f4, f5⟩ := hf it (by simp)
    have en : its.toArray.size = i := by have := rv.length; simp; omega
    exact wpAny_pyNext_enum_endD (n := its.toArray.size) (Draws.tuple (A := X.A.in1) (show X.A.in1.handled = none from I.ok.hd hc) it a hai its.toArray) he ⟨by rw [en]; exact hit, p'⟩ fun h' eb => ⟨rfl, I.turned (t' := s.toks) (fun b o hb q => eb b o hb q) f0 f1 f3 f4 f5⟩
  self := fun A i s Q E st h => let ⟨⟨_, he⟩, _⟩ := st; wpAny_pyIter_enum he h

/-! ### enumerate and zip as what is walked -/
section
variable {X : Cx}
def iEnT (K : PySem.W.Frag) (ta : TA) : TI := fun σ H R => ta σ H fun vs H1 => ∃ a xs, vs = [.ref a] ∧ SqT K H1 a xs ∧ R (ItE K a) H1
theorem pi_enT {e : Expr} {ta : TA} {p pos tpos : Pos} {elts : List Expr} {kk : Nat} (hg : Gl X "enumerate") (hm : X.mg "enumerate" = none) (ha : PA X [e] ta) (hs : starEach [e] X.env = [(false, eval e X.env)] := by rfl) :
    PI X (.Tuple elts kk tpos) (.Call (.Name "enumerate" p) [e] [] pos) (iEnT X.K ta) := by
  refine ⟨fun pins s σ H R I h => ?_⟩
  refine Call_ (ld_blt I hg hm boot_enumerate (PyProof.Rows.callWith_type1 (thn (ha.run pos pins s σ H _ I h) fun us s1 ⟨vs, H1, I1, r1, q1⟩ => ?_) hs rfl))
  obtain ⟨a, xs, rfl, hq, q⟩ := q1
  obtain ⟨u, rfl, ru⟩ := vals1 r1
  cases ru
  obtain ⟨its, rv, p', hz⟩ := I1.tuple hq
  refine en_call (show s1.heap.IsTuple a its.toArray from p') fun h' he hit hk => wpAny_pyIter_enum he ?_
  refine ⟨_, [s1.heap.objs.size + 1, s1.heap.objs.size], _, _, H1, rfl, I1.kept (t' := s1.toks) hk, turn_enT a _ s1.heap.objs.size, ⟨⟨.none, he⟩, hit, Nat.succ_ne_self _⟩, fun b hb => ?_, q⟩
  have hle : s1.heap.objs.size ≤ b := by
    rcases List.mem_cons.mp hb with z | z
    · rw [z]; exact Nat.le_succ _
    · rw [List.mem_singleton.mp z]; exact Nat.le_refl _
  exact I1.fpOk hle (I1.hok.fresh hle)
theorem new_pair {cs : Gh} {H2 : Hp} {T : Addr} {x y : V} {s d e : D} (hs : SOk cs s H2) (hT : H2 T = none) (r1 : Rep cs H2 x d) (r2 : Rep cs H2 y e) : SOk cs s (upd H2 T (.tup [x, y])) ∧ Rep cs (upd H2 T (.tup [x, y])) (.ref T) (.tup [d, e]) :=
  ⟨hs.new hT, .tup (hs.fresh hT) upd_same (.cons (r1.mono (.new hT)) (.cons (r2.mono (.new hT)) .nil))⟩
/-- enumerate(t) -/
def iEn (fe : E) : EI := fun ρ s => bnd (fe ρ s) fun d s1 => match d with
  | .tup ds => some (ds.zipIdx.map fun p => D.tup [.int p.2, p.1], s1)
  | _ => none
theorem pid_enum {e : Expr} {fe : E} {p pos tpos : Pos} {elts : List Expr} {kk : Nat} (hg : Gl X "enumerate") (hm : X.mg "enumerate" = none) (he : PD X e fe) (hs : starEach [e] X.env = [(false, eval e X.env)] := by rfl) :
    PID X (.Tuple elts kk tpos) (.Call (.Name "enumerate" p) [e] [] pos) (iEn fe) := by
  obtain ⟨t, he, g⟩ := he
  refine ⟨_, pi_enT hg hm (pa_cons he pa_nil (by rw [hs]; rfl)) hs, fun cs σ H ρ s xs s' R hρ hs hf k => ?_⟩
  obtain ⟨d, s1, e1, hf⟩ := bnd_inv hf
  cases d with
  | tup ds =>
    cases hf
    refine g cs σ H ρ s _ _ _ hρ hs e1 fun v H1 x1 k1 r1 => ?_
    cases r1 with
    | @tup a vs _ n h r =>
      refine ⟨a, vs, rfl, SqT.of h, k _ H1 x1 k1 ⟨fun H => SqT X.K H a vs, fun i H v H' => ∃ T x, v = .ref T ∧ H T = none ∧ H' = upd H T (.tup [.int (i : Nat), x]) ∧ vs[i]? = some x, ?_, fun H2 e => SqT.of (e _ _ n h), ?_⟩⟩
      · rw [List.length_map, List.length_zipIdx, ← r.length]
        exact ⟨fun i _ hi q => ⟨vs, vs[i], q, by simp [hi]⟩, fun _ q => ⟨vs, q, rfl⟩, fun i H v H' _ q ⟨T, x, h1, h2, h3, h4⟩ => ⟨T, x, h1, h2, h3, h4 vs q⟩⟩
      · rintro cs' i H2 v H3 hc ho e hi ⟨T, x, rfl, hT, rfl, hx⟩
        obtain ⟨dx, hd, rx⟩ := r.getV hx
        refine ⟨.tup [.int i, dx], ?_, .new hT, fun s hs => new_pair hs hT (.int _) (rx.carry hc ho e)⟩
        rw [List.getElem?_map, List.getElem?_zipIdx, hd]
        simp
  | _ => cases hf
/-- zip(t, u), two tuples -/
def iZp (fs : EA) : EI := fun ρ s => bnd (fs ρ s) fun ds s1 => match ds with
  | [.tup a, .tup b] => some ((a.zip b).map fun p => D.tup [p.1, p.2], s1)
  | _ => none
theorem pid_zip {e e2 : Expr} {fs : EA} {p pos tpos : Pos} {elts : List Expr} {kk : Nat} (hg : Gl X "zip") (hm : X.mg "zip" = none) (ha : PAD X [e, e2] fs)
    (hs : starEach [e, e2] X.env = (false, eval e X.env) :: starEach [e2] X.env := by rfl) (hpl : (backTo pos (starEach [e2] X.env)).any (·.1) = false := by rfl) :
    PID X (.Tuple elts kk tpos) (.Call (.Name "zip" p) [e, e2] [] pos) (iZp fs) := by
  obtain ⟨t, ha, g⟩ := ha
  refine ⟨_, RZ.pi_zipA hg hm ha hs hpl, fun cs σ H ρ s xs s' R hρ hs hf k => ?_⟩
  obtain ⟨ds, s1, e1, hf⟩ := bnd_inv hf
  split at hf
  · rename_i da db
    cases hf
    refine g cs σ H ρ s _ _ _ hρ hs e1 fun vs H1 x1 k1 r1 => ?_
    cases r1 with
    | cons ra rr =>
      cases rr with
      | cons rb rr =>
        cases rr
        cases ra with
        | @tup a va _ na ha ra =>
          cases rb with
          | @tup b vb _ nb hb rb =>
            refine ⟨a, b, va, vb, rfl, .inr ⟨SqT.of ha, SqT.of hb, k _ H1 x1 k1 ⟨fun H => SqT X.K H a va ∧ SqT X.K H b vb, fun i H v H' => ∃ T x y, v = .ref T ∧ H T = none ∧ H' = upd H T (.tup [x, y]) ∧ va[i]? = some x ∧ vb[i]? = some y, ?_, fun H2 e => ⟨SqT.of (e _ _ na ha), SqT.of (e _ _ nb hb)⟩, ?_⟩⟩⟩
            · rw [List.length_map, List.length_zip, ← ra.length, ← rb.length]
              refine ⟨fun i _ hi q => ?_, fun _ q => ⟨va, vb, q.1, q.2, by omega⟩, fun i H v H' _ q ⟨T, x, y, h1, h2, h3, h4, h5⟩ => ⟨T, x, y, h1, h2, h3, h4 va q.1, h5 vb q.2⟩⟩
              have h1 : i < va.length := by omega
              have h2 : i < vb.length := by omega
              exact ⟨va, vb, va[i], vb[i], q.1, q.2, by simp [h1], by simp [h2]⟩
            · rintro cs' i H2 v H3 hc ho e hi ⟨T, x, y, rfl, hT, rfl, hx, hy⟩
              obtain ⟨dx, hd, rx⟩ := ra.getV hx
              obtain ⟨dy, hd2, ry⟩ := rb.getV hy
              refine ⟨.tup [dx, dy], ?_, .new hT, fun s hs => new_pair hs hT (rx.carry hc ho e) (ry.carry hc ho e)⟩
              have hz : (da.zip db)[i]? = some (dx, dy) := by
                rw [List.getElem?_zip_eq_some]
                exact ⟨hd, hd2⟩
              rw [List.getElem?_map, hz]
              rfl
  · cases hf

/-! ### t[::-1] -/
theorem range_all {α : Type} : ∀ l : List α, (List.range l.length).filterMap (fun i => l[i]?) = l
  | [] => rfl
  | a :: l => by
    rw [List.length_cons, List.range_succ_eq_map, List.filterMap_cons]
    show a :: _ = a :: l
    rw [List.filterMap_map]
    exact congrArg (a :: ·) (range_all l)
theorem fm_congr {α β : Type} {f g : α → Option β} : ∀ {l : List α}, (∀ x ∈ l, f x = g x) → l.filterMap f = l.filterMap g
  | [], _ => rfl
  | a :: l, h => by
    rw [List.filterMap_cons, List.filterMap_cons, h a List.mem_cons_self, fm_congr fun x hx => h x (List.mem_cons_of_mem _ hx)]
theorem pick_back (xs : Array Value) : ((List.range xs.size).filterMap fun (k : Nat) => xs[(((xs.size : Int) - 1) + (k : Int) * (-1)).toNat]?) = xs.toList.reverse := by
  conv => rhs; rw [← range_all xs.toList.reverse]
  rw [List.length_reverse, Array.length_toList]
  refine fm_congr fun k hk => ?_
  have hk' : k < xs.size := List.mem_range.mp hk
  rw [List.getElem?_reverse (by rw [Array.length_toList]; exact hk'), Array.length_toList, Array.getElem?_toList]
  congr 1
  omega
theorem tup_back {prog : Program} {w : World} {A : Around} {E : Value → Shared → Prop} {s : Shared} {t sl : Addr} {items : Array Value} {vl vu vs : Value} {Q : Value → Shared → Prop} (ht : IsTup s.heap t items) (hs : s.heap.IsSliceOf sl vl vu vs) (pl : IsPart vl none) (pu : IsPart vu none) (ps : IsPart vs (some (-1)))
    (q : Q (.ref s.heap.objs.size) { s with heap := s.heap.push { cls := .type "tuple", data := .seq items.toList.reverse.toArray } }) (hsz : items.size ≤ sizeLine) : wpAny (model prog w) A (getItem (.ref t) (.ref sl)) Q E s := by
  have hok : sizeOk (.seq items.toList.reverse.toArray) := by
    show items.toList.reverse.toArray.size ≤ sizeLine
    rw [List.size_toArray, List.length_reverse, Array.length_toList]
    exact hsz
  obtain ⟨os, hos, hcs, hds⟩ := id hs
  have hTs : s.TypeIs (.ref sl) "slice" := ⟨os, hos, hcs⟩
  have adj : Builtin.Slice.sliceAdjust none none (-1) (items.size : Int) = ((items.size : Int) - 1, -1) := rfl
  have plc : Builtin.Slice.slicePlaces ((items.size : Int) - 1) (-1) (-1) = items.size := by
    unfold Builtin.Slice.slicePlaces
    rw [if_neg (show ¬ ((-1 : Int) > 0) by decide), show (-(-1 : Int)) = 1 from rfl, Int.ediv_one]
    split <;> omega
  unfold getItem
  try with_reducible refine wpAny_holding ?_
  first | refine wpAny_bind (wpAny_pure ?_) | skip
  refine wpAny_bind (wpAny_sequenceKey ht.typeIs (by decide) ?_)
  refine wpAny_bind (wpAny_callSpecial?_slot (name := Str.ofString "__getitem__") ht.typeIs PyProof.Rows.slot_tuple_getitem
    (wpAny_call_entry PyProof.Rows.slot_tuple_getitem ht.typeIs entry_tuple_getitem ?_ (args_tuple_getitem _ _)))
  show wpAny _ _ (Builtin.Tuple.tupleItemsOf (.ref t) >>= _) _ _ s
  refine wpAny_bind (tupleItemsOf_ ht ?_)
  refine wpAny_bind (wpAny_typeOf hTs ?_)
  rw [if_pos (by decide)]
  have sa : ∀ {P : Int × Int × Nat → Shared → Prop} {E' : Value → Shared → Prop} {A' : Around}, P ((items.size : Int) - 1, -1, items.size) s → wpAny (model prog w) A' (Builtin.Slice.sliceApplied (.ref sl) (pure (items.size : Int))) P E' s := by
    intro P E' A' h
    unfold Builtin.Slice.sliceApplied Builtin.Slice.sliceFields
    refine wpAny_bind (wpAny_bind (wpAny_field hos hds (x := vl) rfl (wpAny_bind (wpAny_field hos hds (x := vu) rfl (wpAny_bind (wpAny_field hos hds (x := vs) rfl (wpAny_pure ?_)))))))
    refine wpAny_bind (HT.slicePart_ ps ?_)
    show wpAny _ _ (if ((-1 : Int) == 0) = true then _ else _) _ _ s
    rw [if_neg (by decide)]
    refine wpAny_bind (HT.slicePart_ pl (wpAny_bind (HT.slicePart_ pu (wpAny_bind (wpAny_pure ?_)))))
    show wpAny _ _ (match Builtin.Slice.sliceAdjust none none (-1) (items.size : Int) with | (lo, hi) => pure (lo, (-1 : Int), Builtin.Slice.slicePlaces lo hi (-1))) _ _ s
    rw [adj]
    show wpAny _ _ (pure ((items.size : Int) - 1, (-1 : Int), Builtin.Slice.slicePlaces ((items.size : Int) - 1) (-1) (-1))) _ _ s
    rw [plc]
    exact wpAny_pure h
  refine wpAny_bind (sa ?_)
  have hno : ¬ ((((items.size : Int) - 1) == 0 && (-1 : Int) == 1 && items.size == items.size) = true) := by
    rw [show ((-1 : Int) == 1) = false from rfl, Bool.and_false, Bool.false_and]
    exact Bool.false_ne_true
  show wpAny _ _ (if ((((items.size : Int) - 1) == 0 && (-1 : Int) == 1 && items.size == items.size) = true) then _ else _) _ _ s
  rw [if_neg hno, pick_back]
  first
    | exact wpAny_bind (m := Builtin.Tuple.tupleExact _) (wpAny_newObj_type (wpAny_pure ⟨_, rfl, wpAny_pure q⟩) hok)
    | exact wpAny_bind (m := Builtin.Tuple.tupleExact _) (wpAny_newObj_type (wpAny_bind (wpAny_pure (wpAny_pure ⟨_, rfl, wpAny_pure q⟩))) hok)
    | exact wpAny_bind (wpAny_bind (m := Builtin.Tuple.tupleExact _) (wpAny_newObj_type (wpAny_pure (wpAny_pure ⟨_, rfl, wpAny_pure q⟩)) hok))
    | exact wpAny_bind (wpAny_bind (m := Builtin.Tuple.tupleExact _) (wpAny_newObj_type (wpAny_pure ⟨_, rfl, wpAny_pure q⟩) hok))
def eBack (fe : E) : E := fun ρ s => bnd (fe ρ s) fun d s1 => match d with
  | .tup ds => some (.tup ds.reverse, s1)
  | _ => none
theorem Reps.reverse {cs : Gh} {H : Hp} : ∀ {vs : List V} {ds : List D}, Reps cs H vs ds → Reps cs H vs.reverse ds.reverse
  | _, _, .nil => .nil
  | _, _, .cons r t => by
    rw [List.reverse_cons, List.reverse_cons]
    exact (Reps.reverse t).append (.one r)
def tBackT (K : PySem.W.Frag) (te : TE) : TE := fun σ H Q => te σ H fun x H1 => ∃ a xs, x = .ref a ∧ SqT K H1 a xs ∧ ∀ p, H1 p = none → Q (.ref p) (upd H1 p (.tup xs.reverse))
theorem pe_backT {e : Expr} {te : TE} {k : Nat} {p1 p2 p3 pos : Pos} (he : PE X e te) : PE X (.Subscript e (.Slice none none (some (.UnaryOp .USub (.Constant (.int 1) k p1) p2)) p3) pos) (tBackT X.K te) := by
  refine ⟨fun pins s σ H Q I h => Subscript_ (thn (he.run pins s σ H _ I h) fun v s1 ⟨x, H1, I1, r1, a, xs, ex, hx, q⟩ => ?_)⟩
  subst ex
  cases r1
  have step : PO X (some (.UnaryOp .USub (.Constant (.int 1) k p1) p2)) (tPart (tUn (rU fun i => .int (-i)) (tC (.int 1)))) := po_some (pe_un un_neg pe_int)
  refine wpAny_Slice (thn (po_none.run pins s1 σ H1 (fun o H2 => o = none ∧ H2 = H1) I1 ⟨rfl, rfl⟩) fun vl s2 ⟨l, H2, I2, pl, el, e2⟩ => ?_)
  subst el e2
  refine thn (po_none.run pins s2 σ H2 (fun o H3 => o = none ∧ H3 = H2) I2 ⟨rfl, rfl⟩) fun vu s3 ⟨u, H3, I3, pu, eu, e3⟩ => ?_
  subst eu e3
  refine thn (step.run pins s3 σ H3 (fun o H4 => o = some (-1) ∧ H4 = H3) I3 ⟨1, rfl, -1, rfl, rfl, rfl⟩) fun vs s4 ⟨o, H4, I4, ps, eo, e4⟩ => ?_
  subst eo e4
  have I5 : Inv X pins σ H4 { s4 with heap := s4.heap.push { cls := .type "slice", data := .fields #[vl, vu, vs] } } := I4.kept (t' := s4.toks) fun b ob z => Heap.get?_push_of_some _ z
  obtain ⟨its, r, ht, hz⟩ := I5.tuple hx
  have hlen := r.length
  show wpAny (model X.prog X.w) X.A (subscriptTail e (.Slice none none (some (.UnaryOp .USub (.Constant (.int 1) k p1) p2)) p3) (.ref a) (.ref s4.heap.objs.size)) (EP X pins σ Q) X.xe { s4 with heap := s4.heap.push { cls := .type "slice", data := .fields #[vl, vu, vs] } }
  refine tail_any (ops := [.ref a, .ref s4.heap.objs.size]) ht.typeIs (PyProof.Rows.slot_tuple_getitem.lookup) ?_ (by with_unfolding_all rfl)
  refine tup_back ht (Heap.IsSliceOf.new _ vl vu vs) pl pu ps ?_ (by rw [List.size_toArray]; omega)
  refine ⟨.ref _, _, I5.laid (t' := s4.toks) (o := .tup xs.reverse) (fun b ob z => Heap.get?_push_of_some _ z) (Nat.le_refl _) ?_, rfl, q _ (I5.hok.fresh (Nat.le_refl _))⟩
  exact ⟨by rw [List.length_reverse]; exact hz, _, r.reverse, IsTup.new _ _⟩
theorem pd_back {e : Expr} {fe : E} {k : Nat} {p1 p2 p3 pos : Pos} (he : PD X e fe) : PD X (.Subscript e (.Slice none none (some (.UnaryOp .USub (.Constant (.int 1) k p1) p2)) p3) pos) (eBack fe) := by
  obtain ⟨t, he, g⟩ := he
  refine ⟨_, pe_backT he, fun cs σ H ρ s d s' Q hρ hs hf k => ?_⟩
  obtain ⟨x, s1, e1, hf⟩ := bnd_inv hf
  refine g cs σ H ρ s x s1 _ hρ hs e1 fun v H1 x1 k1 r1 => ?_
  cases x with
  | tup ds =>
    cases hf
    cases r1 with
    | @tup a xs _ n h r => exact ⟨a, xs, rfl, SqT.of h, fun p hp => k _ _ (x1.trans (.new hp)) (k1.new hp) (.tup (k1.fresh hp) upd_same (r.reverse.mono (.new hp)))⟩
  | _ => cases hf
end
end Pg
set_option Elab.async false
set_option linter.all false
set_option maxRecDepth 100000
set_option maxHeartbeats 2000000
/-! Pages, part J: comprehensions of two clauses. -/
namespace Pg
open PySem PySem.Spec PyProof.Rows L2

/-- [elt for t in xs if .. for t1 in ys if ..] -/
def lc2Go (tg : TD) (tt : EB) (fi1 : EI) (tg1 : TD) (tt1 : EB) (te : E) (vs1 : List Nat) (ρ : Env) : List D → D → Option (List D × D)
  | [], s => some ([], s)
  | x :: xs, s => match tg x ρ with
    | none => none
    | some ρ2 => bnd (tt ρ2 s) fun b s1 => if b then bnd (fi1 ρ2 s1) fun ys s2 => bnd (lcGo tg1 tt1 te (wipeD ρ2 vs1) ys s2) fun zs s3 => bnd (lc2Go tg tt fi1 tg1 tt1 te vs1 ρ xs s3) fun ws s4 => some (zs ++ ws, s4)
      else lc2Go tg tt fi1 tg1 tt1 te vs1 ρ xs s1
def eLc2 (fi : EI) (tg : TD) (tt : EB) (fi1 : EI) (tg1 : TD) (tt1 : EB) (te : E) (vs vs1 : List Nat) : E := fun ρ s => bnd (fi ρ s) fun xs s1 => bnd (lc2Go tg tt fi1 tg1 tt1 te vs1 (wipeD ρ vs) xs s1) fun ys s2 => if ys.length ≤ lim then some (.lst ys, s2) else none
theorem Sub.trans {cs : Gh} {H H1 H2 : Hp} (a : Sub cs H H1) (b : Sub cs H1 H2) : Sub cs H H2 := fun x n =>
  ⟨fun xs e => (b x n).1 xs ((a x n).1 xs e), fun xs e => (b x n).2.1 xs ((a x n).2.1 xs e), fun k e => (b x n).2.2.1 k ((a x n).2.2.1 k e), fun k e => (b x n).2.2.2 k ((a x n).2.2.2 k e)⟩
/-- between two turns: what stood before the list stands, the list holds as, the cell holds s -/
structure Mid (cs : Gh) (H1 : Hp) (L : Addr) (as : List D) (s : D) (H : Hp) : Prop where
  ext : Ext cs H1 H
  sub : Sub (cs.add L) H1 H
  at_ : ∃ acc, H L = some (.lst acc) ∧ Reps (cs.add L) H acc as
  ok : SOk (cs.add L) s H
theorem Mid.next {cs : Gh} {H1 H H' : Hp} {L : Addr} {as : List D} {s s' : D} (m : Mid cs H1 L as s H) (hc : cs.c ≠ some L) (e : Ext cs H H') (k : SOk (cs.add L) s' H') : Mid cs H1 L as s' H' := by
  obtain ⟨acc, h, r⟩ := m.at_
  have e' : Ext (cs.add L) H H' := e
  exact ⟨m.ext.trans e, m.sub.trans e'.sub, ⟨acc, e _ _ hc h, r.mono e'⟩, k⟩
theorem Mid.push {cs : Gh} {H1 H : Hp} {L : Addr} {as : List D} {s d : D} {v : V} (m : Mid cs H1 L as s H) (hc : cs.c ≠ some L) (hL : H1 L = none) (r : Rep (cs.add L) H v d) :
    ∃ acc, H L = some (.lst acc) ∧ acc.length = as.length ∧ Mid cs H1 L (as ++ [d]) s (upd H L (.lst (acc ++ [v]))) := by
  obtain ⟨acc, h, ra⟩ := m.at_
  refine ⟨acc, h, ra.length, ⟨fun b o hb q => ?_, m.sub.trans sub_hidden, ⟨_, upd_same, (ra.append (.one r)).sub sub_hidden⟩, m.ok.hidden hc fun _ z => nomatch z⟩⟩
  rw [upd_ne (ne_of_none q hL)]
  exact m.ext b o hb q
section
variable {X : Cx}
theorem lc2_good {wi : TI} {fi fi1 : EI} {tg tg1 : TD} {is is1 : List Nat} {bt bt1 : EB} {fe : E} {vs vs1 : List Nat} (gi : IGood wi fi)
    (his : ∀ i ∈ is, i ∈ vs) (his1 : ∀ i ∈ is1, i ∈ vs1)
    (cs : Gh) (σ : L2.St) (H : Hp) (ρ : Env) (s d s' : D) (Q : VK) (hρ : EnvR cs H σ ρ) (hs : SOk cs s H) (hf : eLc2 fi tg bt fi1 tg1 bt1 fe vs vs1 ρ s = some (d, s'))
    (k : ∀ v H', Ext cs H H' → SOk cs s' H' → Rep cs H' v d → Q v H') : tLc2 wi (gOf is tg) (bOf bt) (iOf fi1) (gOf is1 tg1) (bOf bt1) (tOf fe) vs vs1 σ H Q := by
  obtain ⟨xs, s1, e1, hf⟩ := bnd_inv hf
  obtain ⟨ys, s9, e9, hf⟩ := bnd_inv hf
  split at hf
  · rename_i hlim
    cases hf
    refine gi cs σ H ρ s xs s1 _ hρ hs e1 fun J H1 x1 k1 W => ?_
    obtain ⟨G, Y, w, hG, hY⟩ := W.ex
    intro L hL
    have hLh : cs.c ≠ some L := (k1.fresh hL).2
    have ro : ∀ a, cs.ok a → H1 a ≠ none → (cs.add L).ok a := add_ok hL
    have hρL : EnvR (cs.add L) H1 σ ρ := (hρ.mono x1).add hL
    refine ⟨fun i m H2 => m = xs.length - i ∧ i ≤ xs.length ∧ ∃ as zs s2, Mid cs H1 L as s2 H2 ∧ lc2Go tg bt fi1 tg1 bt1 fe vs1 (wipeD ρ vs) (xs.drop i) s2 = some (zs, s') ∧ ys = as ++ zs,
      ⟨xs.length, by simp, Nat.zero_le _, [], ys, s1, ⟨.new hL, sub_hidden, ⟨[], upd_same, .nil⟩, k1.add hL fun _ z => nomatch z⟩, e9, rfl⟩, ?_⟩
    rintro i m H2 ⟨rfl, hi, as, zs, s2, M, hf2, ey⟩
    by_cases hlt : i < xs.length
    · refine .inr ⟨w.goes i H2 hlt (hG H2 M.ext.w), fun H' => ∃ as zs s2, Mid cs H1 L as s2 H' ∧ lc2Go tg bt fi1 tg1 bt1 fe vs1 (wipeD ρ vs) (xs.drop (i + 1)) s2 = some (zs, s') ∧ ys = as ++ zs,
        fun H' q => ⟨xs.length - (i + 1), by omega, rfl, hlt, q⟩, fun v H3 y => ?_⟩
      obtain ⟨x, hx, x3, k3⟩ := hY (cs.add L) i H2 v H3 rfl ro M.ext.w hlt (w.yields i H2 v H3 hlt (hG H2 M.ext.w) y)
      have hd : xs.drop i = x :: xs.drop (i + 1) := by
        rw [List.drop_eq_getElem_cons hlt]
        have := List.getElem?_eq_getElem hlt
        rw [hx] at this
        rw [Option.some.inj this]
      rw [hd] at hf2
      unfold lc2Go at hf2
      cases e2 : tg x (wipeD ρ vs) with
      | none => rw [e2] at hf2; cases hf2
      | some ρ3 =>
        rw [e2] at hf2
        have M3 := M.next hLh x3 (k3 s2 M.ok).1
        have hρ3 : EnvR (cs.add L) H3 (wipe σ vs) (wipeD ρ vs) := (hρL.sub M3.sub).wipe vs
        refine gOf_good (cs.add L) H3 (wipe σ vs) (wipeD ρ vs) ρ3 v x _ hρ3 (k3 s2 M.ok).2 e2 fun σ3 r3 o3 => ?_
        refine ⟨by rw [o3.wipe his]; exact (OnlyAt.wipe (is := vs) (σ := σ) ⟨wipe_length σ vs, fun i h => wipe_out h⟩ fun i h => h), ?_⟩
        obtain ⟨b, s4, e4, hf4⟩ := bnd_inv hf2
        refine bOf_good (cs.add L) σ3 H3 ρ3 s2 b s4 _ r3 (k3 s2 M.ok).1 e4 fun H4 x4 k4 => ?_
        have M4 := M3.next hLh x4 k4
        have r4 : EnvR (cs.add L) H4 σ3 ρ3 := r3.mono x4
        cases b with
        | false => exact iteF ⟨as, zs, s4, M4, hf4, ey⟩
        | true =>
          refine iteT ?_
          obtain ⟨ys1, s5, e5, hf5⟩ := bnd_inv (show bnd (fi1 ρ3 s4) (fun ys s2 => bnd (lcGo tg1 bt1 fe (wipeD ρ3 vs1) ys s2) fun zs s3 => bnd (lc2Go tg bt fi1 tg1 bt1 fe vs1 (wipeD ρ vs) (xs.drop (i + 1)) s3) fun ws s4 => some (zs ++ ws, s4)) = some (zs, s') from hf4)
          obtain ⟨zs1, s6, e6, hf6⟩ := bnd_inv hf5
          obtain ⟨ws, s7, e7, hf7⟩ := bnd_inv hf6
          cases hf7
          refine iOf_good (cs.add L) σ3 H4 ρ3 s4 ys1 s5 _ r4 k4 e5 fun J1 H5 x5 k5 W1 => ?_
          have M5 := M4.next hLh x5 k5
          obtain ⟨G1, Y1, w1, hG1, hY1⟩ := W1.ex
          have hρ5 : EnvR (cs.add L) H5 σ3 ρ3 := r4.mono x5
          -- the inner loop
          refine ⟨fun j m H6 => m = ys1.length - j ∧ j ≤ ys1.length ∧ ExtW (cs.add L) H5 H6 ∧ ∃ bs zs2 s8, Mid cs H1 L (as ++ bs) s8 H6 ∧ lcGo tg1 bt1 fe (wipeD ρ3 vs1) (ys1.drop j) s8 = some (zs2, s6) ∧ zs1 = bs ++ zs2,
            ⟨ys1.length, by simp, Nat.zero_le _, fun _ _ _ q => q, [], zs1, s5, by rw [List.append_nil]; exact M5, e6, rfl⟩, ?_⟩
          rintro j m H6 ⟨rfl, hj, w6, bs, zs2, s8, M6, hf8, ez⟩
          by_cases hjl : j < ys1.length
          · refine .inr ⟨w1.goes j H6 hjl (hG1 H6 w6), fun H' => ExtW (cs.add L) H5 H' ∧ ∃ bs zs2 s8, Mid cs H1 L (as ++ bs) s8 H' ∧ lcGo tg1 bt1 fe (wipeD ρ3 vs1) (ys1.drop (j + 1)) s8 = some (zs2, s6) ∧ zs1 = bs ++ zs2,
              fun H' q => ⟨ys1.length - (j + 1), by omega, rfl, hjl, q⟩, fun v1 H7 y1 => ?_⟩
            obtain ⟨x1', hx1, x7, k7⟩ := hY1 (cs.add L) j H6 v1 H7 rfl (fun _ h _ => h) w6 hjl (w1.yields j H6 v1 H7 hjl (hG1 H6 w6) y1)
            have hd1 : ys1.drop j = x1' :: ys1.drop (j + 1) := by
              rw [List.drop_eq_getElem_cons hjl]
              have := List.getElem?_eq_getElem hjl
              rw [hx1] at this
              rw [Option.some.inj this]
            rw [hd1] at hf8
            unfold lcGo at hf8
            cases e8 : tg1 x1' (wipeD ρ3 vs1) with
            | none => rw [e8] at hf8; cases hf8
            | some ρ8 =>
              rw [e8] at hf8
              have M7 := M6.next hLh x7 (k7 s8 M6.ok).1
              have w7 : ExtW (cs.add L) H5 H7 := fun b o hb q => x7 b o hb.2 (w6 b o hb q)
              have hρ7 : EnvR (cs.add L) H7 (wipe σ3 vs1) (wipeD ρ3 vs1) := (hρ5.sub w7.sub).wipe vs1
              refine gOf_good (cs.add L) H7 (wipe σ3 vs1) (wipeD ρ3 vs1) ρ8 v1 x1' _ hρ7 (k7 s8 M6.ok).2 e8 fun σ8 r8 o8 => ?_
              refine ⟨by rw [o8.wipe his1]; exact (OnlyAt.wipe (is := vs1) (σ := σ3) ⟨wipe_length σ3 vs1, fun i h => wipe_out h⟩ fun i h => h), ?_⟩
              obtain ⟨b, s10, e10, hf10⟩ := bnd_inv hf8
              refine bOf_good (cs.add L) σ8 H7 ρ8 s8 b s10 _ r8 (k7 s8 M6.ok).1 e10 fun H8 x8 k8 => ?_
              have M8 := M7.next hLh x8 k8
              have w8 : ExtW (cs.add L) H5 H8 := fun b o hb q => x8 b o hb.2 (w7 b o hb q)
              cases b with
              | false => exact iteF ⟨w8, bs, zs2, s10, M8, hf10, ez⟩
              | true =>
                obtain ⟨z, s11, e11, hf11⟩ := bnd_inv (show bnd (fe ρ8 s10) (fun y s2 => bnd (lcGo tg1 bt1 fe (wipeD ρ3 vs1) (ys1.drop (j + 1)) s2) fun ys s3 => some (y :: ys, s3)) = some (zs2, s6) from hf10)
                obtain ⟨zs3, s12, e12, hf12⟩ := bnd_inv hf11
                cases hf12
                refine iteT (tOf_good (cs.add L) σ8 H8 ρ8 s10 z s11 _ (r8.mono x8) k8 e11 fun u H9 x9 k9 r9 => ?_)
                have M9 := M8.next hLh x9 k9
                obtain ⟨acc, h1, h2, h3⟩ := M9.push hLh hL r9
                have ll : acc.length ≤ lim := by
                  rw [h2]
                  have : (as ++ bs).length ≤ ys.length := by
                    rw [ey, ez]
                    simp only [List.length_append]
                    omega
                  omega
                refine ⟨acc, h1, lim_lt ll, fun b o hb q => ?_, bs ++ [z], zs3, s11, by rw [← List.append_assoc]; exact h3, e12, by rw [ez, List.append_assoc]; rfl⟩
                have nb : b ≠ L := fun e => hb.1 (by rw [e]; exact List.mem_cons_self)
                rw [upd_ne nb]
                exact x9 b o hb.2 (w8 b o hb q)
          · have ej : j = ys1.length := by omega
            subst ej
            rw [List.drop_length] at hf8
            cases hf8
            rw [List.append_nil] at ez
            subst ez
            exact .inl ⟨w1.stops H6 (hG1 H6 w6), _, ws, s6, M6, e7, by rw [ey, List.append_assoc]⟩
    · have ei : i = xs.length := by omega
      subst ei
      rw [List.drop_length] at hf2
      cases hf2
      rw [List.append_nil] at ey
      subst ey
      obtain ⟨acc, eL, rL⟩ := M.at_
      exact .inl ⟨w.stops H2 (hG H2 M.ext.w), k _ H2 (x1.trans M.ext) M.ok.drop (.lst (k1.fresh hL) eL rL.drop')⟩
  · cases hf
theorem pd_lc2 {elt tg iter tg1 iter1 : Expr} {ifs ifs1 : List Expr} {scope : Scope} {own : List (Str × Nat)} {vs1 : List Nat} {pos : Pos} {fi fi1 : EI} {is is1 : List Nat} {td td1 : TD} {bt bt1 : EB} {fe : E} (hc : X.calm = true) (hN : X.N.Nodup) (hi : PID X tg iter fi)
    (ok : BlkOk X.N X.env.scope scope own) (hv : ∀ i ∈ vs1, i ∈ own.map (·.2)) (his : ∀ i ∈ is, i ∈ own.map (·.2)) (his1 : ∀ i ∈ is1, i ∈ vs1)
    (hg : InBlk X scope fun Y => PGD Y tg is td) (ht : InBlk X scope fun Y => PTsD Y ifs bt) (hi1 : InBlk X scope fun Y => PID Y tg1 iter1 fi1) (hg1 : InBlk X scope fun Y => PGD Y tg1 is1 td1) (ht1 : InBlk X scope fun Y => PTsD Y ifs1 bt1) (he : InBlk X scope fun Y => PD Y elt fe)
    (hs : ∀ x, foldedSetIterable iter X.env x = pure x := by intro _; rfl) (hs1 : ∀ env x, foldedSetIterable iter1 env x = pure x := by intro _ _; rfl) :
    PD X (.ListComp elt [⟨tg, iter, ifs, 0⟩, ⟨tg1, iter1, ifs1, 0⟩] scope pos) (eLc2 fi td bt fi1 td1 bt1 fe (own.map (·.2)) vs1) :=
  ⟨_, pe_lc2 hc hN hi.pi ok hv (fun s H C cl fp => (hg s H C cl fp).pg) (fun s H C cl fp => (ht s H C cl fp).pts) (fun s H C cl fp => (hi1 s H C cl fp).pi) (fun s H C cl fp => (hg1 s H C cl fp).pg) (fun s H C cl fp => (ht1 s H C cl fp).pts) (fun s H C cl fp => (he s H C cl fp).pe) hs hs1,
    lc2_good iOf_good his his1⟩
end
end Pg
set_option Elab.async false
set_option linter.all false
set_option maxRecDepth 100000
set_option maxHeartbeats 1000000
/-! Pages, part K: dict displays that take in dicts. -/
namespace Pg
open PySem PySem.Spec PyProof.Rows L2

section
variable {prog : Program} {w : World} {A : Around} {E : Value → Shared → Prop} {s : Shared}
/-- one entry is put, keys carried by value -/
theorem put_of {K : Type} [DecidableEq K] {knd : KeyKind prog w K} {d : Addr} {kvs : List (K × Value)} {k : K} {key v : Value} {Q : Unit → Shared → Prop} (hkey : knd.is k key = true) (hm : s.heap.DictOf knd d kvs)
    (hQ : ∀ h', h'.DictOf knd d (stored kvs k v) → Heap.SameBut d s.heap h' → Q () { s with heap := h' }) (hsz : kvs.length ≤ sizeLine) :
    wpAny (model prog w) A (dictPut d (knd.hash k) key v) Q E s := by
  obtain ⟨o, es, ep, ho, hc, hd, hk, hp, hn⟩ := hm
  have hes : es.size ≤ sizeLine := by
    have e1 := hp.length
    have e2 : es.toList.length = es.size := by simp
    omega
  unfold dictPut
  refine wpAny_bind (wpAny_dictFind_of hkey ho hd hk ?_)
  have hix : (es.findIdx? fun e => knd.is k e.key) = kvs.findIdx? fun kv => decide (kv.1 = k) := by
    have h := hp.findIdx k
    obtain ⟨l⟩ := es
    simpa using h
  cases hi : es.findIdx? fun e => knd.is k e.key with
  | some i =>
    have hy : (kvs.any fun kv => decide (kv.1 = k)) = true := any_of_findIdx_some (hix ▸ hi)
    have heq : stored kvs k v = kvs.map fun kv => if kv.1 = k then (kv.1, v) else kv := if_pos hy
    refine wpAny_updateDict ho hd (hQ _ ⟨_, _, ep, Heap.get?_update_self _ ho (Obj.isFreed_of_dict (Obj.data_mapDict hd _)), hc.mapDict _, Obj.data_mapDict hd _, hk.modify _ _, ?_, ?_⟩ (Heap.SameBut.update ..))
    · have hl : (es.toList.findIdx? fun e => knd.is k e.key) = some i := by
        rw [← hi]
        obtain ⟨l⟩ := es
        simp
      have h := hp.modify hn hl v
      rw [heq]
      obtain ⟨l⟩ := es
      simpa using h
    · rw [heq, keys_map_store]
      exact hn
  | none =>
    have hout : k ∉ kvs.map (·.1) := not_mem_of_findIdx_none (hix ▸ hi)
    have hno : ¬ (kvs.any fun kv => decide (kv.1 = k)) = true := fun z => by
      obtain ⟨kv, m, q⟩ := List.any_eq_true.mp z
      exact hout (List.mem_map.mpr ⟨kv, m, of_decide_eq_true q⟩)
    have heq : stored kvs k v = kvs ++ [(k, v)] := if_neg hno
    refine wpAny_updateDictKeys (hz := hes) ho hd (hQ _ ⟨_, _, ep + 1, Heap.get?_update_self _ ho (Obj.isFreed_of_dict (Obj.data_mapDictKeys hd _)), hc.mapDictKeys _, Obj.data_mapDictKeys hd _, hk.push hkey _, ?_, ?_⟩ (Heap.SameBut.update ..))
    · have h := hp.append hkey (knd.hash k) v
      rw [heq]
      obtain ⟨l⟩ := es
      simpa using h
    · rw [heq, List.map_append, List.nodup_append]
      refine ⟨hn, List.nodup_cons.mpr ⟨(fun z => nomatch z), List.nodup_nil⟩, fun x hx y hy z => hout ?_⟩
      have : y = k := List.mem_singleton.mp hy
      rw [← this, ← z]
      exact hx
/-- one entry is put, keys that are tuples -/
theorem put_heap {K : Type} [DecidableEq K] {knd : HeapKind prog w K} {d a : Addr} {xs : List (K × Addr × Value)} {k : K} {v : Value} {Q : Unit → Shared → Prop} (hu : knd.room A) (hkey : knd.is s.heap k a) (hm : s.heap.DictOfH knd d xs)
    (hQ : ∀ h', h'.DictOfH knd d (storedH xs k a v) → Heap.SameBut d s.heap h' → Q () { s with heap := h' }) (hsz : xs.length ≤ sizeLine) :
    wpAny (model prog w) A (dictPut d (knd.hash k) (.ref a) v) Q E s := by
  obtain ⟨o, es, ep, ho, hc, hd, he, his, hn⟩ := hm
  unfold dictPut
  refine wpAny_bind (wpAny_dictFind_heap hu hkey ho hd he his hn (fun hno => ?_) fun j p hj => ?_)
  · have hnot : k ∉ xs.map (·.1) := not_mem_keys_of_get hno
    have heq : storedH xs k a v = xs ++ [(k, a, v)] := storedH_new (atKey_none_of_get hno) a v
    have hes : es.size ≤ sizeLine := by have e := size_of_entries he; omega
    refine wpAny_updateDictKeys (hz := hes) ho hd (hQ _ ⟨_, _, ep + 1, Heap.get?_update_self _ ho (Obj.isFreed_of_dict (Obj.data_mapDictKeys hd _)), hc.mapDictKeys _, Obj.data_mapDictKeys hd _, ?_, ?_, ?_⟩ (Heap.SameBut.update ..))
    · rw [heq]
      simp [he, entryOfKey]
    · rw [heq]
      intro x hx
      rcases List.mem_append.mp hx with m | m
      · exact knd.keeps (his x m) ho hd (Heap.SameBut.update ..)
      · rw [List.mem_singleton.mp m]
        exact knd.keeps hkey ho hd (Heap.SameBut.update ..)
    · rw [heq, List.map_append, List.nodup_append]
      refine ⟨hn, List.nodup_cons.mpr ⟨(fun z => nomatch z), List.nodup_nil⟩, fun x hx y hy z => hnot ?_⟩
      have : y = k := List.mem_singleton.mp hy
      rw [← this, ← z]
      exact hx
  · have heq : storedH xs k a v = xs.map (putAt k v) := storedH_old (atKey_of_get hn hj) a v
    refine wpAny_updateDict ho hd (hQ _ ⟨_, _, ep, Heap.get?_update_self _ ho (Obj.isFreed_of_dict (Obj.data_mapDict hd _)), hc.mapDict _, Obj.data_mapDict hd _, ?_, ?_, ?_⟩ (Heap.SameBut.update ..))
    · have h := modify_map_putAt (entryOfKey knd) (fun e : DictEntry => { e with val := v }) k v (fun _ _ => rfl) hn hj
      rw [← he] at h
      rw [heq]
      obtain ⟨l⟩ := es
      simpa using h
    · rw [heq]
      intro x hx
      obtain ⟨y, hy, rfl⟩ := List.mem_map.mp hx
      unfold putAt
      split <;> exact knd.keeps (his y hy) ho hd (Heap.SameBut.update ..)
    · rw [heq, keys_map_putAt]
      exact hn
/-- mergeMapping of a dict: each entry is put in turn (J i: i of them are in) -/
theorem merge_core {d a : Addr} {od oo : Obj} {esd eso : Array DictEntry} {epd epo : Nat} {Q : Unit → Shared → Prop} (J : Nat → Heap → Prop) (hoS : (a == sysModules) = false) (hod : s.heap.get? d = some od) (hdd : od.data = .dict esd epd)
    (hoo : s.heap.get? a = some oo) (hco : oo.cls = .type "dict") (hdo : oo.data = .dict eso epo) (hq : esd.isEmpty = true → ∀ e ∈ eso.toList, KeyApart s eso e) (h0 : J 0 s.heap)
    (step : ∀ (i : Nat) (h' : Heap) (e : DictEntry) (Q' : Unit → Shared → Prop), J i h' → h'.get? a = some oo → eso[i]? = some e → (∀ h'', J (i + 1) h'' → h''.get? a = some oo → Q' () { s with heap := h'' }) → wpAny (model prog w) A (dictPut d e.hash e.key e.val) Q' E { s with heap := h' })
    (hQ : ∀ h', J eso.size h' → h'.get? a = some oo → Q () { s with heap := h' }) : wpAny (model prog w) A (mergeMapping d (.ref a) false) Q E s := by
  have hT : s.TypeIs (.ref a) "dict" := ⟨oo, hoo, hco⟩
  have hsys : ¬ ((a == sysModules) = true) := by rw [hoS]; exact Bool.false_ne_true
  unfold mergeMapping
  refine wpAny_bind (wpAny_isInstance hT isSubtype_dict_dict ?_)
  simp only [if_true]
  refine wpAny_bind (wpAny_specialOf hT F.slot_dict_iter.lookup (wpAny_bind (wpAny_pure ?_)))
  simp only [beq_self_eq_true, hoS, Bool.false_eq_true, if_false]
  have fin : wpAny (model prog w) A (do
      let l ← dictEntries a
      let epoch ← dictEpoch a
      forIn (List.range l.size) PUnit.unit fun (i : Nat) (_ : PUnit) => (do
        let l' ← dictEntries a
        match l'[i]? with
        | some e => do
          holding [e.key, e.val] (dictPut d e.hash e.key e.val)
          let ep' ← dictEpoch a
          if (ep' != epoch) = true then do
            unsupported "dict.changed-during-merge"
            pure (ForInStep.yield PUnit.unit)
          else pure (ForInStep.yield PUnit.unit)
        | _ => do
          unsupported "dict.changed-during-merge"
          pure (ForInStep.yield PUnit.unit) : Sem (ForInStep PUnit))
      pure ()) Q E s := by
    refine wpAny_bind (wpAny_dictEntries hoo hdo (wpAny_bind (wpAny_dictEpoch hoo hdo (wpAny_bind ?_))))
    refine wpAny_forIn_list _ (fun rest _ s' => ∃ h' i, s' = { s with heap := h' } ∧ rest = List.range' i (eso.size - i) ∧ i ≤ eso.size ∧ J i h' ∧ h'.get? a = some oo) _ ?_ ?_ _ _
      ⟨s.heap, 0, rfl, by rw [List.range_eq_range', Nat.sub_zero], Nat.zero_le _, h0, hoo⟩
    · rintro x rest b s' ⟨h', i, rfl, hr, hi, hj, hoo'⟩
      have hlt : i < eso.size := by
        refine Nat.lt_of_le_of_ne hi fun z => ?_
        rw [z, Nat.sub_self] at hr
        cases hr
      have e9 : eso.size - i = (eso.size - (i + 1)) + 1 := by omega
      rw [e9, List.range'_succ] at hr
      injection hr with e1 hrest
      subst e1
      refine wpAny_bind (wpAny_dictEntries (s := { s with heap := h' }) hoo' hdo ?_)
      have he : eso[x]? = some eso[x] := Array.getElem?_eq_getElem hlt
      rw [he]
      refine wpAny_bind (wpAny_holding (step x h' eso[x] _ hj hoo' he fun h'' hj' hoo'' => ?_))
      refine wpAny_bind (wpAny_dictEpoch (s := { s with heap := h'' }) hoo'' hdo ?_)
      rw [if_neg (by simp)]
      exact wpAny_pure ⟨h'', x + 1, rfl, hrest, hlt, hj', hoo''⟩
    · rintro b s' ⟨h', i, rfl, hr, hi, hj, hoo'⟩
      have hin : i = eso.size := by
        refine Nat.le_antisymm hi (Nat.le_of_not_lt fun z => ?_)
        have e9 : eso.size - i = (eso.size - (i + 1)) + 1 := by omega
        rw [e9, List.range'_succ] at hr
        cases hr
      subst hin
      exact wpAny_pure (hQ h' hj hoo')
  refine wpAny_bind (wpAny_dictEntries hod hdd ?_)
  split
  · rename_i hemp
    refine wpAny_bind (wpAny_dictEntries hoo hdo (wpAny_bind ?_))
    rw [← Array.forIn_toList]
    refine wpAny_forIn_list _ (fun rest _ s' => s' = s ∧ ∀ e ∈ rest, KeyApart s eso e) _ ?_ ?_ _ _ ⟨rfl, hq hemp⟩
    · rintro e rest b s' ⟨rfl, hall⟩
      have hrest : ∀ x ∈ rest, KeyApart s' eso x := fun x hx => hall x (List.mem_cons_of_mem _ hx)
      rcases hall e List.mem_cons_self with hv | ⟨c, hk, hc, h1⟩
      · split
        · rename_i hk
          rw [hk] at hv
          cases hv
        · exact wpAny_pure ⟨rfl, hrest⟩
      · rw [hk]
        refine wpAny_bind (wpAny_specialOf hc F.slot_tuple_eq.lookup ?_)
        refine wpAny_ite_split (fun _ => ?_) fun _ => wpAny_pure ⟨rfl, hrest⟩
        rw [if_neg (by omega)]
        exact wpAny_pure ⟨rfl, hrest⟩
    · rintro b s' ⟨rfl, _⟩
      exact fin
  · exact fin
end

/-! ### the merge, heaps told by data -/
def mergeT (kvs more : List (List Key × V)) : List (List Key × V) := more.foldl (fun acc kv => putK acc kv.1 kv.2) kvs
theorem length_mergeT : ∀ (more kvs : List (List Key × V)), (mergeT kvs more).length ≤ kvs.length + more.length
  | [], kvs => Nat.le_refl _
  | p :: r, kvs => by
    have h1 := length_mergeT r (putK kvs p.1 p.2)
    have h2 := length_putK kvs p.1 p.2
    have h3 : mergeT kvs (p :: r) = mergeT (putK kvs p.1 p.2) r := rfl
    rw [h3, List.length_cons]
    omega
theorem KT.merge {H : Hp} : ∀ {more : List (List Key × V)} {ms : List (List Key × Addr × Value)} {kvs : List (List Key × V)} {xs : List (List Key × Addr × Value)}, KT H more ms → KT H kvs xs → KT H (mergeT kvs more) (storedAllH xs ms) := by
  intro more ms kvs xs r
  induction r generalizing kvs xs with
  | nil => exact id
  | @cons p q ps qs h t ih =>
    intro r0
    have e : KT H (putK kvs p.1 p.2) (storedH xs q.1 q.2.1 q.2.2) := by
      rw [← h.1]
      exact r0.put p.1 h.2.1 h.2.2
    exact ih e
section
variable {X : Cx} {pins : List (Addr × Obj)} {σ : L2.St} {H : Hp} {s : Shared} {L a : Addr} {A : Around} {E : Value → Shared → Prop} {Q : Unit → Shared → Prop}
theorem d_mergeK {kvs more : List (Key × V)} (I : Inv X pins σ H s) (eL : H L = some (.dK kvs)) (ea : Rd H a (.dK more)) (ne : L ≠ a) (hl : kvs.length + more.length ≤ lim) (h : ∀ s', Inv X pins σ (upd H L (.dK (mergeK kvs more))) s' → Q () s') :
    wpAny (model X.prog X.w) A (mergeMapping L (.ref a) false) Q E s := by
  obtain ⟨z, hL, vs, rel, dd⟩ := dk_of I.hok eL
  obtain ⟨z2, ha, ms, rel2, dd2⟩ := dk_rd I.hok ea
  obtain ⟨od, esd, epd, hod, hcd, hdd, _⟩ := id dd
  obtain ⟨oo, eso, epo, hoo, hco, hdo, hko, hpo, hno⟩ := id dd2
  have hlen : eso.size = ms.length := by rw [← hpo.length]; simp
  have hvs : vs.length + ms.length ≤ lim := by rw [← rel.length, ← rel2.length]; exact hl
  refine merge_core (fun i h' => h'.DictOf (mixKind X.prog X.w) L (merged vs (ms.take i)) ∧ Heap.SameBut L s.heap h') ha hod hdd hoo hco.1 hdo (fun _ e he => .inl ?_) ⟨dd, Heap.SameBut.refl _ _⟩ ?_ ?_
  · obtain ⟨k, hk, _⟩ := hko e (Array.mem_toList_iff.mp he)
    exact (mixKind X.prog X.w).byValue k _ hk
  · rintro i h' e Q' ⟨hj, hs⟩ hoo' he hq
    have hi : i < eso.size := (Array.getElem?_eq_some_iff.mp he).1
    obtain ⟨⟨k, v⟩, hkv⟩ : ∃ kv, ms[i]? = some kv := ⟨ms[i]'(by omega), List.getElem?_eq_getElem _⟩
    have hee : e = eso[i] := (Array.getElem?_eq_some_iff.mp he).2.symm
    subst hee
    obtain ⟨hkey, hval⟩ := hpo.get? (e := eso[i]) (by simp [hi]) hkv
    obtain ⟨k', hkey', hhash⟩ := hko eso[i] (Array.getElem_mem hi)
    obtain rfl : k' = k := (mixKind X.prog X.w).inj _ _ _ hkey' hkey
    rw [hhash, hval]
    have hm : (merged vs (ms.take i)).length ≤ sizeLine := by
      have e1 := merged_length_le vs (ms.take i)
      have e2 : (ms.take i).length ≤ ms.length := by rw [List.length_take]; omega
      exact lim_line (by omega)
    exact put_of (s := { s with heap := h' }) hkey hj (fun h'' hj' hs' => hq h'' ⟨by rw [merged_take_succ vs ms i (k', v) hkv]; exact hj', hs.trans hs'⟩ ((hs'.2 a (Ne.symm ne)).trans hoo')) hm
  · rintro h' ⟨hj, hs⟩ hoo'
    rw [hlen, List.take_length] at hj
    have he : ∃ q, h'.get? L = some q := let ⟨q, _, _, hq, _⟩ := hj; ⟨q, hq⟩
    have hz : (mergeK kvs more).length ≤ sizeLine := lim_line (Nat.le_trans (length_mergeK more kvs) hl)
    exact h _ (d_write (t' := s.toks) I (by rw [eL]; exact True.intro) hs he (dk_new hz hL (rel2.merge rel) hj))
theorem d_mergeT {kvs more : List (List Key × V)} (hu : A.units < cLine) (I : Inv X pins σ H s) (eL : H L = some (.dT kvs)) (ea : Rd H a (.dT more)) (ne : L ≠ a) (hl : kvs.length + more.length ≤ lim)
    (hap : kvs ≠ [] ∨ (more.map fun p => tupleKeyHash (mixKind X.prog X.w) p.1).Nodup) (h : ∀ s', Inv X pins σ (upd H L (.dT (mergeT kvs more))) s' → Q () s') :
    wpAny (model X.prog X.w) A (mergeMapping L (.ref a) false) Q E s := by
  obtain ⟨z, hL, xs, rel, dd⟩ := dt_of I.hok eL
  obtain ⟨z2, ha, ms, rel2, dd2⟩ := dt_rd I.hok ea
  obtain ⟨od, esd, epd, hod, hcd, hdd, hed, _⟩ := id dd
  obtain ⟨oo, eso, epo, hoo, hco, hdo, heo, hiso, hno⟩ := id dd2
  have hlen : eso.size = ms.length := size_of_entries heo
  have l1 : kvs.length = xs.length := Paired.length rel
  have l2 : more.length = ms.length := Paired.length rel2
  have hxs : xs.length + ms.length ≤ lim := by omega
  have hkeys : ∀ {l : List (List Key × V)} {m : List (List Key × Addr × Value)}, KT H l m → (l.map fun p => tupleKeyHash (mixKind X.prog X.w) p.1) = m.map fun x => (tupleKind (mixKind X.prog X.w)).hash x.1 := by
    intro l m r
    induction r with
    | nil => rfl
    | cons h t ih => rw [List.map_cons, List.map_cons, ih, h.1]; rfl
  have htup : ∀ x ∈ ms, s.TypeIs (.ref x.2.1) "tuple" := fun x hx => (hiso x hx).typeIs
  refine merge_core (fun i h' => h'.DictOfH (tupleKind (mixKind X.prog X.w)) L (storedAllH xs (ms.take i)) ∧ h'.DictOfH (tupleKind (mixKind X.prog X.w)) a ms ∧ Heap.SameBut L s.heap h') ha hod hdd hoo hco.1 hdo (fun hemp => ?_) ⟨dd, dd2, Heap.SameBut.refl _ _⟩ ?_ ?_
  · refine keysApart heo htup ?_
    have h0 : kvs = [] := by
      have e0 : esd = #[] := Array.isEmpty_iff.mp hemp
      have e1 := size_of_entries hed
      rw [e0] at e1
      have e2 : xs.length = 0 := e1.symm
      exact List.length_eq_zero_iff.mp (l1.trans e2)
    have q := hap.resolve_left fun z => z h0
    rw [hkeys rel2] at q
    exact q
  · rintro i h' e Q' ⟨hj, hj2, hs⟩ hoo' he hq
    have hi : i < eso.size := (Array.getElem?_eq_some_iff.mp he).1
    obtain ⟨⟨k, b, v⟩, hkv⟩ : ∃ kv, ms[i]? = some kv := ⟨ms[i]'(by omega), List.getElem?_eq_getElem _⟩
    have hee : e = entryOfKey (tupleKind (mixKind X.prog X.w)) (k, b, v) := by
      have q := entry_at heo i
      rw [he, hkv] at q
      exact Option.some.inj q
    have q1 : e.hash = (tupleKind (mixKind X.prog X.w)).hash k := by rw [hee]; rfl
    have q2 : e.key = .ref b := by rw [hee]; rfl
    have q3 : e.val = v := by rw [hee]; rfl
    rw [q1, q2, q3]
    have hm : (storedAllH xs (ms.take i)).length ≤ sizeLine := by
      have e1 := storedAllH_length (ms.take i) xs
      have e2 : (ms.take i).length ≤ ms.length := by rw [List.length_take]; omega
      exact lim_line (by omega)
    have hkey : (tupleKind (mixKind X.prog X.w)).is h' k b := by
      obtain ⟨_, _, _, _, _, _, _, q, _⟩ := hj2
      exact q _ (List.mem_of_getElem? hkv)
    exact put_heap (knd := tupleKind (mixKind X.prog X.w)) (s := { s with heap := h' }) (show (tupleKind (mixKind X.prog X.w)).room A from hu) hkey hj (fun h'' hj' hs' => hq h'' ⟨by rw [storedAllH_take_succ xs ms i (k, b, v) hkv]; exact hj', hj2.notHere hj ne hs', hs.trans hs'⟩ ((hs'.2 a (Ne.symm ne)).trans hoo')) hm
  · rintro h' ⟨hj, hj2, hs⟩ hoo'
    rw [hlen, List.take_length] at hj
    obtain ⟨q, es, ep, hq, g2, g3, g4, _, g5⟩ := hj
    have hz : (mergeT kvs more).length ≤ sizeLine := lim_line (Nat.le_trans (length_mergeT more kvs) hl)
    refine h _ (d_write (t' := s.toks) I (by rw [eL]; exact True.intro) hs ⟨q, hq⟩ ⟨hz, hL, _, (KT.merge rel2 rel).keeps fun c ys ec => ?_, q, es, ep, hq, g2, g3, g4, g5⟩)
    rw [upd_ne (ne_of ec eL (fun z => nomatch z))]
    exact ec
end
end Pg
set_option Elab.async false
set_option linter.all false
set_option maxRecDepth 100000
set_option maxHeartbeats 1000000
/-! Pages, part L: {**d, k: v}, {**d, **e}, {k: v}, {}; len of a dict. -/
namespace Pg
open PySem PySem.Spec PyProof.Rows L2

/-! ### hidden objects -/
section
variable {cs : Gh} {H : Hp} {L : Addr} {o : HO}
theorem sub_bad (hb : L ∈ cs.bad) : Sub cs H (upd H L o) := fun a h => by
  have ne : a ≠ L := fun e => h.1 (e ▸ hb)
  refine ⟨fun xs e => by rw [upd_ne ne]; exact e, fun xs e => by rw [upd_ne ne]; exact e, fun k e => ?_, fun k e => ?_⟩
  · exact e.elim (fun e => .inl (by rw [upd_ne ne]; exact e)) fun ⟨ob, e⟩ => .inr ⟨ob, by rw [upd_ne ne]; exact e⟩
  · exact e.elim (fun e => .inl (by rw [upd_ne ne]; exact e)) fun ⟨ob, e⟩ => .inr ⟨ob, by rw [upd_ne ne]; exact e⟩
theorem SOk.bad {s : D} (h : SOk cs s H) (hb : L ∈ cs.bad) (hc : cs.c ≠ some L) (ho : ∀ xs, o ≠ .tup xs) : SOk cs s (upd H L o) := by
  refine ⟨fun a m => ?_, fun a ha => ?_⟩
  · by_cases e : a = L
    · exact ⟨o, by rw [e]; exact upd_same, ho⟩
    · rw [upd_ne e]
      exact h.1 a m
  · have ne : a ≠ L := fun e => hc (e ▸ ha)
    have c := h.2 a ha
    cases s with
    | lst ds => obtain ⟨xs, e, r⟩ := c; exact ⟨xs, by rw [upd_ne ne]; exact e, r.sub (sub_bad hb)⟩
    | dP ks => obtain ⟨xs, e, r⟩ := c; exact ⟨xs, by rw [upd_ne ne]; exact e, r.sub (sub_bad hb)⟩
    | _ => exact c.elim
theorem RepI.drop' {v : List (Key × V)} {d : List (Int × D)} (r : RepI (cs.add L) H v d) : RepI cs H v d := r.change drop_ok fun _ h => h
theorem RepP.drop' {v : List (List Key × V)} {d : List ((Int × Int) × D)} (r : RepP (cs.add L) H v d) : RepP cs H v d := r.change drop_ok fun _ h => h
end

/-! ### stores in lists of pairs -/
def putI (ks : List (Int × D)) (k : Int) (d : D) : List (Int × D) := if (ks.lookup k).isSome then ks.map fun e => if e.1 = k then (k, d) else e else ks ++ [(k, d)]
theorem RepI.append {cs : Gh} {H : Hp} : ∀ {vs ws : List (Key × V)} {ds es : List (Int × D)}, RepI cs H vs ds → RepI cs H ws es → RepI cs H (vs ++ ws) (ds ++ es)
  | _, _, _, _, .nil, s => s
  | _, _, _, _, .cons r t, s => .cons r (RepI.append t s)
theorem RepI.put {cs : Gh} {H : Hp} {kvs : List (Key × V)} {ks : List (Int × D)} {v : V} {d : D} (a : Int) (r : RepI cs H kvs ks) (rv : Rep cs H v d) : RepI cs H (putK kvs (.inl a) v) (putI ks a d) := by
  unfold putK putI
  have hany : (kvs.any fun kv => decide (kv.1 = (.inl a : Key))) = (ks.lookup a).isSome := by
    rw [valV_any]
    rcases valI a r with ⟨e1, e2⟩ | ⟨w, e, e1, e2, _⟩ <;> rw [e1, e2] <;> rfl
  rw [hany]
  split
  · clear hany
    rename_i hx
    clear hx
    induction kvs generalizing ks with
    | nil => cases r; exact .nil
    | cons p kvs ih =>
      cases r with
      | @cons i w e _ es r t =>
        rw [List.map_cons, List.map_cons]
        by_cases q : i = a
        · subst q
          rw [if_pos rfl, if_pos rfl]
          exact .cons rv (ih t)
        · rw [if_neg q, if_neg fun z => q (Sum.inl.inj z)]
          exact .cons r (ih t)
  · exact r.append (.cons rv .nil)
theorem RepP.merge {cs : Gh} {H : Hp} : ∀ {ms : List (List Key × V)} {js : List ((Int × Int) × D)} {kvs : List (List Key × V)} {ks : List ((Int × Int) × D)}, RepP cs H ms js → RepP cs H kvs ks →
    RepP cs H (mergeT kvs ms) (js.foldl (fun acc e => putP acc e.1 e.2) ks)
  | [], _, _, _, .nil, r => r
  | _ :: ms, _ :: js, _, _, .cons (a := a) (b := b) h t, r => RepP.merge (ms := ms) (js := js) t (r.put a b h)
/-- nothing is lost where all keys are new -/
theorem mergeK_new : ∀ (more acc : List (Key × V)), ((acc ++ more).map (·.1)).Nodup → mergeK acc more = acc ++ more
  | [], acc, _ => by rw [List.append_nil]; rfl
  | p :: r, acc, h => by
    have hv : valV acc p.1 = none := by
      cases e : valV acc p.1 with
      | none => rfl
      | some v =>
        exfalso
        have hy : (acc.any fun kv => decide (kv.1 = p.1)) = true := by rw [valV_any, e]; rfl
        obtain ⟨kv, m, q⟩ := List.any_eq_true.mp hy
        rw [List.map_append, List.nodup_append] at h
        exact h.2.2 kv.1 (List.mem_map.mpr ⟨kv, m, rfl⟩) p.1 (List.mem_map.mpr ⟨p, List.mem_cons_self, rfl⟩) (of_decide_eq_true q)
    have e : mergeK acc (p :: r) = mergeK (acc ++ [(p.1, p.2)]) r := by
      rw [← putK_new p.2 hv]
      rfl
    rw [e, mergeK_new r _ (by simpa using h), List.append_assoc]
    rfl
theorem mergeT_new : ∀ (more acc : List (List Key × V)), ((acc ++ more).map (·.1)).Nodup → mergeT acc more = acc ++ more
  | [], acc, _ => by rw [List.append_nil]; rfl
  | p :: r, acc, h => by
    have hv : valV acc p.1 = none := by
      cases e : valV acc p.1 with
      | none => rfl
      | some v =>
        exfalso
        have hy : (acc.any fun kv => decide (kv.1 = p.1)) = true := by rw [valV_any, e]; rfl
        obtain ⟨kv, m, q⟩ := List.any_eq_true.mp hy
        rw [List.map_append, List.nodup_append] at h
        exact h.2.2 kv.1 (List.mem_map.mpr ⟨kv, m, rfl⟩) p.1 (List.mem_map.mpr ⟨p, List.mem_cons_self, rfl⟩) (of_decide_eq_true q)
    have e : mergeT acc (p :: r) = mergeT (acc ++ [(p.1, p.2)]) r := by
      rw [← putK_new p.2 hv]
      rfl
    rw [e, mergeT_new r _ (by simpa using h), List.append_assoc]
    rfl
section
variable {X : Cx} {pins : List (Addr × Obj)} {σ : L2.St} {H : Hp} {s : Shared} {a : Addr}
theorem keysK (I : Inv X pins σ H s) {kvs : List (Key × V)} (e : Rd H a (.dK kvs)) : (kvs.map (·.1)).Nodup := by
  obtain ⟨_, _, vs, rel, dd⟩ := dk_rd I.hok e
  obtain ⟨_, _, _, _, _, _, _, _, hn⟩ := dd
  rw [rel.keys]
  exact hn
theorem keysT (I : Inv X pins σ H s) {kvs : List (List Key × V)} (e : Rd H a (.dT kvs)) : (kvs.map (·.1)).Nodup := by
  obtain ⟨_, _, xs, rel, dd⟩ := dt_rd I.hok e
  obtain ⟨_, _, _, _, _, _, _, _, hn⟩ := dd
  have q : ∀ {l : List (List Key × V)} {m : List (List Key × Addr × Value)}, KT H l m → l.map (·.1) = m.map (·.1) := by
    intro l m r
    induction r with
    | nil => rfl
    | cons h t ih => rw [List.map_cons, List.map_cons, ih, h.1]
  rw [q rel]
  exact hn
end

/-! ### keys in a small box hash apart -/
def pairHash (a b : Int) : Int := reduceHash (Builtin.Tuple.tupleHashOf [hashInt a, hashInt b])
def boxL : List (Int × Int) := (List.range 7).flatMap fun (i : Nat) => (List.range 10).map fun (j : Nat) => ((i : Int) - 1, (j : Int))
theorem box_apart : (boxL.map fun p => pairHash p.1 p.2).Nodup := by decide +kernel
def inBox (p : Int × Int) : Bool := decide (-1 ≤ p.1) && decide (p.1 ≤ 5) && decide (0 ≤ p.2) && decide (p.2 ≤ 9)
theorem mem_box {p : Int × Int} (h : inBox p = true) : p ∈ boxL := by
  simp only [inBox, Bool.and_eq_true, decide_eq_true_eq] at h
  obtain ⟨⟨⟨h1, h2⟩, h3⟩, h4⟩ := h
  refine List.mem_flatMap.mpr ⟨(p.1 + 1).toNat, List.mem_range.mpr (by omega), List.mem_map.mpr ⟨p.2.toNat, List.mem_range.mpr (by omega), ?_⟩⟩
  refine Prod.ext ?_ ?_
  · show (((p.1 + 1).toNat : Nat) : Int) - 1 = p.1
    omega
  · show ((p.2.toNat : Nat) : Int) = p.2
    omega
theorem map_inj_of {α β : Type} {f : α → β} : ∀ {l : List α}, (l.map f).Nodup → ∀ {x y : α}, x ∈ l → y ∈ l → f x = f y → x = y
  | [], _, _, _, hx, _, _ => nomatch hx
  | z :: l, h, x, y, hx, hy, e => by
    rw [List.map_cons, List.nodup_cons] at h
    rcases List.mem_cons.mp hx with h1 | h1
    · rcases List.mem_cons.mp hy with h2 | h2
      · rw [h1, h2]
      · exact (h.1 (List.mem_map.mpr ⟨y, h2, by rw [← e, h1]⟩)).elim
    · rcases List.mem_cons.mp hy with h2 | h2
      · exact (h.1 (List.mem_map.mpr ⟨x, h1, by rw [e, h2]⟩)).elim
      · exact map_inj_of h.2 h1 h2 e
def box (ks : List ((Int × Int) × D)) : Bool := ks.all fun e => inBox e.1
theorem box_hash {P : Program} {w : World} {cs : Gh} {H : Hp} : ∀ {kvs : List (List Key × V)} {ks : List ((Int × Int) × D)}, RepP cs H kvs ks → box ks = true → (kvs.map (·.1)).Nodup → (kvs.map fun p => tupleKeyHash (mixKind P w) p.1).Nodup
  | _, _, .nil, _, _ => List.nodup_nil
  | _, _, .cons (a := a) (b := b) (vs := vs) (ds := ds) h t, hb, hn => by
    unfold box at hb
    rw [List.all_cons, Bool.and_eq_true] at hb
    rw [List.map_cons, List.nodup_cons] at hn
    rw [List.map_cons, List.nodup_cons]
    refine ⟨fun m => ?_, box_hash t hb.2 hn.2⟩
    obtain ⟨q, hq, e⟩ := List.mem_map.mp m
    have mem : ∀ {kvs : List (List Key × V)} {ks : List ((Int × Int) × D)}, RepP cs H kvs ks → ∀ q ∈ kvs, ∃ i j d, q.1 = [.inl i, .inl j] ∧ ((i, j), d) ∈ ks := by
      intro kvs ks r
      induction kvs generalizing ks with
      | nil => exact fun _ z => nomatch z
      | cons p kvs ih =>
        cases r with
        | @cons i j w d _ es r t =>
          intro q hq
          rcases List.mem_cons.mp hq with rfl | hq
          · exact ⟨i, j, d, rfl, List.mem_cons_self⟩
          · obtain ⟨i', j', d', e1, e2⟩ := ih t q hq
            exact ⟨i', j', d', e1, List.mem_cons_of_mem _ e2⟩
    obtain ⟨i, j, d, e1, e2⟩ := mem t q hq
    have b2 : inBox (i, j) = true := List.all_eq_true.mp hb.2 _ e2
    have e3 : pairHash i j = pairHash a b := by
      rw [e1] at e
      exact e
    have e4 := map_inj_of box_apart (mem_box b2) (mem_box hb.1) e3
    injection e4 with e5 e6
    exact hn.1 (List.mem_map.mpr ⟨q, hq, by rw [e1, e5, e6]⟩)

/-! ### displays that take in a dict -/
section
variable {prog : Program} {w : World} {A : Around} {E : Value → Shared → Prop} {s : Shared}
theorem disp_upd {v0 k v : Sem Value} {Q : Value → Shared → Prop}
    (h : wpAny (model prog w) A v0 (fun m s2 => wpAny (model prog w) A (mergeMapping s.heap.objs.size m false) (fun _ s3 => wpAny (model prog w) A (subDict [(k, v)]) (fun S s4 => wpAny (model prog w) A (mergeMapping s.heap.objs.size (.ref S) false) (fun _ s5 => Q (.ref s.heap.objs.size) s5) (fun _ _ => False) s4) E s3) (fun _ _ => False) s2) E
      { s with heap := s.heap.push { cls := .type "dict", data := .dict #[] } }) : wpAny (model prog w) A (dictDisplay [(none, v0), (some k, v)]) Q E s := by
  unfold dictDisplay
  simp only [List.forIn_cons, List.forIn_nil, List.isEmpty_nil, if_true, List.nil_append, List.length_singleton, pure_bind, bind_assoc]
  refine wpAny_bind (wpAny_alloc (wpAny_bind (wpAny_holding (wpAny_mono h (fun m s2 h2 => ?_) fun _ _ x => x))))
  refine wpAny_bind (wpAny_onRaise (wpAny_tryCatch (wpAny_onRaise (wpAny_holding (wpAny_mono h2 (fun _ s3 h3 => ?_) fun _ _ x => x.elim)))))
  rw [if_neg (by decide)]
  simp only [pure_bind]
  rw [if_neg (by simp)]
  refine wpAny_bind (wpAny_bind (wpAny_holding (wpAny_mono h3 (fun S s4 h4 => ?_) fun _ _ x => x)))
  refine wpAny_bind (wpAny_onRaise (wpAny_holding (wpAny_mono h4 (fun _ s5 h5 => ?_) fun _ _ x => x.elim)))
  exact wpAny_pure (wpAny_pure h5)
theorem disp_both {v0 v : Sem Value} {Q : Value → Shared → Prop}
    (h : wpAny (model prog w) A v0 (fun m s2 => wpAny (model prog w) A (mergeMapping s.heap.objs.size m false) (fun _ s3 => wpAny (model prog w) A v (fun m2 s4 => wpAny (model prog w) A (mergeMapping s.heap.objs.size m2 false) (fun _ s5 => Q (.ref s.heap.objs.size) s5) (fun _ _ => False) s4) E s3) (fun _ _ => False) s2) E
      { s with heap := s.heap.push { cls := .type "dict", data := .dict #[] } }) : wpAny (model prog w) A (dictDisplay [(none, v0), (none, v)]) Q E s := by
  unfold dictDisplay
  simp only [List.forIn_cons, List.forIn_nil, List.isEmpty_nil, if_true, pure_bind, bind_assoc]
  refine wpAny_bind (wpAny_alloc (wpAny_bind (wpAny_holding (wpAny_mono h (fun m s2 h2 => ?_) fun _ _ x => x))))
  refine wpAny_bind (wpAny_onRaise (wpAny_tryCatch (wpAny_onRaise (wpAny_holding (wpAny_mono h2 (fun _ s3 h3 => ?_) fun _ _ x => x.elim)))))
  refine wpAny_bind (wpAny_holding (wpAny_mono h3 (fun m2 s4 h4 => ?_) fun _ _ x => x))
  refine wpAny_bind (wpAny_onRaise (wpAny_tryCatch (wpAny_onRaise (wpAny_holding (wpAny_mono h4 (fun _ s5 h5 => ?_) fun _ _ x => x.elim)))))
  exact wpAny_pure h5
end
/-- what a run of an expression leaves -/
theorem run_of {X : Cx} {e : Expr} {f : E} (h : PD X e f) {pins : List (Addr × Obj)} {s : Shared} {σ : L2.St} {H : Hp} {cs : Gh} {ρ : Env} {s0 d s1 : D} (I : Inv X pins σ H s) (hρ : EnvR cs H σ ρ) (hs : SOk cs s0 H) (hf : f ρ s0 = some (d, s1)) :
    wpAny (model X.prog X.w) X.A (eval e X.env) (fun u s' => ∃ v H', Inv X pins σ H' s' ∧ RelV v u ∧ Ext cs H H' ∧ SOk cs s1 H' ∧ Rep cs H' v d) X.xe s :=
  h.pe.run pins s σ H (fun v H' => Ext cs H H' ∧ SOk cs s1 H' ∧ Rep cs H' v d) I ⟨cs, ρ, s0, d, s1, hρ, hs, hf, fun v H' x k r => ⟨x, k, r⟩⟩
/-- {**d, k: v} -/
def eUpd (fd fk fv : E) : E := fun ρ s => bnd (fd ρ s) fun d s1 => bnd (fk ρ s1) fun k s2 => bnd (fv ρ s2) fun v s3 => match d, k with
  | .dI ks, .int i => if ks.length < lim then some (.dI (putI ks i v), s3) else none
  | .dP ks, .tup [.int a, .int b] => if ks.length < lim ∧ box ks = true then some (.dP (putP ks (a, b) v), s3) else none
  | _, _ => none
section
variable {X : Cx} {d k v : Expr} {fd fk fv : E} {pos : Pos}
theorem upd_I (hu : X.A.units + 150 < cLine) (hd : PD X d fd) (hk : PD X k fk) (hv : PD X v fv) {pins : List (Addr × Obj)} {s : Shared} {σ : L2.St} {H : Hp} {cs : Gh} {ρ : Env} {s0 s1 s2 s3 : D} {Q : VK} (I : Inv X pins σ H s) (hρ : EnvR cs H σ ρ) (hs : SOk cs s0 H)
    {ks : List (Int × D)} {i : Int} {dv : D} (e1 : fd ρ s0 = some (.dI ks, s1)) (e2 : fk ρ s1 = some (.int i, s2)) (e3 : fv ρ s2 = some (dv, s3)) (hl : ks.length < lim)
    (q : ∀ v H', Ext cs H H' → SOk cs s3 H' → Rep cs H' v (.dI (putI ks i dv)) → Q v H') : wpAny (model X.prog X.w) X.A (eval (.Dict [none, some k] [d, v] pos) X.env) (EP X pins σ Q) X.xe s := by
  rw [arm_eval_Dict]
  refine wpAny_bind (wpAny_standAt ?_)
  refine disp_upd (k := eval k X.env) (v := do let x ← eval v X.env; standAt pos; pure x) (v0 := do let x ← eval d X.env; standAt pos; pure x) ?_
  have n0 := I.hok.fresh (Nat.le_refl s.heap.objs.size)
  generalize eL : s.heap.objs.size = L at n0
  have I0 : Inv X pins σ (upd H L (.dK [])) { s with heap := s.heap.push { cls := .type "dict", data := .dict #[] } } := by
    rw [← eL]
    exact I.laid (t' := s.toks) (fun _ _ z => Heap.get?_push_of_some _ z) (Nat.le_refl _) (dk_empty s.heap I.big)
  have c0 : cs.c ≠ some L := (hs.fresh n0).2
  have hρ0 : EnvR (cs.add L) (upd H L (.dK [])) σ ρ := (hρ.add n0).sub sub_hidden
  refine wpAny_bind (thn (run_of hd I0 hρ0 (hs.add n0 fun _ z => nomatch z) e1) fun u t1 ⟨x, H1, I1, rx, x1, k1, r1⟩ => wpAny_bind (wpAny_standAt (wpAny_pure ?_)))
  obtain ⟨a, kvs, ev, na, ha, ri⟩ : ∃ a kvs, x = .ref a ∧ (cs.add L).ok a ∧ Rd H1 a (.dK kvs) ∧ RepI (cs.add L) H1 kvs ks := by
    cases r1 with
    | dI n h r => exact ⟨_, _, rfl, n, h, r⟩
  subst ev
  obtain rfl : u = .ref a := rx
  have l1 := ri.length
  have hL1 : H1 L = some (.dK []) := x1 L _ c0 upd_same
  have ne : L ≠ a := fun z => na.1 (by rw [← z]; exact List.mem_cons_self)
  refine d_mergeK I1 hL1 ha ne (by rw [List.length_nil]; omega) fun t2 I2 => ?_
  rw [mergeK_new kvs [] (by rw [List.nil_append]; exact keysK I1 ha), List.nil_append] at I2
  -- the pair, made while the new dict and the small one stand hidden
  have k2 : SOk (cs.add L) s1 (upd H1 L (.dK kvs)) := k1.hidden c0 fun _ z => nomatch z
  have hρ2 : EnvR (cs.add L) (upd H1 L (.dK kvs)) σ ρ := (hρ0.mono x1).sub sub_hidden
  have ri2 : RepI (cs.add L) (upd H1 L (.dK kvs)) kvs ks := ri.sub sub_hidden
  have nS := I2.hok.fresh (Nat.le_refl t2.heap.objs.size)
  have hL2 : upd H1 L (.dK kvs) L = some (.dK kvs) := upd_same
  generalize hH2 : upd H1 L (.dK kvs) = H2 at *
  have I3 : Inv X pins σ (upd H2 t2.heap.objs.size (.dK [])) { t2 with heap := t2.heap.push { cls := .type "dict", data := .dict #[] } } := I2.laid (t' := t2.toks) (fun _ _ z => Heap.get?_push_of_some _ z) (Nat.le_refl _) (dk_empty t2.heap I2.big)
  have c3 : cs.c ≠ some t2.heap.objs.size := (k2.fresh nS).2
  have k3 : SOk ((cs.add L).add t2.heap.objs.size) s1 (upd H2 t2.heap.objs.size (.dK [])) := k2.add nS fun _ z => nomatch z
  have hρ3 : EnvR ((cs.add L).add t2.heap.objs.size) (upd H2 t2.heap.objs.size (.dK [])) σ ρ := (hρ2.add nS).sub sub_hidden
  have ri3 : RepI ((cs.add L).add t2.heap.objs.size) (upd H2 t2.heap.objs.size (.dK [])) kvs ks := (ri2.change (add_ok nS) fun _ h => h).sub sub_hidden
  refine wpAny_subDict (knd := mixKind X.prog X.w) (show 1 ≤ 15 by decide) ?_
  refine evalPairs_cons (thn (run_of hk I3 hρ3 k3 e2) fun u4 t4 ⟨x4, H4, I4, rx4, y4, k4, r4⟩ => ?_)
  refine wpAny_bind (thn (run_of hv I4 (hρ3.mono y4) k4 e3) fun u5 t5 ⟨x5, H5, I5, rx5, y5, k5, r5⟩ => wpAny_bind (wpAny_standAt (wpAny_pure (evalPairs_nil ?_))))
  have hS5 : H5 t2.heap.objs.size = some (.dK []) := y5 _ _ c3 (y4 _ _ c3 upd_same)
  have hL5 : H5 L = some (.dK kvs) := y5 _ _ c0 (y4 _ _ c0 (by rw [upd_ne (ne_of_none hL2 nS)]; exact hL2))
  have neS : L ≠ t2.heap.objs.size := ne_of_none hL2 nS
  cases r4
  obtain ⟨z5, hm5, vs5, rel5, dd5⟩ := dk_of I5.hok hS5
  cases rel5
  refine ⟨[(.inl i, u5)], ⟨kV_is rx4, rfl, trivial⟩, dd5, fun h' dd' sb => ?_⟩
  have he : ∃ q, h'.get? t2.heap.objs.size = some q := let ⟨q, _, _, hq, _⟩ := dd'; ⟨q, hq⟩
  have I6 : Inv X pins σ (upd H5 t2.heap.objs.size (.dK [(.inl i, x5)])) { t5 with heap := h', toks := t5.toks + [(u4, u5)].length } := d_write I5 (by rw [hS5]; exact True.intro) sb he (dk_new (show 1 ≤ sizeLine by decide) hm5 (.cons ⟨rfl, rx5⟩ .nil) dd')
  have hL6 : upd H5 t2.heap.objs.size (.dK [(.inl i, x5)]) L = some (.dK kvs) := by rw [upd_ne neS]; exact hL5
  refine d_mergeK I6 hL6 (.inl upd_same) neS (by rw [List.length_singleton]; omega) fun t7 I7 => ?_
  have sb5 : Sub ((cs.add L).add t2.heap.objs.size) H5 (upd (upd H5 t2.heap.objs.size (.dK [(.inl i, x5)])) L (.dK (putK kvs (.inl i) x5))) := (sub_bad List.mem_cons_self).trans (sub_bad (List.mem_cons_of_mem _ List.mem_cons_self))
  have sbA : Sub ((cs.add L).add t2.heap.objs.size) (upd H2 t2.heap.objs.size (.dK [])) H5 := y4.sub.trans y5.sub
  refine ⟨.ref L, _, I7, rfl, q _ _ (fun b o hb e => ?_) ?_ (.dI (hs.fresh n0) (.inl upd_same) ?_)⟩
  · have b1 : b ≠ L := fun z => by rw [z, n0] at e; cases e
    have g1 : H1 b = some o := x1 b o hb (by rw [upd_ne b1]; exact e)
    have g2 : H2 b = some o := by rw [← hH2, upd_ne b1]; exact g1
    have b2 : b ≠ t2.heap.objs.size := ne_of_none g2 nS
    rw [upd_ne b1, upd_ne b2]
    exact y5 b o hb (y4 b o hb (by rw [upd_ne b2]; exact g2))
  · exact ((k5.bad (o := .dK _) List.mem_cons_self c3 fun _ z => nomatch z).bad (o := .dK _) (List.mem_cons_of_mem _ List.mem_cons_self) c0 fun _ z => nomatch z).drop.drop
  · exact (((ri3.sub (sbA.trans sb5)).put i (r5.sub sb5)).drop').drop'
theorem upd_P (hu : X.A.units + 150 < cLine) (hd : PD X d fd) (hk : PD X k fk) (hv : PD X v fv) {pins : List (Addr × Obj)} {s : Shared} {σ : L2.St} {H : Hp} {cs : Gh} {ρ : Env} {s0 s1 s2 s3 : D} {Q : VK} (I : Inv X pins σ H s) (hρ : EnvR cs H σ ρ) (hs : SOk cs s0 H)
    {ks : List ((Int × Int) × D)} {i j : Int} {dv : D} (e1 : fd ρ s0 = some (.dP ks, s1)) (e2 : fk ρ s1 = some (.tup [.int i, .int j], s2)) (e3 : fv ρ s2 = some (dv, s3)) (hl : ks.length < lim) (hb : box ks = true)
    (q : ∀ v H', Ext cs H H' → SOk cs s3 H' → Rep cs H' v (.dP (putP ks (i, j) dv)) → Q v H') : wpAny (model X.prog X.w) X.A (eval (.Dict [none, some k] [d, v] pos) X.env) (EP X pins σ Q) X.xe s := by
  rw [arm_eval_Dict]
  refine wpAny_bind (wpAny_standAt ?_)
  refine disp_upd (k := eval k X.env) (v := do let x ← eval v X.env; standAt pos; pure x) (v0 := do let x ← eval d X.env; standAt pos; pure x) ?_
  have n0 := I.hok.fresh (Nat.le_refl s.heap.objs.size)
  generalize eL : s.heap.objs.size = L at n0
  have I0 : Inv X pins σ (upd H L (.dT [])) { s with heap := s.heap.push { cls := .type "dict", data := .dict #[] } } := by
    rw [← eL]
    exact I.laid (t' := s.toks) (fun _ _ z => Heap.get?_push_of_some _ z) (Nat.le_refl _) (dt_empty s.heap I.big)
  have c0 : cs.c ≠ some L := (hs.fresh n0).2
  have hρ0 : EnvR (cs.add L) (upd H L (.dT [])) σ ρ := (hρ.add n0).sub sub_hidden
  refine wpAny_bind (thn (run_of hd I0 hρ0 (hs.add n0 fun _ z => nomatch z) e1) fun u t1 ⟨x, H1, I1, rx, x1, k1, r1⟩ => wpAny_bind (wpAny_standAt (wpAny_pure ?_)))
  obtain ⟨a, kvs, ev, na, ha, ri⟩ : ∃ a kvs, x = .ref a ∧ (cs.add L).ok a ∧ Rd H1 a (.dT kvs) ∧ RepP (cs.add L) H1 kvs ks := by
    cases r1 with
    | dP n h r => exact ⟨_, _, rfl, n, h, r⟩
  subst ev
  obtain rfl : u = .ref a := rx
  have l1 := ri.length
  have hL1 : H1 L = some (.dT []) := x1 L _ c0 upd_same
  have ne : L ≠ a := fun z => na.1 (by rw [← z]; exact List.mem_cons_self)
  refine d_mergeT (by omega) I1 hL1 ha ne (by rw [List.length_nil]; omega) (.inr (box_hash ri hb (keysT I1 ha))) fun t2 I2 => ?_
  rw [mergeT_new kvs [] (by rw [List.nil_append]; exact keysT I1 ha), List.nil_append] at I2
  -- the pair, made while the new dict and the small one stand hidden
  have k2 : SOk (cs.add L) s1 (upd H1 L (.dT kvs)) := k1.hidden c0 fun _ z => nomatch z
  have hρ2 : EnvR (cs.add L) (upd H1 L (.dT kvs)) σ ρ := (hρ0.mono x1).sub sub_hidden
  have ri2 : RepP (cs.add L) (upd H1 L (.dT kvs)) kvs ks := ri.sub sub_hidden
  have nS := I2.hok.fresh (Nat.le_refl t2.heap.objs.size)
  have hL2 : upd H1 L (.dT kvs) L = some (.dT kvs) := upd_same
  generalize hH2 : upd H1 L (.dT kvs) = H2 at *
  have I3 : Inv X pins σ (upd H2 t2.heap.objs.size (.dT [])) { t2 with heap := t2.heap.push { cls := .type "dict", data := .dict #[] } } := I2.laid (t' := t2.toks) (fun _ _ z => Heap.get?_push_of_some _ z) (Nat.le_refl _) (dt_empty t2.heap I2.big)
  have c3 : cs.c ≠ some t2.heap.objs.size := (k2.fresh nS).2
  have k3 : SOk ((cs.add L).add t2.heap.objs.size) s1 (upd H2 t2.heap.objs.size (.dT [])) := k2.add nS fun _ z => nomatch z
  have hρ3 : EnvR ((cs.add L).add t2.heap.objs.size) (upd H2 t2.heap.objs.size (.dT [])) σ ρ := (hρ2.add nS).sub sub_hidden
  have ri3 : RepP ((cs.add L).add t2.heap.objs.size) (upd H2 t2.heap.objs.size (.dT [])) kvs ks := (ri2.change (add_ok nS) fun _ h => h).sub sub_hidden
  refine wpAny_subDictH (knd := tupleKind (mixKind X.prog X.w)) (show X.A.units < cLine by omega) (show 1 ≤ 15 by decide) ?_
  refine evalPairs_cons (thn (run_of hk I3 hρ3 k3 e2) fun u4 t4 ⟨x4, H4, I4, rx4, y4, k4, r4⟩ => ?_)
  refine wpAny_bind (thn (run_of hv I4 (hρ3.mono y4) k4 e3) fun u5 t5 ⟨x5, H5, I5, rx5, y5, k5, r5⟩ => wpAny_bind (wpAny_standAt (wpAny_pure (evalPairs_nil ?_))))
  have hS5 : H5 t2.heap.objs.size = some (.dT []) := y5 _ _ c3 (y4 _ _ c3 upd_same)
  have hL5 : H5 L = some (.dT kvs) := y5 _ _ c0 (y4 _ _ c0 (by rw [upd_ne (ne_of_none hL2 nS)]; exact hL2))
  have neS : L ≠ t2.heap.objs.size := ne_of_none hL2 nS
  obtain ⟨p4, ep4, hp4⟩ : ∃ p, x4 = .ref p ∧ H4 p = some (.tup (([.inl i, .inl j] : List Key).map kV)) := by
    cases r4 with
    | tup n h r =>
      cases r with
      | cons r1 r =>
        cases r with
        | cons r2 r => cases r; cases r1; cases r2; exact ⟨_, rfl, h⟩
  subst ep4
  obtain rfl : u4 = .ref p4 := rx4
  have hp5 : H5 p4 = some (.tup (([.inl i, .inl j] : List Key).map kV)) := y5 _ _ (k4.tup hp4).2 hp4
  obtain ⟨z5, hm5, xs5, rel5, dd5⟩ := dt_of I5.hok hS5
  cases rel5
  refine ⟨[([.inl i, .inl j], p4, u5)], ⟨rfl, rfl, key_of I5.hok hp5, trivial⟩, dd5, fun h' tk dd' sb => ?_⟩
  obtain ⟨q6, es6, ep6, hq6, g2, g3, g4, _, g5⟩ := dd'
  have nep : p4 ≠ t2.heap.objs.size := ne_of hp5 hS5 fun z => nomatch z
  have I6 : Inv X pins σ (upd H5 t2.heap.objs.size (.dT [([.inl i, .inl j], x5)])) { t5 with heap := h', toks := tk } :=
    d_write I5 (by rw [hS5]; exact True.intro) sb ⟨q6, hq6⟩ ⟨show 1 ≤ sizeLine by decide, hm5, _, .cons ⟨rfl, by show upd H5 _ _ p4 = _; rw [upd_ne nep]; exact hp5, rx5⟩ .nil, q6, es6, ep6, hq6, g2, g3, g4, g5⟩
  have hL6 : upd H5 t2.heap.objs.size (.dT [([.inl i, .inl j], x5)]) L = some (.dT kvs) := by rw [upd_ne neS]; exact hL5
  refine d_mergeT (by omega) I6 hL6 (.inl upd_same) neS (by rw [List.length_singleton]; omega) (.inr (List.nodup_cons.mpr ⟨(fun z => nomatch z), List.nodup_nil⟩)) fun t7 I7 => ?_
  have sb5 : Sub ((cs.add L).add t2.heap.objs.size) H5 (upd (upd H5 t2.heap.objs.size (.dT [([.inl i, .inl j], x5)])) L (.dT (putK kvs [.inl i, .inl j] x5))) := (sub_bad List.mem_cons_self).trans (sub_bad (List.mem_cons_of_mem _ List.mem_cons_self))
  have sbA : Sub ((cs.add L).add t2.heap.objs.size) (upd H2 t2.heap.objs.size (.dT [])) H5 := y4.sub.trans y5.sub
  refine ⟨.ref L, _, I7, rfl, q _ _ (fun b o hb e => ?_) ?_ (.dP (hs.fresh n0) (.inl upd_same) ?_)⟩
  · have b1 : b ≠ L := fun z => by rw [z, n0] at e; cases e
    have g1 : H1 b = some o := x1 b o hb (by rw [upd_ne b1]; exact e)
    have g2 : H2 b = some o := by rw [← hH2, upd_ne b1]; exact g1
    have b2 : b ≠ t2.heap.objs.size := ne_of_none g2 nS
    rw [upd_ne b1, upd_ne b2]
    exact y5 b o hb (y4 b o hb (by rw [upd_ne b2]; exact g2))
  · exact ((k5.bad (o := .dT _) List.mem_cons_self c3 fun _ z => nomatch z).bad (o := .dT _) (List.mem_cons_of_mem _ List.mem_cons_self) c0 fun _ z => nomatch z).drop.drop
  · exact (((ri3.sub (sbA.trans sb5)).put i j (r5.sub sb5)).drop').drop'
theorem pd_upd (hu : X.A.units + 150 < cLine) (hd : PD X d fd) (hk : PD X k fk) (hv : PD X v fv) : PD X (.Dict [none, some k] [d, v] pos) (eUpd fd fk fv) := by
  refine ⟨tOf (eUpd fd fk fv), ⟨fun pins s σ H Q I ⟨cs, ρ, s0, d', s', hρ, hs, hf, q⟩ => ?_⟩, tOf_good⟩
  obtain ⟨x1, s1, e1, hf⟩ := bnd_inv hf
  obtain ⟨x2, s2, e2, hf⟩ := bnd_inv hf
  obtain ⟨x3, s3, e3, hf⟩ := bnd_inv hf
  split at hf
  · split at hf
    · rename_i hl
      cases hf
      exact upd_I hu hd hk hv I hρ hs e1 e2 e3 hl q
    · cases hf
  · split at hf
    · rename_i hl
      cases hf
      exact upd_P hu hd hk hv I hρ hs e1 e2 e3 hl.1 hl.2 q
    · cases hf
  · cases hf
end
end Pg
set_option Elab.async false
set_option linter.all false
set_option maxRecDepth 100000
set_option maxHeartbeats 1000000
/-! Pages, part M: {**d, **e}, {k: v}, {}; len of a dict. -/
namespace Pg
open PySem PySem.Spec PyProof.Rows L2
section
variable {X : Cx} {d e k v : Expr} {fd fe fk fv : E} {pos : Pos}
/-- {**d, **e}, pairs as keys -/
def eBoth (fd fe : E) : E := fun ρ s => bnd (fd ρ s) fun d s1 => bnd (fe ρ s1) fun e s2 => match d, e with
  | .dP ks, .dP js => if ks.length + js.length ≤ lim ∧ box ks = true ∧ box js = true then some (.dP (js.foldl (fun acc e => putP acc e.1 e.2) ks), s2) else none
  | _, _ => none
theorem pd_both (hu : X.A.units + 150 < cLine) (hd : PD X d fd) (he : PD X e fe) : PD X (.Dict [none, none] [d, e] pos) (eBoth fd fe) := by
  refine ⟨tOf (eBoth fd fe), ⟨fun pins s σ H Q I ⟨cs, ρ, s0, d', s', hρ, hs, hf, q⟩ => ?_⟩, tOf_good⟩
  obtain ⟨y1, s1, e1, hf1⟩ := bnd_inv hf
  clear hf
  obtain ⟨y2, s2, e2, hf⟩ := bnd_inv hf1
  clear hf1
  split at hf
  · rename_i ks js
    split at hf
    · rename_i hl
      obtain ⟨hl, hb1, hb2⟩ := hl
      cases hf
      rw [arm_eval_Dict]
      refine wpAny_bind (wpAny_standAt ?_)
      refine disp_both (v := do let x ← eval e X.env; standAt pos; pure x) (v0 := do let x ← eval d X.env; standAt pos; pure x) ?_
      have n0 := I.hok.fresh (Nat.le_refl s.heap.objs.size)
      generalize eL : s.heap.objs.size = L at n0
      have I0 : Inv X pins σ (upd H L (.dT [])) { s with heap := s.heap.push { cls := .type "dict", data := .dict #[] } } := by
        rw [← eL]
        exact I.laid (t' := s.toks) (fun _ _ z => Heap.get?_push_of_some _ z) (Nat.le_refl _) (dt_empty s.heap I.big)
      have c0 : cs.c ≠ some L := (hs.fresh n0).2
      have hρ0 : EnvR (cs.add L) (upd H L (.dT [])) σ ρ := (hρ.add n0).sub sub_hidden
      refine wpAny_bind (thn (run_of hd I0 hρ0 (hs.add n0 fun _ z => nomatch z) e1) fun u t1 ⟨x, H1, I1, rx, x1, k1, r1⟩ => wpAny_bind (wpAny_standAt (wpAny_pure ?_)))
      obtain ⟨a, kvs, ev, na, ha, ri⟩ : ∃ a kvs, x = .ref a ∧ (cs.add L).ok a ∧ Rd H1 a (.dT kvs) ∧ RepP (cs.add L) H1 kvs ks := by
        cases r1 with
        | dP n h r => exact ⟨_, _, rfl, n, h, r⟩
      subst ev
      obtain rfl : u = .ref a := rx
      have l1 := ri.length
      have hL1 : H1 L = some (.dT []) := x1 L _ c0 upd_same
      have ne : L ≠ a := fun z => na.1 (by rw [← z]; exact List.mem_cons_self)
      refine d_mergeT (by omega) I1 hL1 ha ne (by rw [List.length_nil]; omega) (.inr (box_hash ri hb1 (keysT I1 ha))) fun t2 I2 => ?_
      rw [mergeT_new kvs [] (by rw [List.nil_append]; exact keysT I1 ha), List.nil_append] at I2
      have k2 : SOk (cs.add L) s1 (upd H1 L (.dT kvs)) := k1.hidden c0 fun _ z => nomatch z
      have hρ2 : EnvR (cs.add L) (upd H1 L (.dT kvs)) σ ρ := (hρ0.mono x1).sub sub_hidden
      have ri2 : RepP (cs.add L) (upd H1 L (.dT kvs)) kvs ks := ri.sub sub_hidden
      refine wpAny_bind (thn (run_of he I2 hρ2 k2 e2) fun u4 t4 ⟨x4, H4, I4, rx4, y4, k4, r4⟩ => wpAny_bind (wpAny_standAt (wpAny_pure ?_)))
      obtain ⟨a4, ms, ev4, na4, ha4, ri4⟩ : ∃ a kvs, x4 = .ref a ∧ (cs.add L).ok a ∧ Rd H4 a (.dT kvs) ∧ RepP (cs.add L) H4 kvs js := by
        cases r4 with
        | dP n h r => exact ⟨_, _, rfl, n, h, r⟩
      subst ev4
      obtain rfl : u4 = .ref a4 := rx4
      have l4 := ri4.length
      have hL4 : H4 L = some (.dT kvs) := y4 L _ c0 upd_same
      have ne4 : L ≠ a4 := fun z => na4.1 (by rw [← z]; exact List.mem_cons_self)
      refine d_mergeT (by omega) I4 hL4 ha4 ne4 (by omega) (.inr (box_hash ri4 hb2 (keysT I4 ha4))) fun t5 I5 => ?_
      have sb5 : Sub (cs.add L) H4 (upd H4 L (.dT (mergeT kvs ms))) := sub_bad List.mem_cons_self
      refine ⟨.ref L, _, I5, rfl, q _ _ (fun b o hb e => ?_) (k4.bad (o := .dT _) List.mem_cons_self c0 fun _ z => nomatch z).drop (.dP (hs.fresh n0) (.inl upd_same) ?_)⟩
      · have b1 : b ≠ L := fun z => by rw [z, n0] at e; cases e
        have g1 : H1 b = some o := x1 b o hb (by rw [upd_ne b1]; exact e)
        rw [upd_ne b1]
        exact y4 b o hb (by rw [upd_ne b1]; exact g1)
      · exact (((ri4.sub sb5).merge (ri2.sub (y4.sub.trans sb5)))).drop'
    · cases hf
  · cases hf
/-- {k: v} -/
def eOne (fk fv : E) : E := fun ρ s => bnd (fk ρ s) fun k s1 => bnd (fv ρ s1) fun v s2 => match k with
  | .int i => some (.dI [(i, v)], s2)
  | .tup [.int a, .int b] => some (.dP [((a, b), v)], s2)
  | _ => none
theorem pd_one1 (hu : X.A.units + 150 < cLine) (hk : PD X k fk) (hv : PD X v fv) : PD X (.Dict [some k] [v] pos) (eOne fk fv) := by
  refine ⟨tOf (eOne fk fv), ⟨fun pins s σ H Q I ⟨cs, ρ, s0, d', s', hρ, hs, hf, q⟩ => ?_⟩, tOf_good⟩
  obtain ⟨y1, s1, e1, hf1⟩ := bnd_inv hf
  clear hf
  obtain ⟨y2, s2, e2, hf⟩ := bnd_inv hf1
  clear hf1
  have n0 := I.hok.fresh (Nat.le_refl s.heap.objs.size)
  have c0 : cs.c ≠ some s.heap.objs.size := (hs.fresh n0).2
  split at hf
  · rename_i i
    cases hf
    have I0 : Inv X pins σ (upd H s.heap.objs.size (.dK [])) { s with heap := s.heap.push { cls := .type "dict", data := .dict #[] } } :=
      I.laid (t' := s.toks) (fun _ _ z => Heap.get?_push_of_some _ z) (Nat.le_refl _) (dk_empty s.heap I.big)
    have hρ0 : EnvR (cs.add s.heap.objs.size) (upd H s.heap.objs.size (.dK [])) σ ρ := (hρ.add n0).sub sub_hidden
    refine wpAny_Dict_pairs (knd := mixKind X.prog X.w) (pairs := [(eval k X.env, do let x ← eval v X.env; standAt pos; pure x)]) rfl (by simp) (show 1 ≤ 15 by decide) ?_
    refine evalPairs_cons (thn (run_of hk I0 hρ0 (hs.add n0 fun _ z => nomatch z) e1) fun u4 t4 ⟨x4, H4, I4, rx4, y4, k4, r4⟩ => ?_)
    refine wpAny_bind (thn (run_of hv I4 (hρ0.mono y4) k4 e2) fun u5 t5 ⟨x5, H5, I5, rx5, y5, k5, r5⟩ => wpAny_bind (wpAny_standAt (wpAny_pure (evalPairs_nil ?_))))
    have hS5 : H5 s.heap.objs.size = some (.dK []) := y5 _ _ c0 (y4 _ _ c0 upd_same)
    cases r4
    obtain ⟨z5, hm5, vs5, rel5, dd5⟩ := dk_of I5.hok hS5
    cases rel5
    refine ⟨[(.inl i, u5)], ⟨kV_is rx4, rfl, trivial⟩, dd5, fun h' dd' sb => ?_⟩
    have he : ∃ q, h'.get? s.heap.objs.size = some q := let ⟨q, _, _, hq, _⟩ := dd'; ⟨q, hq⟩
    have I6 : Inv X pins σ (upd H5 s.heap.objs.size (.dK [(.inl i, x5)])) { t5 with heap := h', toks := t5.toks + [(u4, u5)].length } := d_write I5 (by rw [hS5]; exact True.intro) sb he (dk_new (show 1 ≤ sizeLine by decide) hm5 (.cons ⟨rfl, rx5⟩ .nil) dd')
    have sb5 : Sub (cs.add s.heap.objs.size) H5 (upd H5 s.heap.objs.size (.dK [(.inl i, x5)])) := sub_bad List.mem_cons_self
    refine ⟨.ref s.heap.objs.size, _, I6, rfl, q _ _ (fun b o hb e => ?_) (k5.bad (o := .dK _) List.mem_cons_self c0 fun _ z => nomatch z).drop (.dI (hs.fresh n0) (.inl upd_same) ?_)⟩
    · have b1 : b ≠ s.heap.objs.size := ne_of_none e n0
      rw [upd_ne b1]
      exact y5 b o hb (y4 b o hb (by rw [upd_ne b1]; exact e))
    · exact (RepI.cons (r5.sub sb5) .nil).drop'
  · rename_i i j
    cases hf
    have I0 : Inv X pins σ (upd H s.heap.objs.size (.dT [])) { s with heap := s.heap.push { cls := .type "dict", data := .dict #[] } } :=
      I.laid (t' := s.toks) (fun _ _ z => Heap.get?_push_of_some _ z) (Nat.le_refl _) (dt_empty s.heap I.big)
    have hρ0 : EnvR (cs.add s.heap.objs.size) (upd H s.heap.objs.size (.dT [])) σ ρ := (hρ.add n0).sub sub_hidden
    have hz : (evalEachOpt [some k] X.env).zip ((evalEach [v] X.env).map fun v => do let x ← v; standAt pos; pure x) = [(eval k X.env, do let x ← eval v X.env; standAt pos; pure x)].map fun p => (some p.1, p.2) := rfl
    rw [arm_eval_Dict, hz, dictDisplay_pairs _ (by simp) (by simp)]
    refine wpAny_bind (wpAny_standAt (wpAny_bind ?_))
    refine wpAny_subDictH (knd := tupleKind (mixKind X.prog X.w)) (show X.A.units < cLine by omega) (show 1 ≤ 15 by decide) ?_
    refine evalPairs_cons (thn (run_of hk I0 hρ0 (hs.add n0 fun _ z => nomatch z) e1) fun u4 t4 ⟨x4, H4, I4, rx4, y4, k4, r4⟩ => ?_)
    refine wpAny_bind (thn (run_of hv I4 (hρ0.mono y4) k4 e2) fun u5 t5 ⟨x5, H5, I5, rx5, y5, k5, r5⟩ => wpAny_bind (wpAny_standAt (wpAny_pure (evalPairs_nil ?_))))
    have hS5 : H5 s.heap.objs.size = some (.dT []) := y5 _ _ c0 (y4 _ _ c0 upd_same)
    obtain ⟨p4, ep4, hp4⟩ : ∃ p, x4 = .ref p ∧ H4 p = some (.tup (([.inl i, .inl j] : List Key).map kV)) := by
      cases r4 with
      | tup n h r =>
        cases r with
        | cons r1 r =>
          cases r with
          | cons r2 r => cases r; cases r1; cases r2; exact ⟨_, rfl, h⟩
    subst ep4
    obtain rfl : u4 = .ref p4 := rx4
    have hp5 : H5 p4 = some (.tup (([.inl i, .inl j] : List Key).map kV)) := y5 _ _ (k4.tup hp4).2 hp4
    obtain ⟨z5, hm5, xs5, rel5, dd5⟩ := dt_of I5.hok hS5
    cases rel5
    refine ⟨[([.inl i, .inl j], p4, u5)], ⟨rfl, rfl, key_of I5.hok hp5, trivial⟩, dd5, fun h' tk dd' sb => wpAny_pure ?_⟩
    obtain ⟨q6, es6, ep6, hq6, g2, g3, g4, _, g5⟩ := dd'
    have nep : p4 ≠ s.heap.objs.size := ne_of hp5 hS5 fun z => nomatch z
    have I6 : Inv X pins σ (upd H5 s.heap.objs.size (.dT [([.inl i, .inl j], x5)])) { t5 with heap := h', toks := tk } :=
      d_write I5 (by rw [hS5]; exact True.intro) sb ⟨q6, hq6⟩ ⟨show 1 ≤ sizeLine by decide, hm5, _, .cons ⟨rfl, by show upd H5 _ _ p4 = _; rw [upd_ne nep]; exact hp5, rx5⟩ .nil, q6, es6, ep6, hq6, g2, g3, g4, g5⟩
    have sb5 : Sub (cs.add s.heap.objs.size) H5 (upd H5 s.heap.objs.size (.dT [([.inl i, .inl j], x5)])) := sub_bad List.mem_cons_self
    refine ⟨.ref s.heap.objs.size, _, I6, rfl, q _ _ (fun b o hb e => ?_) (k5.bad (o := .dT _) List.mem_cons_self c0 fun _ z => nomatch z).drop (.dP (hs.fresh n0) (.inl upd_same) ?_)⟩
    · have b1 : b ≠ s.heap.objs.size := ne_of_none e n0
      rw [upd_ne b1]
      exact y5 b o hb (y4 b o hb (by rw [upd_ne b1]; exact e))
    · exact (RepP.cons (r5.sub sb5) .nil).drop'
  · cases hf
/-- {}, to have pairs as keys -/
def eNoP : E := fun _ s => some (.dP [], s)
theorem pd_noP : PD X (.Dict [] [] pos) eNoP := ⟨_, pe_dnewT, fun cs σ H ρ s d s' Q hρ hs hf k => by
  cases hf
  exact fun p hp => k _ _ (.new hp) (hs.new hp) (.dP (hs.fresh hp) (.inl upd_same) .nil)⟩

/-! ### len -/
def rLen2 : RLD := fun _ xs => match xs with
  | [.tup ds] => some (.int ds.length)
  | [.lst ds] => some (.int ds.length)
  | [.dP ks] => some (.int ks.length)
  | _ => none
def rLenR : List V → Hp → VK → Prop := fun xs H Q => ∃ (p : Addr) (kvs : List (List Key × V)), xs = [.ref p] ∧ Rd H p (.dT kvs) ∧ Q (.int ((kvs.length : Nat) : Int)) H
theorem call_lenR : CallR X (.builtin "len") rLenR := by
  intro pins s σ H xs us Q I r h
  obtain ⟨p, kvs, rfl, hp, q⟩ := h
  obtain ⟨u, rfl, rx⟩ := vals1 r
  obtain rfl : u = .ref p := rx
  obtain ⟨z, hd, ys, rel, dd⟩ := dt_rd I.hok hp
  have hl : kvs.length = ys.length := Paired.length rel
  have hfit : (ys.length : Int) < 2 ^ 63 := by rw [sizeLine_eq] at z; omega
  refine call_len_dictH hd dd hfit ?_
  exact ⟨.int ((kvs.length : Nat) : Int), H, I.tok _, ⟨_, by rw [hl]⟩, q⟩
theorem callR_or {f : Value} {r r' : List V → Hp → VK → Prop} (h : CallR X f r) (h' : CallR X f r') : CallR X f (fun xs H Q => r xs H Q ∨ r' xs H Q) := by
  intro pins s σ H xs us Q I rel q
  exact q.elim (h pins s σ H xs us Q I rel) (h' pins s σ H xs us Q I rel)
theorem cd_len2 : CallD X (.builtin "len") rLen2 := by
  refine ⟨_, callR_or call_len_seq call_lenR, fun cs H s d xs us Q hs r hr k => ?_⟩
  unfold rLen2 at hr
  split at hr
  · cases hr
    cases r with
    | cons r t =>
      cases t
      cases r with
      | tup n h r => exact .inl ⟨_, _, rfl, .inr (SqT.of h), by rw [r.length]; exact k _ H .refl hs (.int _)⟩
  · cases hr
    cases r with
    | cons r t =>
      cases t
      cases r with
      | lst n h r => exact .inl ⟨_, _, rfl, .inl (SqL.of h), by rw [r.length]; exact k _ H .refl hs (.int _)⟩
  · cases hr
    cases r with
    | cons r t =>
      cases t
      cases r with
      | dP n h r => exact .inr ⟨_, _, rfl, h, by rw [r.length]; exact k _ H .refl hs (.int _)⟩
  · cases hr
end
end Pg
set_option Elab.async false
set_option linter.all false
set_option maxRecDepth 100000
set_option maxHeartbeats 1000000
/-! Pages, part N: dict(a list of pairs), the keys pairs of ints. -/
namespace Pg
open PySem PySem.Spec PyProof.Rows L2

/-- what dict() is given: each item a tuple (a tuple of ints and texts, any value) -/
abbrev Prs (H : Hp) : List Addr → List (List Key × Addr × V) → Prop := Paired fun t p => H t = some (.tup [.ref p.2.1, p.2.2]) ∧ H p.2.1 = some (.tup (p.1.map kV))
def rDictV : List V → Hp → VK → Prop := fun us H Q => ∃ (a : Addr) (ts : List Addr) (kvs : List (List Key × Addr × V)), us = [.ref a] ∧ H a = some (.lst (ts.map V.ref)) ∧ Prs H ts kvs ∧
  ∀ p, H p = none → Q (.ref p) (upd H p (.dT (mergeT [] (kvs.map fun x => (x.1, x.2.2)))))
section
variable {X : Cx}
theorem prs_of {pins : List (Addr × Obj)} {σ : L2.St} {H : Hp} {s : Shared} (I : Inv X pins σ H s) : ∀ {ts : List Addr} {kvs : List (List Key × Addr × V)}, Prs H ts kvs →
    ∃ xs : List (List Key × Addr × Value), KT H (kvs.map fun x => (x.1, x.2.2)) xs ∧ xs.length = ts.length ∧ (∀ x ∈ xs, H x.2.1 = some (.tup (x.1.map kV))) ∧
      ∀ (j : Nat) (x : List Key × Addr × Value), xs[j]? = some x → ∃ t, ts[j]? = some t ∧ IsTup s.heap t #[.ref x.2.1, x.2.2]
  | _, _, .nil => ⟨[], .nil, rfl, (fun _ z => nomatch z), fun j q e => by simp at e⟩
  | _, _, .cons (a := t) (b := p) h r => by
    obtain ⟨xs, k, hl, hk, hx⟩ := prs_of I r
    obtain ⟨its, rv, ht, _⟩ := I.tuple (SqT.of (K := X.K) h.1)
    obtain ⟨u, y, ei, ru, ry⟩ := vals2 rv
    subst ei
    obtain rfl : u = .ref p.2.1 := ru
    refine ⟨(p.1, p.2.1, y) :: xs, .cons ⟨rfl, h.2, ry⟩ k, by rw [List.length_cons, List.length_cons, hl], fun x hm => ?_, fun j x e => ?_⟩
    · rcases List.mem_cons.mp hm with rfl | hm
      · exact h.2
      · exact hk x hm
    · cases j with
      | zero =>
        obtain rfl : (p.1, p.2.1, y) = x := Option.some.inj e
        exact ⟨t, rfl, ht⟩
      | succ j =>
        obtain ⟨t', e1, e2⟩ := hx j x (by simpa using e)
        exact ⟨t', by simpa using e1, e2⟩
theorem call_dictV (hu : X.A.units + 150 < cLine) (hcalm : X.calm = true) : CallR X (.type "dict") rDictV := by
  intro pins s σ H us vs Q I r q
  obtain ⟨a, ts, kvs, rfl, ha, hp, q⟩ := q
  obtain ⟨u, rfl, rx⟩ := vals1 r
  obtain rfl : u = .ref a := rx
  obtain ⟨its, rv, pl, hz⟩ := I.list (SqL.of (K := X.K) ha)
  have ei := refs_at rv
  subst ei
  rw [List.length_map] at hz
  obtain ⟨xs, kt, hl, hk, hx⟩ := prs_of I hp
  obtain ⟨o, n, ho, hc, hd, hdat⟩ := pl
  have P := PairArg.list (prog := X.prog) (w := X.w) a (ts.map Value.ref).toArray (fun j => (ts[j]?).getD 0) (xs.map fun x => (Value.ref x.2.1, x.2.2))
  rw [List.length_map] at P
  have hroom : X.A.in1.units + 1 < cLine := by
    have : X.A.in1.units ≤ X.A.units + 1 := by unfold Around.in1; simp
    omega
  refine call_dict_pairsH (knd := tupleKind (mixKind X.prog X.w)) (ps := xs) P (I.ok.hd hcalm) (tupleKind_room_in1 (show X.A.in1.units + 1 < cLine from hroom)) ⟨⟨o, n, ho, hc, hd, hdat⟩, ?_, ?_⟩ ⟨rfl, ?_⟩ ?_ (by rw [hl]; exact hz) fun h' tk hd' hk' => ?_
  · simp [hl]
  · intro j k v e
    rw [List.getElem?_map] at e
    obtain ⟨x, ex, e2⟩ := Option.map_eq_some_iff.mp e
    cases e2
    obtain ⟨t, e3, e4⟩ := hx j x ex
    exact ⟨by simp [e3], .inl (by show IsTup s.heap ((ts[j]?).getD 0) _; rw [e3]; exact e4)⟩
  · intro i key v e
    have e' : (xs.map fun x => (Value.ref x.2.1, x.2.2))[i]? = some (key, v) := e
    rw [List.getElem?_map] at e'
    obtain ⟨x, ex, e2⟩ := Option.map_eq_some_iff.mp e'
    cases e2
    exact ⟨x.1, x.2.1, ex, rfl⟩
  · intro h' kk x hm
    obtain ⟨o2, items, n2, g1, g2⟩ := key_of I.hok (hk x hm)
    exact ⟨o2, items, n2, kk _ _ (Nat.ne_of_lt (Heap.lt_size g1)) (fun z => nomatch z) g1, g2⟩
  · obtain ⟨q6, es6, ep6, hq6, g2, g3, g4, _, g5⟩ := hd'
    have hm : (s.heap.objs.size == sysModules) = false := beq_eq_false_iff_ne.mpr (Nat.ne_of_gt I.big)
    have n0 := I.hok.fresh (Nat.le_refl s.heap.objs.size)
    have hz2 : (mergeT [] (kvs.map fun x => (x.1, x.2.2))).length ≤ sizeLine := by
      refine Nat.le_trans (length_mergeT _ []) ?_
      rw [List.length_nil, Nat.zero_add, Paired.length kt, hl]
      exact hz
    have kt2 : KT (upd H s.heap.objs.size (.dT (mergeT [] (kvs.map fun x => (x.1, x.2.2))))) (mergeT [] (kvs.map fun x => (x.1, x.2.2))) (storedAllH [] xs) := (KT.merge kt .nil).keeps fun c ys ec => by
      rw [upd_ne (ne_of_none ec n0)]
      exact ec
    exact ⟨.ref s.heap.objs.size, _, I.laid (t' := tk) (o := .dT (mergeT [] (kvs.map fun x => (x.1, x.2.2)))) (fun b o e => hk' b o (fun z => nomatch z) e) (Nat.le_refl _) ⟨hz2, hm, _, kt2, q6, es6, ep6, hq6, g2, g3, g4, g5⟩, rfl, q _ n0⟩
/-- the pairs of a list of data -/
def prs? : List D → Option (List ((Int × Int) × D))
  | [] => some []
  | .tup [.tup [.int a, .int b], v] :: r => (prs? r).map (((a, b), v) :: ·)
  | _ => none
theorem prs?_run {cs : Gh} {H : Hp} : ∀ {ds : List D} {vs : List V} {ps : List ((Int × Int) × D)}, Reps cs H vs ds → prs? ds = some ps →
    ∃ ts kvs, vs = ts.map V.ref ∧ Prs H ts kvs ∧ RepP cs H (kvs.map fun x => (x.1, x.2.2)) ps
  | [], _, _, r, e => by
    cases r
    cases e
    exact ⟨[], [], rfl, .nil, .nil⟩
  | d :: ds, _, ps, r, e => by
    unfold prs? at e
    split at e
    · rename_i h
      cases h
    · rename_i a b v r' h
      cases h
      obtain ⟨qs, eq, rfl⟩ := map_inv e
      cases r with
      | cons r1 r2 =>
        obtain ⟨ts, kvs, rfl, h1, h2⟩ := prs?_run r2 eq
        cases r1 with
        | @tup t _ _ n1 ht r1 =>
          cases r1 with
          | @cons w _ _ _ rk r1 =>
            cases r1 with
            | @cons x _ _ _ rv r1 =>
              cases r1
              cases rk with
              | @tup p _ _ n2 hp rk =>
                cases rk with
                | cons ra rk =>
                  cases rk with
                  | cons rb rk =>
                    cases rk; cases ra; cases rb
                    exact ⟨t :: ts, ([.inl a, .inl b], p, x) :: kvs, rfl, .cons ⟨ht, hp⟩ h1, .cons rv h2⟩
    · cases e
def rDict : RLD := fun _ xs => match xs with
  | [.lst ds] => (prs? ds).map fun ps => .dP (ps.foldl (fun acc e => putP acc e.1 e.2) [])
  | _ => none
theorem cd_dict (hu : X.A.units + 150 < cLine) (hc : X.calm = true) : CallD X (.type "dict") rDict := by
  refine ⟨_, call_dictV hu hc, fun cs H s d xs us Q hs r hr k => ?_⟩
  unfold rDict at hr
  split at hr
  · obtain ⟨ps, e, rfl⟩ := map_inv hr
    cases r with
    | cons r t =>
      cases t
      cases r with
      | lst n h r =>
        obtain ⟨ts, kvs, rfl, h1, h2⟩ := prs?_run r e
        refine ⟨_, ts, kvs, rfl, h, h1, fun p hp => ?_⟩
        exact k _ _ (.new hp) (hs.new hp) (.dP (hs.fresh hp) (.inl upd_same) ((h2.mono (.new hp)).merge .nil))
  · cases hr
end
end Pg
set_option Elab.async false
set_option linter.all false
set_option maxRecDepth 100000
set_option maxHeartbeats 1000000
/-! Pages, part O: sorted(list), sorted(dict). -/
namespace Pg
open PySem PySem.Spec PyProof.Rows L2

/-! ### what is sorted -/
def isI : D → Bool
  | .int _ => true
  | _ => false
def isII : D → Bool
  | .tup [.int _, .int _] => true
  | _ => false
def isIT : D → Bool
  | .tup [.int _, .tup ds] => (ints? ds).isSome
  | _ => false
/-- ints; pairs of ints; pairs of an int and a tuple of ints -/
def srt (ds : List D) : Bool := ds.all isI || ds.all isII || ds.all isIT
noncomputable def leD (x y : D) : Bool := PySem.W.dataLe false toPy x y
noncomputable def sortD (ds : List D) : List D := ds.mergeSort leD
theorem sortD_perm (ds : List D) : (sortD ds).Perm ds := List.mergeSort_perm ds leD
theorem toPys_ints : ∀ (ns : List Int), toPys (ns.map .int) = ns.map PyData.int
  | [] => by rw [List.map_nil, toPys]; rfl
  | n :: ns => by rw [List.map_cons, toPys, toPy, toPys_ints ns]; rfl
theorem isII_inv {d : D} (h : isII d = true) : ∃ i j, d = .tup [.int i, .int j] := by
  unfold isII at h
  split at h
  · exact ⟨_, _, rfl⟩
  · cases h
theorem isIT_inv {d : D} (h : isIT d = true) : ∃ (i : Int) (ns : List Int), d = .tup [.int i, .tup (ns.map .int)] := by
  unfold isIT at h
  split at h
  · obtain ⟨ns, e⟩ := Option.isSome_iff_exists.mp h
    exact ⟨_, ns, by rw [ints?_eq e]⟩
  · cases h
theorem isI_inv {d : D} (h : isI d = true) : ∃ i, d = .int i := by
  unfold isI at h
  split at h
  · exact ⟨_, rfl⟩
  · cases h
theorem py_II (i j : Int) : toPy (.tup [.int i, .int j]) = .tuple [.int i, .int j] := by simp [toPy, toPys]
theorem py_IT (i : Int) (ns : List Int) : toPy (.tup [.int i, .tup (ns.map .int)]) = .tuple [.int i, .tuple (ns.map PyData.int)] := by simp [toPy, toPys, toPys_ints]
theorem srt_alike {ds : List D} (h : srt ds = true) : PySem.W.AllAlike (ds.map toPy) := by
  intro d hd d' hd'
  obtain ⟨b, mb, rfl⟩ := List.mem_map.mp hd
  obtain ⟨b', mb', rfl⟩ := List.mem_map.mp hd'
  simp only [srt, Bool.or_eq_true, List.all_eq_true] at h
  rcases h with (h | h) | h
  · obtain ⟨i, rfl⟩ := isI_inv (h b mb)
    obtain ⟨j, rfl⟩ := isI_inv (h b' mb')
    simp [toPy, PySem.W.alike]
  · obtain ⟨i, j, rfl⟩ := isII_inv (h b mb)
    obtain ⟨i', j', rfl⟩ := isII_inv (h b' mb')
    rw [py_II, py_II]
    simp [PySem.W.alike, PySem.W.alikeAll]
  · obtain ⟨i, ns, rfl⟩ := isIT_inv (h b mb)
    obtain ⟨i', ns', rfl⟩ := isIT_inv (h b' mb')
    rw [py_IT, py_IT]
    simp [PySem.W.alike, PySem.W.alikeAll, PySem.W.alike_ints]
theorem srt_sortable {ds : List D} (h : srt ds = true) : PySem.W.Sortable (ds.map toPy) := by
  simp only [srt, Bool.or_eq_true, List.all_eq_true] at h
  rcases h with (h | h) | h
  · refine .inr fun d hd => ?_
    obtain ⟨b, mb, rfl⟩ := List.mem_map.mp hd
    obtain ⟨i, rfl⟩ := isI_inv (h b mb)
    rw [toPy]
    exact ⟨(fun z => nomatch z), fun _ z => nomatch z⟩
  · refine .inl fun d hd => ?_
    obtain ⟨b, mb, rfl⟩ := List.mem_map.mp hd
    obtain ⟨i, j, rfl⟩ := isII_inv (h b mb)
    exact ⟨_, _, py_II i j⟩
  · refine .inl fun d hd => ?_
    obtain ⟨b, mb, rfl⟩ := List.mem_map.mp hd
    obtain ⟨i, ns, rfl⟩ := isIT_inv (h b mb)
    exact ⟨_, _, py_IT i ns⟩
theorem srt_pl {ds : List D} (h : srt ds = true) : ∀ d ∈ ds, plN 3 d = true := by
  have q : ∀ (n : Nat) (ns : List Int), plN (n + 1) (.tup (ns.map .int)) = true := fun n ns => by
    rw [plN_tup, List.all_eq_true]
    intro x hx
    obtain ⟨i, _, rfl⟩ := List.mem_map.mp hx
    cases n <;> rfl
  intro d hd
  simp only [srt, Bool.or_eq_true, List.all_eq_true] at h
  rcases h with (h | h) | h
  · obtain ⟨i, rfl⟩ := isI_inv (h d hd)
    rfl
  · obtain ⟨i, j, rfl⟩ := isII_inv (h d hd)
    exact q 2 [i, j]
  · obtain ⟨i, ns, rfl⟩ := isIT_inv (h d hd)
    rw [plN_tup, List.all_cons, List.all_cons, q 1 ns]
    rfl
section
variable {cs : Gh} {H : Hp} {β : Type}
open PySem.W (EachIs)
abbrev Stands (cs : Gh) (H : Hp) (v : Value) (d : D) : Prop := ∃ x, RelV x v ∧ Rep cs H x d
theorem stands_of : ∀ {xs : List V} {us : List Value} {ds : List D}, Vals xs us → Reps cs H xs ds → EachIs (Stands cs H) us ds
  | _, _, _, .nil, .nil => .nil
  | _, _, _, .cons h t, .cons r q => .cons ⟨_, h, r⟩ (stands_of t q)
theorem stands_to : ∀ {us : List Value} {ds : List D}, EachIs (Stands cs H) us ds → ∃ xs, Vals xs us ∧ Reps cs H xs ds
  | _, _, .nil => ⟨[], .nil, .nil⟩
  | _, _, .cons ⟨x, h, r⟩ t => by
    obtain ⟨xs, a, b⟩ := stands_to t
    exact ⟨x :: xs, .cons h a, .cons r b⟩
variable {X : Cx} {pins : List (Addr × Obj)} {σ : L2.St} {s : Shared}
theorem stands_reads (I : Inv X pins σ H s) : ∀ {us : List Value} {ds : List D}, EachIs (Stands cs H) us ds → (∀ d ∈ ds, plN 3 d = true) → EachIs (fun v d => ∃ as, PySem.Reads s.heap v (toPy d) as) us ds
  | _, _, .nil, _ => .nil
  | _, _, .cons ⟨x, h, r⟩ t, p => .cons ((r.dp (K := X.K) ⟨_, p _ List.mem_cons_self⟩).reads I _ _ _ h) (stands_reads I t fun d hd => p d (List.mem_cons_of_mem _ hd))
end
section
variable {X : Cx}
/-- sorted(a list) -/
def rSortV : List V → Hp → VK → Prop := fun us H Q => ∃ (cs : Gh) (a : Addr) (xs : List V) (ds : List D), us = [.ref a] ∧ H a = some (.lst xs) ∧ Reps cs H xs ds ∧ srt ds = true ∧ ds.length ≤ lim ∧
  ∀ ys p, Reps cs H ys (sortD ds) → H p = none → Q (.ref p) (upd H p (.lst ys))
theorem call_sortV (hu : X.A.units + 150 < cLine) : CallR X (.builtin "sorted") rSortV := by
  intro pins s σ H us vs Q I r q
  obtain ⟨cs, a, xs, ds, rfl, ha, hr, hs, hl, q⟩ := q
  obtain ⟨u, rfl, rx⟩ := vals1 r
  obtain rfl : u = .ref a := rx
  obtain ⟨its, rv, ⟨o, n, ho, hc, _, hdat⟩, hz⟩ := I.list (SqL.of (K := X.K) ha)
  have st := stands_of rv hr
  have pl := srt_pl hs
  refine PySem.W.sorted_data (R := Stands cs H) (enc := toPy) (bs := ds) (vs := its) ⟨o, ho, hc, n, hdat⟩ st (stands_reads I st pl) (srt_alike hs) (srt_sortable hs) (lim_line hl) (fun b hb => ?_) fun out hlen e => ?_
  · have := (canLay_pl 3 b (pl b hb)).2
    omega
  · obtain ⟨ys, g1, g2⟩ := stands_to e
    obtain ⟨c, hat⟩ := PyProof.Rows.sortedAll_at s.heap its out.toArray
    have hn : H (s.heap.objs.size + 1) = none := I.hok.fresh (Nat.le_succ _)
    have hy : ys.length ≤ sizeLine := lim_line (by rw [Vals.length g1, hlen]; exact hl)
    exact ⟨.ref (s.heap.objs.size + 1), upd H (s.heap.objs.size + 1) (.lst ys), I.laid (t' := s.toks) (fun b o e => PyProof.Rows.sortedAll_old e) (Nat.le_succ _) ⟨hy, out, c, g1, hat⟩, rfl, q ys _ g2 hn⟩
/-- sorted(a dict): its keys -/
def rSortK : List V → Hp → VK → Prop := fun us H Q => ∃ (cs : Gh) (a : Addr) (s : D), us = [.ref a] ∧ SOk cs s H ∧ ((∃ (kvs : List (Key × V)) (ks : List (Int × D)), Rd H a (.dK kvs) ∧ RepI cs H kvs ks ∧ ks.length ≤ lim ∧
    ∀ ys p, Reps cs H ys (sortD (ks.map fun k => .int k.1)) → H p = none → Q (.ref p) (upd H p (.lst ys))) ∨
  ∃ (kvs : List (List Key × V)) (ks : List ((Int × Int) × D)), Rd H a (.dT kvs) ∧ RepP cs H kvs ks ∧ ks.length ≤ lim ∧
    ∀ ys p, Reps cs H ys (sortD (ks.map fun k => .tup [.int k.1.1, .int k.1.2])) → H p = none → Q (.ref p) (upd H p (.lst ys)))
open PySem.W (EachIs) in
theorem call_sortK (hu : X.A.units + 150 < cLine) (hcalm : X.calm = true) : CallR X (.builtin "sorted") rSortK := by
  intro pins s σ H us vs Q I r q
  obtain ⟨cs, a, s0, rfl, hs0, q⟩ := q
  obtain ⟨u, rfl, rx⟩ := vals1 r
  obtain rfl : u = .ref a := rx
  -- the keys as they stand in the heap
  obtain ⟨es, ep, ds, hraw, lo, hsz, hkeys, hsrt, q⟩ : ∃ (es : Array DictEntry) (ep : Nat) (ds : List D), s.heap.DictRaw a es ep ∧ (a == sysModules) = false ∧ (es.size = ds.length ∧ ds.length ≤ lim) ∧
      (∀ (h' : Heap) (k : ∀ b o, s.heap.get? b = some o → h'.get? b = some o) (i : Nat) (hi : i < es.size), ∃ d, ds[i]? = some d ∧ Stands cs H es[i].key d ∧ PySem.Reads h' es[i].key (toPy d) []) ∧ srt ds = true ∧
      ∀ ys p, Reps cs H ys (sortD ds) → H p = none → Q (.ref p) (upd H p (.lst ys)) := by
    rcases q with ⟨kvs, ks, hd, hr, hl, q⟩ | ⟨kvs, ks, hd, hr, hl, q⟩
    · obtain ⟨z, lo, vs, rel, dd⟩ := dk_rd I.hok hd
      obtain ⟨o, es, ep, ho, hc, hdat, hk, hp, hn⟩ := dd
      have e1 : es.size = vs.length := by rw [← hp.length]; simp
      have e2 := rel.length
      have e3 := hr.length
      refine ⟨es, ep, ks.map fun k => .int k.1, ⟨o, ho, hc, hdat⟩, lo, ⟨by rw [List.length_map]; omega, by rw [List.length_map]; exact hl⟩, fun h' _ i hi => ?_, ?_, q⟩
      · obtain ⟨⟨k, v⟩, hkv⟩ : ∃ kv, vs[i]? = some kv := ⟨vs[i]'(by omega), List.getElem?_eq_getElem _⟩
        obtain ⟨hkey, _⟩ := hp.get? (e := es[i]) (by simp [hi]) hkv
        obtain ⟨⟨k', x⟩, hkx⟩ : ∃ kv, kvs[i]? = some kv := ⟨kvs[i]'(by omega), List.getElem?_eq_getElem _⟩
        have ek : k' = k := by
          have e4 : (kvs.map (·.1))[i]? = some k' := by rw [List.getElem?_map, hkx]; rfl
          rw [rel.keys, List.getElem?_map, hkv] at e4
          exact (Option.some.inj e4).symm
        subst ek
        obtain ⟨j, d, rfl, hd'⟩ := hr.key hkx
        obtain ⟨t, et⟩ := Value.isInt_shape (k := j) (v := es[i].key) hkey
        refine ⟨.int j, by rw [List.getElem?_map, hd']; rfl, ?_⟩
        rw [et]
        exact ⟨⟨.int j, ⟨t, rfl⟩, .int j⟩, by rw [toPy]; exact .int _ _⟩
      · simp [srt, isI]
    · obtain ⟨z, lo, xs, rel, dd⟩ := dt_rd I.hok hd
      obtain ⟨o, es, ep, ho, hc, hdat, he, his, hn⟩ := dd
      have e1 : es.size = xs.length := size_of_entries he
      have e2 : kvs.length = xs.length := Paired.length rel
      have e3 := hr.length
      have at' : ∀ {l : List (List Key × V)} {m : List (List Key × Addr × Value)} (i : Nat) (x : List Key × Addr × Value), KT H l m → m[i]? = some x → ∃ v, l[i]? = some (x.1, v) ∧ H x.2.1 = some (.tup (x.1.map kV)) := by
        intro l m i x r
        induction r generalizing i with
        | nil => intro e; simp at e
        | @cons p q ps qs h t ih =>
          intro e
          cases i with
          | zero =>
            obtain rfl : q = x := Option.some.inj e
            exact ⟨p.2, by rw [← h.1]; rfl, by rw [← h.1]; exact h.2.1⟩
          | succ i =>
            obtain ⟨v, e1, e2⟩ := ih i (by simpa using e)
            exact ⟨v, by simpa using e1, e2⟩
      refine ⟨es, ep, ks.map fun k => .tup [.int k.1.1, .int k.1.2], ⟨o, ho, hc, hdat⟩, lo, ⟨by rw [List.length_map]; omega, by rw [List.length_map]; exact hl⟩, fun h' kk i hi => ?_, ?_, q⟩
      · obtain ⟨x, hx⟩ : ∃ x, xs[i]? = some x := ⟨xs[i]'(by omega), List.getElem?_eq_getElem _⟩
        have hex : es[i].key = .ref x.2.1 := by
          have q := entry_at he i
          rw [hx, Array.getElem?_eq_getElem hi] at q
          rw [Option.some.inj q]
          rfl
        obtain ⟨v, hkv, htup⟩ := at' i x rel hx
        obtain ⟨p1, p2, d, ek, hd'⟩ := hr.key hkv
        refine ⟨.tup [.int p1, .int p2], by rw [List.getElem?_map, hd']; rfl, ?_⟩
        rw [hex]
        rw [ek] at htup
        refine ⟨⟨.ref x.2.1, rfl, .tup (hs0.tup htup) htup (.cons (.int _) (.cons (.int _) .nil))⟩, ?_⟩
        obtain ⟨_, its, rv, oo, g1, g2, n, g3⟩ := (show ObjOk X.prog X.w H s.heap x.2.1 (.tup (([.inl p1, .inl p2] : List Key).map kV)) from I.hok _ _ htup)
        obtain ⟨u1, u2, rfl, ⟨t1, rfl⟩, ⟨t2, rfl⟩⟩ := vals2 rv
        rw [py_II]
        exact .tuple (kk _ _ g1) g2 g3 (.cons (.int _ _) (.cons (.int _ _) .nil))
      · simp [srt, isII]
  obtain ⟨hsz, hlim⟩ := hsz
  refine Calls.call_function_entry PyProof.Rows.kind_sorted PyProof.Rows.plain_sorted PyProof.Rows.entry_sorted (PyProof.Rows.args_sorted1 _) ?_
  unfold Builtin.«sorted»
  refine wpAny_bind (m := checkCount "sorted" 1 1 _) (wpAny_pure ?_)
  refine wpAny_bind (PySem.W.kdu_collect (A := X.A.in1) (KdlSrc.rawDict (es := es) (ep := ep) lo) (I.ok.hd hcalm) hraw (lim_line (by omega)) fun h' tk acc hk hacc => ?_)
  have hal : acc.toList.length = ds.length := by rw [Array.length_toList, hacc.1, hsz]
  have I1 : Inv X pins σ H { s with heap := h', toks := tk } := I.kept hk
  refine wpAny_bind (wpAny_newList ?_ (Nat.le_trans (Nat.le_of_eq hal) (lim_line hlim)))
  have hoL : (h'.push (seqObj "list" acc.toList.toArray 0)).get? h'.objs.size = some (seqObj "list" acc.toList.toArray 0) := Heap.get?_push_size _ rfl
  have k2 : ∀ b o, s.heap.get? b = some o → (h'.push (seqObj "list" acc.toList.toArray 0)).get? b = some o := fun b o e => Heap.get?_push_of_some _ (hk b o e)
  have each : ∀ (us : List Value) (zs : List D) (j : Nat), us.length = zs.length → (∀ i v, us[i]? = some v → acc[i + j]? = some v) → (∀ i d, zs[i]? = some d → ds[i + j]? = some d) →
      EachIs (fun v d => Stands cs H v d ∧ PySem.Reads (h'.push (seqObj "list" acc.toList.toArray 0)) v (toPy d) []) us zs := by
    intro us
    induction us with
    | nil =>
      intro zs j hl _ _
      cases zs with
      | nil => exact .nil
      | cons z zs => cases hl
    | cons u us ih =>
      intro zs j hl h1 h2
      cases zs with
      | nil => cases hl
      | cons z zs =>
        refine .cons ?_ (ih zs (j + 1) (by simpa using hl) (fun i v e => ?_) fun i d e => ?_)
        · obtain ⟨hi, ev⟩ := hacc.2 j u (by simpa using h1 0 u rfl)
          obtain ⟨d, e1, e2, e3⟩ := hkeys _ k2 j hi
          have e4 := h2 0 z rfl
          rw [Nat.zero_add, e1] at e4
          obtain rfl : d = z := Option.some.inj e4
          rw [ev]
          exact ⟨e2, e3⟩
        · have := h1 (i + 1) v (by simpa using e)
          rw [← this]
          congr 1
          omega
        · have := h2 (i + 1) d (by simpa using e)
          rw [← this]
          congr 1
          omega
  have E := each acc.toList ds 0 hal (fun i v e => by rw [Nat.add_zero, ← Array.getElem?_toList]; exact e) fun i d e => e
  have pl := srt_pl hsrt
  show wpAny _ _ _ _ _ { s with heap := h'.push (seqObj "list" acc.toList.toArray 0), toks := tk }
  refine wpAny_bind (wpAny_holding (PySem.W.list_sort_data (s := { s with heap := h'.push (seqObj "list" acc.toList.toArray 0), toks := tk }) (R := Stands cs H) (enc := toPy) (bs := ds) hoL (E.mono fun _ _ h => h.1) (E.mono fun _ _ h => ⟨[], h.2, fun z => nomatch z⟩) (srt_alike hsrt) (srt_sortable hsrt) (lim_line hlim) (fun b hb => ?_) fun out hlen e => ?_))
  · have := (canLay_pl 3 b (pl b hb)).2
    have hin : X.A.in1.units ≤ X.A.units + 1 := by unfold Around.in1; simp
    omega
  · obtain ⟨ys, g1, g2⟩ := stands_to e
    obtain ⟨c, hat⟩ := PyProof.Rows.sortedHeap_at (vs := acc.toList) (out := out.toArray) hoL
    have hy : ys.length ≤ sizeLine := lim_line (by rw [Vals.length g1, hlen]; exact hlim)
    refine wpAny_pure ⟨_, rfl, .ref h'.objs.size, upd H h'.objs.size (.lst ys), I1.laid (t' := tk) (fun b u e => ?_) (Nat.le_refl _) ⟨hy, out, c, g1, hat⟩, rfl, q ys _ g2 (I1.hok.fresh (Nat.le_refl _))⟩
    have hb : b < h'.objs.size := Heap.lt_size e
    rw [PyProof.Rows.sortedHeap_old (Nat.ne_of_lt hb) (by rw [size_push']; exact Nat.lt_succ_of_lt hb)]
    exact Heap.get?_push_of_some _ e
noncomputable def rSorted : RLD := fun _ xs => match xs with
  | [.lst ds] => if srt ds = true ∧ ds.length ≤ lim then some (.lst (sortD ds)) else none
  | [.dI ks] => if ks.length ≤ lim then some (.lst (sortD (ks.map fun k => .int k.1))) else none
  | [.dP ks] => if ks.length ≤ lim then some (.lst (sortD (ks.map fun k => .tup [.int k.1.1, .int k.1.2]))) else none
  | _ => none
theorem cd_sorted (hu : X.A.units + 150 < cLine) (hc : X.calm = true) : CallD X (.builtin "sorted") rSorted := by
  refine ⟨_, callR_or (call_sortV hu) (call_sortK hu hc), fun cs H s d xs us Q hs r hr k => ?_⟩
  unfold rSorted at hr
  split at hr
  · split at hr
    · rename_i hg
      cases hr
      cases r with
      | cons r t =>
        cases t
        cases r with
        | lst n h r =>
          exact .inl ⟨cs, _, _, _, rfl, h, r, hg.1, hg.2, fun ys p hy hp => k _ _ (.new hp) (hs.new hp) (.lst (hs.fresh hp) upd_same (hy.mono (.new hp)))⟩
    · cases hr
  · split at hr
    · rename_i hg
      cases hr
      cases r with
      | cons r t =>
        cases t
        cases r with
        | dI n h r =>
          exact .inr ⟨cs, _, s, rfl, hs, .inl ⟨_, _, h, r, hg, fun ys p hy hp => k _ _ (.new hp) (hs.new hp) (.lst (hs.fresh hp) upd_same (hy.mono (.new hp)))⟩⟩
    · cases hr
  · split at hr
    · rename_i hg
      cases hr
      cases r with
      | cons r t =>
        cases t
        cases r with
        | dP n h r =>
          exact .inr ⟨cs, _, s, rfl, hs, .inr ⟨_, _, h, r, hg, fun ys p hy hp => k _ _ (.new hp) (hs.new hp) (.lst (hs.fresh hp) upd_same (hy.mono (.new hp)))⟩⟩
    · cases hr
  · cases hr
end
end Pg
set_option Elab.async false
set_option linter.all false
set_option maxRecDepth 100000
set_option maxHeartbeats 1000000
/-! Pages, part P: sets of tuples of ints, up to 76 members. -/
namespace Pg
open PySem PySem.Spec PyProof.Rows L2

/-- the first step of the way that a hash goes -/
abbrev way0 (m : Nat) (g : Int) : SetTable.Probe := runAt m (SetTable.bits g % (m + 1)) (SetTable.bits g)
/-- a set of tuples at a: its rows in the table's order, the table's mask at most 127 -/
structure Sq (P : Program) (w : World) (h : Heap) (a : Addr) (L : List (Addr × List Int)) (es : Array (Int × Value)) (ep : Nat) (t : SetTable) : Prop where
  obj : ∃ o, h.get? a = some o ∧ o.ExactSet ∧ o.data = .set es ep t
  rows : es.toList = rowsOf P w L
  tab : TabOk t (L.map fun p => thash P w p.2)
  apart : (L.map (·.2)).Nodup
  keys : ∀ p ∈ L, IsT P w h p.2 p.1
  plain : t.plain = true
  led : w.params.followText "set-order" = true ∨ t.led = true
  room : L.length * 5 < t.mask * 3

section
variable {P : Program} {w : World} {A : Around} {E : Value → Shared → Prop} {s : Shared} {a : Addr} {L : List (Addr × List Int)} {es : Array (Int × Value)} {ep : Nat} {t : SetTable}
theorem rows_size {P : Program} {w : World} {L : List (Addr × List Int)} {es : Array (Int × Value)} (h : es.toList = rowsOf P w L) : es.size = L.length := by
  rw [← Array.length_toList, h]
  exact List.length_map ..
theorem fits_of (hd : t.dummies = #[]) (hp : t.place.size = es.size) (hm : es.size ≤ t.mask) : t.fits es.size = true := by
  unfold SetTable.fits SetTable.fill
  rw [hd]
  refine Bool.and_eq_true_iff.mpr ⟨beq_iff_eq.mpr hp, decide_eq_true ?_⟩
  show t.place.size + 0 ≤ t.mask
  rw [hp]
  exact hm
theorem Sq.size (R : Sq P w s.heap a L es ep t) : es.size = L.length := rows_size R.rows
theorem Sq.plc (R : Sq P w s.heap a L es ep t) : t.place.size = L.length := R.tab.sz.trans (List.length_map ..)
theorem Sq.fits (R : Sq P w s.heap a L es ep t) : t.fits es.size = true := by
  have h1 := R.size
  have h2 := R.plc
  have h3 := R.room
  exact fits_of R.tab.dm (h2.trans h1.symm) (by omega)
theorem Sq.at (R : Sq P w s.heap a L es ep t) {i : Nat} {p : Addr × List Int} (h : L[i]? = some p) : es[i]? = some (thash P w p.2, Value.ref p.1) := by
  have q : es.toList[i]? = some (thash P w p.2, Value.ref p.1) := by
    rw [R.rows, rowsOf, List.getElem?_map, h]
    rfl
  rw [Array.getElem?_toList] at q
  exact q
/-- no dummy stands on the way -/
theorem no_dummy (m : Nat) : ∀ (n : Nat) (p : SetTable.Probe), p.dummy = none → (nth m p n).dummy = none
  | 0, _, h => h
  | n + 1, p, h => no_dummy m n (adv m p) (by unfold adv; split <;> exact h)

/-- the search from the step c of the way on; at the step K the first free slot stands -/
theorem Sq.look (R : Sq P w s.heap a L es ep t) {x : Addr} {k : List Int} (hx : IsT P w s.heap k x) (hu : A.units < cLine) {g : Int} (hg : g = thash P w k) {K : Nat} (hturn : K < 10 * SetTable.turns t.mask)
    (hfree : way t.mask g K ∉ t.place.toList) (hfull : ∀ c, c < K → way t.mask g c ∈ t.place.toList) {Q : SetFound → Shared → Prop} (yes : k ∈ L.map (·.2) → Q (.there none) s) (no : k ∉ L.map (·.2) → Q (.free (way t.mask g K) false) s) (f : Nat) :
    ∀ (c : Nat) (stand : Option SetTable.Probe), stand.getD (t.probeStart g) = nth t.mask (way0 t.mask g) c → c ≤ K → K - c < f →
      (∀ (i : Nat) p, L[i]? = some p → p.2 = k → ∃ b, c ≤ b ∧ b < K ∧ t.place.toList[i]? = some (way t.mask g b)) → wpAny (model P w) A (setSearchFrom a (.ref x) g true f stand) Q E s := by
  obtain ⟨o, ho, hex, hd⟩ := id R.obj
  have odd : ¬ t.gaveWay = true := by
    unfold SetTable.gaveWay
    rw [mask_odd R.tab.mok]
    exact fun z => nomatch z
  -- the hash of an entry
  have hat : ∀ (i : Nat) p, L[i]? = some p → (fun i => (es[i]?.map (·.1)).getD 0) i = thash P w p.2 := fun i p hp => by
    have q := R.at hp
    show (es[i]?.map (·.1)).getD 0 = _
    rw [q]
    rfl
  induction f with
  | zero => exact fun c _ _ _ z => absurd z (Nat.not_lt_zero _)
  | succ f ih =>
    intro c stand hstand hc hf reach
    have shift : ∀ q, nth t.mask (nth t.mask (way0 t.mask g) c) q = nth t.mask (way0 t.mask g) (c + q) := fun q => (nth_add t.mask c _ q).symm
    have here : ∀ q, (nth t.mask (nth t.mask (way0 t.mask g) c) q).j = way t.mask g (c + q) := fun q => by rw [shift]
    have last : c + (K - c) = K := by omega
    have found := go_spec t R.tab.ris R.tab.dm (fun i => (es[i]?.map (·.1)).getD 0) g (10 * SetTable.turns t.mask) (K - c) (nth t.mask (way0 t.mask g) c) (no_dummy _ _ _ rfl) (by omega)
      (fun q hq => by rw [here]; exact hfull (c + q) (by omega)) (by rw [here, last]; exact hfree)
    rw [setSearchFrom_succ]
    refine wpAny_bind (wpAny_setState_of ho hd R.fits ?_)
    dsimp only
    refine wp_if_neg odd ?_
    try refine wpAny_bind (wpAny_pure ?_)
    rcases found with ⟨q, i, hq, hslot, hash, before, probe⟩ | ⟨none', probe⟩
    · have probe' : t.probe (fun i => (es[i]?.map (·.1)).getD 0) g (stand.getD (t.probeStart g)) = some (.candidate (way t.mask g (c + q)) i (nth t.mask (way0 t.mask g) (c + (q + 1)))) := by
        rw [hstand, ← here, ← shift]
        exact probe
      rw [here] at hslot
      rw [probe']
      dsimp only
      have hil : i < L.length := by
        have z := (List.getElem?_eq_some_iff.mp hslot).1
        rw [Array.length_toList, R.plc] at z
        exact z
      obtain ⟨p, hp⟩ : ∃ p, L[i]? = some p := ⟨L[i], List.getElem?_eq_getElem hil⟩
      have hm : p ∈ L := List.mem_of_getElem? hp
      have live : t.slot (way t.mask g (c + q)) = .live i := slot_live R.tab.ris hslot
      have tail : wpAny (model P w) A (searchRest a (.ref x) g true f es t (way t.mask g (c + q)) i (nth t.mask (way0 t.mask g) (c + (q + 1)))) Q E s := by
        unfold searchRest
        rw [R.at hp]
        dsimp only
        refine wpAny_bind (wpAny_holding (wpAny_eqBool_tuple hu (R.keys p hm) hx (wpAny_bind (wpAny_setState_of ho hd R.fits ?_))))
        dsimp only
        by_cases same : p.2 = k
        · exact wp_if_pos (by rw [decide_eq_true same]; rfl) (wpAny_pure (yes (List.mem_map.mpr ⟨p, hm, same⟩)))
        · have nope : ¬ (decide (p.2 = k)) = true := fun z => same (of_decide_eq_true z)
          refine wp_if_neg (fun z => nope (Bool.and_eq_true_iff.mp z).2) ?_
          try refine wpAny_bind (wpAny_pure ?_)
          rw [sameMem]
          dsimp only
          simp only [if_true, live, R.at hp]
          refine wpAny_bind (wpAny_isSame_ref_self (wpAny_bind (wpAny_pure ?_)))
          simp only [if_true]
          refine wp_if_neg nope (ih (c + (q + 1)) _ rfl (by omega) (by omega) fun i0 p0 h0 hk0 => ?_)
          obtain ⟨b, b1, b2, b3⟩ := reach i0 p0 h0 hk0
          refine ⟨b, ?_, b2, b3⟩
          rcases Nat.lt_trichotomy b (c + q) with lt | eq | gt
          · refine absurd ((hat i0 p0 h0).trans ((congrArg (thash P w) hk0).trans hg.symm)) (before (b - c) i0 (by omega) ?_)
            rw [here, show c + (b - c) = b by omega]
            exact b3
          · rw [eq] at b3
            have z := (slot_live R.tab.ris b3).symm.trans live
            injection z with z
            rw [z, hp] at h0
            exact absurd ((congrArg Prod.snd (Option.some.inj h0)).trans hk0) same
          · omega
      by_cases hl : t.led = true
      · refine wp_if_neg (by rw [hl]; decide) ?_
        try refine wpAny_bind (wpAny_pure ?_)
        exact tail
      · refine wp_if_pos (by simpa using hl) (wpAny_bind (seen_tup hx (fun y hy => ?_) ?_))
        · obtain ⟨e, he, rfl⟩ := List.mem_map.mp hy
          have he2 : e ∈ es.toList := by
            rw [Array.toList_filter] at he
            exact (List.mem_filter.mp he).1
          rw [R.rows] at he2
          obtain ⟨p2, m2, rfl⟩ := List.mem_map.mp he2
          exact ⟨p2.2, p2.1, rfl, R.keys p2 m2⟩
        · refine wp_if_neg (fun z => nomatch z) ?_
          try refine wpAny_bind (wpAny_pure ?_)
          exact tail
    · have probe' : t.probe (fun i => (es[i]?.map (·.1)).getD 0) g (stand.getD (t.probeStart g)) = some (.empty (way t.mask g K) none) := by
        have z := here (K - c)
        rw [last] at z
        rw [hstand, ← z]
        exact probe
      rw [probe']
      dsimp only
      refine wpAny_pure (no fun hm => ?_)
      obtain ⟨p0, m0, hk0⟩ := List.mem_map.mp hm
      obtain ⟨i0, h0⟩ := List.mem_iff_getElem?.mp m0
      obtain ⟨b, b1, b2, b3⟩ := reach i0 p0 h0 hk0
      refine none' (b - c) i0 (by omega) ?_ ((hat i0 p0 h0).trans ((congrArg (thash P w) hk0).trans hg.symm))
      rw [here, show c + (b - c) = b by omega]
      exact b3
/-- the whole search -/
theorem Sq.find (R : Sq P w s.heap a L es ep t) {x : Addr} {k : List Int} (hx : IsT P w s.heap k x) (hu : A.units < cLine) {Q : SetFound → Shared → Prop} (yes : k ∈ L.map (·.2) → Q (.there none) s)
    (no : ∀ K, k ∉ L.map (·.2) → way t.mask (thash P w k) K ∉ t.place.toList → (∀ c, c < K → way t.mask (thash P w k) c ∈ t.place.toList) → Q (.free (way t.mask (thash P w k) K) false) s) :
    wpAny (model P w) A (setSearch a (.ref x) (thash P w k) true) Q E s := by
  have hr := R.room
  obtain ⟨K, k1, k2, k3⟩ := R.tab.first (by rw [List.length_map]; omega) (thash P w k)
  have small : K < 100000 := by
    refine Nat.lt_of_lt_of_le k1 ?_
    unfold SetTable.turns
    rcases R.tab.mok with e | e | e <;> rw [e] <;> decide
  unfold setSearch
  refine R.look hx hu rfl k1 k2 k3 yes (fun hn => no K hn k2 k3) 100000 0 none rfl (Nat.zero_le _) small fun i p hp hk => ?_
  have h1 : (L.map fun p => thash P w p.2)[i]? = some (thash P w k) := by rw [List.getElem?_map, hp, ← hk]; rfl
  have h2 : i < t.place.toList.length := by
    rw [Array.length_toList, R.plc]
    exact (List.getElem?_eq_some_iff.mp hp).1
  obtain ⟨c, c1, c2⟩ := R.tab.before k2 h1 (List.getElem?_eq_getElem h2)
  exact ⟨c, Nat.zero_le _, c1, by rw [c2]; exact List.getElem?_eq_getElem h2⟩
end
end Pg
set_option Elab.async false
set_option linter.all false
set_option maxRecDepth 100000
set_option maxHeartbeats 1000000
/-! Pages, part Q: adding to such a set; set(a list), sorted(the set). -/
namespace Pg
open PySem PySem.Spec PyProof.Rows L2
section
variable {P : Program} {w : World} {A : Around} {E : Value → Shared → Prop} {s : Shared} {a : Addr} {L : List (Addr × List Int)} {es : Array (Int × Value)} {ep : Nat} {t : SetTable}
/-- the table is laid anew -/
theorem relay76 {o : Obj} (ho : s.heap.get? a = some o) (hex : o.ExactSet) (hd : o.data = .set es ep t) (rows : es.toList = rowsOf P w L) (tab : TabOk t (L.map fun p => thash P w p.2)) (le : L.length ≤ t.mask) (apart : (L.map (·.2)).Nodup)
    (keys : ∀ p ∈ L, IsT P w s.heap p.2 p.1) (plain : t.plain = true) (led : w.params.followText "set-order" = true ∨ t.led = true) {want M : Nat} (hw : SetTable.sizeAbove want = M + 1) (hM : MaskOk M) (hroom : L.length * 5 < M * 3) {Q : Unit → Shared → Prop}
    (hQ : ∀ h' L' es' ep' t', Heap.SameBut a s.heap h' → Sq P w h' a L' es' ep' t' → L'.Perm L → Q () { s with heap := h' }) : wpAny (model P w) A (setRelay a want) Q E s := by
  have hz : es.size = L.length := rows_size rows
  have hpl : t.place.size = es.size := by rw [tab.sz, hz, List.length_map]
  obtain ⟨t', order, made, perm, tab', em, el, epl, _⟩ := relaid_ok t (hs := es.map (·.1)) (wanted := want) (M := M) (by rw [hw]; rfl) hM (by rw [Array.size_map]; omega)
  rw [Array.size_map, hz] at perm
  obtain ⟨L2, rows2, pm, hh⟩ := order_rows L es order rows perm
  rw [← hh] at tab'
  have hz2 : (order.filterMap (es[·]?)).size = es.size := by rw [rows_size rows2, pm.length_eq, hz]
  have M127 : M ≤ 127 := by rcases hM with e | e | e <;> omega
  have small : L.length ≤ 127 := by omega
  rw [setRelay_eq]
  refine wpAny_bind (wpAny_setState_of ho hd (fits_of tab.dm hpl (by omega)) ?_)
  dsimp only
  refine wp_if_neg (by rw [hw, sizeLine_eq]; omega) ?_
  try refine wpAny_bind (wpAny_pure ?_)
  rw [made]
  dsimp only
  refine wpAny_bind (wp_if_neg (by rw [hz2]; simp) ?_)
  try refine wpAny_bind (wpAny_pure ?_)
  refine wpAny_pure ?_
  dsimp only
  have sb : Heap.SameBut a s.heap (s.heap.update a (Obj.putSet (order.filterMap (es[·]?)) t')) := Heap.SameBut.update ..
  refine wpAny_storeSet_of ho hd (hQ _ L2 (order.filterMap (es[·]?)) (ep + 1) t' sb ?_ pm) (by rw [hz2, hz, sizeLine_eq]; omega)
  exact { obj := ⟨_, store_at ho hd, ⟨hex.1, hex.2.1, hex.2.2⟩, rfl⟩, rows := rows2, tab := tab', apart := (pm.map (·.2)).nodup_iff.mpr apart, keys := fun p hp => isT_same (keys p (pm.mem_iff.mp hp)) ho hd sb,
          plain := epl.trans plain, led := by rw [el]; exact led, room := by rw [pm.length_eq, em]; exact hroom }
/-- a tuple is added -/
theorem Sq.add (R : Sq P w s.heap a L es ep t) {x : Addr} {k : List Int} (hx : IsT P w s.heap k x) (hu : A.units < cLine) (hfew : L.length + 1 ≤ 76) {Q : Bool → Shared → Prop}
    (hQ : ∀ b h' L' es' ep' t', Heap.SameBut a s.heap h' → Sq P w h' a L' es' ep' t' → ((k ∈ L.map (·.2) ∧ L' = L) ∨ (k ∉ L.map (·.2) ∧ L'.Perm ((x, k) :: L))) → Q b { s with heap := h' }) :
    wpAny (model P w) A (setAddHashed a (.ref x) (thash P w k)) Q E s := by
  obtain ⟨o, ho, hex, hd⟩ := id R.obj
  have hz := R.size
  have hr := R.room
  unfold setAddHashed
  refine wpAny_holding ?_
  rw [show (100000 : Nat) = 99999 + 1 from rfl, setAddHashedIn_succ]
  refine wpAny_bind (wpAny_setState_of ho hd R.fits ?_)
  dsimp only
  refine wp_if_neg (by simp [byScan, Value.scannable]) ?_
  try refine wpAny_bind (wpAny_pure ?_)
  refine wpAny_bind (R.find hx hu (fun hm => ?_) fun K hm hK hb => ?_)
  · dsimp only
    exact wpAny_pure (hQ false s.heap L es ep t (Heap.SameBut.refl _ _) R (.inl ⟨hm, rfl⟩))
  dsimp only
  refine wpAny_bind (wpAny_setState_of ho hd R.fits ?_)
  dsimp only
  obtain ⟨q1, q2, q3, q4, q5, q6, _, _, q9⟩ := R.tab.put hK hb
  have pl1 := q6.trans R.plain
  have hkp : (t.put (way t.mask (thash P w k) K)).2 ≤ L.length := by
    rw [q1]
    rw [List.length_map] at q2
    exact q2
  rw [← q1] at q3
  generalize t.put (way t.mask (thash P w k) K) = put at q3 q4 q5 pl1 q9 hkp ⊢
  obtain ⟨t1, p⟩ := put
  dsimp only at q3 q4 q5 pl1 q9 hkp ⊢
  first
    | (refine wpAny_bind ?_; refine wp_if_pos pl1 ?_; refine hashBy_tup hx ?_)
    | refine wp_if_pos pl1 (wpAny_bind (hashBy_tup hx ?_))
  simp only [if_true]
  -- the rows with the new one
  have hrows : (SetTable.insertAt es p (thash P w k, Value.ref x)).toList = rowsOf P w (L.take p ++ (x, k) :: L.drop p) := by rw [SetTable.toList_insertAt, rows_put, R.rows]
  have pm := put_perm L p (x, k)
  have tab1 : TabOk t1 ((L.take p ++ (x, k) :: L.drop p).map fun p => thash P w p.2) := by
    rw [List.map_append, List.map_cons, List.map_take, List.map_drop]
    exact q3
  have ap1 : ((L.take p ++ (x, k) :: L.drop p).map (·.2)).Nodup := (pm.map (·.2)).nodup_iff.mpr (List.nodup_cons.mpr ⟨hm, R.apart⟩)
  have hlen : (L.take p ++ (x, k) :: L.drop p).length = L.length + 1 := pm.length_eq
  generalize SetTable.insertAt es p (thash P w k, Value.ref x) = es1 at hrows ⊢
  generalize L.take p ++ (x, k) :: L.drop p = L1 at hrows pm tab1 ap1 hlen
  have hz1 : es1.size = L.length + 1 := (rows_size hrows).trans hlen
  refine wpAny_bind (wpAny_storeSet_of ho hd ?_ (by rw [hz1, sizeLine_eq]; omega))
  have sb : Heap.SameBut a s.heap (s.heap.update a (Obj.putSet es1 t1)) := Heap.SameBut.update ..
  have ho1 := store_at (es' := es1) (t' := t1) ho hd
  generalize s.heap.update a (Obj.putSet es1 t1) = h1 at sb ho1 ⊢
  have keys1 : ∀ p ∈ L1, IsT P w h1 p.2 p.1 := fun p hp => (List.mem_cons.mp (pm.mem_iff.mp hp)).elim (fun e => by rw [e]; exact isT_same hx ho hd sb) fun hp => isT_same (R.keys p hp) ho hd sb
  have led1 : w.params.followText "set-order" = true ∨ t1.led = true := by rw [q5]; exact R.led
  have full : t1.tooFull = decide ((L.length + 1) * 5 ≥ t1.mask * 3) := by
    unfold SetTable.tooFull
    rw [q9, List.length_map]
  by_cases hf : t1.tooFull = true
  · first
      | (refine wpAny_bind ?_; refine wp_if_pos (by simp [hf]) ?_)
      | (refine wp_if_pos (by simp [hf]) ?_; refine wpAny_bind ?_)
    have hfull := of_decide_eq_true (full ▸ hf)
    rw [q4] at hfull
    rw [hz]
    have grow : ∀ M, SetTable.sizeAbove (SetTable.grown (L.length + 1)) = M + 1 → MaskOk M → (L.length + 1) * 5 < M * 3 → L.length + 1 ≤ t.mask →
        wpAny (model P w) A (setRelay a (SetTable.grown (L.length + 1))) (fun _ s' => wpAny (model P w) A (pure true) Q E s') E { s with heap := h1 } := fun M e1 e2 e3 e4 =>
      relay76 (s := { s with heap := h1 }) ho1 ⟨hex.1, hex.2.1, hex.2.2⟩ rfl hrows tab1 (by rw [hlen, q4]; exact e4) ap1 keys1 pl1 led1 e1 e2 (by rw [hlen]; exact e3) fun h2 L2 es2 ep2 t2 sb2 R2 pm2 =>
        wpAny_pure (hQ true h2 L2 es2 ep2 t2 (sb.trans sb2) R2 (.inr ⟨hm, pm2.trans pm⟩))
    rcases R.tab.mok with e | e | e
    · have n4 : L.length = 4 := by rw [e] at hr hfull; omega
      exact grow 31 (by rw [n4]; exact size_20) (.inr (.inl rfl)) (by omega) (by omega)
    · have n18 : L.length = 18 := by rw [e] at hr hfull; omega
      exact grow 127 (by rw [n18]; exact size_76) (.inr (.inr rfl)) (by omega) (by omega)
    · rw [e] at hfull
      omega
  · have lt : ¬ ((L.length + 1) * 5 ≥ t1.mask * 3) := fun z => hf (full.trans (decide_eq_true z))
    first
      | refine wp_if_neg (by simp [hf]) ?_
      | (refine wpAny_bind ?_; refine wp_if_neg (by simp [hf]) ?_; refine wpAny_pure ?_)
    exact wpAny_pure (hQ true h1 L1 es1 (ep + 1) t1 sb { obj := ⟨_, ho1, ⟨hex.1, hex.2.1, hex.2.2⟩, rfl⟩, rows := hrows, tab := tab1, apart := ap1, keys := keys1, plain := pl1, led := led1, room := by rw [hlen]; omega } (.inr ⟨hm, pm⟩))
end
end Pg
set_option Elab.async false
set_option linter.all false
set_option maxRecDepth 100000
set_option maxHeartbeats 3200000
/-! Pages, part R: set(a list or tuple of tuples of ints), up to 75 members. -/
namespace Pg
open PySem PySem.Spec PyProof.Rows L2

/-- what the set holds of the first i items -/
structure Has (ks : List (Addr × List Int)) (i : Nat) (L : List (Addr × List Int)) : Prop where
  from' : ∀ p ∈ L, p ∈ ks
  all : ∀ j p, j < i → ks[j]? = some p → p.2 ∈ L.map (·.2)
theorem len_le_of_sub {α : Type} [DecidableEq α] : ∀ (l U : List α), l.Nodup → (∀ x ∈ l, x ∈ U) → l.length ≤ U.length
  | [], _, _, _ => Nat.zero_le _
  | x :: l, U, hn, hs => by
    rw [List.nodup_cons] at hn
    have hx : x ∈ U := hs x List.mem_cons_self
    have h := len_le_of_sub l (U.erase x) hn.2 fun y hy => (List.mem_erase_of_ne (fun e => hn.1 (by rw [← e]; exact hy))).mpr (hs y (List.mem_cons_of_mem _ hy))
    rw [List.length_erase_of_mem hx] at h
    have : 0 < U.length := List.length_pos_of_mem hx
    rw [List.length_cons]
    omega
section
variable {P : Program} {w : World} {A : Around} {E : Value → Shared → Prop} {s : Shared}
abbrev freshSet (w : World) : Obj := { cls := .type "set", dict := none, data := .set #[] 0 (.fresh 0 0 (!w.params.followText "set-order")) }
theorem Sq.new {h : Heap} {a : Addr} (ho : h.get? a = some (freshSet w)) : Sq P w h a [] #[] 0 (.fresh 0 0 (!w.params.followText "set-order")) := by
  refine { obj := ⟨_, ho, ⟨rfl, rfl, rfl⟩, rfl⟩, rows := rfl, tab := ⟨.nil, rfl, rfl, .inl rfl, (fun _ z => nomatch z), fun _ _ _ z => by simp at z⟩, apart := .nil, keys := (fun _ z => nomatch z), plain := rfl, led := ?_, room := by show 0 < 21; decide }
  show _ ∨ (!w.params.followText "set-order") = true
  cases w.params.followText "set-order"
  · exact .inr rfl
  · exact .inl rfl
theorem Sq.stay {h h' : Heap} {a : Addr} {L : List (Addr × List Int)} {es : Array (Int × Value)} {ep : Nat} {t : SetTable} (R : Sq P w h a L es ep t) (ha : ∀ o, h.get? a = some o → h'.get? a = some o) (hk : ∀ p ∈ L, IsT P w h' p.2 p.1) : Sq P w h' a L es ep t :=
  let ⟨o, ho, r⟩ := R.obj
  { R with obj := ⟨o, ha o ho, r⟩, keys := hk }
/-- the body of set.__init__: the object is a fresh set, the argument neither a set nor a dict -/
theorem init_body {P : Program} {w : World} {A : Around} {E : Value → Shared → Prop} {hp : Heap} {gs : Array GenState} {dr : Drawn} {tk : Nat} {os : OsState} {S l : Addr} {T : String} {od : Option Addr} {oda : Data} {osl : Array (Option Value)} {Q : PySem.Fin → Shared → Prop}
    (hS : hp.get? S = some (freshSet w)) (hl : hp.get? l = some { cls := .type T, dict := od, data := oda, slots := osl }) (g1 : isSubtype (.type T) (.type "set") = pure false) (g2 : isSubtype (.type T) (.type "frozenset") = pure false)
    (g3 : (Value.type T == Value.type "dict") = false) (h : wpAny (model P w) A (pyIter (.ref l)) (fun it s' => wpAny (model P w) A (runValue (.builtin "set.update.loop" ⟨[.ref S, it], []⟩)) (fun _ s2 => Q (.done (.ret .none)) s2) E s') E ⟨hp, gs, dr, tk, os⟩) :
    wpAny (model P w) A (Builtin.«set.__init__» ⟨[.ref S, .ref l], []⟩) Q E ⟨hp, gs, dr, tk, os⟩ := by
  unfold Builtin.«set.__init__» noKeywords Builtin.Frozenset.updateFrom
  generalize iterName : pyIter = PI at h ⊢
  wp_walk
  refine wpAny_mono h (fun it s' h' => ?_) fun _ _ x => x
  refine wpAny_bind (wpAny_mono h' (fun _ s2 h2 => ?_) fun _ _ x => x)
  exact wpAny_pure (wpAny_pure h2)
/-- the call of set with one argument, down to the body of set.__init__ -/
theorem set_new {P : Program} {w : World} {A : Around} {E : Value → Shared → Prop} {s : Shared} {l : Addr} {Q : Value → Shared → Prop}
    (h : wpAny (model P w) A.in1.in1 (Builtin.«set.__init__» ⟨[.ref s.heap.objs.size, .ref l], []⟩) (fun fin s2 => fin = .done (.ret .none) ∧ Q (.ref s.heap.objs.size) s2) E { s with heap := s.heap.push (freshSet w) }) :
    wpAny (model P w) A (call (.type "set") [.ref l]) Q E s := by
  obtain ⟨c, tl, mro⟩ := F.called_set.mro
  have f1 := F.called_set.made
  have f2 := F.called_set.sub
  have f3 := F.called_set.notType
  have f4 := F.called_set.canCreate
  have f5 := F.typeCall_set_1 (.ref l)
  refine wpAny_call (codeAny_of_tree ?_)
  show wpAny _ _ (callAny (.type "set") _) _ _ _
  refine wpAny_pure ⟨Code.quiet_builtin _ (by decide +kernel), codeAny_builtin F.entry_type_call ?_⟩
  rw [Around.under_plain (weight_type_call_type "set" [.ref l] []) rfl]
  repeat (any_goals (first | assumption | wp_step))
  refine codeAny_mono (code_set_led1 (.ref l) (E := E) (Q₁ := fun obj s₁ => obj = .ref s.heap.objs.size ∧ s₁ = { s with heap := s.heap.push (freshSet w) }) ⟨rfl, rfl⟩) fun r s₁ hr => ?_
  cases r with
  | error e => exact hr
  | ok fl =>
    cases fl with
    | ret obj =>
      obtain ⟨rfl, rfl⟩ := hr
      have hS : (s.heap.push (freshSet w)).get? s.heap.objs.size = some (freshSet w) := Heap.get?_push_size _ rfl
      have hT : Shared.TypeIs { s with heap := s.heap.push (freshSet w) } (.ref s.heap.objs.size) "set" := ⟨_, hS, rfl⟩
      have f6 := F.called_set.init.lookup
      have f7 := F.called_set.init.bind (.ref s.heap.objs.size)
      repeat (any_goals (first | assumption | wp_step))
      refine codeAny_mono (codeAny_call_builtin (R := wants (fun r s₂ => r = .none ∧ Q (.ref s.heap.objs.size) s₂) E) F.called_set.init.plain F.entry_set_init (check_set_init_1 hT ?_)) fun r₂ s₂ hr₂ => ?_
      · refine wpAny_mono h (fun fin s2 h2 => ?_) fun _ _ x => x
        obtain ⟨rfl, h2⟩ := h2
        exact ⟨rfl, h2⟩
      · cases r₂ with
        | error e => exact hr₂
        | ok fl₂ =>
          cases fl₂ with
          | ret r =>
            obtain ⟨rfl, h2⟩ := hr₂
            repeat (any_goals (first | assumption | wp_step))
          | _ => exact hr₂.elim
    | _ => exact hr.elim
/-- the items go in, one behind the other -/
theorem set_loop {I : Addr} {fp wr : List Addr} {G : Array GenState → Array GenState → Prop} {n : Nat} {Pv : Nat → Value → Prop} {St : Nat → Shared → Prop} {R : Result → Shared → Prop} (W : WalksS P w A.in1 I fp wr G n Pv St) (a : Addr) (out : a ∉ fp)
    (ks : List (Addr × List Int)) (U : List (List Int)) (hU : U.length ≤ 75) (hks : ∀ p ∈ ks, p.2 ∈ U) (hval : ∀ i v, Pv i v → ∃ p, ks[i]? = some p ∧ v = .ref p.1) (h0 : Heap) (hk : ∀ p ∈ ks, IsT P w h0 p.2 p.1) (ha0 : h0.get? a = none) (hw0 : ∀ b ∈ wr, h0.get? b = none)
    (hu : A.in1.units < cLine) (left : Nat) : ∀ (i : Nat) (s : Shared) (L : List (Addr × List Int)) (es : Array (Int × Value)) (ep : Nat) (t : SetTable), i + left = n → St i s → (∀ b o, h0.get? b = some o → s.heap.get? b = some o) → Sq P w s.heap a L es ep t → Has ks i L →
      (∀ s' L es ep t, Moved (a :: wr) G s s' → Sq P w s'.heap a L es ep t → Has ks n L → (∀ b o, h0.get? b = some o → s'.heap.get? b = some o) → R (.ok (.ret .none)) s') →
      codeAny (model P w) A (.builtin "set.update.loop" ⟨[.ref a, .ref I], []⟩) R s := by
  have aw : a ∉ wr := fun z => out (W.sub _ z)
  have up : ∀ b ∈ wr, b ∈ a :: wr := fun b hb => List.mem_cons_of_mem _ hb
  have kept : ∀ {s s' : Shared}, Moved wr G s s' → (∀ b o, h0.get? b = some o → s.heap.get? b = some o) → ∀ b o, h0.get? b = some o → s'.heap.get? b = some o := fun mv k b o e =>
    mv.heap b o (fun hb => by have := hw0 b hb; rw [e] at this; cases this) (k b o e)
  induction left with
  | zero =>
    intro i s L es ep t hi hst k S g hR
    obtain rfl : i = n := hi
    refine codeAny_builtin F.entry_set_update_loop ?_
    rw [Around.under_plainId F.plain_set_update_loop _]
    show wpAny _ A.in1 (pyNext (.ref I) >>= _) _ _ s
    refine wpAny_bind (W.done s _ _ hst fun s' mv => ?_)
    have k' := kept mv k
    show wpAny _ A.in1 (PySem.ret Value.none) _ _ s'
    exact wpAny_pure (hR s' L es ep t (mv.mono up) (S.stay (fun o e => mv.heap a o aw e) fun p hp => isT_keep (hk p (g.from' p hp)) k') g k')
  | succ left ih =>
    intro i s L es ep t hi hst k S g hR
    refine codeAny_builtin F.entry_set_update_loop ?_
    rw [Around.under_plainId F.plain_set_update_loop _]
    show wpAny _ A.in1 (pyNext (.ref I) >>= _) _ _ s
    refine wpAny_bind (W.item i s _ _ (by omega) hst fun v s' hP hst' mv => ?_)
    obtain ⟨p, hp, rfl⟩ := hval i v hP
    have k' := kept mv k
    have S' : Sq P w s'.heap a L es ep t := S.stay (fun o e => mv.heap a o aw e) fun q hq => isT_keep (hk q (g.from' q hq)) k'
    have pm : p ∈ ks := List.mem_of_getElem? hp
    have hx : IsT P w s'.heap p.2 p.1 := isT_keep (hk p pm) k'
    have few : L.length ≤ 75 := by
      have := len_le_of_sub (L.map (·.2)) U S.apart fun y hy => by
        obtain ⟨q, hq, rfl⟩ := List.mem_map.mp hy
        exact hks q (g.from' q hq)
      rw [List.length_map] at this
      omega
    show wpAny _ A.in1 (holding [Value.ref p.1] (setAdd a (.ref p.1)) >>= _) _ _ s'
    refine wpAny_bind (wpAny_holding ?_)
    unfold setAdd
    refine wpAny_holding (wpAny_bind (wpAny_pyHash_tuple hu hx ?_))
    refine Sq.add (s := { s' with toks := s'.toks + (p.2.length + 1) }) S' hx hu (by omega) fun b h' L' es' ep' t' sb S2 either => ?_
    have sa : ∀ b, b ≠ a → h'.get? b = s'.heap.get? b := sb.2
    have g' : Has ks (i + 1) L' := by
      have old : ∀ j q, j < i + 1 → ks[j]? = some q → q.2 ∈ L.map (·.2) ∨ q = p := fun j q hj hq => by
        by_cases e : j = i
        · subst e
          rw [hp] at hq
          exact .inr (Option.some.inj hq).symm
        · exact .inl (g.all j q (by omega) hq)
      rcases either with ⟨hm, rfl⟩ | ⟨_, pp⟩
      · exact ⟨g.from', fun j q hj hq => (old j q hj hq).elim id fun e => by rw [e]; exact hm⟩
      · refine ⟨fun q hq => (List.mem_cons.mp (pp.mem_iff.mp hq)).elim (fun e => by rw [e]; exact pm) (g.from' q), fun j q hj hq => (pp.map (·.2)).mem_iff.mpr ?_⟩
        rcases old j q hj hq with m | rfl
        · exact List.mem_cons_of_mem _ m
        · exact List.mem_cons_self
    have k2 : ∀ b o, h0.get? b = some o → h'.get? b = some o := fun b o e => (sa b (fun z => by rw [z, ha0] at e; cases e)).trans (k' b o e)
    have hst2 : St (i + 1) { s' with heap := h', toks := s'.toks + (p.2.length + 1) } := W.frame _ s' h' _ hst' (Nat.le_add_right _ _) fun b hb o e => (sa b fun z => out (z ▸ hb)).trans e
    refine wpAny_pure ⟨plainId_quiet F.plain_set_update_loop _, ih (i + 1) _ L' es' ep' t' (by omega) hst2 k2 S2 g' fun s'' L2 es2 ep2 t2 mv2 S3 g3 k3 => ?_⟩
    refine hR s'' L2 es2 ep2 t2 (Moved.trans W.gtrans ((mv.mono up).then_heap (Nat.le_add_right _ _) fun b o hb e => ?_) mv2) S3 g3 k3
    exact (sa b fun z => hb (by rw [z]; exact List.mem_cons_self)).trans e

/-- set(a list) -/
theorem set_of_list {l : Addr} {items : Array Value} (ks : List (Addr × List Int)) (U : List (List Int)) {Q : Value → Shared → Prop} (hh : A.handled = none) (hl : s.heap.IsList l items) (hit : items.toList = ks.map fun p => Value.ref p.1) (hk : ∀ p ∈ ks, IsT P w s.heap p.2 p.1)
    (hU : U.length ≤ 75) (hks : ∀ p ∈ ks, p.2 ∈ U) (hu : A.units + 3 < cLine)
    (h : ∀ (h' : Heap) (tk : Nat) L es ep t, Sq P w h' s.heap.objs.size L es ep t → Has ks ks.length L → (∀ b o, s.heap.get? b = some o → h'.get? b = some o) → Q (.ref s.heap.objs.size) { s with heap := h', toks := tk }) : wpAny (model P w) A (call (.type "set") [.ref l]) Q E s := by
  have hn : items.size = ks.length := by rw [← Array.length_toList, hit, List.length_map]
  refine set_new ?_
  have hS : (s.heap.push (freshSet w)).get? s.heap.objs.size = some (freshSet w) := Heap.get?_push_size _ rfl
  obtain ⟨ol, hol, hcl, nl, hdl⟩ := hl
  obtain ⟨oc, od, oda, osl⟩ := ol
  simp only at hcl hdl
  subst hcl hdl
  have there : (s.heap.push (freshSet w)).get? l = some { cls := .type "list", dict := od, data := .seq items nl, slots := osl } := Heap.get?_push_of_some _ hol
  have seq1 : (s.heap.push (freshSet w)).IsList l items := ⟨_, there, rfl, nl, rfl⟩
  have llt : l < s.heap.objs.size := Heap.lt_size hol
  have nothing : ∀ b, s.heap.objs.size ≤ b → s.heap.get? b = none := fun b hb => by
    cases q : s.heap.get? b with
    | none => rfl
    | some o => exact absurd (Nat.lt_of_lt_of_le (Heap.lt_size q) hb) (Nat.lt_irrefl _)
  refine init_body hS there F.sub_list_set F.sub_list_frozenset (by decide) (wpAny_pyIter_list seq1 (wpAny_runValue ?_))
  have h3 : A.in1.in1.in1.handled = none := by simp [hh]
  have far : l ≠ (s.heap.push (freshSet w)).objs.size := by
    rw [Heap.size_push]
    exact Nat.ne_of_lt (Nat.lt_succ_of_lt llt)
  have outside : s.heap.objs.size ∉ [(s.heap.push (freshSet w)).objs.size, l] := by
    rw [Heap.size_push]
    simp only [List.mem_cons, List.not_mem_nil, or_false, not_or]
    exact ⟨Nat.ne_of_lt (Nat.lt_succ_self _), Nat.ne_of_gt llt⟩
  have hval : ∀ (i : Nat) (v : Value), items[i]? = some v → ∃ p, ks[i]? = some p ∧ v = .ref p.1 := fun i v hv => by
    rw [← Array.getElem?_toList, hit, List.getElem?_map] at hv
    obtain ⟨p, hp, e⟩ := Option.map_eq_some_iff.mp hv
    exact ⟨p, hp, e.symm⟩
  refine set_loop ((Walks.list h3 _ l far items).toS) s.heap.objs.size outside ks U hU hks hval s.heap hk (nothing _ (Nat.le_refl _)) (fun b hb => nothing b (by rw [List.mem_singleton.mp hb, Heap.size_push]; exact Nat.le_succ _)) hu items.size 0 _ [] #[] 0 _ (Nat.zero_add _)
    ⟨⟨_, Heap.get?_push_size _ rfl, rfl, rfl⟩, (seq1.push _)⟩ (fun b o e => Heap.get?_push_of_some _ (Heap.get?_push_of_some _ e)) (Sq.new (Heap.get?_push_of_some _ hS)) ⟨(fun _ z => nomatch z), fun _ _ z => absurd z (Nat.not_lt_zero _)⟩ ?fin
  case fin =>
    intro s' L es ep t mv S g k
    obtain ⟨h', gs, dr, tk, os⟩ := s'
    obtain rfl : gs = s.gens := mv.gens
    obtain rfl : dr = s.drawn := mv.drawn
    obtain rfl : os = s.os := mv.os
    rw [hn] at g
    exact ⟨rfl, h h' tk L es ep t S g k⟩

/-- set(a tuple) -/
theorem set_of_tuple {l : Addr} {items : Array Value} (ks : List (Addr × List Int)) (U : List (List Int)) {Q : Value → Shared → Prop} (hh : A.handled = none) (hl : s.heap.IsTuple l items) (hit : items.toList = ks.map fun p => Value.ref p.1) (hk : ∀ p ∈ ks, IsT P w s.heap p.2 p.1)
    (hU : U.length ≤ 75) (hks : ∀ p ∈ ks, p.2 ∈ U) (hu : A.units + 3 < cLine)
    (h : ∀ (h' : Heap) (tk : Nat) L es ep t, Sq P w h' s.heap.objs.size L es ep t → Has ks ks.length L → (∀ b o, s.heap.get? b = some o → h'.get? b = some o) → Q (.ref s.heap.objs.size) { s with heap := h', toks := tk }) : wpAny (model P w) A (call (.type "set") [.ref l]) Q E s := by
  have hn : items.size = ks.length := by rw [← Array.length_toList, hit, List.length_map]
  refine set_new ?_
  have hS : (s.heap.push (freshSet w)).get? s.heap.objs.size = some (freshSet w) := Heap.get?_push_size _ rfl
  obtain ⟨ol, hol, hcl, nl, hdl⟩ := hl
  obtain ⟨oc, od, oda, osl⟩ := ol
  simp only at hcl hdl
  subst hcl hdl
  have there : (s.heap.push (freshSet w)).get? l = some { cls := .type "tuple", dict := od, data := .seq items nl, slots := osl } := Heap.get?_push_of_some _ hol
  have seq1 : (s.heap.push (freshSet w)).IsTuple l items := ⟨_, there, rfl, nl, rfl⟩
  have llt : l < s.heap.objs.size := Heap.lt_size hol
  have nothing : ∀ b, s.heap.objs.size ≤ b → s.heap.get? b = none := fun b hb => by
    cases q : s.heap.get? b with
    | none => rfl
    | some o => exact absurd (Nat.lt_of_lt_of_le (Heap.lt_size q) hb) (Nat.lt_irrefl _)
  refine init_body hS there F.sub_tuple_set F.sub_tuple_frozenset (by decide) (wpAny_pyIter_tuple seq1 (wpAny_runValue ?_))
  have h3 : A.in1.in1.in1.handled = none := by simp [hh]
  have far : l ≠ (s.heap.push (freshSet w)).objs.size := by
    rw [Heap.size_push]
    exact Nat.ne_of_lt (Nat.lt_succ_of_lt llt)
  have outside : s.heap.objs.size ∉ [(s.heap.push (freshSet w)).objs.size, l] := by
    rw [Heap.size_push]
    simp only [List.mem_cons, List.not_mem_nil, or_false, not_or]
    exact ⟨Nat.ne_of_lt (Nat.lt_succ_self _), Nat.ne_of_gt llt⟩
  have hval : ∀ (i : Nat) (v : Value), items[i]? = some v → ∃ p, ks[i]? = some p ∧ v = .ref p.1 := fun i v hv => by
    rw [← Array.getElem?_toList, hit, List.getElem?_map] at hv
    obtain ⟨p, hp, e⟩ := Option.map_eq_some_iff.mp hv
    exact ⟨p, hp, e.symm⟩
  refine set_loop ((Walks.tuple h3 _ l far items).toS) s.heap.objs.size outside ks U hU hks hval s.heap hk (nothing _ (Nat.le_refl _)) (fun b hb => nothing b (by rw [List.mem_singleton.mp hb, Heap.size_push]; exact Nat.le_succ _)) hu items.size 0 _ [] #[] 0 _ (Nat.zero_add _)
    ⟨⟨_, Heap.get?_push_size _ rfl, rfl, rfl⟩, (seq1.push _)⟩ (fun b o e => Heap.get?_push_of_some _ (Heap.get?_push_of_some _ e)) (Sq.new (Heap.get?_push_of_some _ hS)) ⟨(fun _ z => nomatch z), fun _ _ z => absurd z (Nat.not_lt_zero _)⟩ ?fin
  case fin =>
    intro s' L es ep t mv S g k
    obtain ⟨h', gs, dr, tk, os⟩ := s'
    obtain rfl : gs = s.gens := mv.gens
    obtain rfl : dr = s.drawn := mv.drawn
    obtain rfl : os = s.os := mv.os
    rw [hn] at g
    exact ⟨rfl, h h' tk L es ep t S g k⟩
end
end Pg
set_option Elab.async false
set_option linter.all false
set_option maxRecDepth 100000
set_option maxHeartbeats 1000000
/-! Pages, part S: sorted(set(x)), x a list or tuple of pairs of ints in the box. -/
namespace Pg
open PySem PySem.Spec PyProof.Rows L2

/-! ### the pairs, each once, in order -/
def ltP (p q : Int × Int) : Prop := p.1 < q.1 ∨ (p.1 = q.1 ∧ p.2 < q.2)
def leP (p q : Int × Int) : Bool := decide (p.1 < q.1 ∨ (p.1 = q.1 ∧ p.2 ≤ q.2))
def srtP (l : List (Int × Int)) : List (Int × Int) := l.mergeSort leP
def onceP : List (Int × Int) → List (Int × Int)
  | [] => []
  | x :: l => if x ∈ l then onceP l else x :: onceP l
theorem mem_once {x : Int × Int} : ∀ {l : List (Int × Int)}, x ∈ onceP l ↔ x ∈ l
  | [] => Iff.rfl
  | y :: l => by
    unfold onceP
    split
    · rename_i h
      rw [mem_once, List.mem_cons]
      exact ⟨.inr, fun z => z.elim (fun e => e ▸ h) id⟩
    · rw [List.mem_cons, List.mem_cons, mem_once]
theorem once_nodup : ∀ (l : List (Int × Int)), (onceP l).Nodup
  | [] => .nil
  | y :: l => by
    unfold onceP
    split
    · exact once_nodup l
    · rename_i h
      exact List.nodup_cons.mpr ⟨fun m => h (mem_once.mp m), once_nodup l⟩
theorem leP_trans (a b c : Int × Int) (h1 : leP a b = true) (h2 : leP b c = true) : leP a c = true := by
  simp only [leP, decide_eq_true_eq] at *
  omega
theorem leP_total (a b : Int × Int) : (leP a b || leP b a) = true := by
  simp only [leP, Bool.or_eq_true, decide_eq_true_eq]
  omega
theorem strict_of {l : List (Int × Int)} (h : l.Pairwise fun a b => leP a b = true) (n : l.Nodup) : l.Pairwise ltP := by
  refine (h.and n).imp fun {a b} q => ?_
  obtain ⟨q1, q2⟩ := q
  simp only [leP, decide_eq_true_eq] at q1
  unfold ltP
  rcases q1 with q1 | ⟨q1, q3⟩
  · exact .inl q1
  · refine .inr ⟨q1, ?_⟩
    have : a.2 ≠ b.2 := fun e => q2 (Prod.ext q1 e)
    omega
theorem srtP_perm (l : List (Int × Int)) : (srtP l).Perm l := List.mergeSort_perm l leP
theorem srtP_strict {l : List (Int × Int)} (n : l.Nodup) : (srtP l).Pairwise ltP := strict_of (List.pairwise_mergeSort leP_trans leP_total l) ((srtP_perm l).nodup_iff.mpr n)
theorem ltP_irrefl {p : Int × Int} : ¬ ltP p p := fun h => by
  unfold ltP at h
  omega
theorem ltP_asymm {p q : Int × Int} (h : ltP p q) : ¬ ltP q p := fun h' => by
  unfold ltP at h h'
  omega
theorem strict_unique : ∀ {l m : List (Int × Int)}, l.Pairwise ltP → m.Pairwise ltP → (∀ x, x ∈ l ↔ x ∈ m) → l = m
  | [], [], _, _, _ => rfl
  | [], y :: m, _, _, h => nomatch (h y).mpr List.mem_cons_self
  | x :: l, [], _, _, h => nomatch (h x).mp List.mem_cons_self
  | x :: l, y :: m, hl, hm, h => by
    rw [List.pairwise_cons] at hl hm
    have e : x = y := by
      rcases List.mem_cons.mp ((h x).mp List.mem_cons_self) with e | hx
      · exact e
      · rcases List.mem_cons.mp ((h y).mpr List.mem_cons_self) with e | hy
        · exact e.symm
        · exact (ltP_asymm (hl.1 y hy) (hm.1 x hx)).elim
    subst e
    rw [strict_unique hl.2 hm.2 fun z => ⟨fun hz => ?_, fun hz => ?_⟩]
    · rcases List.mem_cons.mp ((h z).mp (List.mem_cons_of_mem _ hz)) with e | q
      · exact (ltP_irrefl (e ▸ hl.1 z hz)).elim
      · exact q
    · rcases List.mem_cons.mp ((h z).mpr (List.mem_cons_of_mem _ hz)) with e | q
      · exact (ltP_irrefl (e ▸ hm.1 z hz)).elim
      · exact q
def sortOnce (l : List (Int × Int)) : List (Int × Int) := srtP (onceP l)
theorem sortOnce_strict (l : List (Int × Int)) : (sortOnce l).Pairwise ltP := srtP_strict (once_nodup l)
theorem mem_sortOnce {l : List (Int × Int)} {x : Int × Int} : x ∈ sortOnce l ↔ x ∈ l := (srtP_perm _).mem_iff.trans mem_once

/-! ### the set, as an object -/
structure Sq0 (P : Program) (w : World) (h : Heap) (a : Addr) (L : List (Addr × List Int)) : Prop where
  ex : ∃ (es : Array (Int × Value)) (ep : Nat) (t : SetTable), ∀ h', (∀ o, h.get? a = some o → h'.get? a = some o) → (∀ p ∈ L, IsT P w h' p.2 p.1) → Sq P w h' a L es ep t
  there : ∃ o, h.get? a = some o
def SqO (P : Program) (w : World) (a : Addr) (L : List (Addr × List Int)) : HO := .ext fun h => Sq0 P w h a L
section
variable {P : Program} {w : World}
theorem Sq.bare {h : Heap} {a : Addr} {L : List (Addr × List Int)} {es : Array (Int × Value)} {ep : Nat} {t : SetTable} (R : Sq P w h a L es ep t) : Sq0 P w h a L :=
  ⟨⟨es, ep, t, fun h' k hk => R.stay k hk⟩, let ⟨o, ho, _⟩ := R.obj; ⟨o, ho⟩⟩
theorem Sq0.ok {H : Hp} {h : Heap} {a : Addr} {L : List (Addr × List Int)} (R : Sq0 P w h a L) : ObjOk P w H h a (SqO P w a L) := by
  refine ⟨R, R.there, fun h1 h2 R1 k => ?_⟩
  obtain ⟨⟨es, ep, t, q⟩, o, ho⟩ := R1
  exact ⟨⟨es, ep, t, fun h' k' => q h' fun o e => k' o (k o e)⟩, o, k o ho⟩
end
section
variable {X : Cx}
theorem isT_of {pins : List (Addr × Obj)} {σ : L2.St} {H : Hp} {s : Shared} {b : Addr} {k : List Int} (I : Inv X pins σ H s) (h : H b = some (.tup (k.map V.int))) : IsT X.prog X.w s.heap k b := I.isT (SqT.of h)
def rSetV (P : Program) (w : World) : List V → Hp → VK → Prop := fun us H Q => ∃ (l : Addr) (ks : List (Addr × List Int)) (U : List (List Int)), us = [.ref l] ∧ (H l = some (.lst (ks.map fun p => V.ref p.1)) ∨ H l = some (.tup (ks.map fun p => V.ref p.1))) ∧
  (∀ p ∈ ks, H p.1 = some (.tup (p.2.map V.int))) ∧ U.length ≤ 75 ∧ (∀ p ∈ ks, p.2 ∈ U) ∧ ∀ a L, H a = none → (∀ p ∈ L, p ∈ ks) → (∀ p ∈ ks, p.2 ∈ L.map (·.2)) → (L.map (·.2)).Nodup → Q (.ref a) (upd H a (SqO P w a L))
theorem call_setV (hu : X.A.units + 150 < cLine) (hc : X.calm = true) : CallR X (.type "set") (rSetV X.prog X.w) := by
  intro pins s σ H us vs Q I r q
  obtain ⟨l, ks, U, rfl, hl, hk, hU, hks, q⟩ := q
  obtain ⟨u, rfl, rx⟩ := vals1 r
  obtain rfl : u = .ref l := rx
  have n0 := I.hok.fresh (Nat.le_refl s.heap.objs.size)
  have fin : ∀ (h' : Heap) (tk : Nat) L es ep t, Sq X.prog X.w h' s.heap.objs.size L es ep t → Has ks ks.length L → (∀ b o, s.heap.get? b = some o → h'.get? b = some o) →
      ∃ (v : V) (H' : Hp), Inv X pins σ H' { s with heap := h', toks := tk } ∧ RelV v (.ref s.heap.objs.size) ∧ Q v H' := fun h' tk L es ep t R g k =>
    ⟨.ref s.heap.objs.size, upd H s.heap.objs.size (SqO X.prog X.w s.heap.objs.size L), I.laid (t' := tk) k (Nat.le_refl _) R.bare.ok, rfl, q _ L n0 g.from' (fun p hp => by
      obtain ⟨j, hj⟩ := List.mem_iff_getElem?.mp hp
      exact g.all j p (List.getElem?_eq_some_iff.mp hj).1 hj) R.apart⟩
  rcases hl with hl | hl
  · obtain ⟨its, rv, pl, hz⟩ := I.list (SqL.of (K := X.K) hl)
    exact set_of_list ks U (I.ok.hd hc) pl.isList (by simpa using refs_of_vals rv) (fun p hp => isT_of I (hk p hp)) hU hks (by omega) fin
  · obtain ⟨its, rv, pl, hz⟩ := I.tuple (SqT.of (K := X.K) hl)
    exact set_of_tuple ks U (I.ok.hd hc) pl (by simpa using refs_of_vals rv) (fun p hp => isT_of I (hk p hp)) hU hks (by omega) fin
def pyT (q : Addr × List Int) : PyData := .tuple (q.2.map .int)
theorem pyT_alike (l : List (Addr × List Int)) : PySem.W.AllAlike (l.map pyT) := PySem.W.AllAlike.of fun b b' => by simp [pyT, PySem.W.alike, PySem.W.alike_ints]
def rSortS (P : Program) (w : World) : List V → Hp → VK → Prop := fun us H Q => ∃ (a : Addr) (L : List (Addr × List Int)), us = [.ref a] ∧ H a = some (SqO P w a L) ∧ (∀ p ∈ L, H p.1 = some (.tup (p.2.map V.int)) ∧ p.2 ≠ []) ∧ L.length ≤ 76 ∧
  ∀ (M : List (Addr × List Int)) (p : Addr), M.Perm L → H p = none → Q (.ref p) (upd H p (.lst ((M.mergeSort (PySem.W.dataLe false pyT)).map fun q => V.ref q.1)))
open PySem.W (EachIs) in
theorem call_sortS (hu : X.A.units + 150 < cLine) (hc : X.calm = true) : CallR X (.builtin "sorted") (rSortS X.prog X.w) := by
  intro pins s σ H us vs Q I r q
  obtain ⟨a, L, rfl, ha, hk, hfew, q⟩ := q
  obtain ⟨u, rfl, rx⟩ := vals1 r
  obtain rfl : u = .ref a := rx
  have R0 : Sq0 X.prog X.w s.heap a L := (I.hok a _ ha).1
  obtain ⟨⟨es, ep, t, mk⟩, _⟩ := R0
  have R : Sq X.prog X.w s.heap a L es ep t := mk s.heap (fun _ e => e) fun p hp => isT_of I (hk p hp).1
  obtain ⟨o, ho, hex, hd⟩ := R.obj
  have hz := R.size
  refine Calls.call_function_entry PyProof.Rows.kind_sorted PyProof.Rows.plain_sorted PyProof.Rows.entry_sorted (PyProof.Rows.args_sorted1 _) ?_
  unfold Builtin.«sorted»
  refine wpAny_bind (m := checkCount "sorted" 1 1 _) (wpAny_pure ?_)
  refine wpAny_bind (collect_set (A := X.A.in1) (I.ok.hd hc) ⟨o, ho, hex.1, hd⟩ R.fits (by unfold scanBound; omega) R.tab.ris R.led fun s1 out k1 hsz g1 o1 pm => ?_)
  have hes : es.toList.map (·.2) = L.map fun q => Value.ref q.1 := by
    rw [R.rows, rowsOf, List.map_map]
    rfl
  rw [hes] at pm
  -- what came out, with its keys
  have inj : ∀ p ∈ L, ∀ q ∈ L, p.1 = q.1 → p = q := fun p hp q hq e => by
    have h1 := (hk p hp).1
    rw [e, (hk q hq).1] at h1
    injection h1 with h1
    injection h1 with h1
    refine Prod.ext e ?_
    exact (List.map_inj_right fun _ _ z => by injection z).mp h1.symm
  obtain ⟨M, hM, eM⟩ : ∃ M : List (Addr × List Int), M.Perm L ∧ out = M.map fun q => Value.ref q.1 := by
    have lift : ∀ (out : List Value) (L : List (Addr × List Int)), out.Perm (L.map fun q => Value.ref q.1) → ∃ M : List (Addr × List Int), M.Perm L ∧ out = M.map fun q => Value.ref q.1 := by
      intro out
      induction out with
      | nil =>
        intro L p
        have : L = [] := List.map_eq_nil_iff.mp p.nil_eq.symm
        subst this
        exact ⟨[], .refl _, rfl⟩
      | cons v out ih =>
        intro L p
        obtain ⟨q, hq, e⟩ := List.mem_map.mp (p.mem_iff.mp List.mem_cons_self)
        obtain ⟨l1, l2, rfl⟩ := List.append_of_mem hq
        have p2 : (v :: out).Perm (v :: ((l1 ++ l2).map fun q => Value.ref q.1)) := by
          refine p.trans ?_
          rw [List.map_append, List.map_cons, e, List.map_append]
          exact List.perm_middle
        obtain ⟨M, m1, m2⟩ := ih (l1 ++ l2) (List.Perm.cons_inv p2)
        exact ⟨q :: M, (List.Perm.cons q m1).trans List.perm_middle.symm, by rw [List.map_cons, e, m2]⟩
    exact lift out L pm
  subst eM
  have hlen : M.length ≤ 76 := by rw [hM.length_eq]; exact hfew
  have n1 : H s1.heap.objs.size = none := I.hok.fresh hsz
  refine wpAny_bind (wpAny_newList ?_ (by rw [List.length_map, sizeLine_eq]; omega))
  have hoL : (s1.heap.push (seqObj "list" (M.map fun q => Value.ref q.1).toArray 0)).get? s1.heap.objs.size = some (seqObj "list" (M.map fun q => Value.ref q.1).toArray 0) := Heap.get?_push_size _ rfl
  have reads : ∀ q ∈ M, PySem.Reads (s1.heap.push (seqObj "list" (M.map fun q => Value.ref q.1).toArray 0)) (.ref q.1) (pyT q) [] := fun q hq => by
    obtain ⟨ob, items, n, e1, e2, e3, e4⟩ := isT_of I (hk q (hM.mem_iff.mp hq)).1
    refine .tuple (Heap.get?_push_of_some _ (k1 _ _ e1)) e2 e3 ?_
    have intsR : ∀ {k : List Int} {vs : List Value}, ItemsAre (intKind X.prog X.w) k vs → PySem.ReadsAll (s1.heap.push (seqObj "list" (M.map fun q => Value.ref q.1).toArray 0)) vs (k.map .int) [] := by
      intro k vs r
      induction r with
      | nil => exact .nil
      | @cons k0 v ks vs h1 _ ih =>
        obtain ⟨tk, rfl⟩ := Value.isInt_shape h1
        exact .cons (as := []) (bs := []) (.int _ _) ih
    exact intsR e4
  have E1 : ∀ (M' : List (Addr × List Int)), (∀ q ∈ M', q ∈ M) → EachIs (fun v q => v = Value.ref q.1) (M'.map fun q => Value.ref q.1) M' := by
    intro M'
    induction M' with
    | nil => exact fun _ => .nil
    | cons q M' ih => exact fun h => .cons rfl (ih fun r hr => h r (List.mem_cons_of_mem _ hr))
  have E2 : ∀ (M' : List (Addr × List Int)), (∀ q ∈ M', q ∈ M) → EachIs (fun v q => ∃ as, PySem.Reads (s1.heap.push (seqObj "list" (M.map fun q => Value.ref q.1).toArray 0)) v (pyT q) as ∧ s1.heap.objs.size ∉ as) (M'.map fun q => Value.ref q.1) M' := by
    intro M'
    induction M' with
    | nil => exact fun _ => .nil
    | cons q M' ih => exact fun h => .cons ⟨[], reads q (h q List.mem_cons_self), fun z => nomatch z⟩ (ih fun r hr => h r (List.mem_cons_of_mem _ hr))
  have sortable : PySem.W.Sortable (M.map pyT) := .inl fun d hd => by
    obtain ⟨q, hq, rfl⟩ := List.mem_map.mp hd
    have ne := (hk q (hM.mem_iff.mp hq)).2
    unfold pyT
    cases e : q.2 with
    | nil => exact absurd e ne
    | cons x r => exact ⟨_, _, rfl⟩
  show wpAny _ _ _ _ _ { s1 with heap := s1.heap.push (seqObj "list" (M.map fun q => Value.ref q.1).toArray 0) }
  refine wpAny_bind (wpAny_holding (PySem.W.list_sort_data (s := { s1 with heap := s1.heap.push (seqObj "list" (M.map fun q => Value.ref q.1).toArray 0) }) (R := fun v q => v = Value.ref q.1) (enc := pyT) (bs := M) hoL (E1 M fun _ h => h) (E2 M fun _ h => h) (pyT_alike M) sortable (lim_line (Nat.le_trans hlen (by decide))) (fun b hb => ?_) fun res hres e => ?_))
  · have h0 : (pyT b).depth ≤ 1 := by
      unfold pyT
      rw [PyData.depth, PySem.W.depth_ints]
      exact Nat.le_refl _
    have hin : X.A.in1.units ≤ X.A.units + 1 := by unfold Around.in1; simp
    omega
  · have back : ∀ {res : List Value} {bs : List (Addr × List Int)}, EachIs (fun v q => v = Value.ref q.1) res bs → Vals (bs.map fun q => V.ref q.1) res := by
      intro res bs e
      induction e with
      | nil => exact .nil
      | cons h _ ih => exact .cons h ih
    have hv := back e
    obtain ⟨c, hat⟩ := PyProof.Rows.sortedHeap_at (vs := M.map fun q => Value.ref q.1) (out := res.toArray) hoL
    have kk : ∀ b o, s.heap.get? b = some o → (sortedHeap (s1.heap.push (seqObj "list" (M.map fun q => Value.ref q.1).toArray 0)) s1.heap.objs.size (M.map fun q => Value.ref q.1) res.toArray).get? b = some o := fun b o z => by
      have z1 := k1 b o z
      have lt := Heap.lt_size z1
      rw [PyProof.Rows.sortedHeap_old (Nat.ne_of_lt lt) (by rw [size_push']; exact Nat.lt_succ_of_lt lt)]
      exact Heap.get?_push_of_some _ z1
    have hl : ((M.mergeSort (PySem.W.dataLe false pyT)).map fun q => V.ref q.1).length ≤ sizeLine := by
      rw [List.length_map, List.length_mergeSort, sizeLine_eq]
      omega
    have J : Inv X pins σ (upd H s1.heap.objs.size (.lst ((M.mergeSort (PySem.W.dataLe false pyT)).map fun q => V.ref q.1))) { s1 with heap := sortedHeap (s1.heap.push (seqObj "list" (M.map fun q => Value.ref q.1).toArray 0)) s1.heap.objs.size (M.map fun q => Value.ref q.1) res.toArray } :=
      I.call' (ch := []) o1 (Un.laid kk hsz n1) (I.hok.laid kk hsz ⟨hl, res, c, hv, hat⟩) (by rw [g1]; exact I.bare) fun _ z => nomatch z
    exact wpAny_pure ⟨_, rfl, .ref s1.heap.objs.size, _, J, rfl, q M _ hM n1⟩
/-- pairs of ints -/
def prI? : List D → Option (List (Int × Int))
  | [] => some []
  | .tup [.int a, .int b] :: r => (prI? r).map ((a, b) :: ·)
  | _ => none
def dPair (p : Int × Int) : D := .tup [.int p.1, .int p.2]
def rowP (p : Int × Int) : List Int := [p.1, p.2]
theorem prI?_eq : ∀ {ds : List D} {ps : List (Int × Int)}, prI? ds = some ps → ds = ps.map dPair
  | [], _, h => by cases h; rfl
  | d :: ds, _, h => by
    unfold prI? at h
    split at h
    · rename_i z; cases z
    · rename_i z
      cases z
      obtain ⟨qs, e, rfl⟩ := map_inv h
      rw [prI?_eq e]
      rfl
    · cases h
theorem prI?_map : ∀ ps : List (Int × Int), prI? (ps.map dPair) = some ps
  | [] => rfl
  | p :: ps => by
    show (prI? (ps.map dPair)).map ((p.1, p.2) :: ·) = _
    rw [prI?_map ps]
    rfl
theorem pairs_run {cs : Gh} {H : Hp} : ∀ {ps : List (Int × Int)} {vs : List V}, Reps cs H vs (ps.map dPair) → ∃ ks : List (Addr × List Int), vs = ks.map (fun p => V.ref p.1) ∧ ks.map (·.2) = ps.map rowP ∧ ∀ p ∈ ks, cs.ok p.1 ∧ H p.1 = some (.tup (p.2.map V.int))
  | [], _, r => by
    cases r
    exact ⟨[], rfl, rfl, fun _ z => nomatch z⟩
  | p :: ps, _, r => by
    cases r with
    | cons r t =>
      obtain ⟨ks, rfl, e, h⟩ := pairs_run t
      have r' : Rep cs H _ (.tup [.int p.1, .int p.2]) := r
      cases r' with
      | @tup q _ _ n hq r =>
        cases r with
        | cons r1 r =>
          cases r with
          | cons r2 r =>
            cases r; cases r1; cases r2
            refine ⟨(q, [p.1, p.2]) :: ks, rfl, by rw [List.map_cons, List.map_cons, e]; rfl, fun x hx => ?_⟩
            rcases List.mem_cons.mp hx with rfl | hx
            · exact ⟨n, hq⟩
            · exact h x hx
/-- sorted(set(x)) -/
def eSS (fx : E) : E := fun ρ s => bnd (fx ρ s) fun d s1 => match d with
  | .lst ds => match prI? ds with
    | some ps => if ps.all inBox then some (.lst ((sortOnce ps).map dPair), s1) else none
    | none => none
  | .tup ds => match prI? ds with
    | some ps => if ps.all inBox then some (.lst ((sortOnce ps).map dPair), s1) else none
    | none => none
  | _ => none
theorem boxRows {ps : List (Int × Int)} (h : ps.all inBox = true) : ∀ r ∈ ps.map rowP, r ∈ boxL.map rowP := fun r hr => by
  obtain ⟨p, hp, rfl⟩ := List.mem_map.mp hr
  exact List.mem_map.mpr ⟨p, mem_box (List.all_eq_true.mp h p hp), rfl⟩
theorem le_py : PySem.W.dataLe false (fun p : Int × Int => PyData.tuple [.int p.1, .int p.2]) = leP := PySem.W.dataLe_ii (fun p : Int × Int => p.1) fun p => p.2
theorem ss_core {X : Cx} {pins : List (Addr × Obj)} {σ : L2.St} {cs : Gh} {H : Hp} {ps : List (Int × Int)} {ks : List (Addr × List Int)} {s1 : D} {Q : VK} {l : Addr} (hs : SOk cs s1 H) (hks : ks.map (·.2) = ps.map rowP) (hk : ∀ p ∈ ks, cs.ok p.1 ∧ H p.1 = some (.tup (p.2.map V.int))) (hb : ps.all inBox = true)
    (hl : H l = some (.lst (ks.map fun p => V.ref p.1)) ∨ H l = some (.tup (ks.map fun p => V.ref p.1))) (q : ∀ v H', Ext cs H H' → SOk cs s1 H' → Rep cs H' v (.lst ((sortOnce ps).map dPair)) → Q v H') :
    rSetV X.prog X.w [.ref l] H fun v H1 => rSortS X.prog X.w [v] H1 Q := by
  refine ⟨l, ks, boxL.map rowP, rfl, hl, fun p hp => (hk p hp).2, by rw [List.length_map]; decide +kernel, fun p hp => boxRows hb p.2 (by rw [← hks]; exact List.mem_map.mpr ⟨p, hp, rfl⟩), fun a L ha hL hall hn => ?_⟩
  have hkeys : ∀ x, x ∈ L.map (·.2) ↔ x ∈ ps.map rowP := fun x => by
    rw [← hks]
    constructor
    · intro hx
      obtain ⟨p, hp, rfl⟩ := List.mem_map.mp hx
      exact List.mem_map.mpr ⟨p, hL p hp, rfl⟩
    · intro hx
      obtain ⟨p, hp, rfl⟩ := List.mem_map.mp hx
      exact hall p hp
  have x1 : Ext cs H (upd H a (SqO X.prog X.w a L)) := .new ha
  have up : ∀ p ∈ L, upd H a (SqO X.prog X.w a L) p.1 = some (.tup (p.2.map V.int)) := fun p hp => by
    rw [upd_ne (ne_of_none (hk p (hL p hp)).2 ha)]
    exact (hk p (hL p hp)).2
  have hlen : L.length ≤ 76 := by
    have h := len_le_of_sub (L.map (·.2)) (boxL.map rowP) hn fun x hx => boxRows hb x ((hkeys x).mp hx)
    rw [List.length_map, List.length_map] at h
    have : boxL.length ≤ 76 := by decide +kernel
    omega
  refine ⟨a, L, rfl, upd_same, fun p hp => ⟨up p hp, fun e => ?_⟩, hlen, fun M p hM hp => ?_⟩
  · obtain ⟨r, _, e2⟩ := List.mem_map.mp ((hkeys p.2).mp (List.mem_map.mpr ⟨p, hp, rfl⟩))
    rw [e] at e2
    cases e2
  · -- the rows, as pairs
    obtain ⟨N, hN⟩ : ∃ N : List (Int × Int), M.map (·.2) = N.map rowP := by
      have go : ∀ l : List (Addr × List Int), (∀ x ∈ l, x.2 ∈ ps.map rowP) → ∃ N : List (Int × Int), l.map (·.2) = N.map rowP := by
        intro l
        induction l with
        | nil => exact fun _ => ⟨[], rfl⟩
        | cons x l ih =>
          intro h
          obtain ⟨N, e⟩ := ih fun y hy => h y (List.mem_cons_of_mem _ hy)
          obtain ⟨r, _, e2⟩ := List.mem_map.mp (h x List.mem_cons_self)
          exact ⟨r :: N, by rw [List.map_cons, List.map_cons, e, e2]⟩
      exact go M fun x hx => (hkeys x.2).mp (List.mem_map.mpr ⟨x, hM.mem_iff.mp hx, rfl⟩)
    have rinj : ∀ a b : Int × Int, rowP a = rowP b → a = b := fun a b e => by
      injection e with e1 e2
      injection e2 with e2 _
      exact Prod.ext e1 e2
    have nN : N.Nodup := by
      have h : (M.map (·.2)).Nodup := (hM.map (·.2)).nodup_iff.mpr hn
      rw [hN] at h
      exact List.Pairwise.of_map rowP (fun _ _ z e => z (congrArg rowP e)) h
    have memN : ∀ x, x ∈ N ↔ x ∈ ps := fun x => by
      have h : rowP x ∈ M.map (·.2) ↔ rowP x ∈ ps.map rowP := ((hM.map (·.2)).mem_iff).trans (hkeys (rowP x))
      rw [hN] at h
      constructor
      · intro hx
        obtain ⟨y, hy, e⟩ := List.mem_map.mp (h.mp (List.mem_map.mpr ⟨x, hx, rfl⟩))
        rw [← rinj _ _ e]
        exact hy
      · intro hx
        obtain ⟨y, hy, e⟩ := List.mem_map.mp (h.mpr (List.mem_map.mpr ⟨x, hx, rfl⟩))
        rw [← rinj _ _ e]
        exact hy
    have e1 : (M.mergeSort (PySem.W.dataLe false pyT)).map (·.2) = (srtP N).map rowP := by
      have h1 : (M.mergeSort (PySem.W.dataLe false pyT)).map (·.2) = (M.map (·.2)).mergeSort (PySem.W.dataLe false fun k : List Int => PyData.tuple (k.map .int)) := List.map_mergeSort fun _ _ _ _ => rfl
      have h2 : (srtP N).map rowP = (N.map rowP).mergeSort (PySem.W.dataLe false fun k : List Int => PyData.tuple (k.map .int)) := by
        unfold srtP
        rw [← le_py]
        exact List.map_mergeSort fun _ _ _ _ => rfl
      rw [h1, h2, hN]
    have e2 : srtP N = sortOnce ps := strict_unique (srtP_strict nN) (sortOnce_strict ps) fun x => ((srtP_perm N).mem_iff.trans (memN x)).trans mem_sortOnce.symm
    rw [e2] at e1
    have x2 : Ext cs (upd H a (SqO X.prog X.w a L)) (upd (upd H a (SqO X.prog X.w a L)) p (.lst ((M.mergeSort (PySem.W.dataLe false pyT)).map fun q => V.ref q.1))) := .new hp
    have k1 : SOk cs s1 (upd H a (SqO X.prog X.w a L)) := hs.new ha
    refine q _ _ (x1.trans x2) (k1.new hp) (.lst (k1.fresh hp) upd_same ?_)
    have fin : ∀ (M' : List (Addr × List Int)) (N' : List (Int × Int)), (∀ x ∈ M', x ∈ L) → M'.map (·.2) = N'.map rowP → Reps cs (upd (upd H a (SqO X.prog X.w a L)) p (.lst ((M.mergeSort (PySem.W.dataLe false pyT)).map fun q => V.ref q.1))) (M'.map fun q => V.ref q.1) (N'.map dPair) := by
      intro M'
      induction M' with
      | nil =>
        intro N' _ e
        cases N' with
        | nil => exact .nil
        | cons y N' => cases e
      | cons x M' ih =>
        intro N' h e
        cases N' with
        | nil => cases e
        | cons y N' =>
          rw [List.map_cons, List.map_cons] at e
          injection e with e3 e4
          have hx := h x List.mem_cons_self
          have h5 := x2 _ _ (hk x (hL x hx)).1.2 (up x hx)
          rw [e3] at h5
          exact .cons (.tup (hk x (hL x hx)).1 h5 (.cons (.int _) (.cons (.int _) .nil))) (ih N' (fun z hz => h z (List.mem_cons_of_mem _ hz)) e4)
    exact fin _ _ (fun x hx => hM.mem_iff.mp ((List.mergeSort_perm M (PySem.W.dataLe false pyT)).mem_iff.mp hx)) e1
theorem pd_sortedSet {X : Cx} {x : Expr} {fx : E} {p p2 pos pos2 : Pos} (hu : X.A.units + 150 < cLine) (hc : X.calm = true) (hg : Gl X "sorted") (hm : X.mg "sorted" = none) (hg2 : Gl X "set") (hm2 : X.mg "set" = none) (hx : PD X x fx)
    (he : starEach [.Call (.Name "set" p2) [x] [] pos2] X.env = (false, eval (.Call (.Name "set" p2) [x] [] pos2) X.env) :: starEach [] X.env := by rfl) (hpl : (backTo pos (starEach [] X.env)).any (·.1) = false := by rfl)
    (he2 : starEach [x] X.env = (false, eval x X.env) :: starEach [] X.env := by rfl) (hpl2 : (backTo pos2 (starEach [] X.env)).any (·.1) = false := by rfl) :
    PD X (.Call (.Name "sorted" p) [.Call (.Name "set" p2) [x] [] pos2] [] pos) (eSS fx) := by
  obtain ⟨t, hx, g⟩ := hx
  refine ⟨_, pe_callB (call_sortS hu hc) hg hm (by decide +kernel) (pa_cons (pe_callTy (call_setV hu hc) hg2 hm2 (by decide +kernel) (pa_cons hx pa_nil he2) (by decide) (by decide) he2 hpl2) pa_nil he) (by decide) (by decide) he hpl, fun cs σ H ρ s d s' Q hρ hs hf k => ?_⟩
  obtain ⟨y, s1, e1, hf⟩ := bnd_inv hf
  refine g cs σ H ρ s y s1 _ hρ hs e1 fun v H1 x1 k1 r1 => ?_
  cases y with
  | lst ds =>
    simp only at hf
    cases e2 : prI? ds with
    | none => rw [e2] at hf; cases hf
    | some ps =>
      simp only [e2] at hf
      split at hf
      · rename_i hb
        cases hf
        have e3 := prI?_eq e2
        subst e3
        cases r1 with
        | lst n h r =>
          obtain ⟨ks, rfl, a1, a2⟩ := pairs_run r
          exact ss_core (pins := []) (σ := σ) k1 a1 a2 hb (.inl h) fun v H2 x2 k2 r2 => k v H2 (x1.trans x2) k2 r2
      · cases hf
  | tup ds =>
    simp only at hf
    cases e2 : prI? ds with
    | none => rw [e2] at hf; cases hf
    | some ps =>
      simp only [e2] at hf
      split at hf
      · rename_i hb
        cases hf
        have e3 := prI?_eq e2
        subst e3
        cases r1 with
        | tup n h r =>
          obtain ⟨ks, rfl, a1, a2⟩ := pairs_run r
          exact ss_core (pins := []) (σ := σ) k1 a1 a2 hb (.inr h) fun v H2 x2 k2 r2 => k v H2 (x1.trans x2) k2 r2
      · cases hf
  | _ => cases hf
end
end Pg
set_option Elab.async false
set_option linter.all false
set_option maxRecDepth 100000
set_option maxHeartbeats 0
namespace SPH
open PySem PySem.Spec PyProof.Rows L2
def tp (i : Nat) : Stmt := PySem.Challenge.pw_settlepages_k49_whole_none_papers.main.body.getD i (.Pass ⟨0, 0, 0, 0⟩)
abbrev dd (x : Str) (i : Nat) : He.DefD := ⟨(x, none), x, x, defArgs (tp i), defBody (tp i), defScope (tp i), [], []⟩
def fnA : List He.DefD := [dd "is_whole" 15, dd "fits_sorts" 16, dd "fits_move" 17, dd "fits_routine" 18, dd "need_routine" 19, dd "next_need" 20, dd "with_ends" 21, dd "need_few" 22, dd "led_posts" 23, dd "least_endless" 24, dd "need_rest" 25, dd "need_marks" 28, dd "walk_rows" 29, dd "walk_table" 30, dd "nexts_of" 31, dd "is_hit" 32, dd "reached_with" 33, dd "least_handing" 34, dd "fits_none" 35, dd "handing_stack" 36]
def fnB : List He.DefD := [dd "is_none_paper" 37, dd "none_paper" 38, dd "_law_cup" 40, dd "_law_roll" 41, dd "_law_some" 42, dd "_law_sorts" 43, dd "_law_calm" 44, dd "_law_pair" 46, dd "_law_table" 47, dd "_law_told" 48, dd "_law_led" 49, dd "_law_rests" 50, dd "_law_resting" 52, dd "_law_r" 53, dd "_law_v" 55, dd "_law_moved" 56, dd "_law_is_paper" 57, dd "_law_near" 58, dd "_law_right" 59, dd "law" 60]
def fn : List He.DefD := fnA ++ fnB
def faA : List He.Fa := [.glo "is_whole", .glo "fits_sorts", .glo "fits_move", .glo "fits_routine", .glo "need_routine", .glo "next_need", .glo "with_ends", .glo "need_few", .glo "led_posts", .glo "least_endless", .glo "need_rest", .glo "need_marks", .glo "walk_rows", .glo "walk_table", .glo "nexts_of", .glo "is_hit", .glo "reached_with", .glo "least_handing", .glo "fits_none", .glo "handing_stack"]
def faB : List He.Fa := [.glo "is_none_paper", .glo "none_paper", .glo "_law_cup", .glo "_law_roll", .glo "_law_some", .glo "_law_sorts", .glo "_law_calm", .glo "_law_pair", .glo "_law_table", .glo "_law_told", .glo "_law_led", .glo "_law_rests", .glo "_law_resting", .glo "_law_r", .glo "_law_v", .glo "_law_moved", .glo "_law_is_paper", .glo "_law_near", .glo "_law_right", .glo "law"]
def faC : List He.Fa := [.free "abs", .free "all", .free "any", .free "bool", .free "dict", .free "enumerate", .free "int", .free "isinstance", .free "len", .free "list", .free "range", .free "set", .free "sorted", .free "tuple", .free "zip", .int "POSTS" (6), .int "SORTS" (3), .int "MARKS" (2), .int "BACK" (3), .int "GREATEST" (1000), .int "REST" (-1), .int "MANY" (9), .str "NEVER" "never"]
def fa : List He.Fa := faA ++ (faB ++ faC)
def nmA : List PySem.Str := ["SettleError", "TooMany", "InvalidRoutine", "InvalidMarks", "NeverRests", "POSTS", "SORTS", "MARKS", "BACK", "GREATEST", "REST", "NEVER", "FOREVER", "is_whole", "fits_sorts", "fits_move", "fits_routine", "need_routine", "next_need", "with_ends", "need_few", "led_posts", "least_endless", "need_rest", "MANY", "need_marks", "walk_rows", "walk_table"]
def nmB : List PySem.Str := ["nexts_of", "is_hit", "reached_with", "least_handing", "fits_none", "handing_stack", "is_none_paper", "none_paper", "_law_cup", "_law_roll", "_law_some", "_law_sorts", "_law_calm", "_law_wild", "_law_pair", "_law_table", "_law_told", "_law_led", "_law_rests", "_law_stacks", "_law_resting", "_law_r", "_law_u", "_law_v", "_law_moved", "_law_is_paper", "_law_near", "_law_right"]
def nm : List PySem.Str := nmA ++ nmB
abbrev R : PySem.W.OpenRow := PySem.W.OpenLaw.row PySem.Challenge.rw_settlepages_k49_whole_none_papers
abbrev hk : PySem.W.Hook := He.hookD 4 fa fn
def ob (s : PySem.W.SharedT) : He.AlD := He.obsDG 4 fa fn (HandSHeadRun.getT s)
theorem ob_eq (s : PySem.W.SharedT) : ob s = hk.obs s.abs := He.obsDG_eq (HandSHeadRun.getT_eq s)
theorem run (w : World) : HandSHeadRun.RunEq R (PySem.W.view R.prog [60]) hk ob 3000 nm w := by
  intro os
  kernel_rfl
end SPH
set_option Elab.async false
set_option linter.all false
set_option maxRecDepth 100000
set_option maxHeartbeats 4000000
namespace Pg
open PySem PySem.Spec PyProof.Rows L2
/-- the names that the defs read -/
structure Fx (mg : Str → Option Value) : Prop where
  b_abs : mg "abs" = none
  b_all : mg "all" = none
  b_any : mg "any" = none
  b_bool : mg "bool" = none
  b_dict : mg "dict" = none
  b_enumerate : mg "enumerate" = none
  b_int : mg "int" = none
  b_isinstance : mg "isinstance" = none
  b_len : mg "len" = none
  b_list : mg "list" = none
  b_range : mg "range" = none
  b_set : mg "set" = none
  b_sorted : mg "sorted" = none
  b_tuple : mg "tuple" = none
  b_zip : mg "zip" = none
  g_POSTS : ∃ t, mg "POSTS" = some (.int (6) t)
  g_SORTS : ∃ t, mg "SORTS" = some (.int (3) t)
  g_MARKS : ∃ t, mg "MARKS" = some (.int (2) t)
  g_BACK : ∃ t, mg "BACK" = some (.int (3) t)
  g_GREATEST : ∃ t, mg "GREATEST" = some (.int (1000) t)
  g_REST : ∃ t, mg "REST" = some (.int (-1) t)
  g_MANY : ∃ t, mg "MANY" = some (.int (9) t)
  g_NEVER : ∃ t, mg "NEVER" = some (.str "never" t)
abbrev FnP (K : PySem.W.Frag) (x : Str) (st : Stmt) (f : Addr) (fd : FuncData) : Prop := FunD K x x (defArgs st) (defBody st) (defScope st) [] [] f fd
section
variable {P : Program} {w : World} {K : PySem.W.Frag} {mg : Str → Option Value} {base : Heap} {f : Addr} {fd : FuncData}
/-! ### is_whole -/
abbrev N_is_whole : List Str := ["value", "low", "high"]
theorem sc_is_whole : FnScope N_is_whole ["value", "low", "high"] (defScope (SPH.tp 15)) := ⟨rfl, rfl, rfl, by decide +kernel, rfl, by decide +kernel, by decide +kernel⟩
noncomputable def g_is_whole : ES :=
  (sRet (eAnd (eIsi qInt (eVar 0)) (eAnd (eNot (eIsi qBool (eVar 0))) (eChain rLe rLe (eVar 1) (eVar 0) (eVar 2)))))
noncomputable def F_is_whole : Fn := defF 3 3 g_is_whole
theorem w_is_whole (fx : Fx mg) (F0 : FnP K "is_whole" (SPH.tp 15) f fd) (hm : mg "is_whole" = some (.ref f))  : DefOk P w K mg base "is_whole" 1 3 F_is_whole := by
  refine def_ok (N := N_is_whole) (ps := ["value", "low", "high"]) (k := 0) (g := g_is_whole) F0 hm sc_is_whole (F0.bindsN fun _ _ _ _ _ _ us hl => match us, hl with | [_, _, _], _ => rfl) fun cdv A outer s H E hr => ?_
  have hu := hu_room (X := (cxOf CX0 P w K mg base N_is_whole "is_whole" (defScope (SPH.tp 15)) f cdv A outer s H E).nox) hr
  exact (pssd_one (psd_ret (pd_and (pd_isiI rfl fx.b_isinstance rfl fx.b_int (pd_var (pv 0))) (pd_and (pd_not (pd_isiB rfl fx.b_isinstance rfl fx.b_bool (pd_var (pv 0)))) (pd_one (pd_chain od_le od_le (pd_var (pv 1)) (pd_var (pv 0)) (pd_var (pv 2))))))))

/-! ### fits_sorts -/
abbrev N_fits_sorts : List Str := ["value", "most", "item"]
theorem sc_fits_sorts : FnScope N_fits_sorts ["value", "most"] (defScope (SPH.tp 16)) := ⟨rfl, rfl, rfl, by decide +kernel, rfl, by decide +kernel, by decide +kernel⟩
noncomputable def e1_fits_sorts : E :=
  (eCall 3 F_is_whole (aCons (eVar 2) (aCons (eC (.int 0)) (aCons (eOp rSub (eC (.int 3)) (eC (.int 1))) aNil))))
noncomputable def g_fits_sorts : ES :=
  (sRet (eAnd (eIsi qTup (eVar 0)) (eAnd (eOp rLe (eCB rLen2 (aCons (eVar 0) aNil)) (eVar 1)) (eCB rAll (aCons (eLc (iSeq (eVar 0)) (tName 2) bYes e1_fits_sorts [2]) aNil)))))
noncomputable def F_fits_sorts : Fn := defF 3 2 g_fits_sorts
theorem w_fits_sorts (fx : Fx mg) (F0 : FnP K "fits_sorts" (SPH.tp 16) f fd) (hm : mg "fits_sorts" = some (.ref f)) (c_is_whole : DefOk P w K mg base "is_whole" 1 3 F_is_whole) : DefOk P w K mg base "fits_sorts" 2 2 F_fits_sorts := by
  refine def_ok (N := N_fits_sorts) (ps := ["value", "most"]) (k := 1) (g := g_fits_sorts) F0 hm sc_fits_sorts (F0.bindsN fun _ _ _ _ _ _ us hl => match us, hl with | [_, _], _ => rfl) fun cdv A outer s H E hr => ?_
  have hu := hu_room (X := (cxOf CX0 P w K mg base N_fits_sorts "fits_sorts" (defScope (SPH.tp 16)) f cdv A outer s H E).nox) hr
  exact (pssd_one (psd_ret (pd_and (pd_isiT rfl fx.b_isinstance rfl fx.b_tuple (pd_var (pv 0))) (pd_and (pd_cmp od_le (pd_callB cd_len2 rfl fx.b_len (by decide +kernel) (pad_cons (pd_var (pv 0)) pad_nil)) (pd_var (pv 1))) (pd_one (pd_callB (cd_all rfl) rfl fx.b_all (by decide +kernel) (pad_cons (pd_lc (own := [("item", 2)]) rfl sc_fits_sorts.nd (pid_seq (pd_var (pv 0))) (blkOk_by (N := N_fits_sorts) (sc := defScope (SPH.tp 16)) (by decide +kernel)) (by decide) (fun _ _ _ _ _ => (pgd_name (pg_name (i := 2) sc_fits_sorts.nd rfl (by first | exact Or.inl rfl | exact Or.inr rfl)))) (fun _ _ _ _ _ => ptsd_nil) (fun _ _ _ _ _ => (pd_callD (c_is_whole.mono (by decide)) hr rfl (pad_cons (pd_var (pv 2)) (pad_cons pd_int (pad_cons (pd_op od_sub (pd_constI rfl fx.g_SORTS) pd_int) pad_nil)))))) pad_nil)))))))

/-! ### fits_move -/
abbrev N_fits_move : List Str := ["value", "posts"]
theorem sc_fits_move : FnScope N_fits_move ["value", "posts"] (defScope (SPH.tp 17)) := ⟨rfl, rfl, rfl, by decide +kernel, rfl, by decide +kernel, by decide +kernel⟩
noncomputable def g_fits_move : ES :=
  (sSeq (sIf (bOr (bNot (eB (eIsi qTup (eVar 0)))) (eB (eOp rNe (eCB rLen2 (aCons (eVar 0) aNil)) (eC (.int 3))))) (sRet (eC (.bl false))) sNil)
  (sRet (eAnd (eCall 2 F_fits_sorts (aCons (eOp rIx (eVar 0) (eC (.int 0))) (aCons (eC (.int 2)) aNil))) (eAnd (eCall 2 F_fits_sorts (aCons (eOp rIx (eVar 0) (eC (.int 1))) (aCons (eC (.int 3)) aNil))) (eCall 3 F_is_whole (aCons (eOp rIx (eVar 0) (eC (.int 2))) (aCons (eC (.int (-1))) (aCons (eOp rSub (eVar 1) (eC (.int 1))) aNil))))))))
noncomputable def F_fits_move : Fn := defF 2 2 g_fits_move
theorem w_fits_move (fx : Fx mg) (F0 : FnP K "fits_move" (SPH.tp 17) f fd) (hm : mg "fits_move" = some (.ref f)) (c_is_whole : DefOk P w K mg base "is_whole" 1 3 F_is_whole) (c_fits_sorts : DefOk P w K mg base "fits_sorts" 2 2 F_fits_sorts) : DefOk P w K mg base "fits_move" 3 2 F_fits_move := by
  refine def_ok (N := N_fits_move) (ps := ["value", "posts"]) (k := 2) (g := g_fits_move) F0 hm sc_fits_move (F0.bindsN fun _ _ _ _ _ _ us hl => match us, hl with | [_, _], _ => rfl) fun cdv A outer s H E hr => ?_
  have hu := hu_room (X := (cxOf CX0 P w K mg base N_fits_move "fits_move" (defScope (SPH.tp 17)) f cdv A outer s H E).nox) hr
  exact (pssd_cons (psd_if (ptd_w (pwd_or (ptd_not (ptd_val (pd_isiT rfl fx.b_isinstance rfl fx.b_tuple (pd_var (pv 0))))) (pwd_or1 (ptd_cmp (od_ne hu) (pd_callB cd_len2 rfl fx.b_len (by decide +kernel) (pad_cons (pd_var (pv 0)) pad_nil)) pd_int)))) (pssd_one (psd_ret pd_bl)) pssd_nil)
    (pssd_one (psd_ret (pd_and (pd_callD (c_fits_sorts.mono (by decide)) hr rfl (pad_cons (pd_ix (pd_var (pv 0)) pd_int (fun _ _ => rfl)) (pad_cons (pd_constI rfl fx.g_MARKS) pad_nil))) (pd_and (pd_callD (c_fits_sorts.mono (by decide)) hr rfl (pad_cons (pd_ix (pd_var (pv 0)) pd_int (fun _ _ => rfl)) (pad_cons (pd_constI rfl fx.g_BACK) pad_nil))) (pd_one (pd_callD (c_is_whole.mono (by decide)) hr rfl (pad_cons (pd_ix (pd_var (pv 0)) pd_int (fun _ _ => rfl)) (pad_cons (pd_constI rfl fx.g_REST) (pad_cons (pd_op od_sub (pd_var (pv 1)) pd_int) pad_nil))))))))))

/-! ### fits_routine -/
abbrev N_fits_routine : List Str := ["value", "post", "move"]
theorem sc_fits_routine : FnScope N_fits_routine ["value"] (defScope (SPH.tp 18)) := ⟨rfl, rfl, rfl, by decide +kernel, rfl, by decide +kernel, by decide +kernel⟩
noncomputable def e1_fits_routine : E :=
  (eCall 2 F_fits_move (aCons (eVar 2) (aCons (eCB rLen2 (aCons (eVar 0) aNil)) aNil)))
noncomputable def b2_fits_routine : ES :=
  (sSeq (sIf (bOr (bNot (eB (eIsi qTup (eVar 1)))) (eB (eOp rNe (eCB rLen2 (aCons (eVar 1) aNil)) (eOp rAdd (eC (.int 3)) (eC (.int 1)))))) (sRet (eC (.bl false))) sNil)
  (sIf (bNot (eB (eCB rAll (aCons (eLc (iSeq (eVar 1)) (tName 2) bYes e1_fits_routine [2]) aNil)))) (sRet (eC (.bl false))) sNil))
noncomputable def g_fits_routine : ES :=
  (sSeq (sIf (bOr (bNot (eB (eIsi qTup (eVar 0)))) (bNot (eB (eChain rLe rLe (eC (.int 1)) (eCB rLen2 (aCons (eVar 0) aNil)) (eC (.int 6)))))) (sRet (eC (.bl false))) sNil)
  (sSeq (sFor (iSeq (eVar 0)) (tName 1) b2_fits_routine)
  (sRet (eC (.bl true)))))
noncomputable def F_fits_routine : Fn := defF 3 1 g_fits_routine
theorem w_fits_routine (fx : Fx mg) (F0 : FnP K "fits_routine" (SPH.tp 18) f fd) (hm : mg "fits_routine" = some (.ref f)) (c_fits_move : DefOk P w K mg base "fits_move" 3 2 F_fits_move) : DefOk P w K mg base "fits_routine" 4 1 F_fits_routine := by
  refine def_ok (N := N_fits_routine) (ps := ["value"]) (k := 3) (g := g_fits_routine) F0 hm sc_fits_routine (F0.bindsN fun _ _ _ _ _ _ us hl => match us, hl with | [_], _ => rfl) fun cdv A outer s H E hr => ?_
  have hu := hu_room (X := (cxOf CX0 P w K mg base N_fits_routine "fits_routine" (defScope (SPH.tp 18)) f cdv A outer s H E).nox) hr
  exact (pssd_cons (psd_if (ptd_w (pwd_or (ptd_not (ptd_val (pd_isiT rfl fx.b_isinstance rfl fx.b_tuple (pd_var (pv 0))))) (pwd_or1 (ptd_not (ptd_chain od_le od_le pd_int (pd_callB cd_len2 rfl fx.b_len (by decide +kernel) (pad_cons (pd_var (pv 0)) pad_nil)) (pd_constI rfl fx.g_POSTS)))))) (pssd_one (psd_ret pd_bl)) pssd_nil)
    (pssd_cons (psd_for PassesOwn.never rfl (pid_seq (pd_var (pv 0))) (pgd_name (pg_name (i := 1) sc_fits_routine.nd rfl (by first | exact Or.inl rfl | exact Or.inr rfl))) (pssd_cons (psd_if (ptd_w (pwd_or (ptd_not (ptd_val (pd_isiT rfl fx.b_isinstance rfl fx.b_tuple (pd_var (pv 1))))) (pwd_or1 (ptd_cmp (od_ne hu) (pd_callB cd_len2 rfl fx.b_len (by decide +kernel) (pad_cons (pd_var (pv 1)) pad_nil)) (pd_op od_add (pd_constI rfl fx.g_SORTS) pd_int))))) (pssd_one (psd_ret pd_bl)) pssd_nil)
    (pssd_one (psd_if (ptd_not (ptd_val (pd_callB (cd_all rfl) rfl fx.b_all (by decide +kernel) (pad_cons (pd_lc (own := [("move", 2)]) rfl sc_fits_routine.nd (pid_seq (pd_var (pv 1))) (blkOk_by (N := N_fits_routine) (sc := defScope (SPH.tp 18)) (by decide +kernel)) (by decide) (fun _ _ _ _ _ => (pgd_name (pg_name (i := 2) sc_fits_routine.nd rfl (by first | exact Or.inl rfl | exact Or.inr rfl)))) (fun _ _ _ _ _ => ptsd_nil) (fun _ _ _ _ _ => (pd_callD (c_fits_move.mono (by decide)) hr rfl (pad_cons (pd_var (pv 2)) (pad_cons (pd_callB cd_len2 rfl fx.b_len (by decide +kernel) (pad_cons (pd_var (pv 0)) pad_nil)) pad_nil))))) pad_nil)))) (pssd_one (psd_ret pd_bl)) pssd_nil))))
    (pssd_one (psd_ret pd_bl))))

/-! ### need_routine -/
abbrev N_need_routine : List Str := ["value"]
theorem sc_need_routine : FnScope N_need_routine ["value"] (defScope (SPH.tp 19)) := ⟨rfl, rfl, rfl, by decide +kernel, rfl, by decide +kernel, by decide +kernel⟩
noncomputable def g_need_routine : ES :=
  (sIf (bNot (eB (eCall 1 F_fits_routine (aCons (eVar 0) aNil)))) sNever sNil)
noncomputable def F_need_routine : Fn := defF 1 1 g_need_routine
theorem w_need_routine (fx : Fx mg) (F0 : FnP K "need_routine" (SPH.tp 19) f fd) (hm : mg "need_routine" = some (.ref f)) (c_fits_routine : DefOk P w K mg base "fits_routine" 4 1 F_fits_routine) : DefOk P w K mg base "need_routine" 5 1 F_need_routine := by
  refine def_ok (N := N_need_routine) (ps := ["value"]) (k := 4) (g := g_need_routine) F0 hm sc_need_routine (F0.bindsN fun _ _ _ _ _ _ us hl => match us, hl with | [_], _ => rfl) fun cdv A outer s H E hr => ?_
  have hu := hu_room (X := (cxOf CX0 P w K mg base N_need_routine "need_routine" (defScope (SPH.tp 19)) f cdv A outer s H E).nox) hr
  exact (pssd_one (psd_if (ptd_not (ptd_val (pd_callD (c_fits_routine.mono (by decide)) hr rfl (pad_cons (pd_var (pv 0)) pad_nil)))) pssd_never pssd_nil))

/-! ### next_need -/
abbrev N_next_need : List Str := ["routine", "pair", "ends", "post", "sort", "marks", "back", "here", "turns", "at", "need", "more", "handed", "left"]
theorem sc_next_need : FnScope N_next_need ["routine", "pair", "ends"] (defScope (SPH.tp 20)) := ⟨rfl, rfl, rfl, by decide +kernel, rfl, by decide +kernel, by decide +kernel⟩
noncomputable def b1_next_need : ES :=
  (sSeq (sIf (eB (eOp rDNotIn (eTup (aCons (eVar 7) (aCons (eVar 10) aNil))) (eVar 2))) (sRet (eTup (aCons (eTup (aCons (eVar 7) (aCons (eVar 10) aNil))) (aCons (eC .non) aNil)))) sNil)
  (sSeq (sAsg (eOp rDGet (eVar 2) (eTup (aCons (eVar 7) (aCons (eVar 10) aNil)))) (tTup 4 (tsCons (tName 7) (tsCons (tName 11) (tsCons (tName 12) (tsCons (tName 13) tsNil))))))
  (sSeq (sIf (eB (eOp rEq (eVar 7) (eC (.str "never")))) sNever sNil)
  (sSeq (sPar2 8 5 (aCons (eOp rAdd (eVar 8) (eVar 11)) (aCons (eSl (eOp rAdd (eVar 5) (eVar 12)) oNone (oSome (eOp rAdd (eC (.int 1000)) (eC (.int 1))))) aNil)))
  (sIf (eB (eOp rEq (eVar 7) (eC (.int (-1))))) (sRet (eTup (aCons (eC .non) (aCons (eTup (aCons (eC (.int (-1))) (aCons (eVar 8) (aCons (eVar 5) (aCons (eOp rAdd (eVar 13) (eSl (eVar 6) (oSome (eOp rAdd (eVar 9) (eC (.int 1)))) oNone)) aNil))))) aNil)))) sNil)))))
noncomputable def g_next_need : ES :=
  (sSeq (sAsg (eVar 1) (tTup 2 (tsCons (tName 3) (tsCons (tName 4) tsNil))))
  (sSeq (sAsg (eOp rIx (eOp rIx (eVar 0) (eVar 3)) (eVar 4)) (tTup 3 (tsCons (tName 5) (tsCons (tName 6) (tsCons (tName 7) tsNil)))))
  (sSeq (sIf (eB (eOp rEq (eVar 7) (eC (.int (-1))))) (sRet (eTup (aCons (eC .non) (aCons (eTup (aCons (eC (.int (-1))) (aCons (eC (.int 1)) (aCons (eVar 5) (aCons (eVar 6) aNil))))) aNil)))) sNil)
  (sSeq (sAsg (eC (.int 1)) (tName 8))
  (sSeq (sFor (iEn (eOp rAdd (eVar 6) (eIf (eB (eOp rLt (eVar 4) (eC (.int 3)))) (eTup aNil) (eTup (aCons (eC (.int 3)) aNil))))) (tTup 2 (tsCons (tName 9) (tsCons (tName 10) tsNil))) b1_next_need)
  (sRet (eTup (aCons (eC .non) (aCons (eTup (aCons (eVar 7) (aCons (eVar 8) (aCons (eVar 5) (aCons (eTup aNil) aNil))))) aNil)))))))))
noncomputable def F_next_need : Fn := defF 14 3 g_next_need
theorem w_next_need (fx : Fx mg) (F0 : FnP K "next_need" (SPH.tp 20) f fd) (hm : mg "next_need" = some (.ref f))  : DefOk P w K mg base "next_need" 1 3 F_next_need := by
  refine def_ok (N := N_next_need) (ps := ["routine", "pair", "ends"]) (k := 0) (g := g_next_need) F0 hm sc_next_need (F0.bindsN fun _ _ _ _ _ _ us hl => match us, hl with | [_, _, _], _ => rfl) fun cdv A outer s H E hr => ?_
  have hu := hu_room (X := (cxOf CX0 P w K mg base N_next_need "next_need" (defScope (SPH.tp 20)) f cdv A outer s H E).nox) hr
  exact (pssd_cons (psd_asg (pd_var (pv 1)) (pgd_tup rfl (pgsd_cons (pgd_name (pg_name (i := 3) sc_next_need.nd rfl (by first | exact Or.inl rfl | exact Or.inr rfl))) (pgsd_cons (pgd_name (pg_name (i := 4) sc_next_need.nd rfl (by first | exact Or.inl rfl | exact Or.inr rfl))) pgsd_nil))))
    (pssd_cons (psd_asg (pd_ix (pd_ix (pd_var (pv 0)) (pd_var (pv 3)) (fun _ _ => rfl)) (pd_var (pv 4)) (fun _ _ => rfl)) (pgd_tup rfl (pgsd_cons (pgd_name (pg_name (i := 5) sc_next_need.nd rfl (by first | exact Or.inl rfl | exact Or.inr rfl))) (pgsd_cons (pgd_name (pg_name (i := 6) sc_next_need.nd rfl (by first | exact Or.inl rfl | exact Or.inr rfl))) (pgsd_cons (pgd_name (pg_name (i := 7) sc_next_need.nd rfl (by first | exact Or.inl rfl | exact Or.inr rfl))) pgsd_nil)))))
    (pssd_cons (psd_if (ptd_cmp (od_eq hu) (pd_var (pv 7)) (pd_constI rfl fx.g_REST)) (pssd_one (psd_ret (pd_tup (pad_cons pd_non (pad_cons (pd_tup (pad_cons (pd_constI rfl fx.g_REST) (pad_cons pd_int (pad_cons (pd_var (pv 5)) (pad_cons (pd_var (pv 6)) pad_nil))))) pad_nil))))) pssd_nil)
    (pssd_cons (psd_set sc_next_need.nd rfl (by first | exact Or.inl rfl | exact Or.inr rfl) pd_int)
    (pssd_cons (psd_for PassesOwn.never rfl (pid_enum rfl fx.b_enumerate (pd_op od_add (pd_var (pv 6)) (pd_if (ptd_cmp (od_lt hu) (pd_var (pv 4)) (pd_constI rfl fx.g_SORTS)) (pd_tup pad_nil) (pd_tup (pad_cons (pd_constI rfl fx.g_SORTS) pad_nil))))) (pgd_tup rfl (pgsd_cons (pgd_name (pg_name (i := 9) sc_next_need.nd rfl (by first | exact Or.inl rfl | exact Or.inr rfl))) (pgsd_cons (pgd_name (pg_name (i := 10) sc_next_need.nd rfl (by first | exact Or.inl rfl | exact Or.inr rfl))) pgsd_nil))) (pssd_cons (psd_if (ptd_dnotin hu (pd_tup (pad_cons (pd_var (pv 7)) (pad_cons (pd_var (pv 10)) pad_nil))) (pd_var (pv 2))) (pssd_one (psd_ret (pd_tup (pad_cons (pd_tup (pad_cons (pd_var (pv 7)) (pad_cons (pd_var (pv 10)) pad_nil))) (pad_cons pd_non pad_nil))))) pssd_nil)
    (pssd_cons (psd_asg (pd_dget hu (pd_var (pv 2)) (pd_tup (pad_cons (pd_var (pv 7)) (pad_cons (pd_var (pv 10)) pad_nil))) (fun _ _ => rfl)) (pgd_tup rfl (pgsd_cons (pgd_name (pg_name (i := 7) sc_next_need.nd rfl (by first | exact Or.inl rfl | exact Or.inr rfl))) (pgsd_cons (pgd_name (pg_name (i := 11) sc_next_need.nd rfl (by first | exact Or.inl rfl | exact Or.inr rfl))) (pgsd_cons (pgd_name (pg_name (i := 12) sc_next_need.nd rfl (by first | exact Or.inl rfl | exact Or.inr rfl))) (pgsd_cons (pgd_name (pg_name (i := 13) sc_next_need.nd rfl (by first | exact Or.inl rfl | exact Or.inr rfl))) pgsd_nil))))))
    (pssd_cons (psd_if (ptd_cmp (od_eq hu) (pd_var (pv 7)) (pd_constS rfl fx.g_NEVER)) pssd_never pssd_nil)
    (pssd_cons (psd_par2 rfl sc_next_need.nd rfl rfl (by decide) rfl rfl (pad_cons (pd_op od_add (pd_var (pv 8)) (pd_var (pv 11))) (pad_cons (pd_slice (pd_op od_add (pd_var (pv 5)) (pd_var (pv 12))) pod_none (pod_some (pd_op od_add (pd_constI rfl fx.g_GREATEST) pd_int))) pad_nil)))
    (pssd_one (psd_if (ptd_cmp (od_eq hu) (pd_var (pv 7)) (pd_constI rfl fx.g_REST)) (pssd_one (psd_ret (pd_tup (pad_cons pd_non (pad_cons (pd_tup (pad_cons (pd_constI rfl fx.g_REST) (pad_cons (pd_var (pv 8)) (pad_cons (pd_var (pv 5)) (pad_cons (pd_op od_add (pd_var (pv 13)) (pd_slice (pd_var (pv 6)) (pod_some (pd_op od_add (pd_var (pv 9)) pd_int)) pod_none)) pad_nil))))) pad_nil))))) pssd_nil)))))))
    (pssd_one (psd_ret (pd_tup (pad_cons pd_non (pad_cons (pd_tup (pad_cons (pd_var (pv 7)) (pad_cons (pd_var (pv 8)) (pad_cons (pd_var (pv 5)) (pad_cons (pd_tup pad_nil) pad_nil))))) pad_nil))))))))))

/-! ### with_ends -/
abbrev N_with_ends : List Str := ["routine", "pair", "ends", "line", "here", "need", "told", "one"]
theorem sc_with_ends : FnScope N_with_ends ["routine", "pair", "ends"] (defScope (SPH.tp 21)) := ⟨rfl, rfl, rfl, by decide +kernel, rfl, by decide +kernel, by decide +kernel⟩
noncomputable def c1_with_ends : EB :=
  (eB (eOp rNe (eVar 3) (eLst aNil)))
noncomputable def w2_with_ends : ES :=
  (sSeq (sAsg (eOp rIx (eVar 3) (eNeg (eC (.int 1)))) (tName 4))
  (sSeq (sAsg (eIf (eB (eOp rDIn (eVar 4) (eVar 2))) (eTup (aCons (eC .non) (aCons (eOp rDGet (eVar 2) (eVar 4)) aNil))) (eCall 3 F_next_need (aCons (eVar 0) (aCons (eVar 4) (aCons (eVar 2) aNil))))) (tTup 2 (tsCons (tName 5) (tsCons (tName 6) tsNil))))
  (sIf (eB (eOp rIsN (eVar 5) (eC .non))) (sPar2 3 2 (aCons (eSl (eVar 3) oNone (oSome (eNeg (eC (.int 1))))) (aCons (eUpd (eVar 2) (eVar 4) (eVar 6)) aNil))) (sIf (eB (eOp rIn (eVar 5) (eVar 3))) sNever (sAsg (eOp rAdd (eVar 3) (eLst (aCons (eVar 5) aNil))) (tName 3))))))
noncomputable def g_with_ends : ES :=
  (sSeq (sAsg (eLst (aCons (eVar 1) aNil)) (tName 3))
  (sSeq (whileGo c1_with_ends w2_with_ends 1000)
  (sRet (eVar 2))))
noncomputable def F_with_ends : Fn := defF 8 3 g_with_ends
theorem w_with_ends (fx : Fx mg) (F0 : FnP K "with_ends" (SPH.tp 21) f fd) (hm : mg "with_ends" = some (.ref f)) (c_next_need : DefOk P w K mg base "next_need" 1 3 F_next_need) : DefOk P w K mg base "with_ends" 2 3 F_with_ends := by
  refine def_ok (N := N_with_ends) (ps := ["routine", "pair", "ends"]) (k := 1) (g := g_with_ends) F0 hm sc_with_ends (F0.bindsN fun _ _ _ _ _ _ us hl => match us, hl with | [_, _, _], _ => rfl) fun cdv A outer s H E hr => ?_
  have hu := hu_room (X := (cxOf CX0 P w K mg base N_with_ends "with_ends" (defScope (SPH.tp 21)) f cdv A outer s H E).nox) hr
  exact (pssd_cons (psd_set sc_with_ends.nd rfl (by first | exact Or.inl rfl | exact Or.inr rfl) (pd_lst (pad_cons (pd_var (pv 1)) pad_nil)))
    (pssd_cons (psd_while 1000 PassesOwn.never (ptd_cmp (od_ne hu) (pd_var (pv 3)) (pd_lst pad_nil)) (pssd_cons (psd_set sc_with_ends.nd rfl (by first | exact Or.inl rfl | exact Or.inr rfl) (pd_ix (pd_var (pv 3)) (pd_neg pd_int) (fun _ _ => rfl)))
    (pssd_cons (psd_asg (pd_if (ptd_din hu (pd_var (pv 4)) (pd_var (pv 2))) (pd_tup (pad_cons pd_non (pad_cons (pd_dget hu (pd_var (pv 2)) (pd_var (pv 4)) (fun _ _ => rfl)) pad_nil))) (pd_callD (c_next_need.mono (by decide)) hr rfl (pad_cons (pd_var (pv 0)) (pad_cons (pd_var (pv 4)) (pad_cons (pd_var (pv 2)) pad_nil))))) (pgd_tup rfl (pgsd_cons (pgd_name (pg_name (i := 5) sc_with_ends.nd rfl (by first | exact Or.inl rfl | exact Or.inr rfl))) (pgsd_cons (pgd_name (pg_name (i := 6) sc_with_ends.nd rfl (by first | exact Or.inl rfl | exact Or.inr rfl))) pgsd_nil))))
    (pssd_one (psd_if (ptd_cmp od_isN (pd_var (pv 5)) pd_non) (pssd_one (psd_par2 rfl sc_with_ends.nd rfl rfl (by decide) rfl rfl (pad_cons (pd_slice (pd_var (pv 3)) pod_none (pod_some (pd_neg pd_int))) (pad_cons (pd_upd hu (pd_var (pv 2)) (pd_var (pv 4)) (pd_var (pv 6))) pad_nil)))) (pssd_one (psd_if (ptd_cmp (od_in hu) (pd_var (pv 5)) (pd_var (pv 3))) pssd_never (pssd_one (psd_set sc_with_ends.nd rfl (by first | exact Or.inl rfl | exact Or.inr rfl) (pd_op od_add (pd_var (pv 3)) (pd_lst (pad_cons (pd_var (pv 5)) pad_nil))))))))))))
    (pssd_one (psd_ret (pd_var (pv 2))))))

/-! ### need_few -/
abbrev N_need_few : List Str := ["marks"]
theorem sc_need_few : FnScope N_need_few ["marks"] (defScope (SPH.tp 22)) := ⟨rfl, rfl, rfl, by decide +kernel, rfl, by decide +kernel, by decide +kernel⟩
noncomputable def g_need_few : ES :=
  (sIf (eB (eOp rGt (eCB rLen2 (aCons (eVar 0) aNil)) (eC (.int 1000)))) sNever sNil)
noncomputable def F_need_few : Fn := defF 1 1 g_need_few
theorem w_need_few (fx : Fx mg) (F0 : FnP K "need_few" (SPH.tp 22) f fd) (hm : mg "need_few" = some (.ref f))  : DefOk P w K mg base "need_few" 1 1 F_need_few := by
  refine def_ok (N := N_need_few) (ps := ["marks"]) (k := 0) (g := g_need_few) F0 hm sc_need_few (F0.bindsN fun _ _ _ _ _ _ us hl => match us, hl with | [_], _ => rfl) fun cdv A outer s H E hr => ?_
  have hu := hu_room (X := (cxOf CX0 P w K mg base N_need_few "need_few" (defScope (SPH.tp 22)) f cdv A outer s H E).nox) hr
  exact (pssd_one (psd_if (ptd_cmp od_gt (pd_callB cd_len2 rfl fx.b_len (by decide +kernel) (pad_cons (pd_var (pv 0)) pad_nil)) (pd_constI rfl fx.g_GREATEST)) pssd_never pssd_nil))

/-! ### led_posts -/
abbrev N_led_posts : List Str := ["routine", "found", "line", "ends", "post", "sort", "later"]
theorem sc_led_posts : FnScope N_led_posts ["routine"] (defScope (SPH.tp 23)) := ⟨rfl, rfl, rfl, by decide +kernel, rfl, by decide +kernel, by decide +kernel⟩
noncomputable def b1_led_posts : ES :=
  (sSeq (sAsg (eCall 3 F_with_ends (aCons (eVar 0) (aCons (eTup (aCons (eVar 4) (aCons (eVar 5) aNil))) (aCons (eVar 3) aNil)))) (tName 3))
  (sSeq (sAsg (eOp rIx (eOp rDGet (eVar 3) (eTup (aCons (eVar 4) (aCons (eVar 5) aNil)))) (eC (.int 0))) (tName 6))
  (sIf (bAnd (eB (eOp rNe (eVar 6) (eC (.int (-1))))) (bAnd (eB (eOp rNe (eVar 6) (eC (.str "never")))) (eB (eOp rDNotIn (eVar 6) (eVar 1))))) (sPar2 1 2 (aCons (eUpd (eVar 1) (eVar 6) (eOp rAdd (eOp rDGet (eVar 1) (eVar 4)) (eTup (aCons (eVar 5) aNil)))) (aCons (eOp rAdd (eVar 2) (eLst (aCons (eVar 6) aNil))) aNil))) sNil)))
noncomputable def c2_led_posts : EB :=
  (eB (eOp rNe (eVar 2) (eLst aNil)))
noncomputable def w3_led_posts : ES :=
  (sSeq (sPar2 4 2 (aCons (eOp rIx (eVar 2) (eC (.int 0))) (aCons (eSl (eVar 2) (oSome (eC (.int 1))) oNone) aNil)))
  (sFor (iRng (eOp rAdd (eC (.int 3)) (eC (.int 1)))) (tName 5) b1_led_posts))
noncomputable def g_led_posts : ES :=
  (sSeq (sPar3 1 2 3 (aCons (eOne (eC (.int 0)) (eTup aNil)) (aCons (eLst (aCons (eC (.int 0)) aNil)) (aCons eNoP aNil))))
  (sSeq (whileGo c2_led_posts w3_led_posts 1000)
  (sRet (eTup (aCons (eVar 1) (aCons (eVar 3) aNil))))))
noncomputable def F_led_posts : Fn := defF 7 1 g_led_posts
theorem w_led_posts (fx : Fx mg) (F0 : FnP K "led_posts" (SPH.tp 23) f fd) (hm : mg "led_posts" = some (.ref f)) (c_with_ends : DefOk P w K mg base "with_ends" 2 3 F_with_ends) : DefOk P w K mg base "led_posts" 3 1 F_led_posts := by
  refine def_ok (N := N_led_posts) (ps := ["routine"]) (k := 2) (g := g_led_posts) F0 hm sc_led_posts (F0.bindsN fun _ _ _ _ _ _ us hl => match us, hl with | [_], _ => rfl) fun cdv A outer s H E hr => ?_
  have hu := hu_room (X := (cxOf CX0 P w K mg base N_led_posts "led_posts" (defScope (SPH.tp 23)) f cdv A outer s H E).nox) hr
  exact (pssd_cons (psd_par3 rfl sc_led_posts.nd rfl rfl rfl (by decide) (by decide) (by decide) rfl rfl rfl (pad_cons (pd_one1 hu pd_int (pd_tup pad_nil)) (pad_cons (pd_lst (pad_cons pd_int pad_nil)) (pad_cons pd_noP pad_nil))))
    (pssd_cons (psd_while 1000 PassesOwn.never (ptd_cmp (od_ne hu) (pd_var (pv 2)) (pd_lst pad_nil)) (pssd_cons (psd_par2 rfl sc_led_posts.nd rfl rfl (by decide) rfl rfl (pad_cons (pd_ix (pd_var (pv 2)) pd_int (fun _ _ => rfl)) (pad_cons (pd_slice (pd_var (pv 2)) (pod_some pd_int) pod_none) pad_nil)))
    (pssd_one (psd_for PassesOwn.never rfl (pid_range rfl fx.b_range (pd_op od_add (pd_constI rfl fx.g_SORTS) pd_int)) (pgd_name (pg_name (i := 5) sc_led_posts.nd rfl (by first | exact Or.inl rfl | exact Or.inr rfl))) (pssd_cons (psd_set sc_led_posts.nd rfl (by first | exact Or.inl rfl | exact Or.inr rfl) (pd_callD (c_with_ends.mono (by decide)) hr rfl (pad_cons (pd_var (pv 0)) (pad_cons (pd_tup (pad_cons (pd_var (pv 4)) (pad_cons (pd_var (pv 5)) pad_nil))) (pad_cons (pd_var (pv 3)) pad_nil)))))
    (pssd_cons (psd_set sc_led_posts.nd rfl (by first | exact Or.inl rfl | exact Or.inr rfl) (pd_ix (pd_dget hu (pd_var (pv 3)) (pd_tup (pad_cons (pd_var (pv 4)) (pad_cons (pd_var (pv 5)) pad_nil))) (fun _ _ => rfl)) pd_int (fun _ _ => rfl)))
    (pssd_one (psd_if (ptd_w (pwd_and (ptd_cmp (od_ne hu) (pd_var (pv 6)) (pd_constI rfl fx.g_REST)) (pwd_and (ptd_cmp (od_ne hu) (pd_var (pv 6)) (pd_constS rfl fx.g_NEVER)) (pwd_and1 (ptd_dnotin hu (pd_var (pv 6)) (pd_var (pv 1))))))) (pssd_one (psd_par2 rfl sc_led_posts.nd rfl rfl (by decide) rfl rfl (pad_cons (pd_upd hu (pd_var (pv 1)) (pd_var (pv 6)) (pd_op od_add (pd_dget hu (pd_var (pv 1)) (pd_var (pv 4)) (fun _ _ => rfl)) (pd_tup (pad_cons (pd_var (pv 5)) pad_nil)))) (pad_cons (pd_op od_add (pd_var (pv 2)) (pd_lst (pad_cons (pd_var (pv 6)) pad_nil))) pad_nil)))) pssd_nil))))))))
    (pssd_one (psd_ret (pd_tup (pad_cons (pd_var (pv 1)) (pad_cons (pd_var (pv 3)) pad_nil)))))))

/-! ### least_endless -/
abbrev N_least_endless : List Str := ["routine", "posts", "ends", "found", "post", "sort", "stack"]
theorem sc_least_endless : FnScope N_least_endless ["routine"] (defScope (SPH.tp 24)) := ⟨rfl, rfl, rfl, by decide +kernel, rfl, by decide +kernel, by decide +kernel⟩
noncomputable def b1_least_endless : ES :=
  (sIf (eB (eOp rEq (eOp rIx (eOp rDGet (eVar 2) (eTup (aCons (eVar 4) (aCons (eVar 5) aNil)))) (eC (.int 0))) (eC (.str "never")))) (sAsg (eOp rAdd (eVar 3) (eLst (aCons (eOp rAdd (eOp rDGet (eVar 1) (eVar 4)) (eIf (eB (eOp rLt (eVar 5) (eC (.int 3)))) eNever (eTup aNil))) aNil))) (tName 3)) sNil)
noncomputable def b2_least_endless : ES :=
  (sFor (iRng (eOp rAdd (eC (.int 3)) (eC (.int 1)))) (tName 5) b1_least_endless)
noncomputable def g_least_endless : ES :=
  (sSeq (sAsg (eCall 1 F_led_posts (aCons (eVar 0) aNil)) (tTup 2 (tsCons (tName 1) (tsCons (tName 2) tsNil))))
  (sSeq (sAsg (eLst aNil) (tName 3))
  (sSeq (sFor (iKey 1) (tName 4) b2_least_endless)
  (sRet (eIf (eB (eOp rNe (eVar 3) (eLst aNil))) eNever (eC .non))))))
noncomputable def F_least_endless : Fn := defF 7 1 g_least_endless
theorem w_least_endless (fx : Fx mg) (F0 : FnP K "least_endless" (SPH.tp 24) f fd) (hm : mg "least_endless" = some (.ref f)) (c_led_posts : DefOk P w K mg base "led_posts" 3 1 F_led_posts) : DefOk P w K mg base "least_endless" 4 1 F_least_endless := by
  refine def_ok (N := N_least_endless) (ps := ["routine"]) (k := 3) (g := g_least_endless) F0 hm sc_least_endless (F0.bindsN fun _ _ _ _ _ _ us hl => match us, hl with | [_], _ => rfl) fun cdv A outer s H E hr => ?_
  have hu := hu_room (X := (cxOf CX0 P w K mg base N_least_endless "least_endless" (defScope (SPH.tp 24)) f cdv A outer s H E).nox) hr
  exact (pssd_cons (psd_asg (pd_callD (c_led_posts.mono (by decide)) hr rfl (pad_cons (pd_var (pv 0)) pad_nil)) (pgd_tup rfl (pgsd_cons (pgd_name (pg_name (i := 1) sc_least_endless.nd rfl (by first | exact Or.inl rfl | exact Or.inr rfl))) (pgsd_cons (pgd_name (pg_name (i := 2) sc_least_endless.nd rfl (by first | exact Or.inl rfl | exact Or.inr rfl))) pgsd_nil))))
    (pssd_cons (psd_set sc_least_endless.nd rfl (by first | exact Or.inl rfl | exact Or.inr rfl) (pd_lst pad_nil))
    (pssd_cons (psd_forKeys PassesOwn.never rfl (pv 1) (pgd_name (pg_name (i := 4) sc_least_endless.nd rfl (by first | exact Or.inl rfl | exact Or.inr rfl))) (pssd_one (psd_for PassesOwn.never rfl (pid_range rfl fx.b_range (pd_op od_add (pd_constI rfl fx.g_SORTS) pd_int)) (pgd_name (pg_name (i := 5) sc_least_endless.nd rfl (by first | exact Or.inl rfl | exact Or.inr rfl))) (pssd_one (psd_if (ptd_cmp (od_eq hu) (pd_ix (pd_dget hu (pd_var (pv 2)) (pd_tup (pad_cons (pd_var (pv 4)) (pad_cons (pd_var (pv 5)) pad_nil))) (fun _ _ => rfl)) pd_int (fun _ _ => rfl)) (pd_constS rfl fx.g_NEVER)) (pssd_one (psd_set sc_least_endless.nd rfl (by first | exact Or.inl rfl | exact Or.inr rfl) (pd_op od_add (pd_var (pv 3)) (pd_lst (pad_cons (pd_op od_add (pd_dget hu (pd_var (pv 1)) (pd_var (pv 4)) (fun _ _ => rfl)) (pd_if (ptd_cmp (od_lt hu) (pd_var (pv 5)) (pd_constI rfl fx.g_SORTS)) pd_never (pd_tup pad_nil))) pad_nil))))) pssd_nil)))))
    (pssd_one (psd_ret (pd_if (ptd_cmp (od_ne hu) (pd_var (pv 3)) (pd_lst pad_nil)) pd_never pd_non))))))

/-! ### need_rest -/
abbrev N_need_rest : List Str := ["routine"]
theorem sc_need_rest : FnScope N_need_rest ["routine"] (defScope (SPH.tp 25)) := ⟨rfl, rfl, rfl, by decide +kernel, rfl, by decide +kernel, by decide +kernel⟩
noncomputable def g_need_rest : ES :=
  (sIf (eB (eOp rNotN (eCall 1 F_least_endless (aCons (eVar 0) aNil)) (eC .non))) sNever sNil)
noncomputable def F_need_rest : Fn := defF 1 1 g_need_rest
theorem w_need_rest (fx : Fx mg) (F0 : FnP K "need_rest" (SPH.tp 25) f fd) (hm : mg "need_rest" = some (.ref f)) (c_least_endless : DefOk P w K mg base "least_endless" 4 1 F_least_endless) : DefOk P w K mg base "need_rest" 5 1 F_need_rest := by
  refine def_ok (N := N_need_rest) (ps := ["routine"]) (k := 4) (g := g_need_rest) F0 hm sc_need_rest (F0.bindsN fun _ _ _ _ _ _ us hl => match us, hl with | [_], _ => rfl) fun cdv A outer s H E hr => ?_
  have hu := hu_room (X := (cxOf CX0 P w K mg base N_need_rest "need_rest" (defScope (SPH.tp 25)) f cdv A outer s H E).nox) hr
  exact (pssd_one (psd_if (ptd_cmp od_notN (pd_callD (c_least_endless.mono (by decide)) hr rfl (pad_cons (pd_var (pv 0)) pad_nil)) pd_non) pssd_never pssd_nil))

/-! ### need_marks -/
abbrev N_need_marks : List Str := ["value"]
theorem sc_need_marks : FnScope N_need_marks ["value"] (defScope (SPH.tp 28)) := ⟨rfl, rfl, rfl, by decide +kernel, rfl, by decide +kernel, by decide +kernel⟩
noncomputable def g_need_marks : ES :=
  (sIf (bNot (eB (eCall 2 F_fits_sorts (aCons (eVar 0) (aCons (eC (.int 9)) aNil))))) sNever sNil)
noncomputable def F_need_marks : Fn := defF 1 1 g_need_marks
theorem w_need_marks (fx : Fx mg) (F0 : FnP K "need_marks" (SPH.tp 28) f fd) (hm : mg "need_marks" = some (.ref f)) (c_fits_sorts : DefOk P w K mg base "fits_sorts" 2 2 F_fits_sorts) : DefOk P w K mg base "need_marks" 3 1 F_need_marks := by
  refine def_ok (N := N_need_marks) (ps := ["value"]) (k := 2) (g := g_need_marks) F0 hm sc_need_marks (F0.bindsN fun _ _ _ _ _ _ us hl => match us, hl with | [_], _ => rfl) fun cdv A outer s H E hr => ?_
  have hu := hu_room (X := (cxOf CX0 P w K mg base N_need_marks "need_marks" (defScope (SPH.tp 28)) f cdv A outer s H E).nox) hr
  exact (pssd_one (psd_if (ptd_not (ptd_val (pd_callD (c_fits_sorts.mono (by decide)) hr rfl (pad_cons (pd_var (pv 0)) (pad_cons (pd_constI rfl fx.g_MANY) pad_nil))))) pssd_never pssd_nil))
end
end Pg
set_option Elab.async false
set_option linter.all false
set_option maxRecDepth 100000
set_option maxHeartbeats 4000000
namespace Pg
open PySem PySem.Spec PyProof.Rows L2
section
variable {P : Program} {w : World} {K : PySem.W.Frag} {mg : Str → Option Value} {base : Heap} {f : Addr} {fd : FuncData}
/-! ### walk_rows -/
abbrev N_walk_rows : List Str := ["routine", "posts", "ends", "found", "post", "sort", "end", "turns", "marks", "left"]
theorem sc_walk_rows : FnScope N_walk_rows ["routine"] (defScope (SPH.tp 29)) := ⟨rfl, rfl, rfl, by decide +kernel, rfl, by decide +kernel, by decide +kernel⟩
noncomputable def b1_walk_rows : ES :=
  (sSeq (sAsg (eOp rDGet (eVar 2) (eTup (aCons (eVar 4) (aCons (eVar 5) aNil)))) (tTup 4 (tsCons (tName 6) (tsCons (tName 7) (tsCons (tName 8) (tsCons (tName 9) tsNil))))))
  (sSeq (sDrop (eCall 1 F_need_few (aCons (eVar 8) aNil)))
  (sAsg (eOp rAdd (eVar 3) (eLst (aCons (eTup (aCons (eVar 4) (aCons (eVar 5) (aCons (eVar 8) (aCons (eVar 6) aNil))))) aNil))) (tName 3))))
noncomputable def b2_walk_rows : ES :=
  (sFor (iRng (eOp rAdd (eC (.int 3)) (eC (.int 1)))) (tName 5) b1_walk_rows)
noncomputable def g_walk_rows : ES :=
  (sSeq (sAsg (eCall 1 F_led_posts (aCons (eVar 0) aNil)) (tTup 2 (tsCons (tName 1) (tsCons (tName 2) tsNil))))
  (sSeq (sAsg (eLst aNil) (tName 3))
  (sSeq (sFor (iSeq (eCB rSorted (aCons (eVar 1) aNil))) (tName 4) b2_walk_rows)
  (sRet (eVar 3)))))
noncomputable def F_walk_rows : Fn := defF 10 1 g_walk_rows
theorem w_walk_rows (fx : Fx mg) (F0 : FnP K "walk_rows" (SPH.tp 29) f fd) (hm : mg "walk_rows" = some (.ref f)) (c_need_few : DefOk P w K mg base "need_few" 1 1 F_need_few) (c_led_posts : DefOk P w K mg base "led_posts" 3 1 F_led_posts) : DefOk P w K mg base "walk_rows" 4 1 F_walk_rows := by
  refine def_ok (N := N_walk_rows) (ps := ["routine"]) (k := 3) (g := g_walk_rows) F0 hm sc_walk_rows (F0.bindsN fun _ _ _ _ _ _ us hl => match us, hl with | [_], _ => rfl) fun cdv A outer s H E hr => ?_
  have hu := hu_room (X := (cxOf CX0 P w K mg base N_walk_rows "walk_rows" (defScope (SPH.tp 29)) f cdv A outer s H E).nox) hr
  exact (pssd_cons (psd_asg (pd_callD (c_led_posts.mono (by decide)) hr rfl (pad_cons (pd_var (pv 0)) pad_nil)) (pgd_tup rfl (pgsd_cons (pgd_name (pg_name (i := 1) sc_walk_rows.nd rfl (by first | exact Or.inl rfl | exact Or.inr rfl))) (pgsd_cons (pgd_name (pg_name (i := 2) sc_walk_rows.nd rfl (by first | exact Or.inl rfl | exact Or.inr rfl))) pgsd_nil))))
    (pssd_cons (psd_set sc_walk_rows.nd rfl (by first | exact Or.inl rfl | exact Or.inr rfl) (pd_lst pad_nil))
    (pssd_cons (psd_for PassesOwn.never rfl (pid_seq (pd_callB (cd_sorted hu rfl) rfl fx.b_sorted (by decide +kernel) (pad_cons (pd_var (pv 1)) pad_nil))) (pgd_name (pg_name (i := 4) sc_walk_rows.nd rfl (by first | exact Or.inl rfl | exact Or.inr rfl))) (pssd_one (psd_for PassesOwn.never rfl (pid_range rfl fx.b_range (pd_op od_add (pd_constI rfl fx.g_SORTS) pd_int)) (pgd_name (pg_name (i := 5) sc_walk_rows.nd rfl (by first | exact Or.inl rfl | exact Or.inr rfl))) (pssd_cons (psd_asg (pd_dget hu (pd_var (pv 2)) (pd_tup (pad_cons (pd_var (pv 4)) (pad_cons (pd_var (pv 5)) pad_nil))) (fun _ _ => rfl)) (pgd_tup rfl (pgsd_cons (pgd_name (pg_name (i := 6) sc_walk_rows.nd rfl (by first | exact Or.inl rfl | exact Or.inr rfl))) (pgsd_cons (pgd_name (pg_name (i := 7) sc_walk_rows.nd rfl (by first | exact Or.inl rfl | exact Or.inr rfl))) (pgsd_cons (pgd_name (pg_name (i := 8) sc_walk_rows.nd rfl (by first | exact Or.inl rfl | exact Or.inr rfl))) (pgsd_cons (pgd_name (pg_name (i := 9) sc_walk_rows.nd rfl (by first | exact Or.inl rfl | exact Or.inr rfl))) pgsd_nil))))))
    (pssd_cons (psd_expr (pd_callD (c_need_few.mono (by decide)) hr rfl (pad_cons (pd_var (pv 8)) pad_nil)))
    (pssd_one (psd_set sc_walk_rows.nd rfl (by first | exact Or.inl rfl | exact Or.inr rfl) (pd_op od_add (pd_var (pv 3)) (pd_lst (pad_cons (pd_tup (pad_cons (pd_var (pv 4)) (pad_cons (pd_var (pv 5)) (pad_cons (pd_var (pv 8)) (pad_cons (pd_var (pv 6)) pad_nil))))) pad_nil))))))))))
    (pssd_one (psd_ret (pd_var (pv 3)))))))

/-! ### walk_table -/
abbrev N_walk_table : List Str := ["routine", "found", "post", "sort", "marks", "end"]
theorem sc_walk_table : FnScope N_walk_table ["routine"] (defScope (SPH.tp 30)) := ⟨rfl, rfl, rfl, by decide +kernel, rfl, by decide +kernel, by decide +kernel⟩
noncomputable def e1_walk_table : E :=
  (eTup (aCons (eTup (aCons (eVar 2) (aCons (eVar 3) aNil))) (aCons (eTup (aCons (eVar 4) (aCons (eVar 5) aNil))) aNil)))
noncomputable def e2_walk_table : E :=
  (eTup (aCons (eTup (aCons (eC (.int (-1))) (aCons (eVar 3) aNil))) (aCons (eTup (aCons (eTup aNil) (aCons (eC (.int (-1))) aNil))) aNil)))
noncomputable def g_walk_table : ES :=
  (sSeq (sAsg (eCB rDict (aCons (eLc (iSeq (eCall 1 F_walk_rows (aCons (eVar 0) aNil))) (tTup 4 (tsCons (tName 2) (tsCons (tName 3) (tsCons (tName 4) (tsCons (tName 5) tsNil))))) bYes e1_walk_table [2, 3, 4, 5]) aNil)) (tName 1))
  (sRet (eBoth (eVar 1) (eCB rDict (aCons (eLc (iRng (eOp rAdd (eC (.int 3)) (eC (.int 1)))) (tName 3) bYes e2_walk_table [3]) aNil)))))
noncomputable def F_walk_table : Fn := defF 6 1 g_walk_table
theorem w_walk_table (fx : Fx mg) (F0 : FnP K "walk_table" (SPH.tp 30) f fd) (hm : mg "walk_table" = some (.ref f)) (c_walk_rows : DefOk P w K mg base "walk_rows" 4 1 F_walk_rows) : DefOk P w K mg base "walk_table" 5 1 F_walk_table := by
  refine def_ok (N := N_walk_table) (ps := ["routine"]) (k := 4) (g := g_walk_table) F0 hm sc_walk_table (F0.bindsN fun _ _ _ _ _ _ us hl => match us, hl with | [_], _ => rfl) fun cdv A outer s H E hr => ?_
  have hu := hu_room (X := (cxOf CX0 P w K mg base N_walk_table "walk_table" (defScope (SPH.tp 30)) f cdv A outer s H E).nox) hr
  exact (pssd_cons (psd_set sc_walk_table.nd rfl (by first | exact Or.inl rfl | exact Or.inr rfl) (pd_callTy (cd_dict hu rfl) rfl fx.b_dict (by decide +kernel) (pad_cons (pd_lc (own := [("post", 2), ("sort", 3), ("marks", 4), ("end", 5)]) rfl sc_walk_table.nd (pid_seq (pd_callD (c_walk_rows.mono (by decide)) hr rfl (pad_cons (pd_var (pv 0)) pad_nil))) (blkOk_by (N := N_walk_table) (sc := defScope (SPH.tp 30)) (by decide +kernel)) (by decide) (fun _ _ _ _ _ => (pgd_tup rfl (pgsd_cons (pgd_name (pg_name (i := 2) sc_walk_table.nd rfl (by first | exact Or.inl rfl | exact Or.inr rfl))) (pgsd_cons (pgd_name (pg_name (i := 3) sc_walk_table.nd rfl (by first | exact Or.inl rfl | exact Or.inr rfl))) (pgsd_cons (pgd_name (pg_name (i := 4) sc_walk_table.nd rfl (by first | exact Or.inl rfl | exact Or.inr rfl))) (pgsd_cons (pgd_name (pg_name (i := 5) sc_walk_table.nd rfl (by first | exact Or.inl rfl | exact Or.inr rfl))) pgsd_nil)))))) (fun _ _ _ _ _ => ptsd_nil) (fun _ _ _ _ _ => (pd_tup (pad_cons (pd_tup (pad_cons (pd_var (pv 2)) (pad_cons (pd_var (pv 3)) pad_nil))) (pad_cons (pd_tup (pad_cons (pd_var (pv 4)) (pad_cons (pd_var (pv 5)) pad_nil))) pad_nil))))) pad_nil)))
    (pssd_one (psd_ret (pd_both hu (pd_var (pv 1)) (pd_callTy (cd_dict hu rfl) rfl fx.b_dict (by decide +kernel) (pad_cons (pd_lc (own := [("sort", 3)]) rfl sc_walk_table.nd (pid_range rfl fx.b_range (pd_op od_add (pd_constI rfl fx.g_SORTS) pd_int)) (blkOk_by (N := N_walk_table) (sc := defScope (SPH.tp 30)) (by decide +kernel)) (by decide) (fun _ _ _ _ _ => (pgd_name (pg_name (i := 3) sc_walk_table.nd rfl (by first | exact Or.inl rfl | exact Or.inr rfl)))) (fun _ _ _ _ _ => ptsd_nil) (fun _ _ _ _ _ => (pd_tup (pad_cons (pd_tup (pad_cons (pd_constI rfl fx.g_REST) (pad_cons (pd_var (pv 3)) pad_nil))) (pad_cons (pd_tup (pad_cons (pd_tup pad_nil) (pad_cons (pd_constI rfl fx.g_REST) pad_nil))) pad_nil))))) pad_nil))))))

/-! ### nexts_of -/
abbrev N_nexts_of : List Str := ["table", "marks", "here", "post", "count", "found", "sort", "more", "end"]
theorem sc_nexts_of : FnScope N_nexts_of ["table", "marks", "here"] (defScope (SPH.tp 31)) := ⟨rfl, rfl, rfl, by decide +kernel, rfl, by decide +kernel, by decide +kernel⟩
noncomputable def b1_nexts_of : ES :=
  (sSeq (sAsg (eOp rDGet (eVar 0) (eTup (aCons (eVar 3) (aCons (eVar 6) aNil)))) (tTup 2 (tsCons (tName 7) (tsCons (tName 8) tsNil))))
  (sIf (eB (eOp rEq (eSl (eVar 1) (oSome (eVar 4)) (oSome (eOp rAdd (eVar 4) (eCB rLen2 (aCons (eVar 7) aNil))))) (eVar 7))) (sAsg (eOp rAdd (eVar 5) (eLst (aCons (eTup (aCons (eVar 6) (aCons (eTup (aCons (eVar 8) (aCons (eOp rAdd (eVar 4) (eCB rLen2 (aCons (eVar 7) aNil))) aNil))) aNil))) aNil))) (tName 5)) sNil))
noncomputable def g_nexts_of : ES :=
  (sSeq (sAsg (eVar 2) (tTup 2 (tsCons (tName 3) (tsCons (tName 4) tsNil))))
  (sSeq (sAsg (eLst aNil) (tName 5))
  (sSeq (sFor (iRng (eC (.int 3))) (tName 6) b1_nexts_of)
  (sRet (eVar 5)))))
noncomputable def F_nexts_of : Fn := defF 9 3 g_nexts_of
theorem w_nexts_of (fx : Fx mg) (F0 : FnP K "nexts_of" (SPH.tp 31) f fd) (hm : mg "nexts_of" = some (.ref f))  : DefOk P w K mg base "nexts_of" 1 3 F_nexts_of := by
  refine def_ok (N := N_nexts_of) (ps := ["table", "marks", "here"]) (k := 0) (g := g_nexts_of) F0 hm sc_nexts_of (F0.bindsN fun _ _ _ _ _ _ us hl => match us, hl with | [_, _, _], _ => rfl) fun cdv A outer s H E hr => ?_
  have hu := hu_room (X := (cxOf CX0 P w K mg base N_nexts_of "nexts_of" (defScope (SPH.tp 31)) f cdv A outer s H E).nox) hr
  exact (pssd_cons (psd_asg (pd_var (pv 2)) (pgd_tup rfl (pgsd_cons (pgd_name (pg_name (i := 3) sc_nexts_of.nd rfl (by first | exact Or.inl rfl | exact Or.inr rfl))) (pgsd_cons (pgd_name (pg_name (i := 4) sc_nexts_of.nd rfl (by first | exact Or.inl rfl | exact Or.inr rfl))) pgsd_nil))))
    (pssd_cons (psd_set sc_nexts_of.nd rfl (by first | exact Or.inl rfl | exact Or.inr rfl) (pd_lst pad_nil))
    (pssd_cons (psd_for PassesOwn.never rfl (pid_range rfl fx.b_range (pd_constI rfl fx.g_SORTS)) (pgd_name (pg_name (i := 6) sc_nexts_of.nd rfl (by first | exact Or.inl rfl | exact Or.inr rfl))) (pssd_cons (psd_asg (pd_dget hu (pd_var (pv 0)) (pd_tup (pad_cons (pd_var (pv 3)) (pad_cons (pd_var (pv 6)) pad_nil))) (fun _ _ => rfl)) (pgd_tup rfl (pgsd_cons (pgd_name (pg_name (i := 7) sc_nexts_of.nd rfl (by first | exact Or.inl rfl | exact Or.inr rfl))) (pgsd_cons (pgd_name (pg_name (i := 8) sc_nexts_of.nd rfl (by first | exact Or.inl rfl | exact Or.inr rfl))) pgsd_nil))))
    (pssd_one (psd_if (ptd_cmp (od_eq hu) (pd_slice (pd_var (pv 1)) (pod_some (pd_var (pv 4))) (pod_some (pd_op od_add (pd_var (pv 4)) (pd_callB cd_len2 rfl fx.b_len (by decide +kernel) (pad_cons (pd_var (pv 7)) pad_nil))))) (pd_var (pv 7))) (pssd_one (psd_set sc_nexts_of.nd rfl (by first | exact Or.inl rfl | exact Or.inr rfl) (pd_op od_add (pd_var (pv 5)) (pd_lst (pad_cons (pd_tup (pad_cons (pd_var (pv 6)) (pad_cons (pd_tup (pad_cons (pd_var (pv 8)) (pad_cons (pd_op od_add (pd_var (pv 4)) (pd_callB cd_len2 rfl fx.b_len (by decide +kernel) (pad_cons (pd_var (pv 7)) pad_nil))) pad_nil))) pad_nil))) pad_nil))))) pssd_nil))))
    (pssd_one (psd_ret (pd_var (pv 5)))))))

/-! ### is_hit -/
abbrev N_is_hit : List Str := ["table", "marks", "here", "post", "count"]
theorem sc_is_hit : FnScope N_is_hit ["table", "marks", "here"] (defScope (SPH.tp 32)) := ⟨rfl, rfl, rfl, by decide +kernel, rfl, by decide +kernel, by decide +kernel⟩
noncomputable def g_is_hit : ES :=
  (sSeq (sAsg (eVar 2) (tTup 2 (tsCons (tName 3) (tsCons (tName 4) tsNil))))
  (sRet (eOp rEq (eOp rIx (eOp rDGet (eVar 0) (eTup (aCons (eVar 3) (aCons (eC (.int 3)) aNil)))) (eC (.int 0))) (eSl (eVar 1) (oSome (eVar 4)) oNone))))
noncomputable def F_is_hit : Fn := defF 5 3 g_is_hit
theorem w_is_hit (fx : Fx mg) (F0 : FnP K "is_hit" (SPH.tp 32) f fd) (hm : mg "is_hit" = some (.ref f))  : DefOk P w K mg base "is_hit" 1 3 F_is_hit := by
  refine def_ok (N := N_is_hit) (ps := ["table", "marks", "here"]) (k := 0) (g := g_is_hit) F0 hm sc_is_hit (F0.bindsN fun _ _ _ _ _ _ us hl => match us, hl with | [_, _, _], _ => rfl) fun cdv A outer s H E hr => ?_
  have hu := hu_room (X := (cxOf CX0 P w K mg base N_is_hit "is_hit" (defScope (SPH.tp 32)) f cdv A outer s H E).nox) hr
  exact (pssd_cons (psd_asg (pd_var (pv 2)) (pgd_tup rfl (pgsd_cons (pgd_name (pg_name (i := 3) sc_is_hit.nd rfl (by first | exact Or.inl rfl | exact Or.inr rfl))) (pgsd_cons (pgd_name (pg_name (i := 4) sc_is_hit.nd rfl (by first | exact Or.inl rfl | exact Or.inr rfl))) pgsd_nil))))
    (pssd_one (psd_ret (pd_cmp (od_eq hu) (pd_ix (pd_dget hu (pd_var (pv 0)) (pd_tup (pad_cons (pd_var (pv 3)) (pad_cons (pd_constI rfl fx.g_SORTS) pad_nil))) (fun _ _ => rfl)) pd_int (fun _ _ => rfl)) (pd_slice (pd_var (pv 1)) (pod_some (pd_var (pv 4))) pod_none)))))

/-! ### reached_with -/
abbrev N_reached_with : List Str := ["table", "marks", "found", "line", "here", "sort", "later"]
theorem sc_reached_with : FnScope N_reached_with ["table", "marks"] (defScope (SPH.tp 33)) := ⟨rfl, rfl, rfl, by decide +kernel, rfl, by decide +kernel, by decide +kernel⟩
noncomputable def b1_reached_with : ES :=
  (sIf (eB (eOp rDNotIn (eVar 6) (eVar 2))) (sPar2 2 3 (aCons (eUpd (eVar 2) (eVar 6) (eOp rAdd (eOp rDGet (eVar 2) (eVar 4)) (eTup (aCons (eVar 5) aNil)))) (aCons (eOp rAdd (eVar 3) (eLst (aCons (eVar 6) aNil))) aNil))) sNil)
noncomputable def c2_reached_with : EB :=
  (eB (eOp rNe (eVar 3) (eLst aNil)))
noncomputable def w3_reached_with : ES :=
  (sSeq (sPar2 4 3 (aCons (eOp rIx (eVar 3) (eC (.int 0))) (aCons (eSl (eVar 3) (oSome (eC (.int 1))) oNone) aNil)))
  (sFor (iSeq (eCall 3 F_nexts_of (aCons (eVar 0) (aCons (eVar 1) (aCons (eVar 4) aNil))))) (tTup 2 (tsCons (tName 5) (tsCons (tName 6) tsNil))) b1_reached_with))
noncomputable def g_reached_with : ES :=
  (sSeq (sPar2 2 3 (aCons (eOne (eTup (aCons (eC (.int 0)) (aCons (eC (.int 0)) aNil))) (eTup aNil)) (aCons (eLst (aCons (eTup (aCons (eC (.int 0)) (aCons (eC (.int 0)) aNil))) aNil)) aNil)))
  (sSeq (whileGo c2_reached_with w3_reached_with 1000)
  (sRet (eVar 2))))
noncomputable def F_reached_with : Fn := defF 7 2 g_reached_with
theorem w_reached_with (fx : Fx mg) (F0 : FnP K "reached_with" (SPH.tp 33) f fd) (hm : mg "reached_with" = some (.ref f)) (c_nexts_of : DefOk P w K mg base "nexts_of" 1 3 F_nexts_of) : DefOk P w K mg base "reached_with" 2 2 F_reached_with := by
  refine def_ok (N := N_reached_with) (ps := ["table", "marks"]) (k := 1) (g := g_reached_with) F0 hm sc_reached_with (F0.bindsN fun _ _ _ _ _ _ us hl => match us, hl with | [_, _], _ => rfl) fun cdv A outer s H E hr => ?_
  have hu := hu_room (X := (cxOf CX0 P w K mg base N_reached_with "reached_with" (defScope (SPH.tp 33)) f cdv A outer s H E).nox) hr
  exact (pssd_cons (psd_par2 rfl sc_reached_with.nd rfl rfl (by decide) rfl rfl (pad_cons (pd_one1 hu (pd_tup (pad_cons pd_int (pad_cons pd_int pad_nil))) (pd_tup pad_nil)) (pad_cons (pd_lst (pad_cons (pd_tup (pad_cons pd_int (pad_cons pd_int pad_nil))) pad_nil)) pad_nil)))
    (pssd_cons (psd_while 1000 PassesOwn.never (ptd_cmp (od_ne hu) (pd_var (pv 3)) (pd_lst pad_nil)) (pssd_cons (psd_par2 rfl sc_reached_with.nd rfl rfl (by decide) rfl rfl (pad_cons (pd_ix (pd_var (pv 3)) pd_int (fun _ _ => rfl)) (pad_cons (pd_slice (pd_var (pv 3)) (pod_some pd_int) pod_none) pad_nil)))
    (pssd_one (psd_for PassesOwn.never rfl (pid_seq (pd_callD (c_nexts_of.mono (by decide)) hr rfl (pad_cons (pd_var (pv 0)) (pad_cons (pd_var (pv 1)) (pad_cons (pd_var (pv 4)) pad_nil))))) (pgd_tup rfl (pgsd_cons (pgd_name (pg_name (i := 5) sc_reached_with.nd rfl (by first | exact Or.inl rfl | exact Or.inr rfl))) (pgsd_cons (pgd_name (pg_name (i := 6) sc_reached_with.nd rfl (by first | exact Or.inl rfl | exact Or.inr rfl))) pgsd_nil))) (pssd_one (psd_if (ptd_dnotin hu (pd_var (pv 6)) (pd_var (pv 2))) (pssd_one (psd_par2 rfl sc_reached_with.nd rfl rfl (by decide) rfl rfl (pad_cons (pd_upd hu (pd_var (pv 2)) (pd_var (pv 6)) (pd_op od_add (pd_dget hu (pd_var (pv 2)) (pd_var (pv 4)) (fun _ _ => rfl)) (pd_tup (pad_cons (pd_var (pv 5)) pad_nil)))) (pad_cons (pd_op od_add (pd_var (pv 3)) (pd_lst (pad_cons (pd_var (pv 6)) pad_nil))) pad_nil)))) pssd_nil))))))
    (pssd_one (psd_ret (pd_var (pv 2))))))

/-! ### least_handing -/
abbrev N_least_handing : List Str := ["table", "marks", "found", "hits", "here"]
theorem sc_least_handing : FnScope N_least_handing ["table", "marks"] (defScope (SPH.tp 34)) := ⟨rfl, rfl, rfl, by decide +kernel, rfl, by decide +kernel, by decide +kernel⟩
noncomputable def t1_least_handing : EB :=
  (eB (eCall 3 F_is_hit (aCons (eVar 0) (aCons (eVar 1) (aCons (eVar 4) aNil)))))
noncomputable def e2_least_handing : E :=
  (eTup (aCons (eCB rLen2 (aCons (eOp rDGet (eVar 2) (eVar 4)) aNil)) (aCons (eOp rDGet (eVar 2) (eVar 4)) aNil)))
noncomputable def g_least_handing : ES :=
  (sSeq (sAsg (eCall 2 F_reached_with (aCons (eVar 0) (aCons (eVar 1) aNil))) (tName 2))
  (sSeq (sAsg (eCB rSorted (aCons (eLc (iKey 2) (tName 4) t1_least_handing e2_least_handing [4]) aNil)) (tName 3))
  (sRet (eIf (eB (eOp rNe (eVar 3) (eLst aNil))) (eOp rIx (eOp rIx (eVar 3) (eC (.int 0))) (eC (.int 1))) (eC .non)))))
noncomputable def F_least_handing : Fn := defF 5 2 g_least_handing
theorem w_least_handing (fx : Fx mg) (F0 : FnP K "least_handing" (SPH.tp 34) f fd) (hm : mg "least_handing" = some (.ref f)) (c_is_hit : DefOk P w K mg base "is_hit" 1 3 F_is_hit) (c_reached_with : DefOk P w K mg base "reached_with" 2 2 F_reached_with) : DefOk P w K mg base "least_handing" 3 2 F_least_handing := by
  refine def_ok (N := N_least_handing) (ps := ["table", "marks"]) (k := 2) (g := g_least_handing) F0 hm sc_least_handing (F0.bindsN fun _ _ _ _ _ _ us hl => match us, hl with | [_, _], _ => rfl) fun cdv A outer s H E hr => ?_
  have hu := hu_room (X := (cxOf CX0 P w K mg base N_least_handing "least_handing" (defScope (SPH.tp 34)) f cdv A outer s H E).nox) hr
  exact (pssd_cons (psd_set sc_least_handing.nd rfl (by first | exact Or.inl rfl | exact Or.inr rfl) (pd_callD (c_reached_with.mono (by decide)) hr rfl (pad_cons (pd_var (pv 0)) (pad_cons (pd_var (pv 1)) pad_nil))))
    (pssd_cons (psd_set sc_least_handing.nd rfl (by first | exact Or.inl rfl | exact Or.inr rfl) (pd_callB (cd_sorted hu rfl) rfl fx.b_sorted (by decide +kernel) (pad_cons (pd_lcKeys (own := [("here", 4)]) rfl sc_least_handing.nd (pv 2) (blkOk_by (N := N_least_handing) (sc := defScope (SPH.tp 34)) (by decide +kernel)) (by decide) (fun _ _ _ _ _ => (pgd_name (pg_name (i := 4) sc_least_handing.nd rfl (by first | exact Or.inl rfl | exact Or.inr rfl)))) (fun _ _ _ _ _ => (ptsd_one (ptd_val (pd_callD (c_is_hit.mono (by decide)) hr rfl (pad_cons (pd_var (pv 0)) (pad_cons (pd_var (pv 1)) (pad_cons (pd_var (pv 4)) pad_nil))))))) (fun _ _ _ _ _ => (pd_tup (pad_cons (pd_callB cd_len2 rfl fx.b_len (by decide +kernel) (pad_cons (pd_dget hu (pd_var (pv 2)) (pd_var (pv 4)) (fun _ _ => rfl)) pad_nil)) (pad_cons (pd_dget hu (pd_var (pv 2)) (pd_var (pv 4)) (fun _ _ => rfl)) pad_nil))))) pad_nil)))
    (pssd_one (psd_ret (pd_if (ptd_cmp (od_ne hu) (pd_var (pv 3)) (pd_lst pad_nil)) (pd_ix (pd_ix (pd_var (pv 3)) pd_int (fun _ _ => rfl)) pd_int (fun _ _ => rfl)) pd_non)))))

/-! ### fits_none -/
abbrev N_fits_none : List Str := ["table", "marks", "value", "row", "sort", "later", "one"]
theorem sc_fits_none : FnScope N_fits_none ["table", "marks", "value"] (defScope (SPH.tp 35)) := ⟨rfl, rfl, rfl, by decide +kernel, rfl, by decide +kernel, by decide +kernel⟩
noncomputable def e1_fits_none : E :=
  (eAnd (eIsi qTup (eVar 3)) (eOp rEq (eCB rLen2 (aCons (eVar 3) aNil)) (eC (.int 2))))
noncomputable def b2_fits_none : ES :=
  (sIf (bOr (bNot (eB (eCall 3 F_is_whole (aCons (eOp rIx (eVar 3) (eC (.int 0))) (aCons (eC (.int (-1))) (aCons (eCB rLen2 (aCons (eVar 0) aNil)) aNil)))))) (bOr (bNot (eB (eCall 3 F_is_whole (aCons (eOp rIx (eVar 3) (eC (.int 1))) (aCons (eC (.int 0)) (aCons (eCB rLen2 (aCons (eVar 1) aNil)) aNil)))))) (eB (eOp rDNotIn (eTup (aCons (eOp rIx (eVar 3) (eC (.int 0))) (aCons (eC (.int 0)) aNil))) (eVar 0))))) (sRet (eC (.bl false))) sNil)
noncomputable def e3_fits_none : E :=
  (eOp rLt (eVar 6) (eVar 5))
noncomputable def e4_fits_none : E :=
  (eCall 3 F_is_hit (aCons (eVar 0) (aCons (eVar 1) (aCons (eVar 3) aNil))))
noncomputable def e5_fits_none : E :=
  (eOp rIn (eVar 5) (eVar 2))
noncomputable def i6_fits_none : EI :=
  (iSeq (eCall 3 F_nexts_of (aCons (eVar 0) (aCons (eVar 1) (aCons (eVar 3) aNil)))))
noncomputable def g_fits_none : ES :=
  (sSeq (sIf (bOr (bNot (eB (eIsi qTup (eVar 2)))) (bNot (eB (eCB rAll (aCons (eLc (iSeq (eVar 2)) (tName 3) bYes e1_fits_none [3]) aNil))))) (sRet (eC (.bl false))) sNil)
  (sSeq (sFor (iSeq (eVar 2)) (tName 3) b2_fits_none)
  (sSeq (sIf (bOr (bNot (eB (eCB rAll (aCons (eLc (iZp (aCons (eVar 2) (aCons (eSl (eVar 2) (oSome (eC (.int 1))) oNone) aNil))) (tTup 2 (tsCons (tName 6) (tsCons (tName 5) tsNil))) bYes e3_fits_none [6, 5]) aNil)))) (eB (eOp rNotIn (eTup (aCons (eC (.int 0)) (aCons (eC (.int 0)) aNil))) (eVar 2)))) (sRet (eC (.bl false))) sNil)
  (sSeq (sIf (eB (eCB rAny (aCons (eLc (iSeq (eVar 2)) (tName 3) bYes e4_fits_none [3]) aNil))) (sRet (eC (.bl false))) sNil)
  (sRet (eCB rAll (aCons (eLc2 (iSeq (eVar 2)) (tName 3) bYes i6_fits_none (tTup 2 (tsCons (tName 4) (tsCons (tName 5) tsNil))) bYes e5_fits_none [3, 4, 5] [4, 5]) aNil)))))))
noncomputable def F_fits_none : Fn := defF 7 3 g_fits_none
theorem w_fits_none (fx : Fx mg) (F0 : FnP K "fits_none" (SPH.tp 35) f fd) (hm : mg "fits_none" = some (.ref f)) (c_is_whole : DefOk P w K mg base "is_whole" 1 3 F_is_whole) (c_nexts_of : DefOk P w K mg base "nexts_of" 1 3 F_nexts_of) (c_is_hit : DefOk P w K mg base "is_hit" 1 3 F_is_hit) : DefOk P w K mg base "fits_none" 2 3 F_fits_none := by
  refine def_ok (N := N_fits_none) (ps := ["table", "marks", "value"]) (k := 1) (g := g_fits_none) F0 hm sc_fits_none (F0.bindsN fun _ _ _ _ _ _ us hl => match us, hl with | [_, _, _], _ => rfl) fun cdv A outer s H E hr => ?_
  have hu := hu_room (X := (cxOf CX0 P w K mg base N_fits_none "fits_none" (defScope (SPH.tp 35)) f cdv A outer s H E).nox) hr
  exact (pssd_cons (psd_if (ptd_w (pwd_or (ptd_not (ptd_val (pd_isiT rfl fx.b_isinstance rfl fx.b_tuple (pd_var (pv 2))))) (pwd_or1 (ptd_not (ptd_val (pd_callB (cd_all rfl) rfl fx.b_all (by decide +kernel) (pad_cons (pd_lc (own := [("row", 3)]) rfl sc_fits_none.nd (pid_seq (pd_var (pv 2))) (blkOk_by (N := N_fits_none) (sc := defScope (SPH.tp 35)) (by decide +kernel)) (by decide) (fun _ _ _ _ _ => (pgd_name (pg_name (i := 3) sc_fits_none.nd rfl (by first | exact Or.inl rfl | exact Or.inr rfl)))) (fun _ _ _ _ _ => ptsd_nil) (fun _ _ _ _ _ => (pd_and (pd_isiT rfl fx.b_isinstance rfl fx.b_tuple (pd_var (pv 3))) (pd_one (pd_cmp (od_eq hu) (pd_callB cd_len2 rfl fx.b_len (by decide +kernel) (pad_cons (pd_var (pv 3)) pad_nil)) pd_int))))) pad_nil))))))) (pssd_one (psd_ret pd_bl)) pssd_nil)
    (pssd_cons (psd_for PassesOwn.never rfl (pid_seq (pd_var (pv 2))) (pgd_name (pg_name (i := 3) sc_fits_none.nd rfl (by first | exact Or.inl rfl | exact Or.inr rfl))) (pssd_one (psd_if (ptd_w (pwd_or (ptd_not (ptd_val (pd_callD (c_is_whole.mono (by decide)) hr rfl (pad_cons (pd_ix (pd_var (pv 3)) pd_int (fun _ _ => rfl)) (pad_cons (pd_constI rfl fx.g_REST) (pad_cons (pd_callB cd_len2 rfl fx.b_len (by decide +kernel) (pad_cons (pd_var (pv 0)) pad_nil)) pad_nil)))))) (pwd_or (ptd_not (ptd_val (pd_callD (c_is_whole.mono (by decide)) hr rfl (pad_cons (pd_ix (pd_var (pv 3)) pd_int (fun _ _ => rfl)) (pad_cons pd_int (pad_cons (pd_callB cd_len2 rfl fx.b_len (by decide +kernel) (pad_cons (pd_var (pv 1)) pad_nil)) pad_nil)))))) (pwd_or1 (ptd_dnotin hu (pd_tup (pad_cons (pd_ix (pd_var (pv 3)) pd_int (fun _ _ => rfl)) (pad_cons pd_int pad_nil))) (pd_var (pv 0))))))) (pssd_one (psd_ret pd_bl)) pssd_nil)))
    (pssd_cons (psd_if (ptd_w (pwd_or (ptd_not (ptd_val (pd_callB (cd_all rfl) rfl fx.b_all (by decide +kernel) (pad_cons (pd_lc (own := [("one", 6), ("later", 5)]) rfl sc_fits_none.nd (pid_zip rfl fx.b_zip (pad_cons (pd_var (pv 2)) (pad_cons (pd_slice (pd_var (pv 2)) (pod_some pd_int) pod_none) pad_nil))) (blkOk_by (N := N_fits_none) (sc := defScope (SPH.tp 35)) (by decide +kernel)) (by decide) (fun _ _ _ _ _ => (pgd_tup rfl (pgsd_cons (pgd_name (pg_name (i := 6) sc_fits_none.nd rfl (by first | exact Or.inl rfl | exact Or.inr rfl))) (pgsd_cons (pgd_name (pg_name (i := 5) sc_fits_none.nd rfl (by first | exact Or.inl rfl | exact Or.inr rfl))) pgsd_nil)))) (fun _ _ _ _ _ => ptsd_nil) (fun _ _ _ _ _ => (pd_cmp (od_lt hu) (pd_var (pv 6)) (pd_var (pv 5))))) pad_nil)))) (pwd_or1 (ptd_cmp (od_notIn hu) (pd_tup (pad_cons pd_int (pad_cons pd_int pad_nil))) (pd_var (pv 2)))))) (pssd_one (psd_ret pd_bl)) pssd_nil)
    (pssd_cons (psd_if (ptd_val (pd_callB (cd_any rfl) rfl fx.b_any (by decide +kernel) (pad_cons (pd_lc (own := [("row", 3)]) rfl sc_fits_none.nd (pid_seq (pd_var (pv 2))) (blkOk_by (N := N_fits_none) (sc := defScope (SPH.tp 35)) (by decide +kernel)) (by decide) (fun _ _ _ _ _ => (pgd_name (pg_name (i := 3) sc_fits_none.nd rfl (by first | exact Or.inl rfl | exact Or.inr rfl)))) (fun _ _ _ _ _ => ptsd_nil) (fun _ _ _ _ _ => (pd_callD (c_is_hit.mono (by decide)) hr rfl (pad_cons (pd_var (pv 0)) (pad_cons (pd_var (pv 1)) (pad_cons (pd_var (pv 3)) pad_nil)))))) pad_nil))) (pssd_one (psd_ret pd_bl)) pssd_nil)
    (pssd_one (psd_ret (pd_callB (cd_all rfl) rfl fx.b_all (by decide +kernel) (pad_cons (pd_lc2 (own := [("row", 3), ("sort", 4), ("later", 5)]) (vs1 := [4, 5]) rfl sc_fits_none.nd (pid_seq (pd_var (pv 2))) (blkOk_by (N := N_fits_none) (sc := defScope (SPH.tp 35)) (by decide +kernel)) (by decide) (by decide) (by decide) (fun _ _ _ _ _ => (pgd_name (pg_name (i := 3) sc_fits_none.nd rfl (by first | exact Or.inl rfl | exact Or.inr rfl)))) (fun _ _ _ _ _ => ptsd_nil) (fun _ _ _ _ _ => (pid_seq (pd_callD (c_nexts_of.mono (by decide)) hr rfl (pad_cons (pd_var (pv 0)) (pad_cons (pd_var (pv 1)) (pad_cons (pd_var (pv 3)) pad_nil)))))) (fun _ _ _ _ _ => (pgd_tup rfl (pgsd_cons (pgd_name (pg_name (i := 4) sc_fits_none.nd rfl (by first | exact Or.inl rfl | exact Or.inr rfl))) (pgsd_cons (pgd_name (pg_name (i := 5) sc_fits_none.nd rfl (by first | exact Or.inl rfl | exact Or.inr rfl))) pgsd_nil)))) (fun _ _ _ _ _ => ptsd_nil) (fun _ _ _ _ _ => (pd_cmp (od_in hu) (pd_var (pv 5)) (pd_var (pv 2))))) pad_nil))))))))

/-! ### handing_stack -/
abbrev N_handing_stack : List Str := ["routine", "marks"]
theorem sc_handing_stack : FnScope N_handing_stack ["routine", "marks"] (defScope (SPH.tp 36)) := ⟨rfl, rfl, rfl, by decide +kernel, rfl, by decide +kernel, by decide +kernel⟩
noncomputable def g_handing_stack : ES :=
  (sSeq (sDrop (eCall 1 F_need_routine (aCons (eVar 0) aNil)))
  (sSeq (sDrop (eCall 1 F_need_marks (aCons (eVar 1) aNil)))
  (sSeq (sDrop (eCall 1 F_need_rest (aCons (eVar 0) aNil)))
  (sRet (eCall 2 F_least_handing (aCons (eCall 1 F_walk_table (aCons (eVar 0) aNil)) (aCons (eVar 1) aNil)))))))
noncomputable def F_handing_stack : Fn := defF 2 2 g_handing_stack
theorem w_handing_stack (fx : Fx mg) (F0 : FnP K "handing_stack" (SPH.tp 36) f fd) (hm : mg "handing_stack" = some (.ref f)) (c_need_routine : DefOk P w K mg base "need_routine" 5 1 F_need_routine) (c_need_rest : DefOk P w K mg base "need_rest" 5 1 F_need_rest) (c_need_marks : DefOk P w K mg base "need_marks" 3 1 F_need_marks) (c_walk_table : DefOk P w K mg base "walk_table" 5 1 F_walk_table) (c_least_handing : DefOk P w K mg base "least_handing" 3 2 F_least_handing) : DefOk P w K mg base "handing_stack" 6 2 F_handing_stack := by
  refine def_ok (N := N_handing_stack) (ps := ["routine", "marks"]) (k := 5) (g := g_handing_stack) F0 hm sc_handing_stack (F0.bindsN fun _ _ _ _ _ _ us hl => match us, hl with | [_, _], _ => rfl) fun cdv A outer s H E hr => ?_
  have hu := hu_room (X := (cxOf CX0 P w K mg base N_handing_stack "handing_stack" (defScope (SPH.tp 36)) f cdv A outer s H E).nox) hr
  exact (pssd_cons (psd_expr (pd_callD (c_need_routine.mono (by decide)) hr rfl (pad_cons (pd_var (pv 0)) pad_nil)))
    (pssd_cons (psd_expr (pd_callD (c_need_marks.mono (by decide)) hr rfl (pad_cons (pd_var (pv 1)) pad_nil)))
    (pssd_cons (psd_expr (pd_callD (c_need_rest.mono (by decide)) hr rfl (pad_cons (pd_var (pv 0)) pad_nil)))
    (pssd_one (psd_ret (pd_callD (c_least_handing.mono (by decide)) hr rfl (pad_cons (pd_callD (c_walk_table.mono (by decide)) hr rfl (pad_cons (pd_var (pv 0)) pad_nil)) (pad_cons (pd_var (pv 1)) pad_nil))))))))

/-! ### is_none_paper -/
abbrev N_is_none_paper : List Str := ["routine", "marks", "value"]
theorem sc_is_none_paper : FnScope N_is_none_paper ["routine", "marks", "value"] (defScope (SPH.tp 37)) := ⟨rfl, rfl, rfl, by decide +kernel, rfl, by decide +kernel, by decide +kernel⟩
noncomputable def g_is_none_paper : ES :=
  (sSeq (sDrop (eCall 1 F_need_routine (aCons (eVar 0) aNil)))
  (sSeq (sDrop (eCall 1 F_need_marks (aCons (eVar 1) aNil)))
  (sSeq (sDrop (eCall 1 F_need_rest (aCons (eVar 0) aNil)))
  (sRet (eCall 3 F_fits_none (aCons (eCall 1 F_walk_table (aCons (eVar 0) aNil)) (aCons (eVar 1) (aCons (eVar 2) aNil))))))))
noncomputable def F_is_none_paper : Fn := defF 3 3 g_is_none_paper
theorem w_is_none_paper (fx : Fx mg) (F0 : FnP K "is_none_paper" (SPH.tp 37) f fd) (hm : mg "is_none_paper" = some (.ref f)) (c_need_routine : DefOk P w K mg base "need_routine" 5 1 F_need_routine) (c_need_rest : DefOk P w K mg base "need_rest" 5 1 F_need_rest) (c_need_marks : DefOk P w K mg base "need_marks" 3 1 F_need_marks) (c_walk_table : DefOk P w K mg base "walk_table" 5 1 F_walk_table) (c_fits_none : DefOk P w K mg base "fits_none" 2 3 F_fits_none) : DefOk P w K mg base "is_none_paper" 6 3 F_is_none_paper := by
  refine def_ok (N := N_is_none_paper) (ps := ["routine", "marks", "value"]) (k := 5) (g := g_is_none_paper) F0 hm sc_is_none_paper (F0.bindsN fun _ _ _ _ _ _ us hl => match us, hl with | [_, _, _], _ => rfl) fun cdv A outer s H E hr => ?_
  have hu := hu_room (X := (cxOf CX0 P w K mg base N_is_none_paper "is_none_paper" (defScope (SPH.tp 37)) f cdv A outer s H E).nox) hr
  exact (pssd_cons (psd_expr (pd_callD (c_need_routine.mono (by decide)) hr rfl (pad_cons (pd_var (pv 0)) pad_nil)))
    (pssd_cons (psd_expr (pd_callD (c_need_marks.mono (by decide)) hr rfl (pad_cons (pd_var (pv 1)) pad_nil)))
    (pssd_cons (psd_expr (pd_callD (c_need_rest.mono (by decide)) hr rfl (pad_cons (pd_var (pv 0)) pad_nil)))
    (pssd_one (psd_ret (pd_callD (c_fits_none.mono (by decide)) hr rfl (pad_cons (pd_callD (c_walk_table.mono (by decide)) hr rfl (pad_cons (pd_var (pv 0)) pad_nil)) (pad_cons (pd_var (pv 1)) (pad_cons (pd_var (pv 2)) pad_nil)))))))))

/-! ### none_paper -/
abbrev N_none_paper : List Str := ["routine", "marks", "table"]
theorem sc_none_paper : FnScope N_none_paper ["routine", "marks"] (defScope (SPH.tp 38)) := ⟨rfl, rfl, rfl, by decide +kernel, rfl, by decide +kernel, by decide +kernel⟩
noncomputable def g_none_paper : ES :=
  (sSeq (sDrop (eCall 1 F_need_routine (aCons (eVar 0) aNil)))
  (sSeq (sDrop (eCall 1 F_need_marks (aCons (eVar 1) aNil)))
  (sSeq (sDrop (eCall 1 F_need_rest (aCons (eVar 0) aNil)))
  (sSeq (sAsg (eCall 1 F_walk_table (aCons (eVar 0) aNil)) (tName 2))
  (sSeq (sIf (eB (eOp rNotN (eCall 2 F_least_handing (aCons (eVar 2) (aCons (eVar 1) aNil))) (eC .non))) (sRet (eC .non)) sNil)
  (sRet (eCB rTuple (aCons (eCB rSorted (aCons (eCall 2 F_reached_with (aCons (eVar 2) (aCons (eVar 1) aNil))) aNil)) aNil))))))))
noncomputable def F_none_paper : Fn := defF 3 2 g_none_paper
theorem w_none_paper (fx : Fx mg) (F0 : FnP K "none_paper" (SPH.tp 38) f fd) (hm : mg "none_paper" = some (.ref f)) (c_need_routine : DefOk P w K mg base "need_routine" 5 1 F_need_routine) (c_need_rest : DefOk P w K mg base "need_rest" 5 1 F_need_rest) (c_need_marks : DefOk P w K mg base "need_marks" 3 1 F_need_marks) (c_walk_table : DefOk P w K mg base "walk_table" 5 1 F_walk_table) (c_reached_with : DefOk P w K mg base "reached_with" 2 2 F_reached_with) (c_least_handing : DefOk P w K mg base "least_handing" 3 2 F_least_handing) : DefOk P w K mg base "none_paper" 6 2 F_none_paper := by
  refine def_ok (N := N_none_paper) (ps := ["routine", "marks"]) (k := 5) (g := g_none_paper) F0 hm sc_none_paper (F0.bindsN fun _ _ _ _ _ _ us hl => match us, hl with | [_, _], _ => rfl) fun cdv A outer s H E hr => ?_
  have hu := hu_room (X := (cxOf CX0 P w K mg base N_none_paper "none_paper" (defScope (SPH.tp 38)) f cdv A outer s H E).nox) hr
  exact (pssd_cons (psd_expr (pd_callD (c_need_routine.mono (by decide)) hr rfl (pad_cons (pd_var (pv 0)) pad_nil)))
    (pssd_cons (psd_expr (pd_callD (c_need_marks.mono (by decide)) hr rfl (pad_cons (pd_var (pv 1)) pad_nil)))
    (pssd_cons (psd_expr (pd_callD (c_need_rest.mono (by decide)) hr rfl (pad_cons (pd_var (pv 0)) pad_nil)))
    (pssd_cons (psd_set sc_none_paper.nd rfl (by first | exact Or.inl rfl | exact Or.inr rfl) (pd_callD (c_walk_table.mono (by decide)) hr rfl (pad_cons (pd_var (pv 0)) pad_nil)))
    (pssd_cons (psd_if (ptd_cmp od_notN (pd_callD (c_least_handing.mono (by decide)) hr rfl (pad_cons (pd_var (pv 2)) (pad_cons (pd_var (pv 1)) pad_nil))) pd_non) (pssd_one (psd_ret pd_non)) pssd_nil)
    (pssd_one (psd_ret (pd_callTy cd_tuple rfl fx.b_tuple (by decide +kernel) (pad_cons (pd_callB (cd_sorted hu rfl) rfl fx.b_sorted (by decide +kernel) (pad_cons (pd_callD (c_reached_with.mono (by decide)) hr rfl (pad_cons (pd_var (pv 2)) (pad_cons (pd_var (pv 1)) pad_nil))) pad_nil)) pad_nil)))))))))
end
end Pg
set_option Elab.async false
set_option linter.all false
set_option maxRecDepth 100000
set_option maxHeartbeats 4000000
namespace Pg
open PySem PySem.Spec PyProof.Rows L2
section
variable {P : Program} {w : World} {K : PySem.W.Frag} {mg : Str → Option Value} {base : Heap} {f : Addr} {fd : FuncData}
/-! ### law_roll -/
abbrev N_law_roll : List Str := ["_law_cup_here", "_law_many", "_law_found", "_law_deep"]
theorem sc_law_roll : FnScope N_law_roll ["_law_cup_here", "_law_many"] (defScope (SPH.tp 41)) := ⟨rfl, rfl, rfl, by decide +kernel, rfl, by decide +kernel, by decide +kernel⟩
noncomputable def g_law_roll : ES :=
  (sSeq (sIf (eB (eOp rGt (eOp rIx (eVar 0) (eC (.int 0))) (eC (.int 0)))) (sSeq (sAsg (eOp rMod (eCB rInt (aCons (eOp rIx (eVar 0) (eC (.int 0))) aNil)) (eVar 1)) (tName 2))
  (sSeq (sCellSet 0 (eC (.int 0)) (eOp rDiv (eOp rIx (eVar 0) (eC (.int 0))) (eVar 1)))
  (sRet (eVar 2)))) sNil)
  (sSeq (sCellSet 0 (eC (.int 1)) (eOp rMod (eCB rInt (aCons (eOp rAdd (eOp rMul (eOp rIx (eVar 0) (eC (.int 1))) (eC (.int 30671))) (eC (.int 7919))) aNil)) (eC (.int 2147483549))))
  (sSeq (sAsg (eOp rMod (eCB rInt (aCons (eOp rMul (eOp rIx (eVar 0) (eC (.int 1))) (eOp rAdd (eOp rIx (eVar 0) (eC (.int 1))) (eC (.int 131)))) aNil)) (eC (.int 2147483587))) (tName 3))
  (sRet (eOp rMod (eCB rInt (aCons (eOp rDiv (eVar 3) (eC (.int 709))) aNil)) (eVar 1))))))
noncomputable def F_law_roll : Fn := defF 4 2 g_law_roll
theorem w_law_roll (fx : Fx mg) (F0 : FnP K "_law_roll" (SPH.tp 41) f fd) (hm : mg "_law_roll" = some (.ref f))  : DefOk P w K mg base "_law_roll" 1 2 F_law_roll := by
  refine def_ok (N := N_law_roll) (ps := ["_law_cup_here", "_law_many"]) (k := 0) (g := g_law_roll) F0 hm sc_law_roll (F0.bindsN fun _ _ _ _ _ _ us hl => match us, hl with | [_, _], _ => rfl) fun cdv A outer s H E hr => ?_
  have hu := hu_room (X := (cxOf CX0 P w K mg base N_law_roll "_law_roll" (defScope (SPH.tp 41)) f cdv A outer s H E).nox) hr
  exact (pssd_cons (psd_if (ptd_cmp od_gt (pd_ix (pd_var (pv 0)) pd_int (fun _ _ => rfl)) pd_int) (pssd_cons (psd_set sc_law_roll.nd rfl (by first | exact Or.inl rfl | exact Or.inr rfl) (pd_op od_mod (pd_callTy cd_int rfl fx.b_int (by decide +kernel) (pad_cons (pd_ix (pd_var (pv 0)) pd_int (fun _ _ => rfl)) pad_nil)) (pd_var (pv 1))))
    (pssd_cons (psd_cellSet (pv 0) pd_int (pd_op od_div (pd_ix (pd_var (pv 0)) pd_int (fun _ _ => rfl)) (pd_var (pv 1))))
    (pssd_one (psd_ret (pd_var (pv 2)))))) pssd_nil)
    (pssd_cons (psd_cellSet (pv 0) pd_int (pd_op od_mod (pd_callTy cd_int rfl fx.b_int (by decide +kernel) (pad_cons (pd_op od_add (pd_op od_mul (pd_ix (pd_var (pv 0)) pd_int (fun _ _ => rfl)) pd_int) pd_int) pad_nil)) pd_int))
    (pssd_cons (psd_set sc_law_roll.nd rfl (by first | exact Or.inl rfl | exact Or.inr rfl) (pd_op od_mod (pd_callTy cd_int rfl fx.b_int (by decide +kernel) (pad_cons (pd_op od_mul (pd_ix (pd_var (pv 0)) pd_int (fun _ _ => rfl)) (pd_op od_add (pd_ix (pd_var (pv 0)) pd_int (fun _ _ => rfl)) pd_int)) pad_nil)) pd_int))
    (pssd_one (psd_ret (pd_op od_mod (pd_callTy cd_int rfl fx.b_int (by decide +kernel) (pad_cons (pd_op od_div (pd_var (pv 3)) pd_int) pad_nil)) (pd_var (pv 1))))))))

/-! ### law_some -/
abbrev N_law_some : List Str := ["_law_cup_here", "_law_things"]
theorem sc_law_some : FnScope N_law_some ["_law_cup_here", "_law_things"] (defScope (SPH.tp 42)) := ⟨rfl, rfl, rfl, by decide +kernel, rfl, by decide +kernel, by decide +kernel⟩
noncomputable def g_law_some : ES :=
  (sRet (eOp rIx (eVar 1) (eCall 2 F_law_roll (aCons (eVar 0) (aCons (eCB rLen2 (aCons (eVar 1) aNil)) aNil)))))
noncomputable def F_law_some : Fn := defF 2 2 g_law_some
theorem w_law_some (fx : Fx mg) (F0 : FnP K "_law_some" (SPH.tp 42) f fd) (hm : mg "_law_some" = some (.ref f)) (c_law_roll : DefOk P w K mg base "_law_roll" 1 2 F_law_roll) : DefOk P w K mg base "_law_some" 2 2 F_law_some := by
  refine def_ok (N := N_law_some) (ps := ["_law_cup_here", "_law_things"]) (k := 1) (g := g_law_some) F0 hm sc_law_some (F0.bindsN fun _ _ _ _ _ _ us hl => match us, hl with | [_, _], _ => rfl) fun cdv A outer s H E hr => ?_
  have hu := hu_room (X := (cxOf CX0 P w K mg base N_law_some "_law_some" (defScope (SPH.tp 42)) f cdv A outer s H E).nox) hr
  exact (pssd_one (psd_ret (pd_ix (pd_var (pv 1)) (pd_callD (c_law_roll.mono (by decide)) hr rfl (pad_cons (pd_var (pv 0)) (pad_cons (pd_callB cd_len2 rfl fx.b_len (by decide +kernel) (pad_cons (pd_var (pv 1)) pad_nil)) pad_nil))) (fun _ _ => rfl))))

/-! ### law_sorts -/
abbrev N_law_sorts : List Str := ["_law_cup_here", "_law_many", "_law_below", "_law_turn"]
theorem sc_law_sorts : FnScope N_law_sorts ["_law_cup_here", "_law_many", "_law_below"] (defScope (SPH.tp 43)) := ⟨rfl, rfl, rfl, by decide +kernel, rfl, by decide +kernel, by decide +kernel⟩
noncomputable def e1_law_sorts : E :=
  (eCall 2 F_law_roll (aCons (eVar 0) (aCons (eVar 2) aNil)))
noncomputable def g_law_sorts : ES :=
  (sRet (eIf (eB (eOp rGt (eVar 2) (eC (.int 0)))) (eCB rTuple (aCons (eLc (iRng (eCall 2 F_law_roll (aCons (eVar 0) (aCons (eOp rAdd (eVar 1) (eC (.int 1))) aNil)))) (tName 3) bYes e1_law_sorts [3]) aNil)) (eTup aNil)))
noncomputable def F_law_sorts : Fn := defF 4 3 g_law_sorts
theorem w_law_sorts (fx : Fx mg) (F0 : FnP K "_law_sorts" (SPH.tp 43) f fd) (hm : mg "_law_sorts" = some (.ref f)) (c_law_roll : DefOk P w K mg base "_law_roll" 1 2 F_law_roll) : DefOk P w K mg base "_law_sorts" 2 3 F_law_sorts := by
  refine def_ok (N := N_law_sorts) (ps := ["_law_cup_here", "_law_many", "_law_below"]) (k := 1) (g := g_law_sorts) F0 hm sc_law_sorts (F0.bindsN fun _ _ _ _ _ _ us hl => match us, hl with | [_, _, _], _ => rfl) fun cdv A outer s H E hr => ?_
  have hu := hu_room (X := (cxOf CX0 P w K mg base N_law_sorts "_law_sorts" (defScope (SPH.tp 43)) f cdv A outer s H E).nox) hr
  exact (pssd_one (psd_ret (pd_if (ptd_cmp od_gt (pd_var (pv 2)) pd_int) (pd_callTy cd_tuple rfl fx.b_tuple (by decide +kernel) (pad_cons (pd_lc (own := [("_law_turn", 3)]) rfl sc_law_sorts.nd (pid_range rfl fx.b_range (pd_callD (c_law_roll.mono (by decide)) hr rfl (pad_cons (pd_var (pv 0)) (pad_cons (pd_op od_add (pd_var (pv 1)) pd_int) pad_nil)))) (blkOk_by (N := N_law_sorts) (sc := defScope (SPH.tp 43)) (by decide +kernel)) (by decide) (fun _ _ _ _ _ => (pgd_name (pg_name (i := 3) sc_law_sorts.nd rfl (by first | exact Or.inl rfl | exact Or.inr rfl)))) (fun _ _ _ _ _ => ptsd_nil) (fun _ _ _ _ _ => (pd_callD (c_law_roll.mono (by decide)) hr rfl (pad_cons (pd_var (pv 0)) (pad_cons (pd_var (pv 2)) pad_nil))))) pad_nil)) (pd_tup pad_nil))))

/-! ### law_calm -/
abbrev N_law_calm : List Str := ["_law_cup_here", "_law_posts", "_law_found", "_law_post", "_law_moves", "_law_sort", "_law_back", "_law_later", "_law_foot"]
theorem sc_law_calm : FnScope N_law_calm ["_law_cup_here"] (defScope (SPH.tp 44)) := ⟨rfl, rfl, rfl, by decide +kernel, rfl, by decide +kernel, by decide +kernel⟩
noncomputable def b1_law_calm : ES :=
  (sSeq (sAsg (eCall 3 F_law_sorts (aCons (eVar 0) (aCons (eC (.int 3)) (aCons (eVar 5) aNil)))) (tName 6))
  (sSeq (sAsg (eIf (eB (eOp rEq (eCall 2 F_law_roll (aCons (eVar 0) (aCons (eC (.int 12)) aNil))) (eC (.int 0)))) (eNeg (eC (.int 1))) (eCall 2 F_law_roll (aCons (eVar 0) (aCons (eVar 1) aNil)))) (tName 7))
  (sAsg (eOp rAdd (eVar 4) (eTup (aCons (eTup (aCons (eCall 3 F_law_sorts (aCons (eVar 0) (aCons (eC (.int 2)) (aCons (eC (.int 3)) aNil)))) (aCons (eVar 6) (aCons (eVar 7) aNil)))) aNil))) (tName 4))))
noncomputable def b2_law_calm : ES :=
  (sSeq (sAsg (eTup aNil) (tName 4))
  (sSeq (sFor (iRng (eC (.int 3))) (tName 5) b1_law_calm)
  (sSeq (sAsg (eIf (bOr (eB (eOp rEq (eOp rAdd (eVar 3) (eC (.int 1))) (eVar 1))) (eB (eOp rEq (eCall 2 F_law_roll (aCons (eVar 0) (aCons (eC (.int 2)) aNil))) (eC (.int 0))))) (eNeg (eC (.int 1))) (eOp rAdd (eOp rAdd (eVar 3) (eC (.int 1))) (eCall 2 F_law_roll (aCons (eVar 0) (aCons (eOp rSub (eOp rSub (eVar 1) (eVar 3)) (eC (.int 1))) aNil))))) (tName 8))
  (sAsg (eOp rAdd (eVar 2) (eTup (aCons (eOp rAdd (eVar 4) (eTup (aCons (eTup (aCons (eCall 3 F_law_sorts (aCons (eVar 0) (aCons (eC (.int 2)) (aCons (eC (.int 3)) aNil)))) (aCons (eCall 3 F_law_sorts (aCons (eVar 0) (aCons (eC (.int 2)) (aCons (eC (.int 3)) aNil)))) (aCons (eVar 8) aNil)))) aNil))) aNil))) (tName 2)))))
noncomputable def g_law_calm : ES :=
  (sSeq (sPar2 1 2 (aCons (eOp rAdd (eC (.int 1)) (eCall 2 F_law_some (aCons (eVar 0) (aCons (eLst (aCons (eC (.int 0)) (aCons (eC (.int 1)) (aCons (eC (.int 1)) (aCons (eC (.int 2)) (aCons (eC (.int 2)) (aCons (eC (.int 3)) (aCons (eC (.int 5)) aNil)))))))) aNil)))) (aCons (eTup aNil) aNil)))
  (sSeq (sFor (iRng (eVar 1)) (tName 3) b2_law_calm)
  (sRet (eVar 2))))
noncomputable def F_law_calm : Fn := defF 9 1 g_law_calm
theorem w_law_calm (fx : Fx mg) (F0 : FnP K "_law_calm" (SPH.tp 44) f fd) (hm : mg "_law_calm" = some (.ref f)) (c_law_roll : DefOk P w K mg base "_law_roll" 1 2 F_law_roll) (c_law_some : DefOk P w K mg base "_law_some" 2 2 F_law_some) (c_law_sorts : DefOk P w K mg base "_law_sorts" 2 3 F_law_sorts) : DefOk P w K mg base "_law_calm" 3 1 F_law_calm := by
  refine def_ok (N := N_law_calm) (ps := ["_law_cup_here"]) (k := 2) (g := g_law_calm) F0 hm sc_law_calm (F0.bindsN fun _ _ _ _ _ _ us hl => match us, hl with | [_], _ => rfl) fun cdv A outer s H E hr => ?_
  have hu := hu_room (X := (cxOf CX0 P w K mg base N_law_calm "_law_calm" (defScope (SPH.tp 44)) f cdv A outer s H E).nox) hr
  exact (pssd_cons (psd_par2 rfl sc_law_calm.nd rfl rfl (by decide) rfl rfl (pad_cons (pd_op od_add pd_int (pd_callD (c_law_some.mono (by decide)) hr rfl (pad_cons (pd_var (pv 0)) (pad_cons (pd_lst (pad_cons pd_int (pad_cons pd_int (pad_cons pd_int (pad_cons pd_int (pad_cons pd_int (pad_cons pd_int (pad_cons pd_int pad_nil)))))))) pad_nil)))) (pad_cons (pd_tup pad_nil) pad_nil)))
    (pssd_cons (psd_for PassesOwn.never rfl (pid_range rfl fx.b_range (pd_var (pv 1))) (pgd_name (pg_name (i := 3) sc_law_calm.nd rfl (by first | exact Or.inl rfl | exact Or.inr rfl))) (pssd_cons (psd_set sc_law_calm.nd rfl (by first | exact Or.inl rfl | exact Or.inr rfl) (pd_tup pad_nil))
    (pssd_cons (psd_for PassesOwn.never rfl (pid_range rfl fx.b_range pd_int) (pgd_name (pg_name (i := 5) sc_law_calm.nd rfl (by first | exact Or.inl rfl | exact Or.inr rfl))) (pssd_cons (psd_set sc_law_calm.nd rfl (by first | exact Or.inl rfl | exact Or.inr rfl) (pd_callD (c_law_sorts.mono (by decide)) hr rfl (pad_cons (pd_var (pv 0)) (pad_cons pd_int (pad_cons (pd_var (pv 5)) pad_nil)))))
    (pssd_cons (psd_set sc_law_calm.nd rfl (by first | exact Or.inl rfl | exact Or.inr rfl) (pd_if (ptd_cmp (od_eq hu) (pd_callD (c_law_roll.mono (by decide)) hr rfl (pad_cons (pd_var (pv 0)) (pad_cons pd_int pad_nil))) pd_int) (pd_neg pd_int) (pd_callD (c_law_roll.mono (by decide)) hr rfl (pad_cons (pd_var (pv 0)) (pad_cons (pd_var (pv 1)) pad_nil)))))
    (pssd_one (psd_set sc_law_calm.nd rfl (by first | exact Or.inl rfl | exact Or.inr rfl) (pd_op od_add (pd_var (pv 4)) (pd_tup (pad_cons (pd_tup (pad_cons (pd_callD (c_law_sorts.mono (by decide)) hr rfl (pad_cons (pd_var (pv 0)) (pad_cons pd_int (pad_cons pd_int pad_nil)))) (pad_cons (pd_var (pv 6)) (pad_cons (pd_var (pv 7)) pad_nil)))) pad_nil))))))))
    (pssd_cons (psd_set sc_law_calm.nd rfl (by first | exact Or.inl rfl | exact Or.inr rfl) (pd_if (ptd_w (pwd_or (ptd_cmp (od_eq hu) (pd_op od_add (pd_var (pv 3)) pd_int) (pd_var (pv 1))) (pwd_or1 (ptd_cmp (od_eq hu) (pd_callD (c_law_roll.mono (by decide)) hr rfl (pad_cons (pd_var (pv 0)) (pad_cons pd_int pad_nil))) pd_int)))) (pd_neg pd_int) (pd_op od_add (pd_op od_add (pd_var (pv 3)) pd_int) (pd_callD (c_law_roll.mono (by decide)) hr rfl (pad_cons (pd_var (pv 0)) (pad_cons (pd_op od_sub (pd_op od_sub (pd_var (pv 1)) (pd_var (pv 3))) pd_int) pad_nil))))))
    (pssd_one (psd_set sc_law_calm.nd rfl (by first | exact Or.inl rfl | exact Or.inr rfl) (pd_op od_add (pd_var (pv 2)) (pd_tup (pad_cons (pd_op od_add (pd_var (pv 4)) (pd_tup (pad_cons (pd_tup (pad_cons (pd_callD (c_law_sorts.mono (by decide)) hr rfl (pad_cons (pd_var (pv 0)) (pad_cons pd_int (pad_cons pd_int pad_nil)))) (pad_cons (pd_callD (c_law_sorts.mono (by decide)) hr rfl (pad_cons (pd_var (pv 0)) (pad_cons pd_int (pad_cons pd_int pad_nil)))) (pad_cons (pd_var (pv 8)) pad_nil)))) pad_nil))) pad_nil)))))))))
    (pssd_one (psd_ret (pd_var (pv 2))))))

/-! ### law_pair -/
abbrev N_law_pair : List Str := ["_law_routine", "_law_pair_here", "_law_told_here", "_law_marks", "_law_back", "_law_here", "_law_turns", "_law_needs", "_law_at", "_law_need", "_law_more", "_law_handed", "_law_left"]
theorem sc_law_pair : FnScope N_law_pair ["_law_routine", "_law_pair_here", "_law_told_here"] (defScope (SPH.tp 46)) := ⟨rfl, rfl, rfl, by decide +kernel, rfl, by decide +kernel, by decide +kernel⟩
noncomputable def b1_law_pair : ES :=
  (sSeq (sIf (eB (eOp rDNotIn (eTup (aCons (eVar 5) (aCons (eVar 9) aNil))) (eVar 2))) (sRet (eC .non)) sNil)
  (sSeq (sAsg (eOp rDGet (eVar 2) (eTup (aCons (eVar 5) (aCons (eVar 9) aNil)))) (tTup 4 (tsCons (tName 5) (tsCons (tName 10) (tsCons (tName 11) (tsCons (tName 12) tsNil))))))
  (sSeq (sPar2 6 3 (aCons (eOp rAdd (eVar 6) (eVar 10)) (aCons (eSl (eOp rAdd (eVar 3) (eVar 11)) oNone (oSome (eC (.int 1001)))) aNil)))
  (sIf (eB (eOp rEq (eVar 5) (eNeg (eC (.int 1))))) (sRet (eLst (aCons (eNeg (eC (.int 1))) (aCons (eVar 6) (aCons (eVar 3) (aCons (eOp rAdd (eVar 12) (eSl (eVar 4) (oSome (eOp rAdd (eVar 8) (eC (.int 1)))) oNone)) aNil)))))) sNil))))
noncomputable def g_law_pair : ES :=
  (sSeq (sAsg (eOp rIx (eOp rIx (eVar 0) (eOp rIx (eVar 1) (eC (.int 0)))) (eOp rIx (eVar 1) (eC (.int 1)))) (tTup 3 (tsCons (tName 3) (tsCons (tName 4) (tsCons (tName 5) tsNil)))))
  (sSeq (sIf (eB (eOp rEq (eVar 5) (eNeg (eC (.int 1))))) (sRet (eLst (aCons (eNeg (eC (.int 1))) (aCons (eC (.int 1)) (aCons (eVar 3) (aCons (eVar 4) aNil)))))) sNil)
  (sSeq (sPar2 6 7 (aCons (eC (.int 1)) (aCons (eIf (eB (eOp rLt (eOp rIx (eVar 1) (eC (.int 1))) (eC (.int 3)))) (eVar 4) (eOp rAdd (eVar 4) (eTup (aCons (eC (.int 3)) aNil)))) aNil)))
  (sSeq (sFor (iEn (eVar 7)) (tTup 2 (tsCons (tName 8) (tsCons (tName 9) tsNil))) b1_law_pair)
  (sRet (eLst (aCons (eVar 5) (aCons (eVar 6) (aCons (eVar 3) (aCons (eTup aNil) aNil))))))))))
noncomputable def F_law_pair : Fn := defF 13 3 g_law_pair
theorem w_law_pair (fx : Fx mg) (F0 : FnP K "_law_pair" (SPH.tp 46) f fd) (hm : mg "_law_pair" = some (.ref f))  : DefOk P w K mg base "_law_pair" 1 3 F_law_pair := by
  refine def_ok (N := N_law_pair) (ps := ["_law_routine", "_law_pair_here", "_law_told_here"]) (k := 0) (g := g_law_pair) F0 hm sc_law_pair (F0.bindsN fun _ _ _ _ _ _ us hl => match us, hl with | [_, _, _], _ => rfl) fun cdv A outer s H E hr => ?_
  have hu := hu_room (X := (cxOf CX0 P w K mg base N_law_pair "_law_pair" (defScope (SPH.tp 46)) f cdv A outer s H E).nox) hr
  exact (pssd_cons (psd_asg (pd_ix (pd_ix (pd_var (pv 0)) (pd_ix (pd_var (pv 1)) pd_int (fun _ _ => rfl)) (fun _ _ => rfl)) (pd_ix (pd_var (pv 1)) pd_int (fun _ _ => rfl)) (fun _ _ => rfl)) (pgd_tup rfl (pgsd_cons (pgd_name (pg_name (i := 3) sc_law_pair.nd rfl (by first | exact Or.inl rfl | exact Or.inr rfl))) (pgsd_cons (pgd_name (pg_name (i := 4) sc_law_pair.nd rfl (by first | exact Or.inl rfl | exact Or.inr rfl))) (pgsd_cons (pgd_name (pg_name (i := 5) sc_law_pair.nd rfl (by first | exact Or.inl rfl | exact Or.inr rfl))) pgsd_nil)))))
    (pssd_cons (psd_if (ptd_cmp (od_eq hu) (pd_var (pv 5)) (pd_neg pd_int)) (pssd_one (psd_ret (pd_lst (pad_cons (pd_neg pd_int) (pad_cons pd_int (pad_cons (pd_var (pv 3)) (pad_cons (pd_var (pv 4)) pad_nil))))))) pssd_nil)
    (pssd_cons (psd_par2 rfl sc_law_pair.nd rfl rfl (by decide) rfl rfl (pad_cons pd_int (pad_cons (pd_if (ptd_cmp (od_lt hu) (pd_ix (pd_var (pv 1)) pd_int (fun _ _ => rfl)) pd_int) (pd_var (pv 4)) (pd_op od_add (pd_var (pv 4)) (pd_tup (pad_cons pd_int pad_nil)))) pad_nil)))
    (pssd_cons (psd_for PassesOwn.never rfl (pid_enum rfl fx.b_enumerate (pd_var (pv 7))) (pgd_tup rfl (pgsd_cons (pgd_name (pg_name (i := 8) sc_law_pair.nd rfl (by first | exact Or.inl rfl | exact Or.inr rfl))) (pgsd_cons (pgd_name (pg_name (i := 9) sc_law_pair.nd rfl (by first | exact Or.inl rfl | exact Or.inr rfl))) pgsd_nil))) (pssd_cons (psd_if (ptd_dnotin hu (pd_tup (pad_cons (pd_var (pv 5)) (pad_cons (pd_var (pv 9)) pad_nil))) (pd_var (pv 2))) (pssd_one (psd_ret pd_non)) pssd_nil)
    (pssd_cons (psd_asg (pd_dget hu (pd_var (pv 2)) (pd_tup (pad_cons (pd_var (pv 5)) (pad_cons (pd_var (pv 9)) pad_nil))) (fun _ _ => rfl)) (pgd_tup rfl (pgsd_cons (pgd_name (pg_name (i := 5) sc_law_pair.nd rfl (by first | exact Or.inl rfl | exact Or.inr rfl))) (pgsd_cons (pgd_name (pg_name (i := 10) sc_law_pair.nd rfl (by first | exact Or.inl rfl | exact Or.inr rfl))) (pgsd_cons (pgd_name (pg_name (i := 11) sc_law_pair.nd rfl (by first | exact Or.inl rfl | exact Or.inr rfl))) (pgsd_cons (pgd_name (pg_name (i := 12) sc_law_pair.nd rfl (by first | exact Or.inl rfl | exact Or.inr rfl))) pgsd_nil))))))
    (pssd_cons (psd_par2 rfl sc_law_pair.nd rfl rfl (by decide) rfl rfl (pad_cons (pd_op od_add (pd_var (pv 6)) (pd_var (pv 10))) (pad_cons (pd_slice (pd_op od_add (pd_var (pv 3)) (pd_var (pv 11))) pod_none (pod_some pd_int)) pad_nil)))
    (pssd_one (psd_if (ptd_cmp (od_eq hu) (pd_var (pv 5)) (pd_neg pd_int)) (pssd_one (psd_ret (pd_lst (pad_cons (pd_neg pd_int) (pad_cons (pd_var (pv 6)) (pad_cons (pd_var (pv 3)) (pad_cons (pd_op od_add (pd_var (pv 12)) (pd_slice (pd_var (pv 4)) (pod_some (pd_op od_add (pd_var (pv 8)) pd_int)) pod_none)) pad_nil))))))) pssd_nil))))))
    (pssd_one (psd_ret (pd_lst (pad_cons (pd_var (pv 5)) (pad_cons (pd_var (pv 6)) (pad_cons (pd_var (pv 3)) (pad_cons (pd_tup pad_nil) pad_nil)))))))))))

/-! ### law_told -/
abbrev N_law_told : List Str := ["_law_told_here", "_law_stack", "_law_here", "_law_turns", "_law_marks", "_law_at", "_law_sort", "_law_more", "_law_handed", "_law_left"]
theorem sc_law_told : FnScope N_law_told ["_law_told_here", "_law_stack"] (defScope (SPH.tp 48)) := ⟨rfl, rfl, rfl, by decide +kernel, rfl, by decide +kernel, by decide +kernel⟩
noncomputable def b1_law_told : ES :=
  (sSeq (sIf (eB (eOp rDNotIn (eTup (aCons (eVar 2) (aCons (eVar 6) aNil))) (eVar 0))) (sRet (eTup (aCons (eC (.str "never")) aNil))) sNil)
  (sSeq (sAsg (eOp rDGet (eVar 0) (eTup (aCons (eVar 2) (aCons (eVar 6) aNil)))) (tTup 4 (tsCons (tName 2) (tsCons (tName 7) (tsCons (tName 8) (tsCons (tName 9) tsNil))))))
  (sSeq (sPar2 3 4 (aCons (eOp rAdd (eVar 3) (eVar 7)) (aCons (eSl (eOp rAdd (eVar 4) (eVar 8)) oNone (oSome (eC (.int 1001)))) aNil)))
  (sIf (eB (eOp rEq (eVar 2) (eNeg (eC (.int 1))))) (sRet (eTup (aCons (eC (.str "rest")) (aCons (eVar 4) (aCons (eOp rAdd (eVar 9) (eSl (eVar 1) (oSome (eOp rAdd (eVar 5) (eC (.int 1)))) oNone)) (aCons (eVar 3) aNil)))))) sNil))))
noncomputable def g_law_told : ES :=
  (sSeq (sAsg (eTup (aCons (eC (.int 0)) (aCons (eC (.int 0)) (aCons (eTup aNil) aNil)))) (tTup 3 (tsCons (tName 2) (tsCons (tName 3) (tsCons (tName 4) tsNil)))))
  (sSeq (sFor (iEn (eOp rAdd (eVar 1) (eTup (aCons (eC (.int 3)) aNil)))) (tTup 2 (tsCons (tName 5) (tsCons (tName 6) tsNil))) b1_law_told)
  (sRet (eTup (aCons (eC (.str "never")) aNil)))))
noncomputable def F_law_told : Fn := defF 10 2 g_law_told
theorem w_law_told (fx : Fx mg) (F0 : FnP K "_law_told" (SPH.tp 48) f fd) (hm : mg "_law_told" = some (.ref f))  : DefOk P w K mg base "_law_told" 1 2 F_law_told := by
  refine def_ok (N := N_law_told) (ps := ["_law_told_here", "_law_stack"]) (k := 0) (g := g_law_told) F0 hm sc_law_told (F0.bindsN fun _ _ _ _ _ _ us hl => match us, hl with | [_, _], _ => rfl) fun cdv A outer s H E hr => ?_
  have hu := hu_room (X := (cxOf CX0 P w K mg base N_law_told "_law_told" (defScope (SPH.tp 48)) f cdv A outer s H E).nox) hr
  exact (pssd_cons (psd_asg (pd_tup (pad_cons pd_int (pad_cons pd_int (pad_cons (pd_tup pad_nil) pad_nil)))) (pgd_tup rfl (pgsd_cons (pgd_name (pg_name (i := 2) sc_law_told.nd rfl (by first | exact Or.inl rfl | exact Or.inr rfl))) (pgsd_cons (pgd_name (pg_name (i := 3) sc_law_told.nd rfl (by first | exact Or.inl rfl | exact Or.inr rfl))) (pgsd_cons (pgd_name (pg_name (i := 4) sc_law_told.nd rfl (by first | exact Or.inl rfl | exact Or.inr rfl))) pgsd_nil)))))
    (pssd_cons (psd_for PassesOwn.never rfl (pid_enum rfl fx.b_enumerate (pd_op od_add (pd_var (pv 1)) (pd_tup (pad_cons pd_int pad_nil)))) (pgd_tup rfl (pgsd_cons (pgd_name (pg_name (i := 5) sc_law_told.nd rfl (by first | exact Or.inl rfl | exact Or.inr rfl))) (pgsd_cons (pgd_name (pg_name (i := 6) sc_law_told.nd rfl (by first | exact Or.inl rfl | exact Or.inr rfl))) pgsd_nil))) (pssd_cons (psd_if (ptd_dnotin hu (pd_tup (pad_cons (pd_var (pv 2)) (pad_cons (pd_var (pv 6)) pad_nil))) (pd_var (pv 0))) (pssd_one (psd_ret (pd_tup (pad_cons pd_str pad_nil)))) pssd_nil)
    (pssd_cons (psd_asg (pd_dget hu (pd_var (pv 0)) (pd_tup (pad_cons (pd_var (pv 2)) (pad_cons (pd_var (pv 6)) pad_nil))) (fun _ _ => rfl)) (pgd_tup rfl (pgsd_cons (pgd_name (pg_name (i := 2) sc_law_told.nd rfl (by first | exact Or.inl rfl | exact Or.inr rfl))) (pgsd_cons (pgd_name (pg_name (i := 7) sc_law_told.nd rfl (by first | exact Or.inl rfl | exact Or.inr rfl))) (pgsd_cons (pgd_name (pg_name (i := 8) sc_law_told.nd rfl (by first | exact Or.inl rfl | exact Or.inr rfl))) (pgsd_cons (pgd_name (pg_name (i := 9) sc_law_told.nd rfl (by first | exact Or.inl rfl | exact Or.inr rfl))) pgsd_nil))))))
    (pssd_cons (psd_par2 rfl sc_law_told.nd rfl rfl (by decide) rfl rfl (pad_cons (pd_op od_add (pd_var (pv 3)) (pd_var (pv 7))) (pad_cons (pd_slice (pd_op od_add (pd_var (pv 4)) (pd_var (pv 8))) pod_none (pod_some pd_int)) pad_nil)))
    (pssd_one (psd_if (ptd_cmp (od_eq hu) (pd_var (pv 2)) (pd_neg pd_int)) (pssd_one (psd_ret (pd_tup (pad_cons pd_str (pad_cons (pd_var (pv 4)) (pad_cons (pd_op od_add (pd_var (pv 9)) (pd_slice (pd_var (pv 1)) (pod_some (pd_op od_add (pd_var (pv 5)) pd_int)) pod_none)) (pad_cons (pd_var (pv 3)) pad_nil))))))) pssd_nil))))))
    (pssd_one (psd_ret (pd_tup (pad_cons pd_str pad_nil))))))

/-! ### law_r -/
abbrev N_law_r : List Str := ["_law_first"]
theorem sc_law_r : FnScope N_law_r [] (defScope (SPH.tp 53)) := ⟨rfl, rfl, rfl, by decide +kernel, rfl, by decide +kernel, by decide +kernel⟩
noncomputable def g_law_r : ES :=
  (sSeq (sAsg (eTup (aCons (eTup (aCons (eTup (aCons (eC (.int 0)) aNil)) (aCons (eTup aNil) (aCons (eC (.int 0)) aNil)))) (aCons (eTup (aCons (eTup (aCons (eC (.int 1)) aNil)) (aCons (eTup (aCons (eC (.int 0)) aNil)) (aCons (eC (.int 1)) aNil)))) (aCons (eTup (aCons (eTup aNil) (aCons (eTup (aCons (eC (.int 1)) (aCons (eC (.int 1)) aNil))) (aCons (eC (.int 0)) aNil)))) (aCons (eTup (aCons (eTup (aCons (eC (.int 2)) aNil)) (aCons (eTup aNil) (aCons (eNeg (eC (.int 1))) aNil)))) aNil))))) (tName 0))
  (sRet (eTup (aCons (eVar 0) (aCons (eTup (aCons (eTup (aCons (eTup aNil) (aCons (eTup aNil) (aCons (eC (.int 0)) aNil)))) (aCons (eTup (aCons (eTup aNil) (aCons (eTup aNil) (aCons (eNeg (eC (.int 1))) aNil)))) (aCons (eTup (aCons (eTup (aCons (eC (.int 2)) aNil)) (aCons (eTup (aCons (eC (.int 2)) aNil)) (aCons (eC (.int 0)) aNil)))) (aCons (eTup (aCons (eTup aNil) (aCons (eTup (aCons (eC (.int 0)) aNil)) (aCons (eC (.int 0)) aNil)))) aNil))))) aNil)))))
noncomputable def F_law_r : Fn := defF 1 0 g_law_r
theorem w_law_r (fx : Fx mg) (F0 : FnP K "_law_r" (SPH.tp 53) f fd) (hm : mg "_law_r" = some (.ref f))  : DefOk P w K mg base "_law_r" 1 0 F_law_r := by
  refine def_ok (N := N_law_r) (ps := []) (k := 0) (g := g_law_r) F0 hm sc_law_r (F0.bindsN fun _ _ _ _ _ _ us hl => match us, hl with | [], _ => rfl) fun cdv A outer s H E hr => ?_
  have hu := hu_room (X := (cxOf CX0 P w K mg base N_law_r "_law_r" (defScope (SPH.tp 53)) f cdv A outer s H E).nox) hr
  exact (pssd_cons (psd_set sc_law_r.nd rfl (by first | exact Or.inl rfl | exact Or.inr rfl) (pd_tup (pad_cons (pd_tup (pad_cons (pd_tup (pad_cons pd_int pad_nil)) (pad_cons (pd_tup pad_nil) (pad_cons pd_int pad_nil)))) (pad_cons (pd_tup (pad_cons (pd_tup (pad_cons pd_int pad_nil)) (pad_cons (pd_tup (pad_cons pd_int pad_nil)) (pad_cons pd_int pad_nil)))) (pad_cons (pd_tup (pad_cons (pd_tup pad_nil) (pad_cons (pd_tup (pad_cons pd_int (pad_cons pd_int pad_nil))) (pad_cons pd_int pad_nil)))) (pad_cons (pd_tup (pad_cons (pd_tup (pad_cons pd_int pad_nil)) (pad_cons (pd_tup pad_nil) (pad_cons (pd_neg pd_int) pad_nil)))) pad_nil))))))
    (pssd_one (psd_ret (pd_tup (pad_cons (pd_var (pv 0)) (pad_cons (pd_tup (pad_cons (pd_tup (pad_cons (pd_tup pad_nil) (pad_cons (pd_tup pad_nil) (pad_cons pd_int pad_nil)))) (pad_cons (pd_tup (pad_cons (pd_tup pad_nil) (pad_cons (pd_tup pad_nil) (pad_cons (pd_neg pd_int) pad_nil)))) (pad_cons (pd_tup (pad_cons (pd_tup (pad_cons pd_int pad_nil)) (pad_cons (pd_tup (pad_cons pd_int pad_nil)) (pad_cons pd_int pad_nil)))) (pad_cons (pd_tup (pad_cons (pd_tup pad_nil) (pad_cons (pd_tup (pad_cons pd_int pad_nil)) (pad_cons pd_int pad_nil)))) pad_nil))))) pad_nil))))))

/-! ### law_v -/
abbrev N_law_v : List Str := ["_law_first"]
theorem sc_law_v : FnScope N_law_v [] (defScope (SPH.tp 55)) := ⟨rfl, rfl, rfl, by decide +kernel, rfl, by decide +kernel, by decide +kernel⟩
noncomputable def g_law_v : ES :=
  (sSeq (sAsg (eTup (aCons (eTup (aCons (eTup aNil) (aCons (eTup aNil) (aCons (eC (.int 0)) aNil)))) (aCons (eTup (aCons (eTup (aCons (eC (.int 0)) (aCons (eC (.int 0)) aNil))) (aCons (eTup aNil) (aCons (eC (.int 0)) aNil)))) (aCons (eTup (aCons (eTup aNil) (aCons (eTup (aCons (eC (.int 2)) aNil)) (aCons (eC (.int 1)) aNil)))) (aCons (eTup (aCons (eTup (aCons (eC (.int 1)) aNil)) (aCons (eTup aNil) (aCons (eNeg (eC (.int 1))) aNil)))) aNil))))) (tName 0))
  (sRet (eTup (aCons (eVar 0) (aCons (eTup (aCons (eTup (aCons (eTup aNil) (aCons (eTup aNil) (aCons (eC (.int 1)) aNil)))) (aCons (eTup (aCons (eTup aNil) (aCons (eTup aNil) (aCons (eC (.int 1)) aNil)))) (aCons (eTup (aCons (eTup aNil) (aCons (eTup aNil) (aCons (eNeg (eC (.int 1))) aNil)))) (aCons (eTup (aCons (eTup aNil) (aCons (eTup aNil) (aCons (eNeg (eC (.int 1))) aNil)))) aNil))))) aNil)))))
noncomputable def F_law_v : Fn := defF 1 0 g_law_v
theorem w_law_v (fx : Fx mg) (F0 : FnP K "_law_v" (SPH.tp 55) f fd) (hm : mg "_law_v" = some (.ref f))  : DefOk P w K mg base "_law_v" 1 0 F_law_v := by
  refine def_ok (N := N_law_v) (ps := []) (k := 0) (g := g_law_v) F0 hm sc_law_v (F0.bindsN fun _ _ _ _ _ _ us hl => match us, hl with | [], _ => rfl) fun cdv A outer s H E hr => ?_
  have hu := hu_room (X := (cxOf CX0 P w K mg base N_law_v "_law_v" (defScope (SPH.tp 55)) f cdv A outer s H E).nox) hr
  exact (pssd_cons (psd_set sc_law_v.nd rfl (by first | exact Or.inl rfl | exact Or.inr rfl) (pd_tup (pad_cons (pd_tup (pad_cons (pd_tup pad_nil) (pad_cons (pd_tup pad_nil) (pad_cons pd_int pad_nil)))) (pad_cons (pd_tup (pad_cons (pd_tup (pad_cons pd_int (pad_cons pd_int pad_nil))) (pad_cons (pd_tup pad_nil) (pad_cons pd_int pad_nil)))) (pad_cons (pd_tup (pad_cons (pd_tup pad_nil) (pad_cons (pd_tup (pad_cons pd_int pad_nil)) (pad_cons pd_int pad_nil)))) (pad_cons (pd_tup (pad_cons (pd_tup (pad_cons pd_int pad_nil)) (pad_cons (pd_tup pad_nil) (pad_cons (pd_neg pd_int) pad_nil)))) pad_nil))))))
    (pssd_one (psd_ret (pd_tup (pad_cons (pd_var (pv 0)) (pad_cons (pd_tup (pad_cons (pd_tup (pad_cons (pd_tup pad_nil) (pad_cons (pd_tup pad_nil) (pad_cons pd_int pad_nil)))) (pad_cons (pd_tup (pad_cons (pd_tup pad_nil) (pad_cons (pd_tup pad_nil) (pad_cons pd_int pad_nil)))) (pad_cons (pd_tup (pad_cons (pd_tup pad_nil) (pad_cons (pd_tup pad_nil) (pad_cons (pd_neg pd_int) pad_nil)))) (pad_cons (pd_tup (pad_cons (pd_tup pad_nil) (pad_cons (pd_tup pad_nil) (pad_cons (pd_neg pd_int) pad_nil)))) pad_nil))))) pad_nil))))))

/-! ### law_moved -/
abbrev N_law_moved : List Str := ["_law_table_here", "_law_post", "_law_sort", "_law_end", "_law_turns", "_law_marks", "_law_left"]
theorem sc_law_moved : FnScope N_law_moved ["_law_table_here", "_law_post", "_law_sort"] (defScope (SPH.tp 56)) := ⟨rfl, rfl, rfl, by decide +kernel, rfl, by decide +kernel, by decide +kernel⟩
noncomputable def g_law_moved : ES :=
  (sSeq (sIf (eB (eOp rEq (eVar 1) (eNeg (eC (.int 1))))) (sRet (eTup (aCons (eTup aNil) (aCons (eNeg (eC (.int 1))) aNil)))) sNil)
  (sSeq (sAsg (eOp rDGet (eVar 0) (eTup (aCons (eVar 1) (aCons (eVar 2) aNil)))) (tTup 4 (tsCons (tName 3) (tsCons (tName 4) (tsCons (tName 5) (tsCons (tName 6) tsNil))))))
  (sRet (eTup (aCons (eVar 5) (aCons (eVar 3) aNil))))))
noncomputable def F_law_moved : Fn := defF 7 3 g_law_moved
theorem w_law_moved (fx : Fx mg) (F0 : FnP K "_law_moved" (SPH.tp 56) f fd) (hm : mg "_law_moved" = some (.ref f))  : DefOk P w K mg base "_law_moved" 1 3 F_law_moved := by
  refine def_ok (N := N_law_moved) (ps := ["_law_table_here", "_law_post", "_law_sort"]) (k := 0) (g := g_law_moved) F0 hm sc_law_moved (F0.bindsN fun _ _ _ _ _ _ us hl => match us, hl with | [_, _, _], _ => rfl) fun cdv A outer s H E hr => ?_
  have hu := hu_room (X := (cxOf CX0 P w K mg base N_law_moved "_law_moved" (defScope (SPH.tp 56)) f cdv A outer s H E).nox) hr
  exact (pssd_cons (psd_if (ptd_cmp (od_eq hu) (pd_var (pv 1)) (pd_neg pd_int)) (pssd_one (psd_ret (pd_tup (pad_cons (pd_tup pad_nil) (pad_cons (pd_neg pd_int) pad_nil))))) pssd_nil)
    (pssd_cons (psd_asg (pd_dget hu (pd_var (pv 0)) (pd_tup (pad_cons (pd_var (pv 1)) (pad_cons (pd_var (pv 2)) pad_nil))) (fun _ _ => rfl)) (pgd_tup rfl (pgsd_cons (pgd_name (pg_name (i := 3) sc_law_moved.nd rfl (by first | exact Or.inl rfl | exact Or.inr rfl))) (pgsd_cons (pgd_name (pg_name (i := 4) sc_law_moved.nd rfl (by first | exact Or.inl rfl | exact Or.inr rfl))) (pgsd_cons (pgd_name (pg_name (i := 5) sc_law_moved.nd rfl (by first | exact Or.inl rfl | exact Or.inr rfl))) (pgsd_cons (pgd_name (pg_name (i := 6) sc_law_moved.nd rfl (by first | exact Or.inl rfl | exact Or.inr rfl))) pgsd_nil))))))
    (pssd_one (psd_ret (pd_tup (pad_cons (pd_var (pv 5)) (pad_cons (pd_var (pv 3)) pad_nil)))))))
end
end Pg
set_option Elab.async false
set_option linter.all false
set_option maxRecDepth 100000
set_option maxHeartbeats 4000000
namespace Pg
open PySem PySem.Spec PyProof.Rows L2
/-! ### a cell of a def's own -/
mutual
theorem Rep.recell {cs cs' : Gh} {H : Hp} (h1 : ∀ a, cs.ok a → H a ≠ none → cs'.ok a) : ∀ {v : V} {d : D}, Rep cs H v d → (∃ n, plN n d = true) → Rep cs' H v d
  | _, _, .non, _ => .non
  | _, _, .bl b, _ => .bl b
  | _, _, .int i, _ => .int i
  | _, _, .str x, _ => .str x
  | _, _, .tup n h r, p => .tup (h1 _ n (by rw [h]; exact fun z => nomatch z)) h (Reps.recell h1 r (by
    obtain ⟨m, p⟩ := p
    cases m with
    | zero => cases p
    | succ m => exact ⟨m, plN_of_mem p⟩))
  | _, _, .lst n h r, p => .lst (h1 _ n (by rw [h]; exact fun z => nomatch z)) h (Reps.recell h1 r (by
    obtain ⟨m, p⟩ := p
    cases m with
    | zero => cases p
    | succ m => exact ⟨m, plN_of_mem p⟩))
  | _, _, .dI n h r, p => by obtain ⟨m, p⟩ := p; cases m <;> cases p
  | _, _, .dP n h r, p => by obtain ⟨m, p⟩ := p; cases m <;> cases p
  | _, _, .cell h, p => by obtain ⟨m, p⟩ := p; cases m <;> cases p
theorem Reps.recell {cs cs' : Gh} {H : Hp} (h1 : ∀ a, cs.ok a → H a ≠ none → cs'.ok a) : ∀ {v : List V} {d : List D}, Reps cs H v d → (∃ n, ∀ x ∈ d, plN n x = true) → Reps cs' H v d
  | _, _, .nil, _ => .nil
  | _, _, .cons r t, ⟨n, p⟩ => .cons (Rep.recell h1 r ⟨n, p _ List.mem_cons_self⟩) (Reps.recell h1 t ⟨n, fun x hx => p x (List.mem_cons_of_mem _ hx)⟩)
end
theorem RepP.recell {cs cs' : Gh} {H : Hp} (h1 : ∀ a, cs.ok a → H a ≠ none → cs'.ok a) : ∀ {v : List (List Key × V)} {d : List ((Int × Int) × D)}, RepP cs H v d → (∀ x ∈ d, plN 5 x.2 = true) → RepP cs' H v d
  | [], [], .nil, _ => .nil
  | _ :: v, _ :: d, .cons r t, p => .cons (Rep.recell h1 r ⟨5, p _ List.mem_cons_self⟩) (RepP.recell (v := v) (d := d) h1 t fun x hx => p x (List.mem_cons_of_mem _ hx))
/-- data without the cell -/
def nc : D → Bool
  | .dP ks => ks.all fun e => plN 5 e.2
  | d => plN 8 d
theorem Rep.nc {cs cs' : Gh} {H : Hp} (h1 : ∀ a, cs.ok a → H a ≠ none → cs'.ok a) {v : V} {d : D} (r : Rep cs H v d) (h : nc d = true) : Rep cs' H v d := by
  cases d with
  | dP ks =>
    cases r with
    | dP n q r => exact .dP (h1 _ n (q.elim (fun h => by rw [h]; exact fun z => nomatch z) fun ⟨_, h⟩ => by rw [h]; exact fun z => nomatch z)) q (r.recell h1 (List.all_eq_true.mp h))
  | _ => exact r.recell h1 ⟨8, h⟩
/-- a new cell at L -/
abbrev Gh.enter (g : Gh) (L : Addr) : Gh := ⟨some L, g.c.toList ++ g.bad⟩
section
variable {cs : Gh} {s s' : D} {H H' : Hp} {L : Addr} {o : HO}
theorem enter_ok (hs : SOk cs s H) (hL : H L = none) : ∀ a, cs.ok a → H a ≠ none → (cs.enter L).ok a := fun a h n => by
  refine ⟨fun m => ?_, fun e => n (Option.some.inj e ▸ hL)⟩
  rcases List.mem_append.mp m with m | m
  · exact h.2 (Option.mem_toList.mp m)
  · exact h.1 m
theorem enter_sok (hs : SOk cs s H) (hL : H L = none) (c : Cont (cs.enter L) (upd H L o) L s') : SOk (cs.enter L) s' (upd H L o) := by
  refine ⟨fun a m => ?_, fun a ha => by cases ha; exact c⟩
  have nt : NoTup (H a) := by
    rcases List.mem_append.mp m with m | m
    · exact (hs.2 a (Option.mem_toList.mp m)).noTup
    · exact hs.1 a m
  have ne : a ≠ L := fun e => nt.there (e ▸ hL)
  rw [upd_ne ne]
  exact nt
theorem enter_rep (hs : SOk cs s H) (hL : H L = none) {v : V} {d : D} (r : Rep cs H v d) (h : nc d = true) : Rep (cs.enter L) (upd H L o) v d := (Rep.nc (enter_ok hs hL) r h).sub fun a n =>
  have ne : a ≠ L := fun e => n.2 (by rw [e])
  have same : upd H L o a = H a := upd_ne ne
  ⟨fun xs e => by rw [same]; exact e, fun xs e => by rw [same]; exact e, fun k e => e.elim (fun e => .inl (by rw [same]; exact e)) fun ⟨ob, e⟩ => .inr ⟨ob, by rw [same]; exact e⟩, fun k e => e.elim (fun e => .inl (by rw [same]; exact e)) fun ⟨ob, e⟩ => .inr ⟨ob, by rw [same]; exact e⟩⟩
theorem leave_ext (hL : H L = none) (x : Ext (cs.enter L) (upd H L o) H') : ∀ b u, H b = some u → H' b = some u := fun b u e => by
  have ne : b ≠ L := ne_of_none e hL
  exact x b u (fun z => ne (Option.some.inj z).symm) (by rw [upd_ne ne]; exact e)
theorem leave_sok (hs : SOk cs s H) (hL : H L = none) (x : Ext (cs.enter L) (upd H L o) H') : SOk cs s H' := by
  have k := leave_ext hL x
  refine hs.step (fun b u _ e => k b u e) fun a ha => ?_
  obtain ⟨u, e, _⟩ := (hs.2 a ha).noTup
  rw [e]
  exact k a u e
theorem leave_ok (hc : cs.c ≠ some L) : ∀ a, (cs.enter L).ok a → H' a ≠ none → cs.ok a := fun a h _ =>
  ⟨fun m => h.1 (List.mem_append_right _ m), fun e => h.1 (List.mem_append_left _ (Option.mem_toList.mpr e))⟩
end
section
variable {P : Program} {w : World} {K : PySem.W.Frag} {mg : Str → Option Value} {base : Heap} {f : Addr} {fd : FuncData}
/-! ### law_led -/
abbrev N_law_led : List Str := ["_law_told_here", "_law_found", "_law_post", "_law_sort", "_law_end"]
theorem sc_law_led : FnScope N_law_led ["_law_told_here"] (defScope (SPH.tp 49)) := ⟨rfl, rfl, rfl, by decide +kernel, rfl, by decide +kernel, by decide +kernel⟩
noncomputable def b1_law_led : ES :=
  (sSeq (sAsg (eOp rIx (eGet (eVar 0) (eTup (aCons (eVar 2) (aCons (eVar 3) aNil))) (eLst (aCons (eNeg (eC (.int 1))) aNil))) (eC (.int 0))) (tName 4))
  (sIf (bAnd (eB (eOp rNe (eVar 4) (eNeg (eC (.int 1))))) (eB (eOp rNotIn (eVar 4) (eVar 1)))) (sCellApp 1 (eVar 4)) sNil))
noncomputable def b2_law_led : ES :=
  (sFor (iSeq (eIf (eB (eOp rIn (eVar 2) (eVar 1))) (eTup (aCons (eC (.int 0)) (aCons (eC (.int 1)) (aCons (eC (.int 2)) aNil)))) (eTup aNil))) (tName 3) b1_law_led)
noncomputable def g_law_led : ES :=
  (sSeq (sFor (iSeq (eOp rMul (eTup (aCons (eC (.int 0)) (aCons (eC (.int 1)) (aCons (eC (.int 2)) (aCons (eC (.int 3)) (aCons (eC (.int 4)) (aCons (eC (.int 5)) aNil))))))) (eC (.int 6)))) (tName 2) b2_law_led)
  (sRet (eVar 1)))
noncomputable def F_law_led : Fn := fun ds s => match ds with
  | [d] => if nc d then match g_law_led [some d, some .cell, none, none, none] (.lst [.int 0]) with
    | some (.rt .cell, .lst xs) => if xs.all (plN 5) then some (.lst xs, s) else none
    | _ => none
    else none
  | _ => none
theorem w_law_led (fx : Fx mg) (F0 : FnP K "_law_led" (SPH.tp 49) f fd) (hm : mg "_law_led" = some (.ref f)) : DefOk P w K mg base "_law_led" 1 1 F_law_led := by
  refine ⟨f, fd, ["_law_told_here"], hm, F0.kp, F0.bindsN fun _ _ _ _ _ _ us hl => match us, hl with | [_], _ => rfl, F0.ok sc_law_led (fun vs H Q E h => h.1) fun cdv A outer s H vs Q E hr h => ?_⟩
  have hu := hu_room (X := (cxOf CX0 P w K mg base N_law_led "_law_led" (defScope (SPH.tp 49)) f cdv A outer s H E).nox) hr
  have rest : PSsD (cxOf CX0 P w K mg base N_law_led "_law_led" (defScope (SPH.tp 49)) f cdv A outer s H E).nox (defBody (SPH.tp 49)).tail g_law_led :=
    (pssd_cons (psd_for PassesOwn.never rfl (pid_seq (pd_op od_mul (pd_tup (pad_cons pd_int (pad_cons pd_int (pad_cons pd_int (pad_cons pd_int (pad_cons pd_int (pad_cons pd_int pad_nil))))))) pd_int)) (pgd_name (pg_name (i := 2) sc_law_led.nd rfl (by first | exact Or.inl rfl | exact Or.inr rfl))) (pssd_one (psd_for PassesOwn.never rfl (pid_seq (pd_if (ptd_cmp (od_in hu) (pd_var (pv 2)) (pd_var (pv 1))) (pd_tup (pad_cons pd_int (pad_cons pd_int (pad_cons pd_int pad_nil)))) (pd_tup pad_nil))) (pgd_name (pg_name (i := 3) sc_law_led.nd rfl (by first | exact Or.inl rfl | exact Or.inr rfl))) (pssd_cons (psd_set sc_law_led.nd rfl (by first | exact Or.inl rfl | exact Or.inr rfl) (pd_ix (pd_get hu (pd_var (pv 0)) (pd_tup (pad_cons (pd_var (pv 2)) (pad_cons (pd_var (pv 3)) pad_nil))) (pd_lst (pad_cons (pd_neg pd_int) pad_nil)) ⟨rfl, rfl, rfl, rfl⟩) pd_int (fun _ _ => rfl)))
    (pssd_one (psd_if (ptd_w (pwd_and (ptd_cmp (od_ne hu) (pd_var (pv 4)) (pd_neg pd_int)) (pwd_and1 (ptd_cmp (od_notIn hu) (pd_var (pv 4)) (pd_var (pv 1)))))) (pssd_one (psd_cellApp (pv 1) (pd_var (pv 4)))) pssd_nil))))))
    (pssd_one (psd_ret (pd_var (pv 1)))))
  obtain ⟨t, ht, gt⟩ := rest
  refine ⟨_, PSs.nox (pss_cons (ps_set (i := 1) sc_law_led.nd rfl (by first | exact Or.inl rfl | exact Or.inr rfl) (pe_lst (pa_cons pe_int pa_nil))) ht), ?_⟩
  obtain ⟨_, cs, s0, ds, d, s', hs, r, hf, k⟩ := h
  unfold F_law_led at hf
  cases r with
  | nil => cases hf
  | @cons v dv vs ds r r2 =>
    cases r2 with
    | cons _ _ => cases hf
    | nil =>
      dsimp only at hf
      split at hf
      · rename_i hn
        split at hf
        · rename_i xs eg
          split at hf
          · rename_i hx
            cases hf
            refine ⟨show 1 ≤ sizeLine by decide, fun L hL => ?_⟩
            have c0 : cs.c ≠ some L := (hs.fresh hL).2
            refine gt (cs.enter L) _ (upd H L (.lst [.int 0])) [some dv, some .cell, none, none, none] (.lst [.int 0]) (.rt .cell) (.lst xs) _ ?_ (enter_sok hs hL ⟨_, upd_same, Reps.one (Rep.int 0)⟩) eg ?_
            · refine ⟨Nat.le_refl _, fun i d' e => ?_⟩
              rcases i with _ | _ | i
              · cases e
                exact ⟨v, rfl, enter_rep hs hL r hn⟩
              · cases e
                exact ⟨.ref L, rfl, .cell rfl⟩
              · have z : some d' ∈ ([none, none, none] : List (Option D)) := List.mem_of_getElem? (i := i) (by simpa using e)
                simp at z
            · intro v' H' x kk rr
              cases rr with
              | cell e =>
                cases e
                obtain ⟨ys, hy, ry⟩ := kk.2 _ rfl
                refine k _ _ (fun b u _ e => leave_ext hL x b u e) (leave_sok hs hL x) (.lst (hs.fresh hL) hy (Reps.recell (leave_ok c0) ry ⟨5, List.all_eq_true.mp hx⟩))
          · cases hf
        · cases hf
      · cases hf
/-! ### law_table -/
abbrev N_law_table : List Str := ["_law_routine", "_law_told_here", "_law_pairs", "_law_post", "_law_turn", "_law_pair_here", "_law_found", "_law_sort"]
theorem sc_law_table : FnScope N_law_table ["_law_routine"] (defScope (SPH.tp 47)) := ⟨rfl, rfl, rfl, by decide +kernel, rfl, by decide +kernel, by decide +kernel⟩
noncomputable def e1_law_table : E :=
  (eTup (aCons (eVar 3) (aCons (eVar 7) aNil)))
noncomputable def b2_law_table : ES :=
  (sAsg (eOp rAdd (eVar 2) (eLc (iSeq (eTup (aCons (eC (.int 0)) (aCons (eC (.int 1)) (aCons (eC (.int 2)) (aCons (eC (.int 3)) aNil)))))) (tName 7) bYes e1_law_table [7])) (tName 2))
noncomputable def b3_law_table : ES :=
  (sSeq (sAsg (eIf (eB (eOp rDNotIn (eVar 5) (eVar 1))) (eCall 3 F_law_pair (aCons (eVar 0) (aCons (eVar 5) (aCons (eVar 1) aNil)))) (eC .non)) (tName 6))
  (sIf (eB (eOp rNotN (eVar 6) (eC .non))) (sCellPut 1 (eVar 5) (eVar 6)) sNil))
noncomputable def b4_law_table : ES :=
  (sFor (iSeq (eVar 2)) (tName 5) b3_law_table)
noncomputable def g_law_table : ES :=
  (sSeq (sFor (iRng (eCB rLen2 (aCons (eVar 0) aNil))) (tName 3) b2_law_table)
  (sSeq (sFor (iRng (eOp rAdd (eCB rLen2 (aCons (eVar 2) aNil)) (eC (.int 1)))) (tName 4) b4_law_table)
  (sRet (eVar 1))))
noncomputable def F_law_table : Fn := fun ds s => match ds with
  | [d] => if nc d then match g_law_table [some d, some .cell, some (.lst []), none, none, none, none, none] (.dP []) with
    | some (.rt .cell, .dP ks) => if ks.all (fun e => plN 5 e.2) then some (.dP ks, s) else none
    | _ => none
    else none
  | _ => none
theorem w_law_table (fx : Fx mg) (F0 : FnP K "_law_table" (SPH.tp 47) f fd) (hm : mg "_law_table" = some (.ref f)) (c_law_pair : DefOk P w K mg base "_law_pair" 1 3 F_law_pair) : DefOk P w K mg base "_law_table" 2 1 F_law_table := by
  refine ⟨f, fd, ["_law_routine"], hm, F0.kp, F0.bindsN fun _ _ _ _ _ _ us hl => match us, hl with | [_], _ => rfl, F0.ok sc_law_table (fun vs H Q E h => h.1) fun cdv A outer s H vs Q E hr h => ?_⟩
  have hu := hu_room (X := (cxOf CX0 P w K mg base N_law_table "_law_table" (defScope (SPH.tp 47)) f cdv A outer s H E).nox) hr
  have rest : PSsD (cxOf CX0 P w K mg base N_law_table "_law_table" (defScope (SPH.tp 47)) f cdv A outer s H E).nox (defBody (SPH.tp 47)).tail g_law_table :=
    (pssd_cons (psd_for PassesOwn.never rfl (pid_range rfl fx.b_range (pd_callB cd_len2 rfl fx.b_len (by decide +kernel) (pad_cons (pd_var (pv 0)) pad_nil))) (pgd_name (pg_name (i := 3) sc_law_table.nd rfl (by first | exact Or.inl rfl | exact Or.inr rfl))) (pssd_one (psd_set sc_law_table.nd rfl (by first | exact Or.inl rfl | exact Or.inr rfl) (pd_op od_add (pd_var (pv 2)) (pd_lc (own := [("_law_sort", 7)]) rfl sc_law_table.nd (pid_seq (pd_tup (pad_cons pd_int (pad_cons pd_int (pad_cons pd_int (pad_cons pd_int pad_nil)))))) (blkOk_by (N := N_law_table) (sc := defScope (SPH.tp 47)) (by decide +kernel)) (by decide) (fun _ _ _ _ _ => (pgd_name (pg_name (i := 7) sc_law_table.nd rfl (by first | exact Or.inl rfl | exact Or.inr rfl)))) (fun _ _ _ _ _ => ptsd_nil) (fun _ _ _ _ _ => (pd_tup (pad_cons (pd_var (pv 3)) (pad_cons (pd_var (pv 7)) pad_nil)))))))))
    (pssd_cons (psd_for PassesOwn.never rfl (pid_range rfl fx.b_range (pd_op od_add (pd_callB cd_len2 rfl fx.b_len (by decide +kernel) (pad_cons (pd_var (pv 2)) pad_nil)) pd_int)) (pgd_name (pg_name (i := 4) sc_law_table.nd rfl (by first | exact Or.inl rfl | exact Or.inr rfl))) (pssd_one (psd_for PassesOwn.never rfl (pid_seq (pd_var (pv 2))) (pgd_name (pg_name (i := 5) sc_law_table.nd rfl (by first | exact Or.inl rfl | exact Or.inr rfl))) (pssd_cons (psd_set sc_law_table.nd rfl (by first | exact Or.inl rfl | exact Or.inr rfl) (pd_if (ptd_dnotin hu (pd_var (pv 5)) (pd_var (pv 1))) (pd_callD (c_law_pair.mono (by decide)) hr rfl (pad_cons (pd_var (pv 0)) (pad_cons (pd_var (pv 5)) (pad_cons (pd_var (pv 1)) pad_nil)))) pd_non))
    (pssd_one (psd_if (ptd_cmp od_notN (pd_var (pv 6)) pd_non) (pssd_one (psd_cellPut hu (pv 1) (pd_var (pv 5)) (pd_var (pv 6)))) pssd_nil))))))
    (pssd_one (psd_ret (pd_var (pv 1))))))
  obtain ⟨t, ht, gt⟩ := rest
  refine ⟨_, PSs.nox (pss_cons (ps_par (i := 1) (j := 2) rfl sc_law_table.nd rfl rfl (by decide) rfl rfl (pa_cons pe_dnewT (pa_cons (pe_lst pa_nil) pa_nil)) rfl) ht), ?_⟩
  obtain ⟨_, cs, s0, ds, d, s', hs, r, hf, k⟩ := h
  unfold F_law_table at hf
  cases r with
  | nil => cases hf
  | @cons v dv vs ds r r2 =>
    cases r2 with
    | cons _ _ => cases hf
    | nil =>
      dsimp only at hf
      split at hf
      · rename_i hn
        split at hf
        · rename_i ks eg
          split at hf
          · rename_i hx
            cases hf
            refine fun L hL => ⟨Nat.zero_le _, fun M hM => ⟨_, _, rfl, ?_⟩⟩
            have c0 : cs.c ≠ some L := (hs.fresh hL).2
            have k1 : SOk (cs.enter L) (.dP []) (upd H L (.dT [])) := enter_sok hs hL ⟨_, upd_same, .nil⟩
            have x1 : Ext (cs.enter L) (upd H L (.dT [])) (upd (upd H L (.dT [])) M (.lst [])) := .new hM
            refine gt (cs.enter L) _ (upd (upd H L (.dT [])) M (.lst [])) [some dv, some .cell, some (.lst []), none, none, none, none, none] (.dP []) (.rt .cell) (.dP ks) _ ?_ (k1.new hM) eg ?_
            · refine ⟨Nat.le_refl _, fun i d' e => ?_⟩
              rcases i with _ | _ | _ | i
              · cases e
                exact ⟨v, rfl, (enter_rep hs hL r hn).mono x1⟩
              · cases e
                exact ⟨.ref L, rfl, .cell rfl⟩
              · cases e
                exact ⟨.ref M, rfl, .lst (k1.fresh hM) upd_same .nil⟩
              · have z : some d' ∈ ([none, none, none, none, none] : List (Option D)) := List.mem_of_getElem? (i := i) (by simpa using e)
                simp at z
            · intro v' H' x kk rr
              have xx := x1.trans x
              cases rr with
              | cell e =>
                cases e
                obtain ⟨ys, hy, ry⟩ := kk.2 _ rfl
                refine k _ _ (fun b u _ e => leave_ext hL xx b u e) (leave_sok hs hL xx) (.dP (hs.fresh hL) (.inl hy) (ry.recell (leave_ok c0) (List.all_eq_true.mp hx)))
          · cases hf
        · cases hf
      · cases hf
end
end Pg
set_option Elab.async false
set_option linter.all false
set_option maxRecDepth 100000
set_option maxHeartbeats 4000000
namespace Pg
open PySem PySem.Spec PyProof.Rows L2
section
variable {P : Program} {w : World} {K : PySem.W.Frag} {mg : Str → Option Value} {base : Heap} {f : Addr} {fd : FuncData}
/-! ### law_rests -/
abbrev N_law_rests : List Str := ["_law_told_here", "_law_post", "_law_sort"]
theorem sc_law_rests : FnScope N_law_rests ["_law_told_here"] (defScope (SPH.tp 50)) := ⟨rfl, rfl, rfl, by decide +kernel, rfl, by decide +kernel, by decide +kernel⟩
noncomputable def t1_law_rests : EB :=
  (eB (eOp rDNotIn (eTup (aCons (eVar 1) (aCons (eVar 2) aNil))) (eVar 0)))
noncomputable def b2_law_rests : ES :=
  (sIf (eB (eOp rNe (eLc (iSeq (eTup (aCons (eC (.int 0)) (aCons (eC (.int 1)) (aCons (eC (.int 2)) (aCons (eC (.int 3)) aNil)))))) (tName 2) t1_law_rests (eVar 2) [2]) (eLst aNil))) (sRet (eC (.bl false))) sNil)
noncomputable def g_law_rests : ES :=
  (sSeq (sFor (iSeq (eCall 1 F_law_led (aCons (eVar 0) aNil))) (tName 1) b2_law_rests)
  (sRet (eC (.bl true))))
noncomputable def F_law_rests : Fn := defF 3 1 g_law_rests
theorem w_law_rests (fx : Fx mg) (F0 : FnP K "_law_rests" (SPH.tp 50) f fd) (hm : mg "_law_rests" = some (.ref f)) (c_law_led : DefOk P w K mg base "_law_led" 1 1 F_law_led) : DefOk P w K mg base "_law_rests" 2 1 F_law_rests := by
  refine def_ok (N := N_law_rests) (ps := ["_law_told_here"]) (k := 1) (g := g_law_rests) F0 hm sc_law_rests (F0.bindsN fun _ _ _ _ _ _ us hl => match us, hl with | [_], _ => rfl) fun cdv A outer s H E hr => ?_
  have hu := hu_room (X := (cxOf CX0 P w K mg base N_law_rests "_law_rests" (defScope (SPH.tp 50)) f cdv A outer s H E).nox) hr
  exact (pssd_cons (psd_for PassesOwn.never rfl (pid_seq (pd_callD (c_law_led.mono (by decide)) hr rfl (pad_cons (pd_var (pv 0)) pad_nil))) (pgd_name (pg_name (i := 1) sc_law_rests.nd rfl (by first | exact Or.inl rfl | exact Or.inr rfl))) (pssd_one (psd_if (ptd_cmp (od_ne hu) (pd_lc (own := [("_law_sort", 2)]) rfl sc_law_rests.nd (pid_seq (pd_tup (pad_cons pd_int (pad_cons pd_int (pad_cons pd_int (pad_cons pd_int pad_nil)))))) (blkOk_by (N := N_law_rests) (sc := defScope (SPH.tp 50)) (by decide +kernel)) (by decide) (fun _ _ _ _ _ => (pgd_name (pg_name (i := 2) sc_law_rests.nd rfl (by first | exact Or.inl rfl | exact Or.inr rfl)))) (fun _ _ _ _ _ => (ptsd_one (ptd_dnotin hu (pd_tup (pad_cons (pd_var (pv 1)) (pad_cons (pd_var (pv 2)) pad_nil))) (pd_var (pv 0))))) (fun _ _ _ _ _ => (pd_var (pv 2)))) (pd_lst pad_nil)) (pssd_one (psd_ret pd_bl)) pssd_nil)))
    (pssd_one (psd_ret pd_bl)))

/-! ### law_resting -/
abbrev N_law_resting : List Str := ["_law_cup_here", "_law_found", "_law_post"]
theorem sc_law_resting : FnScope N_law_resting ["_law_cup_here"] (defScope (SPH.tp 52)) := ⟨rfl, rfl, rfl, by decide +kernel, rfl, by decide +kernel, by decide +kernel⟩
noncomputable def e1_law_resting : E :=
  (eOp rAdd (eSl (eVar 2) oNone (oSome (eC (.int 3)))) (eTup (aCons (eTup (aCons (eOp rIx (eOp rIx (eVar 2) (eC (.int 3))) (eC (.int 0))) (aCons (eTup aNil) (aCons (eNeg (eC (.int 1))) aNil)))) aNil)))
noncomputable def g_law_resting : ES :=
  (sSeq (sAsg (eCall 1 F_law_calm (aCons (eVar 0) aNil)) (tName 1))
  (sSeq (sIf (eB (eCall 1 F_law_rests (aCons (eCall 1 F_law_table (aCons (eVar 1) aNil)) aNil))) (sRet (eVar 1)) sNil)
  (sRet (eCB rTuple (aCons (eLc (iSeq (eVar 1)) (tName 2) bYes e1_law_resting [2]) aNil)))))
noncomputable def F_law_resting : Fn := defF 3 1 g_law_resting
theorem w_law_resting (fx : Fx mg) (F0 : FnP K "_law_resting" (SPH.tp 52) f fd) (hm : mg "_law_resting" = some (.ref f)) (c_law_calm : DefOk P w K mg base "_law_calm" 3 1 F_law_calm) (c_law_table : DefOk P w K mg base "_law_table" 2 1 F_law_table) (c_law_rests : DefOk P w K mg base "_law_rests" 2 1 F_law_rests) : DefOk P w K mg base "_law_resting" 4 1 F_law_resting := by
  refine def_ok (N := N_law_resting) (ps := ["_law_cup_here"]) (k := 3) (g := g_law_resting) F0 hm sc_law_resting (F0.bindsN fun _ _ _ _ _ _ us hl => match us, hl with | [_], _ => rfl) fun cdv A outer s H E hr => ?_
  have hu := hu_room (X := (cxOf CX0 P w K mg base N_law_resting "_law_resting" (defScope (SPH.tp 52)) f cdv A outer s H E).nox) hr
  exact (pssd_cons (psd_set sc_law_resting.nd rfl (by first | exact Or.inl rfl | exact Or.inr rfl) (pd_callD (c_law_calm.mono (by decide)) hr rfl (pad_cons (pd_var (pv 0)) pad_nil)))
    (pssd_cons (psd_if (ptd_val (pd_callD (c_law_rests.mono (by decide)) hr rfl (pad_cons (pd_callD (c_law_table.mono (by decide)) hr rfl (pad_cons (pd_var (pv 1)) pad_nil)) pad_nil))) (pssd_one (psd_ret (pd_var (pv 1)))) pssd_nil)
    (pssd_one (psd_ret (pd_callTy cd_tuple rfl fx.b_tuple (by decide +kernel) (pad_cons (pd_lc (own := [("_law_post", 2)]) rfl sc_law_resting.nd (pid_seq (pd_var (pv 1))) (blkOk_by (N := N_law_resting) (sc := defScope (SPH.tp 52)) (by decide +kernel)) (by decide) (fun _ _ _ _ _ => (pgd_name (pg_name (i := 2) sc_law_resting.nd rfl (by first | exact Or.inl rfl | exact Or.inr rfl)))) (fun _ _ _ _ _ => ptsd_nil) (fun _ _ _ _ _ => (pd_op od_add (pd_slice (pd_var (pv 2)) pod_none (pod_some pd_int)) (pd_tup (pad_cons (pd_tup (pad_cons (pd_ix (pd_ix (pd_var (pv 2)) pd_int (fun _ _ => rfl)) pd_int (fun _ _ => rfl)) (pad_cons (pd_tup pad_nil) (pad_cons (pd_neg pd_int) pad_nil)))) pad_nil))))) pad_nil))))))

/-! ### law_is_paper -/
abbrev N_law_is_paper : List Str := ["_law_table_here", "_law_marks", "_law_value", "_law_post", "_law_count", "_law_sort", "_law_more", "_law_end", "_law_row"]
theorem sc_law_is_paper : FnScope N_law_is_paper ["_law_table_here", "_law_marks", "_law_value"] (defScope (SPH.tp 57)) := ⟨rfl, rfl, rfl, by decide +kernel, rfl, by decide +kernel, by decide +kernel⟩
noncomputable def t1_law_is_paper : EB :=
  (bOr (bNot (eB (eIsi qTup (eVar 8)))) (eB (eOp rNe (eCB rLen2 (aCons (eVar 8) aNil)) (eC (.int 2)))))
noncomputable def b2_law_is_paper : ES :=
  (sSeq (sIf (bOr (eB (eIsi qBool (eVar 3))) (bOr (eB (eIsi qBool (eVar 4))) (bOr (bNot (eB (eIsi qInt (eVar 3)))) (bNot (eB (eIsi qInt (eVar 4))))))) (sRet (eC (.bl false))) sNil)
  (sIf (bOr (eB (eOp rNotIn (eVar 3) (eOp rAdd (eCall 1 F_law_led (aCons (eVar 0) aNil)) (eLst (aCons (eNeg (eC (.int 1))) aNil))))) (bNot (eB (eChain rLe rLe (eC (.int 0)) (eVar 4) (eCB rLen2 (aCons (eVar 1) aNil)))))) (sRet (eC (.bl false))) sNil))
noncomputable def b3_law_is_paper : ES :=
  (sSeq (sAsg (eCall 3 F_law_moved (aCons (eVar 0) (aCons (eVar 3) (aCons (eVar 5) aNil)))) (tTup 2 (tsCons (tName 6) (tsCons (tName 7) tsNil))))
  (sIf (bAnd (eB (eOp rEq (eSl (eVar 1) (oSome (eVar 4)) (oSome (eOp rAdd (eVar 4) (eCB rLen2 (aCons (eVar 6) aNil))))) (eVar 6))) (eB (eOp rNotIn (eTup (aCons (eVar 7) (aCons (eOp rAdd (eVar 4) (eCB rLen2 (aCons (eVar 6) aNil))) aNil))) (eVar 2)))) (sRet (eC (.bl false))) sNil))
noncomputable def b4_law_is_paper : ES :=
  (sSeq (sIf (eB (eOp rEq (eOp rIx (eCall 3 F_law_moved (aCons (eVar 0) (aCons (eVar 3) (aCons (eC (.int 3)) aNil)))) (eC (.int 0))) (eSl (eVar 1) (oSome (eVar 4)) oNone))) (sRet (eC (.bl false))) sNil)
  (sFor (iSeq (eTup (aCons (eC (.int 0)) (aCons (eC (.int 1)) (aCons (eC (.int 2)) aNil))))) (tName 5) b3_law_is_paper))
noncomputable def g_law_is_paper : ES :=
  (sSeq (sIf (bOr (bNot (eB (eIsi qTup (eVar 2)))) (eB (eOp rNe (eLc (iSeq (eVar 2)) (tName 8) t1_law_is_paper (eVar 8) [8]) (eLst aNil)))) (sRet (eC (.bl false))) sNil)
  (sSeq (sFor (iSeq (eVar 2)) (tTup 2 (tsCons (tName 3) (tsCons (tName 4) tsNil))) b2_law_is_paper)
  (sSeq (sIf (bOr (eB (eOp rNe (eCB rList (aCons (eVar 2) aNil)) (eSS (eVar 2)))) (eB (eOp rNotIn (eTup (aCons (eC (.int 0)) (aCons (eC (.int 0)) aNil))) (eVar 2)))) (sRet (eC (.bl false))) sNil)
  (sSeq (sFor (iSeq (eVar 2)) (tTup 2 (tsCons (tName 3) (tsCons (tName 4) tsNil))) b4_law_is_paper)
  (sRet (eC (.bl true)))))))
noncomputable def F_law_is_paper : Fn := defF 9 3 g_law_is_paper
theorem w_law_is_paper (fx : Fx mg) (F0 : FnP K "_law_is_paper" (SPH.tp 57) f fd) (hm : mg "_law_is_paper" = some (.ref f)) (c_law_led : DefOk P w K mg base "_law_led" 1 1 F_law_led) (c_law_moved : DefOk P w K mg base "_law_moved" 1 3 F_law_moved) : DefOk P w K mg base "_law_is_paper" 2 3 F_law_is_paper := by
  refine def_ok (N := N_law_is_paper) (ps := ["_law_table_here", "_law_marks", "_law_value"]) (k := 1) (g := g_law_is_paper) F0 hm sc_law_is_paper (F0.bindsN fun _ _ _ _ _ _ us hl => match us, hl with | [_, _, _], _ => rfl) fun cdv A outer s H E hr => ?_
  have hu := hu_room (X := (cxOf CX0 P w K mg base N_law_is_paper "_law_is_paper" (defScope (SPH.tp 57)) f cdv A outer s H E).nox) hr
  exact (pssd_cons (psd_if (ptd_w (pwd_or (ptd_not (ptd_val (pd_isiT rfl fx.b_isinstance rfl fx.b_tuple (pd_var (pv 2))))) (pwd_or1 (ptd_cmp (od_ne hu) (pd_lc (own := [("_law_row", 8)]) rfl sc_law_is_paper.nd (pid_seq (pd_var (pv 2))) (blkOk_by (N := N_law_is_paper) (sc := defScope (SPH.tp 57)) (by decide +kernel)) (by decide) (fun _ _ _ _ _ => (pgd_name (pg_name (i := 8) sc_law_is_paper.nd rfl (by first | exact Or.inl rfl | exact Or.inr rfl)))) (fun _ _ _ _ _ => (ptsd_one (ptd_w (pwd_or (ptd_not (ptd_val (pd_isiT rfl fx.b_isinstance rfl fx.b_tuple (pd_var (pv 8))))) (pwd_or1 (ptd_cmp (od_ne hu) (pd_callB cd_len2 rfl fx.b_len (by decide +kernel) (pad_cons (pd_var (pv 8)) pad_nil)) pd_int)))))) (fun _ _ _ _ _ => (pd_var (pv 8)))) (pd_lst pad_nil))))) (pssd_one (psd_ret pd_bl)) pssd_nil)
    (pssd_cons (psd_for PassesOwn.never rfl (pid_seq (pd_var (pv 2))) (pgd_tup rfl (pgsd_cons (pgd_name (pg_name (i := 3) sc_law_is_paper.nd rfl (by first | exact Or.inl rfl | exact Or.inr rfl))) (pgsd_cons (pgd_name (pg_name (i := 4) sc_law_is_paper.nd rfl (by first | exact Or.inl rfl | exact Or.inr rfl))) pgsd_nil))) (pssd_cons (psd_if (ptd_w (pwd_or (ptd_val (pd_isiB rfl fx.b_isinstance rfl fx.b_bool (pd_var (pv 3)))) (pwd_or (ptd_val (pd_isiB rfl fx.b_isinstance rfl fx.b_bool (pd_var (pv 4)))) (pwd_or (ptd_not (ptd_val (pd_isiI rfl fx.b_isinstance rfl fx.b_int (pd_var (pv 3))))) (pwd_or1 (ptd_not (ptd_val (pd_isiI rfl fx.b_isinstance rfl fx.b_int (pd_var (pv 4)))))))))) (pssd_one (psd_ret pd_bl)) pssd_nil)
    (pssd_one (psd_if (ptd_w (pwd_or (ptd_cmp (od_notIn hu) (pd_var (pv 3)) (pd_op od_add (pd_callD (c_law_led.mono (by decide)) hr rfl (pad_cons (pd_var (pv 0)) pad_nil)) (pd_lst (pad_cons (pd_neg pd_int) pad_nil)))) (pwd_or1 (ptd_not (ptd_chain od_le od_le pd_int (pd_var (pv 4)) (pd_callB cd_len2 rfl fx.b_len (by decide +kernel) (pad_cons (pd_var (pv 1)) pad_nil))))))) (pssd_one (psd_ret pd_bl)) pssd_nil))))
    (pssd_cons (psd_if (ptd_w (pwd_or (ptd_cmp (od_ne hu) (pd_callTy cd_list rfl fx.b_list (by decide +kernel) (pad_cons (pd_var (pv 2)) pad_nil)) (pd_sortedSet hu rfl rfl fx.b_sorted rfl fx.b_set (pd_var (pv 2)))) (pwd_or1 (ptd_cmp (od_notIn hu) (pd_tup (pad_cons pd_int (pad_cons pd_int pad_nil))) (pd_var (pv 2)))))) (pssd_one (psd_ret pd_bl)) pssd_nil)
    (pssd_cons (psd_for PassesOwn.never rfl (pid_seq (pd_var (pv 2))) (pgd_tup rfl (pgsd_cons (pgd_name (pg_name (i := 3) sc_law_is_paper.nd rfl (by first | exact Or.inl rfl | exact Or.inr rfl))) (pgsd_cons (pgd_name (pg_name (i := 4) sc_law_is_paper.nd rfl (by first | exact Or.inl rfl | exact Or.inr rfl))) pgsd_nil))) (pssd_cons (psd_if (ptd_cmp (od_eq hu) (pd_ix (pd_callD (c_law_moved.mono (by decide)) hr rfl (pad_cons (pd_var (pv 0)) (pad_cons (pd_var (pv 3)) (pad_cons pd_int pad_nil)))) pd_int (fun _ _ => rfl)) (pd_slice (pd_var (pv 1)) (pod_some (pd_var (pv 4))) pod_none)) (pssd_one (psd_ret pd_bl)) pssd_nil)
    (pssd_one (psd_for PassesOwn.never rfl (pid_seq (pd_tup (pad_cons pd_int (pad_cons pd_int (pad_cons pd_int pad_nil))))) (pgd_name (pg_name (i := 5) sc_law_is_paper.nd rfl (by first | exact Or.inl rfl | exact Or.inr rfl))) (pssd_cons (psd_asg (pd_callD (c_law_moved.mono (by decide)) hr rfl (pad_cons (pd_var (pv 0)) (pad_cons (pd_var (pv 3)) (pad_cons (pd_var (pv 5)) pad_nil)))) (pgd_tup rfl (pgsd_cons (pgd_name (pg_name (i := 6) sc_law_is_paper.nd rfl (by first | exact Or.inl rfl | exact Or.inr rfl))) (pgsd_cons (pgd_name (pg_name (i := 7) sc_law_is_paper.nd rfl (by first | exact Or.inl rfl | exact Or.inr rfl))) pgsd_nil))))
    (pssd_one (psd_if (ptd_w (pwd_and (ptd_cmp (od_eq hu) (pd_slice (pd_var (pv 1)) (pod_some (pd_var (pv 4))) (pod_some (pd_op od_add (pd_var (pv 4)) (pd_callB cd_len2 rfl fx.b_len (by decide +kernel) (pad_cons (pd_var (pv 6)) pad_nil))))) (pd_var (pv 6))) (pwd_and1 (ptd_cmp (od_notIn hu) (pd_tup (pad_cons (pd_var (pv 7)) (pad_cons (pd_op od_add (pd_var (pv 4)) (pd_callB cd_len2 rfl fx.b_len (by decide +kernel) (pad_cons (pd_var (pv 6)) pad_nil))) pad_nil))) (pd_var (pv 2)))))) (pssd_one (psd_ret pd_bl)) pssd_nil)))))))
    (pssd_one (psd_ret pd_bl))))))

/-! ### law_near -/
abbrev N_law_near : List Str := ["_law_cup_here", "_law_table_here", "_law_marks", "_law_paper", "_law_at", "_law_way", "_law_odd", "_law_more", "_law_turn"]
theorem sc_law_near : FnScope N_law_near ["_law_cup_here", "_law_table_here", "_law_marks", "_law_paper"] (defScope (SPH.tp 58)) := ⟨rfl, rfl, rfl, by decide +kernel, rfl, by decide +kernel, by decide +kernel⟩
noncomputable def e1_law_near : E :=
  (eTup (aCons (eCall 2 F_law_some (aCons (eVar 0) (aCons (eLst (aCons (eNeg (eC (.int 1))) (aCons (eC (.int 0)) (aCons (eC (.int 1)) (aCons (eC (.int 2)) aNil))))) aNil))) (aCons (eCall 2 F_law_roll (aCons (eVar 0) (aCons (eOp rAdd (eCB rLen2 (aCons (eVar 2) aNil)) (eC (.int 1))) aNil))) aNil)))
noncomputable def g_law_near : ES :=
  (sSeq (sPar2 4 5 (aCons (eCall 2 F_law_roll (aCons (eVar 0) (aCons (eCB rLen2 (aCons (eVar 3) aNil)) aNil))) (aCons (eCall 2 F_law_roll (aCons (eVar 0) (aCons (eC (.int 8)) aNil))) aNil)))
  (sSeq (sIf (eB (eOp rEq (eVar 5) (eC (.int 0)))) (sRet (eOp rAdd (eSl (eVar 3) oNone (oSome (eVar 4))) (eSl (eVar 3) (oSome (eOp rAdd (eVar 4) (eC (.int 1)))) oNone))) sNil)
  (sSeq (sIf (eB (eOp rEq (eVar 5) (eC (.int 1)))) (sRet (eOp rAdd (eVar 3) (eSl (eVar 3) (oSome (eVar 4)) (oSome (eOp rAdd (eVar 4) (eC (.int 1))))))) sNil)
  (sSeq (sIf (eB (eOp rEq (eVar 5) (eC (.int 2)))) (sRet (eCall 2 F_law_some (aCons (eVar 0) (aCons (eLst (aCons (eBack (eVar 3)) (aCons (eCB rList (aCons (eVar 3) aNil)) (aCons (eOp rAdd (eVar 3) (eTup (aCons (eC .non) aNil))) (aCons (eOp rAdd (eOp rAdd (eSl (eVar 3) oNone (oSome (eVar 4))) (eTup (aCons (eOp rAdd (eOp rIx (eVar 3) (eVar 4)) (eTup (aCons (eC (.int 0)) aNil))) aNil))) (eSl (eVar 3) (oSome (eOp rAdd (eVar 4) (eC (.int 1)))) oNone)) aNil))))) aNil)))) sNil)
  (sSeq (sIf (eB (eOp rEq (eVar 5) (eC (.int 3)))) (sSeq (sAsg (eCall 2 F_law_some (aCons (eVar 0) (aCons (eLst (aCons (eTup (aCons (eC (.bl true)) (aCons (eC (.int 0)) aNil))) (aCons (eTup (aCons (eC (.int 0)) (aCons (eC (.bl true)) aNil))) (aCons (eTup (aCons (eNeg (eC (.int 2))) (aCons (eC (.int 0)) aNil))) (aCons (eTup (aCons (eC (.int 6)) (aCons (eC (.int 0)) aNil))) (aCons (eTup (aCons (eC (.int 0)) (aCons (eOp rAdd (eCB rLen2 (aCons (eVar 2) aNil)) (eC (.int 1))) aNil))) (aCons (eTup (aCons (eC (.int 0)) (aCons (eNeg (eC (.int 1))) aNil))) (aCons (eTup (aCons (eC (.str "0")) (aCons (eC (.int 0)) aNil))) (aCons (eLst (aCons (eC (.int 0)) (aCons (eC (.int 0)) aNil))) aNil))))))))) aNil))) (tName 6))
  (sRet (eOp rAdd (eOp rAdd (eSl (eVar 3) oNone (oSome (eVar 4))) (eTup (aCons (eVar 6) aNil))) (eSl (eVar 3) (oSome (eOp rAdd (eVar 4) (eC (.int 1)))) oNone)))) sNil)
  (sSeq (sAsg (eLc (iRng (eOp rAdd (eC (.int 1)) (eCall 2 F_law_roll (aCons (eVar 0) (aCons (eC (.int 2)) aNil))))) (tName 8) bYes e1_law_near [8]) (tName 7))
  (sRet (eCB rTuple (aCons (eSS (eOp rAdd (eCB rList (aCons (eVar 3) aNil)) (eVar 7))) aNil)))))))))
noncomputable def F_law_near : Fn := defF 9 4 g_law_near
theorem w_law_near (fx : Fx mg) (F0 : FnP K "_law_near" (SPH.tp 58) f fd) (hm : mg "_law_near" = some (.ref f)) (c_law_roll : DefOk P w K mg base "_law_roll" 1 2 F_law_roll) (c_law_some : DefOk P w K mg base "_law_some" 2 2 F_law_some) : DefOk P w K mg base "_law_near" 3 4 F_law_near := by
  refine def_ok (N := N_law_near) (ps := ["_law_cup_here", "_law_table_here", "_law_marks", "_law_paper"]) (k := 2) (g := g_law_near) F0 hm sc_law_near (F0.bindsN fun _ _ _ _ _ _ us hl => match us, hl with | [_, _, _, _], _ => rfl) fun cdv A outer s H E hr => ?_
  have hu := hu_room (X := (cxOf CX0 P w K mg base N_law_near "_law_near" (defScope (SPH.tp 58)) f cdv A outer s H E).nox) hr
  exact (pssd_cons (psd_par2 rfl sc_law_near.nd rfl rfl (by decide) rfl rfl (pad_cons (pd_callD (c_law_roll.mono (by decide)) hr rfl (pad_cons (pd_var (pv 0)) (pad_cons (pd_callB cd_len2 rfl fx.b_len (by decide +kernel) (pad_cons (pd_var (pv 3)) pad_nil)) pad_nil))) (pad_cons (pd_callD (c_law_roll.mono (by decide)) hr rfl (pad_cons (pd_var (pv 0)) (pad_cons pd_int pad_nil))) pad_nil)))
    (pssd_cons (psd_if (ptd_cmp (od_eq hu) (pd_var (pv 5)) pd_int) (pssd_one (psd_ret (pd_op od_add (pd_slice (pd_var (pv 3)) pod_none (pod_some (pd_var (pv 4)))) (pd_slice (pd_var (pv 3)) (pod_some (pd_op od_add (pd_var (pv 4)) pd_int)) pod_none)))) pssd_nil)
    (pssd_cons (psd_if (ptd_cmp (od_eq hu) (pd_var (pv 5)) pd_int) (pssd_one (psd_ret (pd_op od_add (pd_var (pv 3)) (pd_slice (pd_var (pv 3)) (pod_some (pd_var (pv 4))) (pod_some (pd_op od_add (pd_var (pv 4)) pd_int)))))) pssd_nil)
    (pssd_cons (psd_if (ptd_cmp (od_eq hu) (pd_var (pv 5)) pd_int) (pssd_one (psd_ret (pd_callD (c_law_some.mono (by decide)) hr rfl (pad_cons (pd_var (pv 0)) (pad_cons (pd_lst (pad_cons (pd_back (pd_var (pv 3))) (pad_cons (pd_callTy cd_list rfl fx.b_list (by decide +kernel) (pad_cons (pd_var (pv 3)) pad_nil)) (pad_cons (pd_op od_add (pd_var (pv 3)) (pd_tup (pad_cons pd_non pad_nil))) (pad_cons (pd_op od_add (pd_op od_add (pd_slice (pd_var (pv 3)) pod_none (pod_some (pd_var (pv 4)))) (pd_tup (pad_cons (pd_op od_add (pd_ix (pd_var (pv 3)) (pd_var (pv 4)) (fun _ _ => rfl)) (pd_tup (pad_cons pd_int pad_nil))) pad_nil))) (pd_slice (pd_var (pv 3)) (pod_some (pd_op od_add (pd_var (pv 4)) pd_int)) pod_none)) pad_nil))))) pad_nil))))) pssd_nil)
    (pssd_cons (psd_if (ptd_cmp (od_eq hu) (pd_var (pv 5)) pd_int) (pssd_cons (psd_set sc_law_near.nd rfl (by first | exact Or.inl rfl | exact Or.inr rfl) (pd_callD (c_law_some.mono (by decide)) hr rfl (pad_cons (pd_var (pv 0)) (pad_cons (pd_lst (pad_cons (pd_tup (pad_cons pd_bl (pad_cons pd_int pad_nil))) (pad_cons (pd_tup (pad_cons pd_int (pad_cons pd_bl pad_nil))) (pad_cons (pd_tup (pad_cons (pd_neg pd_int) (pad_cons pd_int pad_nil))) (pad_cons (pd_tup (pad_cons pd_int (pad_cons pd_int pad_nil))) (pad_cons (pd_tup (pad_cons pd_int (pad_cons (pd_op od_add (pd_callB cd_len2 rfl fx.b_len (by decide +kernel) (pad_cons (pd_var (pv 2)) pad_nil)) pd_int) pad_nil))) (pad_cons (pd_tup (pad_cons pd_int (pad_cons (pd_neg pd_int) pad_nil))) (pad_cons (pd_tup (pad_cons pd_str (pad_cons pd_int pad_nil))) (pad_cons (pd_lst (pad_cons pd_int (pad_cons pd_int pad_nil))) pad_nil))))))))) pad_nil))))
    (pssd_one (psd_ret (pd_op od_add (pd_op od_add (pd_slice (pd_var (pv 3)) pod_none (pod_some (pd_var (pv 4)))) (pd_tup (pad_cons (pd_var (pv 6)) pad_nil))) (pd_slice (pd_var (pv 3)) (pod_some (pd_op od_add (pd_var (pv 4)) pd_int)) pod_none))))) pssd_nil)
    (pssd_cons (psd_setLc (own := [("_law_turn", 8)]) rfl sc_law_near.nd rfl rfl rfl (pid_range rfl fx.b_range (pd_op od_add pd_int (pd_callD (c_law_roll.mono (by decide)) hr rfl (pad_cons (pd_var (pv 0)) (pad_cons pd_int pad_nil))))) (blkOk_by (N := N_law_near) (sc := defScope (SPH.tp 58)) (by decide +kernel)) (by decide) (fun _ _ _ _ _ => (pgd_name (pg_name (i := 8) sc_law_near.nd rfl (by first | exact Or.inl rfl | exact Or.inr rfl)))) (fun _ _ _ _ _ => ptsd_nil) (fun _ _ _ _ _ => (pd_tup (pad_cons (pd_callD (c_law_some.mono (by decide)) hr rfl (pad_cons (pd_var (pv 0)) (pad_cons (pd_lst (pad_cons (pd_neg pd_int) (pad_cons pd_int (pad_cons pd_int (pad_cons pd_int pad_nil))))) pad_nil))) (pad_cons (pd_callD (c_law_roll.mono (by decide)) hr rfl (pad_cons (pd_var (pv 0)) (pad_cons (pd_op od_add (pd_callB cd_len2 rfl fx.b_len (by decide +kernel) (pad_cons (pd_var (pv 2)) pad_nil)) pd_int) pad_nil))) pad_nil)))))
    (pssd_one (psd_ret (pd_callTy cd_tuple rfl fx.b_tuple (by decide +kernel) (pad_cons (pd_sortedSet hu rfl rfl fx.b_sorted rfl fx.b_set (pd_op od_add (pd_callTy cd_list rfl fx.b_list (by decide +kernel) (pad_cons (pd_var (pv 3)) pad_nil)) (pd_var (pv 7)))) pad_nil))))))))))

/-! ### law_right -/
abbrev N_law_right : List Str := ["_law_cup_here", "_law_routine", "_law_marks", "_law_table_here", "_law_paper", "_law_told_here", "_law_turn", "_law_value", "_law_known"]
theorem sc_law_right : FnScope N_law_right ["_law_cup_here", "_law_routine", "_law_marks"] (defScope (SPH.tp 59)) := ⟨rfl, rfl, rfl, by decide +kernel, rfl, by decide +kernel, by decide +kernel⟩
noncomputable def b1_law_right : ES :=
  (sSeq (sAsg (eCall 4 F_law_near (aCons (eVar 0) (aCons (eVar 3) (aCons (eVar 2) (aCons (eVar 4) aNil))))) (tName 7))
  (sSeq (sAsg (eCall 3 F_is_none_paper (aCons (eVar 1) (aCons (eVar 2) (aCons (eVar 7) aNil)))) (tName 8))
  (sIf (bOr (bNot (eB (eIsi qBool (eVar 8)))) (eB (eOp rNe (eVar 8) (eCall 3 F_law_is_paper (aCons (eVar 3) (aCons (eVar 2) (aCons (eVar 7) aNil))))))) (sRet (eC (.bl false))) sNil)))
noncomputable def g_law_right : ES :=
  (sSeq (sPar3 3 4 5 (aCons (eCall 1 F_law_table (aCons (eVar 1) aNil)) (aCons (eCall 2 F_none_paper (aCons (eVar 1) (aCons (eVar 2) aNil))) (aCons (eCall 2 F_handing_stack (aCons (eVar 1) (aCons (eVar 2) aNil))) aNil))))
  (sSeq (sIf (eB (eOp rNotN (eVar 5) (eC .non))) (sRet (eAnd (eOp rIsN (eVar 4) (eC .non)) (eAnd (eOp rIsB (eCall 3 F_is_none_paper (aCons (eVar 1) (aCons (eVar 2) (aCons (eTup (aCons (eTup (aCons (eC (.int 0)) (aCons (eC (.int 0)) aNil))) aNil)) aNil)))) (eC (.bl false))) (eOp rEq (eOp rIx (eCall 2 F_law_told (aCons (eVar 3) (aCons (eVar 5) aNil))) (eC (.int 1))) (eVar 2))))) sNil)
  (sSeq (sIf (bOr (bNot (eB (eCall 3 F_law_is_paper (aCons (eVar 3) (aCons (eVar 2) (aCons (eVar 4) aNil)))))) (eB (eOp rNotB (eCall 3 F_is_none_paper (aCons (eVar 1) (aCons (eVar 2) (aCons (eVar 4) aNil)))) (eC (.bl true))))) (sRet (eC (.bl false))) sNil)
  (sSeq (sFor (iRng (eC (.int 3))) (tName 6) b1_law_right)
  (sRet (eC (.bl true)))))))
noncomputable def F_law_right : Fn := defF 9 3 g_law_right
theorem w_law_right (fx : Fx mg) (F0 : FnP K "_law_right" (SPH.tp 59) f fd) (hm : mg "_law_right" = some (.ref f)) (c_handing_stack : DefOk P w K mg base "handing_stack" 6 2 F_handing_stack) (c_is_none_paper : DefOk P w K mg base "is_none_paper" 6 3 F_is_none_paper) (c_none_paper : DefOk P w K mg base "none_paper" 6 2 F_none_paper) (c_law_table : DefOk P w K mg base "_law_table" 2 1 F_law_table) (c_law_told : DefOk P w K mg base "_law_told" 1 2 F_law_told) (c_law_is_paper : DefOk P w K mg base "_law_is_paper" 2 3 F_law_is_paper) (c_law_near : DefOk P w K mg base "_law_near" 3 4 F_law_near) : DefOk P w K mg base "_law_right" 7 3 F_law_right := by
  refine def_ok (N := N_law_right) (ps := ["_law_cup_here", "_law_routine", "_law_marks"]) (k := 6) (g := g_law_right) F0 hm sc_law_right (F0.bindsN fun _ _ _ _ _ _ us hl => match us, hl with | [_, _, _], _ => rfl) fun cdv A outer s H E hr => ?_
  have hu := hu_room (X := (cxOf CX0 P w K mg base N_law_right "_law_right" (defScope (SPH.tp 59)) f cdv A outer s H E).nox) hr
  exact (pssd_cons (psd_par3 rfl sc_law_right.nd rfl rfl rfl (by decide) (by decide) (by decide) rfl rfl rfl (pad_cons (pd_callD (c_law_table.mono (by decide)) hr rfl (pad_cons (pd_var (pv 1)) pad_nil)) (pad_cons (pd_callD (c_none_paper.mono (by decide)) hr rfl (pad_cons (pd_var (pv 1)) (pad_cons (pd_var (pv 2)) pad_nil))) (pad_cons (pd_callD (c_handing_stack.mono (by decide)) hr rfl (pad_cons (pd_var (pv 1)) (pad_cons (pd_var (pv 2)) pad_nil))) pad_nil))))
    (pssd_cons (psd_if (ptd_cmp od_notN (pd_var (pv 5)) pd_non) (pssd_one (psd_ret (pd_and (pd_cmp od_isN (pd_var (pv 4)) pd_non) (pd_and (pd_cmp od_isB (pd_callD (c_is_none_paper.mono (by decide)) hr rfl (pad_cons (pd_var (pv 1)) (pad_cons (pd_var (pv 2)) (pad_cons (pd_tup (pad_cons (pd_tup (pad_cons pd_int (pad_cons pd_int pad_nil))) pad_nil)) pad_nil)))) pd_bl) (pd_one (pd_cmp (od_eq hu) (pd_ix (pd_callD (c_law_told.mono (by decide)) hr rfl (pad_cons (pd_var (pv 3)) (pad_cons (pd_var (pv 5)) pad_nil))) pd_int (fun _ _ => rfl)) (pd_var (pv 2)))))))) pssd_nil)
    (pssd_cons (psd_if (ptd_w (pwd_or (ptd_not (ptd_val (pd_callD (c_law_is_paper.mono (by decide)) hr rfl (pad_cons (pd_var (pv 3)) (pad_cons (pd_var (pv 2)) (pad_cons (pd_var (pv 4)) pad_nil)))))) (pwd_or1 (ptd_cmp od_notB (pd_callD (c_is_none_paper.mono (by decide)) hr rfl (pad_cons (pd_var (pv 1)) (pad_cons (pd_var (pv 2)) (pad_cons (pd_var (pv 4)) pad_nil)))) pd_bl)))) (pssd_one (psd_ret pd_bl)) pssd_nil)
    (pssd_cons (psd_for PassesOwn.never rfl (pid_range rfl fx.b_range pd_int) (pgd_name (pg_name (i := 6) sc_law_right.nd rfl (by first | exact Or.inl rfl | exact Or.inr rfl))) (pssd_cons (psd_set sc_law_right.nd rfl (by first | exact Or.inl rfl | exact Or.inr rfl) (pd_callD (c_law_near.mono (by decide)) hr rfl (pad_cons (pd_var (pv 0)) (pad_cons (pd_var (pv 3)) (pad_cons (pd_var (pv 2)) (pad_cons (pd_var (pv 4)) pad_nil))))))
    (pssd_cons (psd_set sc_law_right.nd rfl (by first | exact Or.inl rfl | exact Or.inr rfl) (pd_callD (c_is_none_paper.mono (by decide)) hr rfl (pad_cons (pd_var (pv 1)) (pad_cons (pd_var (pv 2)) (pad_cons (pd_var (pv 7)) pad_nil)))))
    (pssd_one (psd_if (ptd_w (pwd_or (ptd_not (ptd_val (pd_isiB rfl fx.b_isinstance rfl fx.b_bool (pd_var (pv 8))))) (pwd_or1 (ptd_cmp (od_ne hu) (pd_var (pv 8)) (pd_callD (c_law_is_paper.mono (by decide)) hr rfl (pad_cons (pd_var (pv 3)) (pad_cons (pd_var (pv 2)) (pad_cons (pd_var (pv 7)) pad_nil)))))))) (pssd_one (psd_ret pd_bl)) pssd_nil)))))
    (pssd_one (psd_ret pd_bl))))))
end
end Pg
set_option Elab.async false
set_option linter.all false
set_option maxRecDepth 100000
set_option maxHeartbeats 4000000
namespace Pg
open PySem PySem.Spec PyProof.Rows L2
/-! the cup; the law -/
section
variable {X : Cx}
theorem pd_pow {j j2 : Nat} {p p2 pos : Pos} : PD X (.BinOp (.Constant (.int 10) j p) .Pow (.Constant (.int 18) j2 p2) pos) (eC (.int (10 ^ (18 : Int).toNat))) :=
  ⟨_, pe_op op_pow pe_int pe_int, fun cs σ H ρ s d s' Q hρ hs hf k => by
    cases hf
    exact ⟨10, 18, rfl, rfl, ⟨by decide, by decide, by decide⟩, k _ H .refl hs (.int _)⟩⟩
end
/-- the number that the script gives -/
def seed (ns : List Int) : Int := if ns.headD 0 < 0 then -(ns.headD 0) else ns.headD 0
def cup0 (c : Int) : Int := if 10 ^ 18 ≤ c then c / 11 else 0
def cup1 (c : Int) : Int := (c * 193 + 1201) % 2077504273 + 89
section
variable {P : Program} {w : World} {K : PySem.W.Frag} {mg : Str → Option Value} {base : Heap} {f : Addr} {fd : FuncData}
/-! ### law_cup -/
abbrev N_law_cup : List Str := ["_law_script", "_law_cell"]
theorem sc_law_cup : FnScope N_law_cup ["_law_script"] (defScope (SPH.tp 40)) := ⟨rfl, rfl, rfl, by decide +kernel, rfl, by decide +kernel, by decide +kernel⟩
noncomputable def g_law_cup : ES :=
  (sRet (eLst (aCons (eIf (eB (eOp rGe (eVar 1) (eC (.int (10 ^ (18 : Int).toNat))))) (eOp rDiv (eVar 1) (eC (.int 11))) (eC (.int 0))) (aCons (eOp rAdd (eOp rMod (eCB rInt (aCons (eOp rAdd (eOp rMul (eVar 1) (eC (.int 193))) (eC (.int 1201))) aNil)) (eC (.int 2077504273))) (eC (.int 89))) aNil))))
theorem cup_val (c : Int) : g_law_cup [none, some (.int c)] .non = some (.rt (.lst [.int (cup0 c), .int (cup1 c)]), .non) := by
  have h1 : (10 ^ (18 : Int).toNat : Int) = 10 ^ 18 := rfl
  unfold g_law_cup cup0 cup1
  simp only [sRet, eLst, aCons, aNil, eIf, eB, eOp, eVar, eC, eCB, bnd, ret, h1, List.getElem?_cons_succ, List.getElem?_cons_zero]
  by_cases h : (10 ^ 18 : Int) ≤ c
  · have h2 : (1000000000000000000 : Int) ≤ c := h
    simp [rGe, rDiv, rMul, rAdd, rMod, rInt, h2, lim]
  · have h2 : ¬ (1000000000000000000 : Int) ≤ c := h
    simp [rGe, rDiv, rMul, rAdd, rMod, rInt, h2, lim]
def spCup (K : PySem.W.Frag) : Sp := fun vs H Q _ => ∃ (a : Addr) (ns : List Int), vs = [.ref a] ∧ SqL K H a (ns.map V.int) ∧ ns.length ≤ 1000 ∧ ∀ (L : Addr) (H' : Hp), H' L = some (.lst [.int (cup0 (seed ns)), .int (cup1 (seed ns))]) → Q (.ref L) H'
theorem w_law_cup (fx : Fx mg) (F0 : FnP K "_law_cup" (SPH.tp 40) f fd) : FnOk P w K mg base CX0 1 f fd ["_law_script"] (spCup K) := by
  refine F0.ok sc_law_cup (fun vs H Q E h => ?_) fun cdv A outer s H vs Q E hr h => ?_
  · obtain ⟨a, ns, rfl, _⟩ := h
    rfl
  have hu := hu_room (X := (cxOf CX0 P w K mg base N_law_cup "_law_cup" (defScope (SPH.tp 40)) f cdv A outer s H E).nox) hr
  have rest : PSsD (cxOf CX0 P w K mg base N_law_cup "_law_cup" (defScope (SPH.tp 40)) f cdv A outer s H E).nox (defBody (SPH.tp 40)).tail g_law_cup :=
    (pssd_one (psd_ret (pd_lst (pad_cons (pd_if (ptd_cmp od_ge (pd_var (pv 1)) pd_pow) (pd_op od_div (pd_var (pv 1)) pd_int) pd_int) (pad_cons (pd_op od_add (pd_op od_mod (pd_callTy cd_int rfl fx.b_int (by decide +kernel) (pad_cons (pd_op od_add (pd_op od_mul (pd_var (pv 1)) pd_int) pd_int) pad_nil)) pd_int) pd_int) pad_nil)))))
  obtain ⟨t, ht, gt⟩ := rest
  refine ⟨_, PSs.nox (pss_cons (ps_set (i := 1) sc_law_cup.nd rfl (by first | exact Or.inl rfl | exact Or.inr rfl) (pe_callB call_abs rfl fx.b_abs (by decide +kernel) (pa_cons (pe_ix ix_seq (pe_op op_cat (pe_callTy call_list_of rfl fx.b_list (by decide +kernel) (pa_cons (pv 0) pa_nil)) (pe_lst (pa_cons pe_int pa_nil))) pe_int (fun _ _ => rfl)) pa_nil))) ht), ?_⟩
  obtain ⟨a, ns, rfl, hS, hl, hQ⟩ := h
  refine ⟨.ref a, rfl, a, ns.map V.int, rfl, .inl hS, fun L hL => ⟨show 1 ≤ sizeLine by decide, fun M hM => ?_⟩⟩
  have nM : L ≠ M := ne_of_none upd_same hM
  refine ⟨L, M, ns.map V.int, [.int 0], rfl, rfl, by rw [upd_ne nM]; exact upd_same, upd_same, by rw [List.length_map, sizeLine_eq, List.length_singleton]; omega, fun R hR => ?_⟩
  have first : (ns.map V.int ++ [V.int 0])[0]? = some (.int (ns.headD 0)) := by cases ns <;> rfl
  refine .inl ⟨R, ns.map V.int ++ [.int 0], 0, .int (ns.headD 0), rfl, rfl, SqL.of upd_same, ?_, ns.headD 0, rfl, ?_⟩
  · have hp : (0 : Int) < ((ns.map V.int ++ [V.int 0]).length : Int) := by simp
    unfold L2.atI L2.ixN
    rw [if_pos (Int.le_refl 0), if_pos hp]
    exact first
  · refine gt ⟨none, []⟩ _ _ [none, some (.int (seed ns))] .non (.rt (.lst [.int (cup0 (seed ns)), .int (cup1 (seed ns))])) .non _ ?_ ⟨(fun _ z => nomatch z), fun _ z => nomatch z⟩ (cup_val _) ?_
    · refine ⟨Nat.le_refl _, fun i d' e => ?_⟩
      rcases i with _ | _ | i
      · cases e
      · cases e
        exact ⟨_, rfl, .int _⟩
      · simp at e
    · intro v H' x kk rr
      cases rr with
      | @lst L xs _ n hx r =>
        have e := Reps.ints (ns := [cup0 (seed ns), cup1 (seed ns)]) r
        subst e
        exact hQ _ _ hx
/-! ### law -/
abbrev N_law : List Str := ["_law_script", "_law_cup_here", "_law_turn", "_law_routine", "_law_marks", "_law_other", "_law_one", "_law_r_here", "_law_v_here", "_law_line"]
theorem sc_law : FnScope N_law ["_law_script"] (defScope (SPH.tp 60)) := ⟨rfl, rfl, rfl, by decide +kernel, rfl, by decide +kernel, by decide +kernel⟩
noncomputable def e1_law : E :=
  (eCall 2 F_law_roll (aCons (eVar 1) (aCons (eC (.int 3)) aNil)))
noncomputable def b2_law : ES :=
  (sIf (bNot (eB (eCall 3 F_law_right (aCons (eVar 1) (aCons (eVar 3) (aCons (eVar 6) aNil)))))) (sRet (eC (.bl false))) sNil)
noncomputable def b3_law : ES :=
  (sSeq (sAsg (eCall 1 F_law_resting (aCons (eVar 1) aNil)) (tName 3))
  (sSeq (sAsg (eSl (eOp rIx (eCall 2 F_law_told (aCons (eCall 1 F_law_table (aCons (eVar 3) aNil)) (aCons (eCB rTuple (aCons (eLc (iRng (eCall 2 F_law_roll (aCons (eVar 1) (aCons (eC (.int 4)) aNil)))) (tName 9) bYes e1_law [9]) aNil)) aNil))) (eC (.int 1))) oNone (oSome (eC (.int 8)))) (tName 4))
  (sSeq (sAsg (eCall 2 F_law_roll (aCons (eVar 1) (aCons (eC (.int 3)) aNil))) (tName 5))
  (sFor (iSeq (eTup (aCons (eSl (eVar 4) oNone (oSome (eNeg (eC (.int 1))))) (aCons (eOp rAdd (eVar 4) (eTup (aCons (eVar 5) aNil))) (aCons (eOp rAdd (eOp rAdd (eSl (eVar 4) oNone (oSome (eC (.int 2)))) (eTup (aCons (eVar 5) aNil))) (eSl (eVar 4) (oSome (eC (.int 2))) oNone)) aNil))))) (tName 6) b2_law))))
noncomputable def g_law : ES :=
  (sSeq (sFor (iRng (eC (.int 4))) (tName 2) b3_law)
  (sSeq (sPar2 7 8 (aCons (eCall 0 F_law_r aNil) (aCons (eCall 0 F_law_v aNil) aNil)))
  (sSeq (sIf (bOr (eB (eOp rNotB (eCall 3 F_is_none_paper (aCons (eVar 7) (aCons (eTup (aCons (eC (.int 1)) aNil)) (aCons (eTup (aCons (eTup (aCons (eC (.int 0)) (aCons (eC (.int 0)) aNil))) (aCons (eTup (aCons (eC (.int 0)) (aCons (eC (.int 1)) aNil))) aNil))) aNil)))) (eC (.bl true)))) (bOr (eB (eOp rNotB (eCall 3 F_is_none_paper (aCons (eVar 7) (aCons (eTup (aCons (eC (.int 1)) aNil)) (aCons (eTup (aCons (eTup (aCons (eC (.int 0)) (aCons (eC (.int 0)) aNil))) aNil)) aNil)))) (eC (.bl false)))) (eB (eOp rNotN (eCall 2 F_none_paper (aCons (eVar 7) (aCons (eTup (aCons (eC (.int 2)) aNil)) aNil))) (eC .non))))) (sRet (eC (.bl false))) sNil)
  (sSeq (sIf (bOr (eB (eOp rNotB (eCall 3 F_is_none_paper (aCons (eVar 7) (aCons (eTup (aCons (eC (.int 0)) (aCons (eC (.int 0)) aNil))) (aCons (eTup (aCons (eTup (aCons (eC (.int 0)) (aCons (eC (.int 0)) aNil))) (aCons (eTup (aCons (eC (.int 0)) (aCons (eC (.int 1)) aNil))) (aCons (eTup (aCons (eC (.int 0)) (aCons (eC (.int 2)) aNil))) aNil)))) aNil)))) (eC (.bl true)))) (eB (eOp rNotB (eCall 3 F_is_none_paper (aCons (eVar 7) (aCons (eTup (aCons (eC (.int 0)) (aCons (eC (.int 0)) aNil))) (aCons (eTup (aCons (eTup (aCons (eC (.int 0)) (aCons (eC (.int 0)) aNil))) (aCons (eTup (aCons (eC (.int 0)) (aCons (eC (.int 2)) aNil))) aNil))) aNil)))) (eC (.bl false))))) (sRet (eC (.bl false))) sNil)
  (sSeq (sIf (bOr (eB (eOp rNotB (eCall 3 F_is_none_paper (aCons (eVar 8) (aCons (eTup (aCons (eC (.int 0)) aNil)) (aCons (eTup (aCons (eTup (aCons (eNeg (eC (.int 1))) (aCons (eC (.int 0)) aNil))) (aCons (eTup (aCons (eC (.int 0)) (aCons (eC (.int 0)) aNil))) aNil))) aNil)))) (eC (.bl true)))) (eB (eOp rNotB (eCall 3 F_is_none_paper (aCons (eVar 8) (aCons (eTup (aCons (eC (.int 0)) aNil)) (aCons (eTup (aCons (eTup (aCons (eC (.int 0)) (aCons (eC (.int 0)) aNil))) aNil)) aNil)))) (eC (.bl false))))) (sRet (eC (.bl false))) sNil)
  (sSeq (sIf (bOr (eB (eOp rNotB (eCall 3 F_is_none_paper (aCons (eVar 8) (aCons (eTup (aCons (eC (.int 0)) aNil)) (aCons (eTup (aCons (eTup (aCons (eNeg (eC (.int 1))) (aCons (eC (.int 0)) aNil))) (aCons (eTup (aCons (eNeg (eC (.int 1))) (aCons (eC (.int 1)) aNil))) (aCons (eTup (aCons (eC (.int 0)) (aCons (eC (.int 0)) aNil))) aNil)))) aNil)))) (eC (.bl false)))) (eB (eOp rNotB (eCall 3 F_is_none_paper (aCons (eVar 8) (aCons (eTup (aCons (eC (.int 0)) aNil)) (aCons (eTup (aCons (eTup (aCons (eNeg (eC (.int 1))) (aCons (eC (.int 0)) aNil))) (aCons (eTup (aCons (eC (.int 0)) (aCons (eC (.int 0)) aNil))) (aCons (eTup (aCons (eC (.int 1)) (aCons (eC (.int 0)) aNil))) aNil)))) aNil)))) (eC (.bl false))))) (sRet (eC (.bl false))) sNil)
  (sRet (eOp rIsB (eCall 3 F_is_none_paper (aCons (eVar 8) (aCons (eTup (aCons (eC (.int 0)) (aCons (eC (.int 0)) aNil))) (aCons (eTup (aCons (eTup (aCons (eNeg (eC (.int 1))) (aCons (eC (.int 0)) aNil))) (aCons (eTup (aCons (eC (.int 0)) (aCons (eC (.int 0)) aNil))) (aCons (eTup (aCons (eC (.int 0)) (aCons (eC (.int 2)) aNil))) aNil)))) aNil)))) (eC (.bl false))))))))))
def spLaw (K : PySem.W.Frag) : Sp := fun vs H Q _ => ∃ (a : Addr) (ns : List Int), vs = [.ref a] ∧ SqL K H a (ns.map V.int) ∧ ns.length ≤ 1000 ∧ ∀ H', Q (.bl true) H'
theorem w_law (fx : Fx mg) (F0 : FnP K "law" (SPH.tp 60) f fd) {fC : Addr} {fdC : FuncData} (FC : FnP K "_law_cup" (SPH.tp 40) fC fdC) (hC : mg "_law_cup" = some (.ref fC)) (c_is_none_paper : DefOk P w K mg base "is_none_paper" 6 3 F_is_none_paper) (c_none_paper : DefOk P w K mg base "none_paper" 6 2 F_none_paper) (c_law_roll : DefOk P w K mg base "_law_roll" 1 2 F_law_roll) (c_law_table : DefOk P w K mg base "_law_table" 2 1 F_law_table) (c_law_told : DefOk P w K mg base "_law_told" 1 2 F_law_told) (c_law_resting : DefOk P w K mg base "_law_resting" 4 1 F_law_resting) (c_law_r : DefOk P w K mg base "_law_r" 1 0 F_law_r) (c_law_v : DefOk P w K mg base "_law_v" 1 0 F_law_v) (c_law_right : DefOk P w K mg base "_law_right" 7 3 F_law_right)
    (good : ∀ ns : List Int, ∃ s', g_law [none, some .cell, none, none, none, none, none, none, none, none] (.lst [.int (cup0 (seed ns)), .int (cup1 (seed ns))]) = some (.rt (.bl true), s')) : FnOk P w K mg base CX0 8 f fd ["_law_script"] (spLaw K) := by
  refine F0.ok sc_law (fun vs H Q E h => ?_) fun cdv A outer s H vs Q E hr h => ?_
  · obtain ⟨a, ns, rfl, _⟩ := h
    rfl
  have hu := hu_room (X := (cxOf CX0 P w K mg base N_law "law" (defScope (SPH.tp 60)) f cdv A outer s H E).nox) hr
  have rest : PSsD (cxOf CX0 P w K mg base N_law "law" (defScope (SPH.tp 60)) f cdv A outer s H E).nox (defBody (SPH.tp 60)).tail g_law :=
    (pssd_cons (psd_for PassesOwn.never rfl (pid_range rfl fx.b_range pd_int) (pgd_name (pg_name (i := 2) sc_law.nd rfl (by first | exact Or.inl rfl | exact Or.inr rfl))) (pssd_cons (psd_set sc_law.nd rfl (by first | exact Or.inl rfl | exact Or.inr rfl) (pd_callD (c_law_resting.mono (by decide)) hr rfl (pad_cons (pd_var (pv 1)) pad_nil)))
    (pssd_cons (psd_set sc_law.nd rfl (by first | exact Or.inl rfl | exact Or.inr rfl) (pd_slice (pd_ix (pd_callD (c_law_told.mono (by decide)) hr rfl (pad_cons (pd_callD (c_law_table.mono (by decide)) hr rfl (pad_cons (pd_var (pv 3)) pad_nil)) (pad_cons (pd_callTy cd_tuple rfl fx.b_tuple (by decide +kernel) (pad_cons (pd_lc (own := [("_law_line", 9)]) rfl sc_law.nd (pid_range rfl fx.b_range (pd_callD (c_law_roll.mono (by decide)) hr rfl (pad_cons (pd_var (pv 1)) (pad_cons pd_int pad_nil)))) (blkOk_by (N := N_law) (sc := defScope (SPH.tp 60)) (by decide +kernel)) (by decide) (fun _ _ _ _ _ => (pgd_name (pg_name (i := 9) sc_law.nd rfl (by first | exact Or.inl rfl | exact Or.inr rfl)))) (fun _ _ _ _ _ => ptsd_nil) (fun _ _ _ _ _ => (pd_callD (c_law_roll.mono (by decide)) hr rfl (pad_cons (pd_var (pv 1)) (pad_cons pd_int pad_nil))))) pad_nil)) pad_nil))) pd_int (fun _ _ => rfl)) pod_none (pod_some pd_int)))
    (pssd_cons (psd_set sc_law.nd rfl (by first | exact Or.inl rfl | exact Or.inr rfl) (pd_callD (c_law_roll.mono (by decide)) hr rfl (pad_cons (pd_var (pv 1)) (pad_cons pd_int pad_nil))))
    (pssd_one (psd_for PassesOwn.never rfl (pid_seq (pd_tup (pad_cons (pd_slice (pd_var (pv 4)) pod_none (pod_some (pd_neg pd_int))) (pad_cons (pd_op od_add (pd_var (pv 4)) (pd_tup (pad_cons (pd_var (pv 5)) pad_nil))) (pad_cons (pd_op od_add (pd_op od_add (pd_slice (pd_var (pv 4)) pod_none (pod_some pd_int)) (pd_tup (pad_cons (pd_var (pv 5)) pad_nil))) (pd_slice (pd_var (pv 4)) (pod_some pd_int) pod_none)) pad_nil))))) (pgd_name (pg_name (i := 6) sc_law.nd rfl (by first | exact Or.inl rfl | exact Or.inr rfl))) (pssd_one (psd_if (ptd_not (ptd_val (pd_callD (c_law_right.mono (by decide)) hr rfl (pad_cons (pd_var (pv 1)) (pad_cons (pd_var (pv 3)) (pad_cons (pd_var (pv 6)) pad_nil)))))) (pssd_one (psd_ret pd_bl)) pssd_nil))))))))
    (pssd_cons (psd_par2 rfl sc_law.nd rfl rfl (by decide) rfl rfl (pad_cons (pd_callD0 (c_law_r.mono (by decide)) hr rfl) (pad_cons (pd_callD0 (c_law_v.mono (by decide)) hr rfl) pad_nil)))
    (pssd_cons (psd_if (ptd_w (pwd_or (ptd_cmp od_notB (pd_callD (c_is_none_paper.mono (by decide)) hr rfl (pad_cons (pd_var (pv 7)) (pad_cons (pd_tup (pad_cons pd_int pad_nil)) (pad_cons (pd_tup (pad_cons (pd_tup (pad_cons pd_int (pad_cons pd_int pad_nil))) (pad_cons (pd_tup (pad_cons pd_int (pad_cons pd_int pad_nil))) pad_nil))) pad_nil)))) pd_bl) (pwd_or (ptd_cmp od_notB (pd_callD (c_is_none_paper.mono (by decide)) hr rfl (pad_cons (pd_var (pv 7)) (pad_cons (pd_tup (pad_cons pd_int pad_nil)) (pad_cons (pd_tup (pad_cons (pd_tup (pad_cons pd_int (pad_cons pd_int pad_nil))) pad_nil)) pad_nil)))) pd_bl) (pwd_or1 (ptd_cmp od_notN (pd_callD (c_none_paper.mono (by decide)) hr rfl (pad_cons (pd_var (pv 7)) (pad_cons (pd_tup (pad_cons pd_int pad_nil)) pad_nil))) pd_non))))) (pssd_one (psd_ret pd_bl)) pssd_nil)
    (pssd_cons (psd_if (ptd_w (pwd_or (ptd_cmp od_notB (pd_callD (c_is_none_paper.mono (by decide)) hr rfl (pad_cons (pd_var (pv 7)) (pad_cons (pd_tup (pad_cons pd_int (pad_cons pd_int pad_nil))) (pad_cons (pd_tup (pad_cons (pd_tup (pad_cons pd_int (pad_cons pd_int pad_nil))) (pad_cons (pd_tup (pad_cons pd_int (pad_cons pd_int pad_nil))) (pad_cons (pd_tup (pad_cons pd_int (pad_cons pd_int pad_nil))) pad_nil)))) pad_nil)))) pd_bl) (pwd_or1 (ptd_cmp od_notB (pd_callD (c_is_none_paper.mono (by decide)) hr rfl (pad_cons (pd_var (pv 7)) (pad_cons (pd_tup (pad_cons pd_int (pad_cons pd_int pad_nil))) (pad_cons (pd_tup (pad_cons (pd_tup (pad_cons pd_int (pad_cons pd_int pad_nil))) (pad_cons (pd_tup (pad_cons pd_int (pad_cons pd_int pad_nil))) pad_nil))) pad_nil)))) pd_bl)))) (pssd_one (psd_ret pd_bl)) pssd_nil)
    (pssd_cons (psd_if (ptd_w (pwd_or (ptd_cmp od_notB (pd_callD (c_is_none_paper.mono (by decide)) hr rfl (pad_cons (pd_var (pv 8)) (pad_cons (pd_tup (pad_cons pd_int pad_nil)) (pad_cons (pd_tup (pad_cons (pd_tup (pad_cons (pd_neg pd_int) (pad_cons pd_int pad_nil))) (pad_cons (pd_tup (pad_cons pd_int (pad_cons pd_int pad_nil))) pad_nil))) pad_nil)))) pd_bl) (pwd_or1 (ptd_cmp od_notB (pd_callD (c_is_none_paper.mono (by decide)) hr rfl (pad_cons (pd_var (pv 8)) (pad_cons (pd_tup (pad_cons pd_int pad_nil)) (pad_cons (pd_tup (pad_cons (pd_tup (pad_cons pd_int (pad_cons pd_int pad_nil))) pad_nil)) pad_nil)))) pd_bl)))) (pssd_one (psd_ret pd_bl)) pssd_nil)
    (pssd_cons (psd_if (ptd_w (pwd_or (ptd_cmp od_notB (pd_callD (c_is_none_paper.mono (by decide)) hr rfl (pad_cons (pd_var (pv 8)) (pad_cons (pd_tup (pad_cons pd_int pad_nil)) (pad_cons (pd_tup (pad_cons (pd_tup (pad_cons (pd_neg pd_int) (pad_cons pd_int pad_nil))) (pad_cons (pd_tup (pad_cons (pd_neg pd_int) (pad_cons pd_int pad_nil))) (pad_cons (pd_tup (pad_cons pd_int (pad_cons pd_int pad_nil))) pad_nil)))) pad_nil)))) pd_bl) (pwd_or1 (ptd_cmp od_notB (pd_callD (c_is_none_paper.mono (by decide)) hr rfl (pad_cons (pd_var (pv 8)) (pad_cons (pd_tup (pad_cons pd_int pad_nil)) (pad_cons (pd_tup (pad_cons (pd_tup (pad_cons (pd_neg pd_int) (pad_cons pd_int pad_nil))) (pad_cons (pd_tup (pad_cons pd_int (pad_cons pd_int pad_nil))) (pad_cons (pd_tup (pad_cons pd_int (pad_cons pd_int pad_nil))) pad_nil)))) pad_nil)))) pd_bl)))) (pssd_one (psd_ret pd_bl)) pssd_nil)
    (pssd_one (psd_ret (pd_cmp od_isB (pd_callD (c_is_none_paper.mono (by decide)) hr rfl (pad_cons (pd_var (pv 8)) (pad_cons (pd_tup (pad_cons pd_int (pad_cons pd_int pad_nil))) (pad_cons (pd_tup (pad_cons (pd_tup (pad_cons (pd_neg pd_int) (pad_cons pd_int pad_nil))) (pad_cons (pd_tup (pad_cons pd_int (pad_cons pd_int pad_nil))) (pad_cons (pd_tup (pad_cons pd_int (pad_cons pd_int pad_nil))) pad_nil)))) pad_nil)))) pd_bl)))))))))
  obtain ⟨t, ht, gt⟩ := rest
  have bC : Binds K fdC ["_law_script"] [] := FC.bindsN fun _ _ _ _ _ _ us hl => match us, hl with | [_], _ => rfl
  refine ⟨_, PSs.nox (pss_cons (ps_set (i := 1) sc_law.nd rfl (by first | exact Or.inl rfl | exact Or.inr rfl) (pe_call ((w_law_cup fx FC).mono (by decide)) hr rfl hC FC.kp bC .nil pass0 (pa_cons (pv 0) pa_nil))) ht), ?_⟩
  obtain ⟨a, ns, rfl, hS, hl, hQ⟩ := h
  obtain ⟨s', hg⟩ := good ns
  refine ⟨.ref a, rfl, a, ns, rfl, hS, hl, fun L H' hL => ?_⟩
  refine gt ⟨some L, []⟩ _ H' [none, some .cell, none, none, none, none, none, none, none, none] (.lst [.int (cup0 (seed ns)), .int (cup1 (seed ns))]) (.rt (.bl true)) s' _ ?_ ⟨(fun _ z => nomatch z), fun b e => by cases e; exact ⟨_, hL, .cons (.int _) (.cons (.int _) .nil)⟩⟩ hg ?_
  · refine ⟨Nat.le_refl _, fun i d' e => ?_⟩
    rcases i with _ | _ | i
    · cases e
    · cases e
      exact ⟨.ref L, rfl, .cell rfl⟩
    · have z : some d' ∈ ([none, none, none, none, none, none, none, none] : List (Option D)) := List.mem_of_getElem? (i := i) (by simpa using e)
      simp at z
  · intro v H2 x kk rr
    cases rr
    exact hQ H2
end
end Pg
set_option Elab.async false
set_option linter.all false
set_option maxRecDepth 100000
set_option maxHeartbeats 4000000
/-! The pure part, a: small defs. -/
namespace Pg
open PySem PySem.Spec PyProof.Rows L2
/-- data that isinstance may be asked of -/
def basic (d : D) : Bool := (qInt d).isSome
def wholeB (v : D) (lo hi : Int) : Bool := match v with
  | .int i => decide (lo ≤ i) && decide (i ≤ hi)
  | _ => false
theorem is_whole_eq {v : D} (lo hi : Int) (s : D) (h : basic v = true) : F_is_whole [v, .int lo, .int hi] s = some (.bl (wholeB v lo hi), s) := by
  cases v with
  | int i =>
    by_cases h1 : lo ≤ i <;> by_cases h2 : i ≤ hi <;> simp [F_is_whole, g_is_whole, sSeq, sAsg, sIf, sRet, sNil, sDrop, sPar2, sPar3, sFor, sCellSet, sCellApp, sCellPut, sNever, eVar, eC, eOp, eB, eTup, eLst, aCons, aNil, eIf, eAnd, eOr, eNot, eChain, bAnd, bOr, bNot, bYes, eCB, eCall, eSl, oNone, oSome, eNeg, eIsi, eGet, eOne, eNoP, eBack, eLc, eUpd, eBoth, tName, tTup, tsCons, tsNil, bnd, ret, iSeq, iRng, iEn, iZp, iKey, defF, startD, bodyOut, wipeD, List.getElem?_cons_zero, List.getElem?_cons_succ, List.set_cons_zero, List.set_cons_succ, List.length_cons, List.length_nil, List.map_cons, List.map_nil, List.replicate_succ, List.replicate_zero, List.cons_append, List.nil_append, if_true, if_false, Bool.false_eq_true, reduceIte, Option.map_some, Option.map_none, Nat.reduceAdd, Nat.reduceSub, Nat.reduceEqDiff, qInt, qBool, rLe, wholeB, h1, h2]
  | dI => cases h
  | dP => cases h
  | cell => cases h
  | _ => simp [F_is_whole, g_is_whole, sSeq, sAsg, sIf, sRet, sNil, sDrop, sPar2, sPar3, sFor, sCellSet, sCellApp, sCellPut, sNever, eVar, eC, eOp, eB, eTup, eLst, aCons, aNil, eIf, eAnd, eOr, eNot, eChain, bAnd, bOr, bNot, bYes, eCB, eCall, eSl, oNone, oSome, eNeg, eIsi, eGet, eOne, eNoP, eBack, eLc, eUpd, eBoth, tName, tTup, tsCons, tsNil, bnd, ret, iSeq, iRng, iEn, iZp, iKey, defF, startD, bodyOut, wipeD, List.getElem?_cons_zero, List.getElem?_cons_succ, List.set_cons_zero, List.set_cons_succ, List.length_cons, List.length_nil, List.map_cons, List.map_nil, List.replicate_succ, List.replicate_zero, List.cons_append, List.nil_append, if_true, if_false, Bool.false_eq_true, reduceIte, Option.map_some, Option.map_none, Nat.reduceAdd, Nat.reduceSub, Nat.reduceEqDiff, qInt, qBool, wholeB]

/-! ### loops over data, where nothing is changed -/
theorem lc_filter {tg : TD} {tt : EB} {te : E} {ρ : Env} {s : D} (p : D → Bool) (h : D → D) : ∀ {xs : List D}, (∀ x ∈ xs, ∃ ρ2, tg x ρ = some ρ2 ∧ tt ρ2 s = some (p x, s) ∧ (p x = true → te ρ2 s = some (h x, s))) → lcGo tg tt te ρ xs s = some ((xs.filter p).map h, s)
  | [], _ => rfl
  | x :: xs, H => by
    obtain ⟨ρ2, h1, h2, h3⟩ := H x List.mem_cons_self
    have ih := lc_filter p h (xs := xs) fun y hy => H y (List.mem_cons_of_mem _ hy)
    unfold lcGo
    rw [h1]
    show bnd (tt ρ2 s) _ = _
    rw [h2]
    cases hp : p x with
    | true =>
      rw [List.filter_cons_of_pos hp]
      show bnd (te ρ2 s) _ = _
      rw [h3 hp]
      show bnd (lcGo tg tt te ρ xs s) _ = _
      rw [ih]
      rfl
    | false =>
      rw [List.filter_cons_of_neg (by rw [hp]; exact Bool.false_ne_true)]
      exact ih
theorem lc_map {tg : TD} {te : E} {ρ : Env} {s : D} (h : D → D) {xs : List D} (H : ∀ x ∈ xs, ∃ ρ2, tg x ρ = some ρ2 ∧ te ρ2 s = some (h x, s)) : lcGo tg bYes te ρ xs s = some (xs.map h, s) := by
  have := lc_filter (tt := bYes) (fun _ => true) h (xs := xs) fun x hx => by
    obtain ⟨ρ2, h1, h2⟩ := H x hx
    exact ⟨ρ2, h1, rfl, fun _ => h2⟩
  rw [this, List.filter_eq_self.mpr fun _ _ => rfl]
theorem lim_eq : lim = 100000 := rfl
theorem bls_map {α : Type} (f : α → Bool) (l : List α) : bls? (l.map fun x => .bl (f x)) = some (l.map f) := by
  have := bls?_map (l.map f)
  rwa [List.map_map] at this

/-! ### routines -/
def tI (l : List Int) : D := .tup (l.map .int)
structure Mv where
  marks : List Int
  back : List Int
  here : Int
def enMv (m : Mv) : D := .tup [tI m.marks, tI m.back, .int m.here]
def enPost (p : List Mv) : D := .tup (p.map enMv)
abbrev Rt := List (List Mv)
def enR (r : Rt) : D := .tup (r.map enPost)
def sortsOk (l : List Int) : Prop := ∀ i ∈ l, 0 ≤ i ∧ i ≤ 2
structure Mv.ok (n : Nat) (m : Mv) : Prop where
  mk1 : m.marks.length ≤ 2
  mk2 : sortsOk m.marks
  bk1 : m.back.length ≤ 3
  bk2 : sortsOk m.back
  lo : -1 ≤ m.here
  hi : m.here < n
structure rOk (r : Rt) : Prop where
  one : 1 ≤ r.length
  six : r.length ≤ 6
  four : ∀ p ∈ r, p.length = 4
  mv : ∀ p ∈ r, ∀ m ∈ p, m.ok r.length
theorem fits_sorts_eq (l : List Int) (most : Int) (s : D) (hl : l.length ≤ lim) : F_fits_sorts [tI l, .int most] s = some (.bl (decide ((l.length : Int) ≤ most) && l.all fun i => decide (0 ≤ i) && decide (i ≤ 2)), s) := by
  have hc : ∀ ρ : Env, ρ.length = 3 → lcGo (tName 2) bYes e1_fits_sorts ρ (l.map .int) s = some ((l.map D.int).map (fun d => .bl (wholeB d 0 2)), s) := fun ρ hρ => lc_map _ fun x hx => by
    obtain ⟨i, _, rfl⟩ := List.mem_map.mp hx
    refine ⟨_, rfl, ?_⟩
    have e : (ρ.set 2 (some (.int i)))[2]? = some (some (.int i)) := List.getElem?_set_self (by omega)
    have q := is_whole_eq (v := .int i) 0 2 s rfl
    simp [e1_fits_sorts, sSeq, sAsg, sIf, sRet, sNil, sDrop, sPar2, sPar3, sFor, sCellSet, sCellApp, sCellPut, sNever, eVar, eC, eOp, eB, eTup, eLst, aCons, aNil, eIf, eAnd, eOr, eNot, eChain, bAnd, bOr, bNot, bYes, eCB, eCall, eSl, oNone, oSome, eNeg, eIsi, eGet, eOne, eNoP, eBack, eLc, eUpd, eBoth, tName, tTup, tsCons, tsNil, bnd, ret, iSeq, iRng, iEn, iZp, iKey, defF, startD, bodyOut, wipeD, List.getElem?_cons_zero, List.getElem?_cons_succ, List.set_cons_zero, List.set_cons_succ, List.length_cons, List.length_nil, List.map_cons, List.map_nil, List.replicate_succ, List.replicate_zero, List.cons_append, List.nil_append, if_true, if_false, Bool.false_eq_true, reduceIte, Option.map_some, Option.map_none, Nat.reduceAdd, Nat.reduceSub, Nat.reduceEqDiff, e, rSub, q]
  have hb := bls_map (fun i : Int => decide (0 ≤ i) && decide (i ≤ 2)) l
  have hc1 := hc [some (.tup (l.map .int)), some (.int most), none] rfl
  by_cases h1 : (l.length : Int) ≤ most
  · simp [F_fits_sorts, g_fits_sorts, sSeq, sAsg, sIf, sRet, sNil, sDrop, sPar2, sPar3, sFor, sCellSet, sCellApp, sCellPut, sNever, eVar, eC, eOp, eB, eTup, eLst, aCons, aNil, eIf, eAnd, eOr, eNot, eChain, bAnd, bOr, bNot, bYes, eCB, eCall, eSl, oNone, oSome, eNeg, eIsi, eGet, eOne, eNoP, eBack, eLc, eUpd, eBoth, tName, tTup, tsCons, tsNil, bnd, ret, iSeq, iRng, iEn, iZp, iKey, defF, startD, bodyOut, wipeD, List.getElem?_cons_zero, List.getElem?_cons_succ, List.set_cons_zero, List.set_cons_succ, List.length_cons, List.length_nil, List.map_cons, List.map_nil, List.replicate_succ, List.replicate_zero, List.cons_append, List.nil_append, if_true, if_false, Bool.false_eq_true, reduceIte, Option.map_some, Option.map_none, Nat.reduceAdd, Nat.reduceSub, Nat.reduceEqDiff, tI, qTup, rLen2, rLe, h1, hl, hc1, rAll, hb, wholeB, Function.comp_def, List.all_map]
  · simp [F_fits_sorts, g_fits_sorts, sSeq, sAsg, sIf, sRet, sNil, sDrop, sPar2, sPar3, sFor, sCellSet, sCellApp, sCellPut, sNever, eVar, eC, eOp, eB, eTup, eLst, aCons, aNil, eIf, eAnd, eOr, eNot, eChain, bAnd, bOr, bNot, bYes, eCB, eCall, eSl, oNone, oSome, eNeg, eIsi, eGet, eOne, eNoP, eBack, eLc, eUpd, eBoth, tName, tTup, tsCons, tsNil, bnd, ret, iSeq, iRng, iEn, iZp, iKey, defF, startD, bodyOut, wipeD, List.getElem?_cons_zero, List.getElem?_cons_succ, List.set_cons_zero, List.set_cons_succ, List.length_cons, List.length_nil, List.map_cons, List.map_nil, List.replicate_succ, List.replicate_zero, List.cons_append, List.nil_append, if_true, if_false, Bool.false_eq_true, reduceIte, Option.map_some, Option.map_none, Nat.reduceAdd, Nat.reduceSub, Nat.reduceEqDiff, tI, qTup, rLen2, rLe, h1]
theorem all_sorts {l : List Int} (h : sortsOk l) : (l.all fun i => decide (0 ≤ i) && decide (i ≤ 2)) = true := List.all_eq_true.mpr fun i hi => by
  have := h i hi
  simp [this.1, this.2]
theorem fits_move_eq {m : Mv} {n : Nat} (s : D) (h : m.ok n) : F_fits_move [enMv m, .int n] s = some (.bl true, s) := by
  have h1 := h.mk1
  have h2 := h.bk1
  have h3 := h.lo
  have h4 := h.hi
  have q1 := fits_sorts_eq m.marks 2 s (by rw [lim_eq]; omega)
  have q2 := fits_sorts_eq m.back 3 s (by rw [lim_eq]; omega)
  rw [all_sorts h.mk2, decide_eq_true (by omega)] at q1
  rw [all_sorts h.bk2, decide_eq_true (by omega)] at q2
  have q3 := is_whole_eq (v := .int m.here) (-1) (n - 1) s rfl
  have e3 : wholeB (.int m.here) (-1) (n - 1) = true := by
    simp only [wholeB, Bool.and_eq_true, decide_eq_true_eq]
    omega
  rw [e3] at q3
  have a0 : atI [tI m.marks, tI m.back, D.int m.here] 0 = some (tI m.marks) := rfl
  have a1 : atI [tI m.marks, tI m.back, D.int m.here] 1 = some (tI m.back) := rfl
  have a2 : atI [tI m.marks, tI m.back, D.int m.here] 2 = some (.int m.here) := rfl
  have ne : kEq (.int 3) (.int 3) = some true := by
    unfold kEq
    simp [plN, deq_iff]
  simp [F_fits_move, g_fits_move, sSeq, sAsg, sIf, sRet, sNil, sDrop, sPar2, sPar3, sFor, sCellSet, sCellApp, sCellPut, sNever, eVar, eC, eOp, eB, eTup, eLst, aCons, aNil, eIf, eAnd, eOr, eNot, eChain, bAnd, bOr, bNot, bYes, eCB, eCall, eSl, oNone, oSome, eNeg, eIsi, eGet, eOne, eNoP, eBack, eLc, eUpd, eBoth, tName, tTup, tsCons, tsNil, bnd, ret, iSeq, iRng, iEn, iZp, iKey, defF, startD, bodyOut, wipeD, List.getElem?_cons_zero, List.getElem?_cons_succ, List.set_cons_zero, List.set_cons_succ, List.length_cons, List.length_nil, List.map_cons, List.map_nil, List.replicate_succ, List.replicate_zero, List.cons_append, List.nil_append, if_true, if_false, Bool.false_eq_true, reduceIte, Option.map_some, Option.map_none, Nat.reduceAdd, Nat.reduceSub, Nat.reduceEqDiff, enMv, qTup, rLen2, rNe, ne, rIx, seqOf, a0, a1, a2, q1, q2, q3, rSub]
theorem fits_routine_eq {r : Rt} (s : D) (h : rOk r) : F_fits_routine [enR r] s = some (.bl true, s) := by
  have h1 := h.one
  have h6 := h.six
  have body : ∀ (xs : List (List Mv)) (ρ : Env), (∀ p ∈ xs, p ∈ r) → (∃ a b, ρ = [some (enR r), a, b]) → ∃ a b, forGo (tName 1) b2_fits_routine (xs.map enPost) ρ s = some (.nx [some (enR r), a, b], s) := by
    intro xs
    induction xs with
    | nil =>
      rintro ρ _ ⟨a, b, rfl⟩
      exact ⟨a, b, rfl⟩
    | cons p xs ih =>
      rintro ρ hx ⟨a, b, rfl⟩
      have hp := hx p List.mem_cons_self
      obtain ⟨a', b', e'⟩ := ih [some (enR r), some (enPost p), b] (fun q hq => hx q (List.mem_cons_of_mem _ hq)) ⟨_, _, rfl⟩
      refine ⟨a', b', ?_⟩
      have lc : lcGo (tName 2) bYes e1_fits_routine [some (enR r), some (enPost p), none] (p.map enMv) s = some ((p.map enMv).map (fun _ => .bl true), s) := lc_map _ fun x hx => by
        obtain ⟨m, hm, rfl⟩ := List.mem_map.mp hx
        refine ⟨_, rfl, ?_⟩
        have q := fits_move_eq s (h.mv p hp m hm)
        simp [e1_fits_routine, sSeq, sAsg, sIf, sRet, sNil, sDrop, sPar2, sPar3, sFor, sCellSet, sCellApp, sCellPut, sNever, eVar, eC, eOp, eB, eTup, eLst, aCons, aNil, eIf, eAnd, eOr, eNot, eChain, bAnd, bOr, bNot, bYes, eCB, eCall, eSl, oNone, oSome, eNeg, eIsi, eGet, eOne, eNoP, eBack, eLc, eUpd, eBoth, tName, tTup, tsCons, tsNil, bnd, ret, iSeq, iRng, iEn, iZp, iKey, defF, startD, bodyOut, wipeD, List.getElem?_cons_zero, List.getElem?_cons_succ, List.set_cons_zero, List.set_cons_succ, List.length_cons, List.length_nil, List.map_cons, List.map_nil, List.replicate_succ, List.replicate_zero, List.cons_append, List.nil_append, if_true, if_false, Bool.false_eq_true, reduceIte, Option.map_some, Option.map_none, Nat.reduceAdd, Nat.reduceSub, Nat.reduceEqDiff, rLen2, enR, q]
      have four := h.four p hp
      have bl := bls_map (fun _ : Mv => true) p
      have ne : kEq (.int 4) (.int 4) = some true := by
        unfold kEq
        simp [plN, deq_iff]
      have step : b2_fits_routine [some (enR r), some (enPost p), b] s = some (.nx [some (enR r), some (enPost p), b], s) := by
        have lc' := lc
        unfold enPost at lc'
        simp [b2_fits_routine, sSeq, sAsg, sIf, sRet, sNil, sDrop, sPar2, sPar3, sFor, sCellSet, sCellApp, sCellPut, sNever, eVar, eC, eOp, eB, eTup, eLst, aCons, aNil, eIf, eAnd, eOr, eNot, eChain, bAnd, bOr, bNot, bYes, eCB, eCall, eSl, oNone, oSome, eNeg, eIsi, eGet, eOne, eNoP, eBack, eLc, eUpd, eBoth, tName, tTup, tsCons, tsNil, bnd, ret, iSeq, iRng, iEn, iZp, iKey, defF, startD, bodyOut, wipeD, List.getElem?_cons_zero, List.getElem?_cons_succ, List.set_cons_zero, List.set_cons_succ, List.length_cons, List.length_nil, List.map_cons, List.map_nil, List.replicate_succ, List.replicate_zero, List.cons_append, List.nil_append, if_true, if_false, Bool.false_eq_true, reduceIte, Option.map_some, Option.map_none, Nat.reduceAdd, Nat.reduceSub, Nat.reduceEqDiff, enPost, qTup, rLen2, rNe, rAdd, four, ne, lc', rAll, lim_eq, bl, Function.comp_def]
      rw [List.map_cons]
      unfold forGo
      show bnd (b2_fits_routine [some (enR r), some (enPost p), b] s) _ = _
      rw [step]
      exact e'
  obtain ⟨a, b, e⟩ := body r [some (enR r), none, none] (fun _ h => h) ⟨_, _, rfl⟩
  have e1 := e
  unfold enR at e1
  have c1 : (1 : Int) ≤ r.length := by omega
  have c2 : (r.length : Int) ≤ 6 := by omega
  simp [F_fits_routine, g_fits_routine, sSeq, sAsg, sIf, sRet, sNil, sDrop, sPar2, sPar3, sFor, sCellSet, sCellApp, sCellPut, sNever, eVar, eC, eOp, eB, eTup, eLst, aCons, aNil, eIf, eAnd, eOr, eNot, eChain, bAnd, bOr, bNot, bYes, eCB, eCall, eSl, oNone, oSome, eNeg, eIsi, eGet, eOne, eNoP, eBack, eLc, eUpd, eBoth, tName, tTup, tsCons, tsNil, bnd, ret, iSeq, iRng, iEn, iZp, iKey, defF, startD, bodyOut, wipeD, List.getElem?_cons_zero, List.getElem?_cons_succ, List.set_cons_zero, List.set_cons_succ, List.length_cons, List.length_nil, List.map_cons, List.map_nil, List.replicate_succ, List.replicate_zero, List.cons_append, List.nil_append, if_true, if_false, Bool.false_eq_true, reduceIte, Option.map_some, Option.map_none, Nat.reduceAdd, Nat.reduceSub, Nat.reduceEqDiff, enR, qTup, rLen2, rLe, c1, c2, e1]
theorem need_routine_eq {r : Rt} (s : D) (h : rOk r) : F_need_routine [enR r] s = some (.non, s) := by
  have q := fits_routine_eq s h
  simp [F_need_routine, g_need_routine, sSeq, sAsg, sIf, sRet, sNil, sDrop, sPar2, sPar3, sFor, sCellSet, sCellApp, sCellPut, sNever, eVar, eC, eOp, eB, eTup, eLst, aCons, aNil, eIf, eAnd, eOr, eNot, eChain, bAnd, bOr, bNot, bYes, eCB, eCall, eSl, oNone, oSome, eNeg, eIsi, eGet, eOne, eNoP, eBack, eLc, eUpd, eBoth, tName, tTup, tsCons, tsNil, bnd, ret, iSeq, iRng, iEn, iZp, iKey, defF, startD, bodyOut, wipeD, List.getElem?_cons_zero, List.getElem?_cons_succ, List.set_cons_zero, List.set_cons_succ, List.length_cons, List.length_nil, List.map_cons, List.map_nil, List.replicate_succ, List.replicate_zero, List.cons_append, List.nil_append, if_true, if_false, Bool.false_eq_true, reduceIte, Option.map_some, Option.map_none, Nat.reduceAdd, Nat.reduceSub, Nat.reduceEqDiff, q]
theorem need_marks_eq {l : List Int} (s : D) (h : sortsOk l) (h9 : l.length ≤ 9) : F_need_marks [tI l] s = some (.non, s) := by
  have q := fits_sorts_eq l 9 s (by rw [lim_eq]; omega)
  rw [all_sorts h, decide_eq_true (by omega)] at q
  simp [F_need_marks, g_need_marks, sSeq, sAsg, sIf, sRet, sNil, sDrop, sPar2, sPar3, sFor, sCellSet, sCellApp, sCellPut, sNever, eVar, eC, eOp, eB, eTup, eLst, aCons, aNil, eIf, eAnd, eOr, eNot, eChain, bAnd, bOr, bNot, bYes, eCB, eCall, eSl, oNone, oSome, eNeg, eIsi, eGet, eOne, eNoP, eBack, eLc, eUpd, eBoth, tName, tTup, tsCons, tsNil, bnd, ret, iSeq, iRng, iEn, iZp, iKey, defF, startD, bodyOut, wipeD, List.getElem?_cons_zero, List.getElem?_cons_succ, List.set_cons_zero, List.set_cons_succ, List.length_cons, List.length_nil, List.map_cons, List.map_nil, List.replicate_succ, List.replicate_zero, List.cons_append, List.nil_append, if_true, if_false, Bool.false_eq_true, reduceIte, Option.map_some, Option.map_none, Nat.reduceAdd, Nat.reduceSub, Nat.reduceEqDiff, q]
end Pg
set_option Elab.async false
set_option linter.all false
set_option maxRecDepth 100000
set_option maxHeartbeats 4000000
/-! The pure part, b: tables; one move (next_need, _law_pair). -/
namespace Pg
open PySem PySem.Spec PyProof.Rows L2

/-! ### equality of data -/
theorem kEq_int (a b : Int) : kEq (.int a) (.int b) = some (decide (a = b)) := by
  have e : deq (.int a) (.int b) = decide (a = b) := by
    by_cases h : a = b
    · subst h
      rw [deq_iff.mpr rfl]
      simp
    · cases q : deq (D.int a) (D.int b) with
      | false => simp [h]
      | true =>
        have := deq_iff.mp q
        injection this with this
        exact absurd this h
  unfold kEq
  simp [plN_int, e]
theorem kEq_intstr (a : Int) : kEq (.int a) (.str "never") = some false := by
  have e : deq (D.int a) (D.str "never") = false := by
    cases q : deq (D.int a) (D.str "never") with
    | false => rfl
    | true => cases deq_iff.mp q
  unfold kEq
  have h : plN 8 (.str "never") = true := by rw [plN_str]; decide +kernel
  simp [plN_int, e, h]
theorem deq_of {x y : D} {p : Prop} [Decidable p] (h : x = y ↔ p) : deq x y = decide p := by
  by_cases q : p
  · rw [deq_iff.mpr (h.mpr q), decide_eq_true q]
  · cases e : deq x y with
    | false => rw [decide_eq_false q]
    | true => exact absurd (h.mp (deq_iff.mp e)) q
theorem map_int_inj {a b : List Int} (h : a.map D.int = b.map D.int) : a = b := (List.map_inj_right fun _ _ z => by injection z).mp h
theorem tI_inj {a b : List Int} : tI a = tI b ↔ a = b := ⟨fun h => by
  unfold tI at h
  injection h with h
  exact map_int_inj h, fun h => by rw [h]⟩
theorem plN_ints (n : Nat) (l : List Int) : (l.map D.int).all (plN n) = true := List.all_eq_true.mpr fun x hx => by
  obtain ⟨i, _, rfl⟩ := List.mem_map.mp hx
  exact plN_int
theorem plN_tI (n : Nat) (l : List Int) : plN (n + 1) (tI l) = true := plN_ints n l
theorem kEq_tI (a b : List Int) : kEq (tI a) (tI b) = some (decide (a = b)) := by
  have e := deq_of (tI_inj (a := a) (b := b))
  have h1 : plN 8 (tI a) = true := plN_tI 7 a
  have h2 : plN 8 (tI b) = true := plN_tI 7 b
  unfold tI at e h1 h2 ⊢
  unfold kEq
  simp [h1, h2, e]

/-! ### slices -/
theorem cut_to (xs : List D) (n : Nat) : cutD xs none (some (n : Int)) = xs.take n := by
  unfold cutD
  rw [HT.sIx_none, HT.sIx_nat, List.drop_zero, Nat.sub_zero]
  rcases Nat.le_total n xs.length with h | h
  · rw [Nat.min_eq_left h]
  · rw [Nat.min_eq_right h, List.take_length, List.take_of_length_le h]
theorem cut_from (xs : List D) (n : Nat) : cutD xs (some (n : Int)) none = xs.drop n := by
  unfold cutD
  rw [HT.sIx_none, HT.sIx_nat]
  rcases Nat.le_total n xs.length with h | h
  · rw [Nat.min_eq_left h]
    exact List.take_of_length_le (by rw [List.length_drop]; exact Nat.le_refl _)
  · rw [Nat.min_eq_right h, Nat.sub_self, List.take_zero, List.drop_of_length_le h]
theorem cut_both (xs : List D) (i j : Nat) (h : i ≤ j) : cutD xs (some (i : Int)) (some (j : Int)) = (xs.drop i).take (j - i) := by
  unfold cutD
  rw [HT.sIx_nat, HT.sIx_nat]
  rcases Nat.le_total i xs.length with h1 | h1
  · rw [Nat.min_eq_left h1]
    rcases Nat.le_total j xs.length with h2 | h2
    · rw [Nat.min_eq_left h2]
    · rw [Nat.min_eq_right h2, List.take_of_length_le (i := j - i) (by rw [List.length_drop]; omega)]
      exact List.take_of_length_le (by rw [List.length_drop]; exact Nat.le_refl _)
  · rw [Nat.min_eq_right h1, List.drop_of_length_le h1, List.drop_length]
    simp

/-! ### tables -/
structure En where
  to : Int
  turns : Int
  marks : List Int
  left : List Int
abbrev Tb := List ((Int × Int) × En)
def peE (e : En) : D := .tup [.int e.to, .int e.turns, tI e.marks, tI e.left]
def leE (e : En) : D := .lst [.int e.to, .int e.turns, tI e.marks, tI e.left]
def encP (T : Tb) : D := .dP (T.map fun x => (x.1, peE x.2))
def encL (T : Tb) : D := .dP (T.map fun x => (x.1, leE x.2))
theorem lookup_map {α β : Type} (f : α → β) (k : Int × Int) : ∀ T : List ((Int × Int) × α), (T.map fun x => (x.1, f x.2)).lookup k = (T.lookup k).map f
  | [] => rfl
  | x :: T => by
    obtain ⟨j, a⟩ := x
    rw [List.map_cons, List.lookup_cons, List.lookup_cons]
    cases h : k == j with
    | true => rfl
    | false => exact lookup_map f k T
/-- small entries: what is joined stays short -/
def smE (T : Tb) : Prop := ∀ k e, T.lookup k = some e → e.marks.length ≤ 1001 ∧ e.left.length ≤ 1000

/-! ### one move -/
inductive Wk where
  | need (k : Int × Int)
  | done (e : En)
/-- over the needs: what comes back in between, or what stands at the end -/
def goW (T : Tb) (back : List Int) : List Int → Nat → Int → Int → List Int → Wk ⊕ (Int × Int × List Int)
  | [], _, here, turns, marks => .inr (here, turns, marks)
  | n :: ns, at', here, turns, marks => match T.lookup (here, n) with
    | none => .inl (.need (here, n))
    | some e => if e.to = -1 then .inl (.done ⟨-1, turns + e.turns, (marks ++ e.marks).take 1001, e.left ++ back.drop (at' + 1)⟩)
      else goW T back ns (at' + 1) e.to (turns + e.turns) ((marks ++ e.marks).take 1001)
theorem goW_cons (T : Tb) (back : List Int) (n : Int) (ns : List Int) (k : Nat) (here turns : Int) (marks : List Int) : goW T back (n :: ns) k here turns marks = (match T.lookup (here, n) with
    | none => .inl (.need (here, n))
    | some e => if e.to = -1 then .inl (.done ⟨-1, turns + e.turns, (marks ++ e.marks).take 1001, e.left ++ back.drop (k + 1)⟩)
      else goW T back ns (k + 1) e.to (turns + e.turns) ((marks ++ e.marks).take 1001)) := rfl
def endW : Wk ⊕ (Int × Int × List Int) → Wk
  | .inl w => w
  | .inr (here, turns, marks) => .done ⟨here, turns, marks, []⟩
def needsOf (m : Mv) (s : Int) : List Int := if s < 3 then m.back else m.back ++ [3]
def stepM (T : Tb) (m : Mv) (s : Int) : Wk := if m.here = -1 then .done ⟨-1, 1, m.marks, m.back⟩ else endW (goW T m.back (needsOf m s) 0 m.here 1 m.marks)
def dPr (p : Int × Int) : D := .tup [.int p.1, .int p.2]
/-- what next_need hands back -/
def enWP : Wk → D
  | .need k => .tup [dPr k, .non]
  | .done e => .tup [.non, peE e]
def enWL : Wk → D
  | .need _ => .non
  | .done e => leE e
theorem take_int (l : List Int) (n : Nat) : (l.map D.int).take n = (l.take n).map D.int := List.map_take.symm
theorem drop_int (l : List Int) (n : Nat) : (l.map D.int).drop n = (l.drop n).map D.int := List.map_drop.symm
theorem loopP {T : Tb} (hT : smE T) {back : List Int} (hb : back.length ≤ 3) {R P : D} {p srt : Int} {st : D} : ∀ (ns : List Int) (k : Nat) (here turns : Int) (marks : List Int) (x9 x10 x11 x12 x13 : Option D), marks.length ≤ 1001 →
    ∃ y9 y10 y11 y12 y13, forGo (tTup 2 (tsCons (tName 9) (tsCons (tName 10) tsNil))) b1_next_need (((ns.map D.int).zipIdx k).map fun p => D.tup [.int p.2, p.1])
      [some R, some P, some (encP T), some (.int p), some (.int srt), some (tI marks), some (tI back), some (.int here), some (.int turns), x9, x10, x11, x12, x13] st =
    some (match goW T back ns k here turns marks with
      | .inl w => .rt (enWP w)
      | .inr (h, t, m) => .nx [some R, some P, some (encP T), some (.int p), some (.int srt), some (tI m), some (tI back), some (.int h), some (.int t), y9, y10, y11, y12, y13], st)
  | [], k, here, turns, marks, x9, x10, x11, x12, x13, _ => ⟨x9, x10, x11, x12, x13, rfl⟩
  | n :: ns, k, here, turns, marks, x9, x10, x11, x12, x13, hm => by
    have look := lookup_map peE (here, n) T
    cases h : T.lookup (here, n) with
    | none =>
      rw [h] at look
      refine ⟨none, none, none, none, none, ?_⟩
      have step : b1_next_need [some R, some P, some (encP T), some (.int p), some (.int srt), some (tI marks), some (tI back), some (.int here), some (.int turns), some (.int k), some (.int n), x11, x12, x13] st = some (.rt (enWP (.need (here, n))), st) := by
        simp [b1_next_need, sSeq, sAsg, sIf, sRet, sNil, sDrop, sPar2, sPar3, sFor, sCellSet, sCellApp, sCellPut, sNever, eVar, eC, eOp, eB, eTup, eLst, aCons, aNil, eIf, eAnd, eOr, eNot, eChain, bAnd, bOr, bNot, bYes, eCB, eCall, eSl, oNone, oSome, eNeg, eIsi, eGet, eOne, eNoP, eBack, eLc, eUpd, eBoth, tName, tTup, tsCons, tsNil, bnd, ret, iSeq, iRng, iEn, iZp, iKey, defF, startD, bodyOut, wipeD, List.getElem?_cons_zero, List.getElem?_cons_succ, List.set_cons_zero, List.set_cons_succ, List.length_cons, List.length_nil, List.map_cons, List.map_nil, List.replicate_succ, List.replicate_zero, List.cons_append, List.nil_append, if_true, if_false, Bool.false_eq_true, reduceIte, Option.map_some, Option.map_none, Nat.reduceAdd, Nat.reduceSub, Nat.reduceEqDiff, rDNotIn, kinOf, dicOf, encP, look, lim_eq, enWP, dPr]
      rw [List.map_cons, List.zipIdx_cons, List.map_cons]
      unfold forGo
      show bnd (b1_next_need [some R, some P, some (encP T), some (.int p), some (.int srt), some (tI marks), some (tI back), some (.int here), some (.int turns), some (.int k), some (.int n), x11, x12, x13] st) _ = _
      rw [step]
      rw [goW_cons, h]
      rfl
    | some e =>
      rw [h] at look
      have look' : (T.map fun x => (x.1, peE x.2)).lookup (here, n) = some (peE e) := look
      have hpe : peE e = .tup [.int e.to, .int e.turns, tI e.marks, tI e.left] := rfl
      obtain ⟨s1, s2⟩ := hT _ _ h
      by_cases ht : e.to = -1
      · refine ⟨none, none, none, none, none, ?_⟩
        have step : b1_next_need [some R, some P, some (encP T), some (.int p), some (.int srt), some (tI marks), some (tI back), some (.int here), some (.int turns), some (.int k), some (.int n), x11, x12, x13] st =
            some (.rt (enWP (.done ⟨-1, turns + e.turns, (marks ++ e.marks).take 1001, e.left ++ back.drop (k + 1)⟩)), st) := by
          have l1 : marks.length + e.marks.length ≤ 100000 := by omega
          have l2 : e.left.length + (back.drop (k + 1)).length ≤ 100000 := by rw [List.length_drop]; omega
          have c1 := cut_to ((marks ++ e.marks).map D.int) 1001
          have c2 := cut_from (back.map D.int) (k + 1)
          rw [take_int] at c1
          rw [drop_int] at c2
          simp only [List.map_append] at c1
          have k1 : ((k + 1 : Nat) : Int) = (k : Int) + 1 := by omega
          rw [k1] at c2
          have k2 : ((1001 : Nat) : Int) = 1001 := rfl
          rw [k2] at c1
          simp [b1_next_need, sSeq, sAsg, sIf, sRet, sNil, sDrop, sPar2, sPar3, sFor, sCellSet, sCellApp, sCellPut, sNever, eVar, eC, eOp, eB, eTup, eLst, aCons, aNil, eIf, eAnd, eOr, eNot, eChain, bAnd, bOr, bNot, bYes, eCB, eCall, eSl, oNone, oSome, eNeg, eIsi, eGet, eOne, eNoP, eBack, eLc, eUpd, eBoth, tName, tTup, tsCons, tsNil, bnd, ret, iSeq, iRng, iEn, iZp, iKey, defF, startD, bodyOut, wipeD, List.getElem?_cons_zero, List.getElem?_cons_succ, List.set_cons_zero, List.set_cons_succ, List.length_cons, List.length_nil, List.map_cons, List.map_nil, List.replicate_succ, List.replicate_zero, List.cons_append, List.nil_append, if_true, if_false, Bool.false_eq_true, reduceIte, Option.map_some, Option.map_none, Nat.reduceAdd, Nat.reduceSub, Nat.reduceEqDiff, rDNotIn, rDGet, kinOf, dicOf, encP, look', hpe, lim_eq, enWP, rEq, kEq_int, kEq_intstr, ht, rAdd, tI, l1, c1, c2]
          rw [if_pos (by rw [List.length_drop] at l2; exact l2)]
          simp [peE, tI]
        rw [List.map_cons, List.zipIdx_cons, List.map_cons]
        unfold forGo
        show bnd (b1_next_need [some R, some P, some (encP T), some (.int p), some (.int srt), some (tI marks), some (tI back), some (.int here), some (.int turns), some (.int k), some (.int n), x11, x12, x13] st) _ = _
        rw [step]
        rw [goW_cons, h]
        simp only [ht, if_true]
        rfl
      · have step : b1_next_need [some R, some P, some (encP T), some (.int p), some (.int srt), some (tI marks), some (tI back), some (.int here), some (.int turns), some (.int k), some (.int n), x11, x12, x13] st =
            some (.nx [some R, some P, some (encP T), some (.int p), some (.int srt), some (tI ((marks ++ e.marks).take 1001)), some (tI back), some (.int e.to), some (.int (turns + e.turns)), some (.int k), some (.int n), some (.int e.turns), some (tI e.marks), some (tI e.left)], st) := by
          have l1 : marks.length + e.marks.length ≤ 100000 := by omega
          have c1 := cut_to ((marks ++ e.marks).map D.int) 1001
          rw [take_int] at c1
          simp only [List.map_append] at c1
          have k2 : ((1001 : Nat) : Int) = 1001 := rfl
          rw [k2] at c1
          simp [b1_next_need, sSeq, sAsg, sIf, sRet, sNil, sDrop, sPar2, sPar3, sFor, sCellSet, sCellApp, sCellPut, sNever, eVar, eC, eOp, eB, eTup, eLst, aCons, aNil, eIf, eAnd, eOr, eNot, eChain, bAnd, bOr, bNot, bYes, eCB, eCall, eSl, oNone, oSome, eNeg, eIsi, eGet, eOne, eNoP, eBack, eLc, eUpd, eBoth, tName, tTup, tsCons, tsNil, bnd, ret, iSeq, iRng, iEn, iZp, iKey, defF, startD, bodyOut, wipeD, List.getElem?_cons_zero, List.getElem?_cons_succ, List.set_cons_zero, List.set_cons_succ, List.length_cons, List.length_nil, List.map_cons, List.map_nil, List.replicate_succ, List.replicate_zero, List.cons_append, List.nil_append, if_true, if_false, Bool.false_eq_true, reduceIte, Option.map_some, Option.map_none, Nat.reduceAdd, Nat.reduceSub, Nat.reduceEqDiff, rDNotIn, rDGet, kinOf, dicOf, encP, look', hpe, lim_eq, rEq, kEq_int, kEq_intstr, ht, rAdd, tI, l1, c1]
        obtain ⟨y9, y10, y11, y12, y13, ih⟩ := loopP hT hb (R := R) (P := P) (p := p) (srt := srt) (st := st) ns (k + 1) e.to (turns + e.turns) ((marks ++ e.marks).take 1001) (some (.int k)) (some (.int n)) (some (.int e.turns)) (some (tI e.marks)) (some (tI e.left)) (List.length_take_le _ _)
        refine ⟨y9, y10, y11, y12, y13, ?_⟩
        rw [List.map_cons, List.zipIdx_cons, List.map_cons]
        unfold forGo
        show bnd (b1_next_need [some R, some P, some (encP T), some (.int p), some (.int srt), some (tI marks), some (tI back), some (.int here), some (.int turns), some (.int k), some (.int n), x11, x12, x13] st) _ = _
        rw [step]
        show forGo _ _ _ _ _ = _
        rw [ih]
        rw [goW_cons, h]
        simp only [ht, if_false]
/-- the move of a routine at a pair -/
def mvAt (r : Rt) (p s : Nat) : Option Mv := (r[p]?).bind fun post => post[s]?
theorem atI_nat {α : Type} (xs : List α) (i : Nat) : L2.atI xs (i : Int) = xs[i]? := by
  unfold L2.atI L2.ixN
  rw [if_pos (by omega)]
  by_cases h : (i : Int) < xs.length
  · rw [if_pos h]
    rfl
  · rw [if_neg h, List.getElem?_eq_none (by omega)]
    rfl
theorem next_need_eq {r : Rt} {p sr : Nat} {m : Mv} {T : Tb} {n : Nat} (st : D) (hT : smE T) (hm : mvAt r p sr = some m) (ok : m.ok n) : F_next_need [enR r, dPr (p, sr), encP T] st = some (enWP (stepM T m sr), st) := by
  obtain ⟨post, h1, h2⟩ : ∃ post, r[p]? = some post ∧ post[sr]? = some m := by
    unfold mvAt at hm
    cases e : r[p]? with
    | none => rw [e] at hm; cases hm
    | some post => rw [e] at hm; exact ⟨post, rfl, hm⟩
  have a1 : L2.atI (r.map enPost) (p : Int) = some (enPost post) := by rw [atI_nat, List.getElem?_map, h1]; rfl
  have a2 : L2.atI (post.map enMv) (sr : Int) = some (enMv m) := by rw [atI_nat, List.getElem?_map, h2]; rfl
  have b1 := ok.mk1
  have b2 := ok.bk1
  by_cases hh : m.here = -1
  · simp [F_next_need, g_next_need, sSeq, sAsg, sIf, sRet, sNil, sDrop, sPar2, sPar3, sFor, sCellSet, sCellApp, sCellPut, sNever, eVar, eC, eOp, eB, eTup, eLst, aCons, aNil, eIf, eAnd, eOr, eNot, eChain, bAnd, bOr, bNot, bYes, eCB, eCall, eSl, oNone, oSome, eNeg, eIsi, eGet, eOne, eNoP, eBack, eLc, eUpd, eBoth, tName, tTup, tsCons, tsNil, bnd, ret, iSeq, iRng, iEn, iZp, iKey, defF, startD, bodyOut, wipeD, List.getElem?_cons_zero, List.getElem?_cons_succ, List.set_cons_zero, List.set_cons_succ, List.length_cons, List.length_nil, List.map_cons, List.map_nil, List.replicate_succ, List.replicate_zero, List.cons_append, List.nil_append, if_true, if_false, Bool.false_eq_true, reduceIte, Option.map_some, Option.map_none, Nat.reduceAdd, Nat.reduceSub, Nat.reduceEqDiff, dPr, enR, rIx, seqOf, a1, enPost, a2, enMv, rEq, kEq_int, hh, lim_eq, stepM, enWP, peE]
  · obtain ⟨y9, y10, y11, y12, y13, e⟩ := loopP hT b2 (R := enR r) (P := dPr (p, sr)) (p := p) (srt := sr) (st := st) (needsOf m sr) 0 m.here 1 m.marks none none none none none (by omega)
    have l3 : m.back.length ≤ 100000 := by omega
    have l4 : m.back.length + 1 ≤ 100000 := by omega
    by_cases hs : (sr : Int) < 3
    · have e' := e
      simp only [needsOf, hs, if_true] at e'
      unfold enR dPr tI at e'
      cases ew : goW T m.back m.back 0 m.here 1 m.marks with
      | inl w =>
        rw [ew] at e'
        simp [F_next_need, g_next_need, sSeq, sAsg, sIf, sRet, sNil, sDrop, sPar2, sPar3, sFor, sCellSet, sCellApp, sCellPut, sNever, eVar, eC, eOp, eB, eTup, eLst, aCons, aNil, eIf, eAnd, eOr, eNot, eChain, bAnd, bOr, bNot, bYes, eCB, eCall, eSl, oNone, oSome, eNeg, eIsi, eGet, eOne, eNoP, eBack, eLc, eUpd, eBoth, tName, tTup, tsCons, tsNil, bnd, ret, iSeq, iRng, iEn, iZp, iKey, defF, startD, bodyOut, wipeD, List.getElem?_cons_zero, List.getElem?_cons_succ, List.set_cons_zero, List.set_cons_succ, List.length_cons, List.length_nil, List.map_cons, List.map_nil, List.replicate_succ, List.replicate_zero, List.cons_append, List.nil_append, if_true, if_false, Bool.false_eq_true, reduceIte, Option.map_some, Option.map_none, Nat.reduceAdd, Nat.reduceSub, Nat.reduceEqDiff, dPr, enR, rIx, seqOf, a1, enPost, a2, enMv, rEq, kEq_int, hh, lim_eq, stepM, needsOf, hs, rLt, rAdd, tI, ew, endW, l3, e']
      | inr w =>
        obtain ⟨wh, wt, wm⟩ := w
        rw [ew] at e'
        simp [F_next_need, g_next_need, sSeq, sAsg, sIf, sRet, sNil, sDrop, sPar2, sPar3, sFor, sCellSet, sCellApp, sCellPut, sNever, eVar, eC, eOp, eB, eTup, eLst, aCons, aNil, eIf, eAnd, eOr, eNot, eChain, bAnd, bOr, bNot, bYes, eCB, eCall, eSl, oNone, oSome, eNeg, eIsi, eGet, eOne, eNoP, eBack, eLc, eUpd, eBoth, tName, tTup, tsCons, tsNil, bnd, ret, iSeq, iRng, iEn, iZp, iKey, defF, startD, bodyOut, wipeD, List.getElem?_cons_zero, List.getElem?_cons_succ, List.set_cons_zero, List.set_cons_succ, List.length_cons, List.length_nil, List.map_cons, List.map_nil, List.replicate_succ, List.replicate_zero, List.cons_append, List.nil_append, if_true, if_false, Bool.false_eq_true, reduceIte, Option.map_some, Option.map_none, Nat.reduceAdd, Nat.reduceSub, Nat.reduceEqDiff, dPr, enR, rIx, seqOf, a1, enPost, a2, enMv, rEq, kEq_int, hh, lim_eq, stepM, needsOf, hs, rLt, rAdd, tI, ew, endW, l3, e', enWP, peE]
    · have e' := e
      simp only [needsOf, hs, if_false] at e'
      unfold enR dPr tI at e'
      rw [List.map_append, List.map_cons, List.map_nil] at e'
      cases ew : goW T m.back (m.back ++ [3]) 0 m.here 1 m.marks with
      | inl w =>
        rw [ew] at e'
        simp [F_next_need, g_next_need, sSeq, sAsg, sIf, sRet, sNil, sDrop, sPar2, sPar3, sFor, sCellSet, sCellApp, sCellPut, sNever, eVar, eC, eOp, eB, eTup, eLst, aCons, aNil, eIf, eAnd, eOr, eNot, eChain, bAnd, bOr, bNot, bYes, eCB, eCall, eSl, oNone, oSome, eNeg, eIsi, eGet, eOne, eNoP, eBack, eLc, eUpd, eBoth, tName, tTup, tsCons, tsNil, bnd, ret, iSeq, iRng, iEn, iZp, iKey, defF, startD, bodyOut, wipeD, List.getElem?_cons_zero, List.getElem?_cons_succ, List.set_cons_zero, List.set_cons_succ, List.length_cons, List.length_nil, List.map_cons, List.map_nil, List.replicate_succ, List.replicate_zero, List.cons_append, List.nil_append, if_true, if_false, Bool.false_eq_true, reduceIte, Option.map_some, Option.map_none, Nat.reduceAdd, Nat.reduceSub, Nat.reduceEqDiff, dPr, enR, rIx, seqOf, a1, enPost, a2, enMv, rEq, kEq_int, hh, lim_eq, stepM, needsOf, hs, rLt, rAdd, tI, ew, endW, l4, e']
      | inr w =>
        obtain ⟨wh, wt, wm⟩ := w
        rw [ew] at e'
        simp [F_next_need, g_next_need, sSeq, sAsg, sIf, sRet, sNil, sDrop, sPar2, sPar3, sFor, sCellSet, sCellApp, sCellPut, sNever, eVar, eC, eOp, eB, eTup, eLst, aCons, aNil, eIf, eAnd, eOr, eNot, eChain, bAnd, bOr, bNot, bYes, eCB, eCall, eSl, oNone, oSome, eNeg, eIsi, eGet, eOne, eNoP, eBack, eLc, eUpd, eBoth, tName, tTup, tsCons, tsNil, bnd, ret, iSeq, iRng, iEn, iZp, iKey, defF, startD, bodyOut, wipeD, List.getElem?_cons_zero, List.getElem?_cons_succ, List.set_cons_zero, List.set_cons_succ, List.length_cons, List.length_nil, List.map_cons, List.map_nil, List.replicate_succ, List.replicate_zero, List.cons_append, List.nil_append, if_true, if_false, Bool.false_eq_true, reduceIte, Option.map_some, Option.map_none, Nat.reduceAdd, Nat.reduceSub, Nat.reduceEqDiff, dPr, enR, rIx, seqOf, a1, enPost, a2, enMv, rEq, kEq_int, hh, lim_eq, stepM, needsOf, hs, rLt, rAdd, tI, ew, endW, l4, e', enWP, peE]
theorem loopL {T : Tb} (hT : smE T) {back : List Int} (hb : back.length ≤ 3) {R P nd : D} : ∀ (ns : List Int) (k : Nat) (here turns : Int) (marks : List Int) (x9 x10 x11 x12 x13 : Option D), marks.length ≤ 1001 →
    ∃ y9 y10 y11 y12 y13, forGo (tTup 2 (tsCons (tName 8) (tsCons (tName 9) tsNil))) b1_law_pair (((ns.map D.int).zipIdx k).map fun p => D.tup [.int p.2, p.1])
      [some R, some P, some .cell, some (tI marks), some (tI back), some (.int here), some (.int turns), some nd, x9, x10, x11, x12, x13] (encL T) =
    some (match goW T back ns k here turns marks with
      | .inl w => .rt (enWL w)
      | .inr (h, t, m) => .nx [some R, some P, some .cell, some (tI m), some (tI back), some (.int h), some (.int t), some nd, y9, y10, y11, y12, y13], encL T)
  | [], k, here, turns, marks, x9, x10, x11, x12, x13, _ => ⟨x9, x10, x11, x12, x13, rfl⟩
  | n :: ns, k, here, turns, marks, x9, x10, x11, x12, x13, hm => by
    have look := lookup_map leE (here, n) T
    cases h : T.lookup (here, n) with
    | none =>
      rw [h] at look
      refine ⟨none, none, none, none, none, ?_⟩
      have step : b1_law_pair [some R, some P, some .cell, some (tI marks), some (tI back), some (.int here), some (.int turns), some nd, some (.int k), some (.int n), x11, x12, x13] (encL T) = some (.rt (enWL (.need (here, n))), encL T) := by
        simp [b1_law_pair, sSeq, sAsg, sIf, sRet, sNil, sDrop, sPar2, sPar3, sFor, sCellSet, sCellApp, sCellPut, sNever, eVar, eC, eOp, eB, eTup, eLst, aCons, aNil, eIf, eAnd, eOr, eNot, eChain, bAnd, bOr, bNot, bYes, eCB, eCall, eSl, oNone, oSome, eNeg, eIsi, eGet, eOne, eNoP, eBack, eLc, eUpd, eBoth, tName, tTup, tsCons, tsNil, bnd, ret, iSeq, iRng, iEn, iZp, iKey, defF, startD, bodyOut, wipeD, List.getElem?_cons_zero, List.getElem?_cons_succ, List.set_cons_zero, List.set_cons_succ, List.length_cons, List.length_nil, List.map_cons, List.map_nil, List.replicate_succ, List.replicate_zero, List.cons_append, List.nil_append, if_true, if_false, Bool.false_eq_true, reduceIte, Option.map_some, Option.map_none, Nat.reduceAdd, Nat.reduceSub, Nat.reduceEqDiff, rDNotIn, kinOf, dicOf, encL, look, lim_eq, enWL, dPr]
      rw [List.map_cons, List.zipIdx_cons, List.map_cons]
      unfold forGo
      show bnd (b1_law_pair [some R, some P, some .cell, some (tI marks), some (tI back), some (.int here), some (.int turns), some nd, some (.int k), some (.int n), x11, x12, x13] (encL T)) _ = _
      rw [step]
      rw [goW_cons, h]
      rfl
    | some e =>
      rw [h] at look
      have look' : (T.map fun x => (x.1, leE x.2)).lookup (here, n) = some (leE e) := look
      have hpe : leE e = .lst [.int e.to, .int e.turns, tI e.marks, tI e.left] := rfl
      obtain ⟨s1, s2⟩ := hT _ _ h
      by_cases ht : e.to = -1
      · refine ⟨none, none, none, none, none, ?_⟩
        have step : b1_law_pair [some R, some P, some .cell, some (tI marks), some (tI back), some (.int here), some (.int turns), some nd, some (.int k), some (.int n), x11, x12, x13] (encL T) =
            some (.rt (enWL (.done ⟨-1, turns + e.turns, (marks ++ e.marks).take 1001, e.left ++ back.drop (k + 1)⟩)), encL T) := by
          have l1 : marks.length + e.marks.length ≤ 100000 := by omega
          have l2 : e.left.length + (back.drop (k + 1)).length ≤ 100000 := by rw [List.length_drop]; omega
          have c1 := cut_to ((marks ++ e.marks).map D.int) 1001
          have c2 := cut_from (back.map D.int) (k + 1)
          rw [take_int] at c1
          rw [drop_int] at c2
          simp only [List.map_append] at c1
          have k1 : ((k + 1 : Nat) : Int) = (k : Int) + 1 := by omega
          rw [k1] at c2
          have k2 : ((1001 : Nat) : Int) = 1001 := rfl
          rw [k2] at c1
          simp [b1_law_pair, sSeq, sAsg, sIf, sRet, sNil, sDrop, sPar2, sPar3, sFor, sCellSet, sCellApp, sCellPut, sNever, eVar, eC, eOp, eB, eTup, eLst, aCons, aNil, eIf, eAnd, eOr, eNot, eChain, bAnd, bOr, bNot, bYes, eCB, eCall, eSl, oNone, oSome, eNeg, eIsi, eGet, eOne, eNoP, eBack, eLc, eUpd, eBoth, tName, tTup, tsCons, tsNil, bnd, ret, iSeq, iRng, iEn, iZp, iKey, defF, startD, bodyOut, wipeD, List.getElem?_cons_zero, List.getElem?_cons_succ, List.set_cons_zero, List.set_cons_succ, List.length_cons, List.length_nil, List.map_cons, List.map_nil, List.replicate_succ, List.replicate_zero, List.cons_append, List.nil_append, if_true, if_false, Bool.false_eq_true, reduceIte, Option.map_some, Option.map_none, Nat.reduceAdd, Nat.reduceSub, Nat.reduceEqDiff, rDNotIn, rDGet, kinOf, dicOf, encL, look', hpe, lim_eq, enWL, rEq, kEq_int, kEq_intstr, ht, rAdd, tI, l1, c1, c2]
          rw [if_pos (by rw [List.length_drop] at l2; exact l2)]
          simp [leE, tI]
        rw [List.map_cons, List.zipIdx_cons, List.map_cons]
        unfold forGo
        show bnd (b1_law_pair [some R, some P, some .cell, some (tI marks), some (tI back), some (.int here), some (.int turns), some nd, some (.int k), some (.int n), x11, x12, x13] (encL T)) _ = _
        rw [step]
        rw [goW_cons, h]
        simp only [ht, if_true]
        rfl
      · have step : b1_law_pair [some R, some P, some .cell, some (tI marks), some (tI back), some (.int here), some (.int turns), some nd, some (.int k), some (.int n), x11, x12, x13] (encL T) =
            some (.nx [some R, some P, some .cell, some (tI ((marks ++ e.marks).take 1001)), some (tI back), some (.int e.to), some (.int (turns + e.turns)), some nd, some (.int k), some (.int n), some (.int e.turns), some (tI e.marks), some (tI e.left)], encL T) := by
          have l1 : marks.length + e.marks.length ≤ 100000 := by omega
          have c1 := cut_to ((marks ++ e.marks).map D.int) 1001
          rw [take_int] at c1
          simp only [List.map_append] at c1
          have k2 : ((1001 : Nat) : Int) = 1001 := rfl
          rw [k2] at c1
          simp [b1_law_pair, sSeq, sAsg, sIf, sRet, sNil, sDrop, sPar2, sPar3, sFor, sCellSet, sCellApp, sCellPut, sNever, eVar, eC, eOp, eB, eTup, eLst, aCons, aNil, eIf, eAnd, eOr, eNot, eChain, bAnd, bOr, bNot, bYes, eCB, eCall, eSl, oNone, oSome, eNeg, eIsi, eGet, eOne, eNoP, eBack, eLc, eUpd, eBoth, tName, tTup, tsCons, tsNil, bnd, ret, iSeq, iRng, iEn, iZp, iKey, defF, startD, bodyOut, wipeD, List.getElem?_cons_zero, List.getElem?_cons_succ, List.set_cons_zero, List.set_cons_succ, List.length_cons, List.length_nil, List.map_cons, List.map_nil, List.replicate_succ, List.replicate_zero, List.cons_append, List.nil_append, if_true, if_false, Bool.false_eq_true, reduceIte, Option.map_some, Option.map_none, Nat.reduceAdd, Nat.reduceSub, Nat.reduceEqDiff, rDNotIn, rDGet, kinOf, dicOf, encL, look', hpe, lim_eq, rEq, kEq_int, kEq_intstr, ht, rAdd, tI, l1, c1]
        obtain ⟨y9, y10, y11, y12, y13, ih⟩ := loopL hT hb (R := R) (P := P) (nd := nd) ns (k + 1) e.to (turns + e.turns) ((marks ++ e.marks).take 1001) (some (.int k)) (some (.int n)) (some (.int e.turns)) (some (tI e.marks)) (some (tI e.left)) (List.length_take_le _ _)
        refine ⟨y9, y10, y11, y12, y13, ?_⟩
        rw [List.map_cons, List.zipIdx_cons, List.map_cons]
        unfold forGo
        show bnd (b1_law_pair [some R, some P, some .cell, some (tI marks), some (tI back), some (.int here), some (.int turns), some nd, some (.int k), some (.int n), x11, x12, x13] (encL T)) _ = _
        rw [step]
        show forGo _ _ _ _ _ = _
        rw [ih]
        rw [goW_cons, h]
        simp only [ht, if_false]
theorem law_pair_eq {r : Rt} {p sr : Nat} {m : Mv} {T : Tb} {n : Nat} (hT : smE T) (hm : mvAt r p sr = some m) (ok : m.ok n) : F_law_pair [enR r, dPr (p, sr), .cell] (encL T) = some (enWL (stepM T m sr), encL T) := by
  obtain ⟨post, h1, h2⟩ : ∃ post, r[p]? = some post ∧ post[sr]? = some m := by
    unfold mvAt at hm
    cases e : r[p]? with
    | none => rw [e] at hm; cases hm
    | some post => rw [e] at hm; exact ⟨post, rfl, hm⟩
  have a1 : L2.atI (r.map enPost) (p : Int) = some (enPost post) := by rw [atI_nat, List.getElem?_map, h1]; rfl
  have a2 : L2.atI (post.map enMv) (sr : Int) = some (enMv m) := by rw [atI_nat, List.getElem?_map, h2]; rfl
  have i0 : L2.atI [D.int (p : Int), D.int (sr : Int)] 0 = some (.int p) := rfl
  have i1 : L2.atI [D.int (p : Int), D.int (sr : Int)] 1 = some (.int sr) := rfl
  have b1 := ok.mk1
  have b2 := ok.bk1
  by_cases hh : m.here = -1
  · simp [F_law_pair, g_law_pair, sSeq, sAsg, sIf, sRet, sNil, sDrop, sPar2, sPar3, sFor, sCellSet, sCellApp, sCellPut, sNever, eVar, eC, eOp, eB, eTup, eLst, aCons, aNil, eIf, eAnd, eOr, eNot, eChain, bAnd, bOr, bNot, bYes, eCB, eCall, eSl, oNone, oSome, eNeg, eIsi, eGet, eOne, eNoP, eBack, eLc, eUpd, eBoth, tName, tTup, tsCons, tsNil, bnd, ret, iSeq, iRng, iEn, iZp, iKey, defF, startD, bodyOut, wipeD, List.getElem?_cons_zero, List.getElem?_cons_succ, List.set_cons_zero, List.set_cons_succ, List.length_cons, List.length_nil, List.map_cons, List.map_nil, List.replicate_succ, List.replicate_zero, List.cons_append, List.nil_append, if_true, if_false, Bool.false_eq_true, reduceIte, Option.map_some, Option.map_none, Nat.reduceAdd, Nat.reduceSub, Nat.reduceEqDiff, dPr, enR, rIx, seqOf, i0, i1, a1, enPost, a2, enMv, rEq, kEq_int, hh, lim_eq, stepM, enWL, leE]
  · obtain ⟨y9, y10, y11, y12, y13, e⟩ := loopL hT b2 (R := enR r) (P := dPr (p, sr)) (nd := tI (needsOf m sr)) (needsOf m sr) 0 m.here 1 m.marks none none none none none (by omega)
    have l3 : m.back.length ≤ 100000 := by omega
    have l4 : m.back.length + 1 ≤ 100000 := by omega
    by_cases hs : (sr : Int) < 3
    · have e' := e
      simp only [needsOf, hs, if_true] at e'
      unfold enR dPr tI at e'
      cases ew : goW T m.back m.back 0 m.here 1 m.marks with
      | inl w =>
        rw [ew] at e'
        simp [F_law_pair, g_law_pair, sSeq, sAsg, sIf, sRet, sNil, sDrop, sPar2, sPar3, sFor, sCellSet, sCellApp, sCellPut, sNever, eVar, eC, eOp, eB, eTup, eLst, aCons, aNil, eIf, eAnd, eOr, eNot, eChain, bAnd, bOr, bNot, bYes, eCB, eCall, eSl, oNone, oSome, eNeg, eIsi, eGet, eOne, eNoP, eBack, eLc, eUpd, eBoth, tName, tTup, tsCons, tsNil, bnd, ret, iSeq, iRng, iEn, iZp, iKey, defF, startD, bodyOut, wipeD, List.getElem?_cons_zero, List.getElem?_cons_succ, List.set_cons_zero, List.set_cons_succ, List.length_cons, List.length_nil, List.map_cons, List.map_nil, List.replicate_succ, List.replicate_zero, List.cons_append, List.nil_append, if_true, if_false, Bool.false_eq_true, reduceIte, Option.map_some, Option.map_none, Nat.reduceAdd, Nat.reduceSub, Nat.reduceEqDiff, dPr, enR, rIx, seqOf, i0, i1, a1, enPost, a2, enMv, rEq, kEq_int, hh, lim_eq, stepM, needsOf, hs, rLt, rAdd, tI, ew, endW, l3, e']
      | inr w =>
        obtain ⟨wh, wt, wm⟩ := w
        rw [ew] at e'
        simp [F_law_pair, g_law_pair, sSeq, sAsg, sIf, sRet, sNil, sDrop, sPar2, sPar3, sFor, sCellSet, sCellApp, sCellPut, sNever, eVar, eC, eOp, eB, eTup, eLst, aCons, aNil, eIf, eAnd, eOr, eNot, eChain, bAnd, bOr, bNot, bYes, eCB, eCall, eSl, oNone, oSome, eNeg, eIsi, eGet, eOne, eNoP, eBack, eLc, eUpd, eBoth, tName, tTup, tsCons, tsNil, bnd, ret, iSeq, iRng, iEn, iZp, iKey, defF, startD, bodyOut, wipeD, List.getElem?_cons_zero, List.getElem?_cons_succ, List.set_cons_zero, List.set_cons_succ, List.length_cons, List.length_nil, List.map_cons, List.map_nil, List.replicate_succ, List.replicate_zero, List.cons_append, List.nil_append, if_true, if_false, Bool.false_eq_true, reduceIte, Option.map_some, Option.map_none, Nat.reduceAdd, Nat.reduceSub, Nat.reduceEqDiff, dPr, enR, rIx, seqOf, i0, i1, a1, enPost, a2, enMv, rEq, kEq_int, hh, lim_eq, stepM, needsOf, hs, rLt, rAdd, tI, ew, endW, l3, e', enWL, leE]
    · have e' := e
      simp only [needsOf, hs, if_false] at e'
      unfold enR dPr tI at e'
      rw [List.map_append, List.map_cons, List.map_nil] at e'
      cases ew : goW T m.back (m.back ++ [3]) 0 m.here 1 m.marks with
      | inl w =>
        rw [ew] at e'
        simp [F_law_pair, g_law_pair, sSeq, sAsg, sIf, sRet, sNil, sDrop, sPar2, sPar3, sFor, sCellSet, sCellApp, sCellPut, sNever, eVar, eC, eOp, eB, eTup, eLst, aCons, aNil, eIf, eAnd, eOr, eNot, eChain, bAnd, bOr, bNot, bYes, eCB, eCall, eSl, oNone, oSome, eNeg, eIsi, eGet, eOne, eNoP, eBack, eLc, eUpd, eBoth, tName, tTup, tsCons, tsNil, bnd, ret, iSeq, iRng, iEn, iZp, iKey, defF, startD, bodyOut, wipeD, List.getElem?_cons_zero, List.getElem?_cons_succ, List.set_cons_zero, List.set_cons_succ, List.length_cons, List.length_nil, List.map_cons, List.map_nil, List.replicate_succ, List.replicate_zero, List.cons_append, List.nil_append, if_true, if_false, Bool.false_eq_true, reduceIte, Option.map_some, Option.map_none, Nat.reduceAdd, Nat.reduceSub, Nat.reduceEqDiff, dPr, enR, rIx, seqOf, i0, i1, a1, enPost, a2, enMv, rEq, kEq_int, hh, lim_eq, stepM, needsOf, hs, rLt, rAdd, tI, ew, endW, l4, e']
      | inr w =>
        obtain ⟨wh, wt, wm⟩ := w
        rw [ew] at e'
        simp [F_law_pair, g_law_pair, sSeq, sAsg, sIf, sRet, sNil, sDrop, sPar2, sPar3, sFor, sCellSet, sCellApp, sCellPut, sNever, eVar, eC, eOp, eB, eTup, eLst, aCons, aNil, eIf, eAnd, eOr, eNot, eChain, bAnd, bOr, bNot, bYes, eCB, eCall, eSl, oNone, oSome, eNeg, eIsi, eGet, eOne, eNoP, eBack, eLc, eUpd, eBoth, tName, tTup, tsCons, tsNil, bnd, ret, iSeq, iRng, iEn, iZp, iKey, defF, startD, bodyOut, wipeD, List.getElem?_cons_zero, List.getElem?_cons_succ, List.set_cons_zero, List.set_cons_succ, List.length_cons, List.length_nil, List.map_cons, List.map_nil, List.replicate_succ, List.replicate_zero, List.cons_append, List.nil_append, if_true, if_false, Bool.false_eq_true, reduceIte, Option.map_some, Option.map_none, Nat.reduceAdd, Nat.reduceSub, Nat.reduceEqDiff, dPr, enR, rIx, seqOf, i0, i1, a1, enPost, a2, enMv, rEq, kEq_int, hh, lim_eq, stepM, needsOf, hs, rLt, rAdd, tI, ew, endW, l4, e', enWL, leE]
end Pg
set_option Elab.async false
set_option linter.all false
set_option maxRecDepth 100000
set_option maxHeartbeats 4000000
/-! The pure part, c: tables made by insertion. -/
namespace Pg
open PySem PySem.Spec PyProof.Rows L2

theorem lookup_snoc (T : Tb) (k j : Int × Int) (e : En) : (T ++ [(k, e)]).lookup j = match T.lookup j with
    | some x => some x
    | none => if j = k then some e else none := by
  induction T with
  | nil =>
    by_cases h : j = k
    · subst h
      simp
    · have hb : (j == k) = false := beq_eq_false_iff_ne.mpr h
      simp [List.lookup_cons, hb, h]
  | cons x T ih =>
    obtain ⟨i, a⟩ := x
    rw [List.cons_append, List.lookup_cons, List.lookup_cons]
    cases h : j == i with
    | true => rfl
    | false => exact ih
abbrev Sub' (T T' : Tb) : Prop := ∀ k e, T.lookup k = some e → T'.lookup k = some e
theorem sub_snoc (T : Tb) (k : Int × Int) (e : En) : Sub' T (T ++ [(k, e)]) := fun j x h => by rw [lookup_snoc, h]
theorem lookup_new {T : Tb} {k : Int × Int} (h : T.lookup k = none) (e : En) : (T ++ [(k, e)]).lookup k = some e := by rw [lookup_snoc, h]; simp
def Agree (T T' : Tb) : Prop := ∀ k e e', T.lookup k = some e → T'.lookup k = some e' → e = e'
/-- a walk that comes to its end over T, seen over T' -/
theorem goW_agree {T T' : Tb} (ag : Agree T T') {back : List Int} : ∀ (ns : List Int) (k : Nat) (here turns : Int) (marks : List Int) (x : Wk ⊕ (Int × Int × List Int)), goW T back ns k here turns marks = x → (∀ q, x ≠ .inl (.need q)) →
    goW T' back ns k here turns marks = x ∨ ∃ q, goW T' back ns k here turns marks = .inl (.need q) ∧ T'.lookup q = none ∧ ∃ e, T.lookup q = some e
  | [], _, _, _, _, x, h, _ => .inl h
  | n :: ns, k, here, turns, marks, x, h, hx => by
    rw [goW_cons] at h
    cases e1 : T.lookup (here, n) with
    | none =>
      rw [e1] at h
      exact absurd h.symm (hx _)
    | some e =>
      rw [goW_cons]
      cases e2 : T'.lookup (here, n) with
      | none => exact .inr ⟨_, rfl, e2, e, e1⟩
      | some e' =>
        obtain rfl := ag _ _ _ e1 e2
        rw [e1] at h
        by_cases ht : e.to = -1
        · simp only [ht, if_true] at h ⊢
          exact .inl h
        · simp only [ht, if_false] at h ⊢
          exact goW_agree ag ns _ _ _ _ x h hx
theorem stepM_agree {T T' : Tb} (ag : Agree T T') {m : Mv} {s : Int} {e : En} (h : stepM T m s = .done e) : stepM T' m s = .done e ∨ ∃ q, stepM T' m s = .need q ∧ T'.lookup q = none ∧ ∃ e, T.lookup q = some e := by
  unfold stepM at h ⊢
  by_cases hh : m.here = -1
  · rw [if_pos hh] at h ⊢
    exact .inl h
  · rw [if_neg hh] at h ⊢
    cases w : goW T m.back (needsOf m s) 0 m.here 1 m.marks with
    | inl x =>
      rw [w] at h
      obtain rfl : x = .done e := h
      rcases goW_agree ag _ _ _ _ _ _ w (fun q z => by cases z) with h1 | ⟨q, h1, h2⟩
      · exact .inl (by rw [h1]; rfl)
      · exact .inr ⟨q, by rw [h1]; rfl, h2⟩
    | inr x =>
      rw [w] at h
      rcases goW_agree ag _ _ _ _ _ _ w (fun q z => by cases z) with h1 | ⟨q, h1, h2⟩
      · exact .inl (by rw [h1]; exact h)
      · exact .inr ⟨q, by rw [h1]; rfl, h2⟩
theorem sub_agree {T T' : Tb} (h : Sub' T T') : Agree T T' := fun k e e' h1 h2 => Option.some.inj ((h k e h1).symm.trans h2)
theorem stepM_mono {T T' : Tb} (h : Sub' T T') {m : Mv} {s : Int} {e : En} (d : stepM T m s = .done e) : stepM T' m s = .done e := by
  rcases stepM_agree (sub_agree h) d with h1 | ⟨q, _, h2, x, h3⟩
  · exact h1
  · rw [h q x h3] at h2
    cases h2
/-- tables made by moves over what is there -/
inductive Good (r : Rt) : Tb → Prop
  | nil : Good r []
  | snoc {T : Tb} {p s : Nat} {m : Mv} {e : En} : Good r T → p < r.length → s ≤ 3 → mvAt r p s = some m → T.lookup ((p : Int), (s : Int)) = none → stepM T m s = .done e → Good r (T ++ [(((p : Int), (s : Int)), e)])
/-- each entry is what its move gives over the table itself -/
theorem Good.fix {r : Rt} {T : Tb} (g : Good r T) : ∀ k e, T.lookup k = some e → ∃ (p s : Nat) (m : Mv), k = ((p : Int), (s : Int)) ∧ p < r.length ∧ s ≤ 3 ∧ mvAt r p s = some m ∧ stepM T m s = .done e := by
  induction g with
  | nil => intro k e h; cases h
  | @snoc T p s m e0 g h1 h2 h3 h4 h5 ih =>
    intro k e h
    have up := sub_snoc T ((p : Int), (s : Int)) e0
    rw [lookup_snoc] at h
    cases hk : T.lookup k with
    | some x =>
      rw [hk] at h
      cases h
      obtain ⟨p', s', m', a, b, c, d, f⟩ := ih k _ hk
      exact ⟨p', s', m', a, b, c, d, stepM_mono up f⟩
    | none =>
      rw [hk] at h
      simp only at h
      split at h
      · rename_i z
        cases h
        exact ⟨p, s, m, z, h1, h2, h3, stepM_mono up h5⟩
      · cases h
theorem natPair {p s p' s' : Nat} (h : ((p : Int), (s : Int)) = ((p' : Int), (s' : Int))) : p = p' ∧ s = s' := by
  injection h with h1 h2
  omega
theorem Good.agree {r : Rt} {T : Tb} (g : Good r T) : ∀ {T' : Tb}, Good r T' → Agree T T' := by
  induction g with
  | nil => intro T' _ k e e' h; cases h
  | @snoc T p s m e0 g h1 h2 h3 h4 h5 ih =>
    intro T' g' k e e' h h'
    rw [lookup_snoc] at h
    cases hk : T.lookup k with
    | some x =>
      rw [hk] at h
      cases h
      exact ih g' k _ _ hk h'
    | none =>
      rw [hk] at h
      simp only at h
      split at h
      · rename_i z
        cases h
        obtain ⟨p', s', m', a, b, c, d, f⟩ := g'.fix k e' h'
        rw [z] at a
        obtain ⟨rfl, rfl⟩ := natPair a
        rw [h3] at d
        cases d
        rcases stepM_agree (ih g') h5 with w | ⟨q, w, _⟩
        · rw [f] at w
          cases w
          rfl
        · rw [f] at w
          cases w
      · cases h
/-- the keys -/
theorem lookup_some_mem {T : Tb} {k : Int × Int} {e : En} (h : T.lookup k = some e) : k ∈ T.map (·.1) := by
  induction T with
  | nil => cases h
  | cons x T ih =>
    obtain ⟨i, a⟩ := x
    rw [List.lookup_cons] at h
    cases q : k == i with
    | true =>
      rw [beq_iff_eq.mp q]
      exact List.mem_cons_self
    | false =>
      rw [q] at h
      exact List.mem_cons_of_mem _ (ih h)
theorem mem_lookup {T : Tb} {k : Int × Int} (h : k ∈ T.map (·.1)) : ∃ e, T.lookup k = some e := by
  induction T with
  | nil => cases h
  | cons x T ih =>
    obtain ⟨i, a⟩ := x
    rw [List.lookup_cons]
    cases q : k == i with
    | true => exact ⟨a, rfl⟩
    | false =>
      rw [List.map_cons] at h
      rcases List.mem_cons.mp h with z | z
      · rw [z] at q
        simp at q
      · exact ih z
theorem Good.nodup {r : Rt} {T : Tb} (g : Good r T) : (T.map (·.1)).Nodup := by
  induction g with
  | nil => exact List.nodup_nil
  | @snoc T p s m e0 g h1 h2 h3 h4 h5 ih =>
    rw [List.map_append, List.nodup_append]
    refine ⟨ih, by simp, fun x hx y hy => ?_⟩
    simp only [List.map_cons, List.map_nil, List.mem_singleton] at hy
    subst hy
    intro z
    subst z
    obtain ⟨e, he⟩ := mem_lookup hx
    rw [h4] at he
    cases he
def pairsOf (n : Nat) : List (Int × Int) := (List.range n).flatMap fun (p : Nat) => (List.range 4).map fun (s : Nat) => ((p : Int), (s : Int))
theorem mem_pairs {n p s : Nat} (h1 : p < n) (h2 : s ≤ 3) : ((p : Int), (s : Int)) ∈ pairsOf n := List.mem_flatMap.mpr ⟨p, List.mem_range.mpr h1, List.mem_map.mpr ⟨s, List.mem_range.mpr (by omega), rfl⟩⟩
theorem pairs_mem {n : Nat} {k : Int × Int} (h : k ∈ pairsOf n) : ∃ p s : Nat, k = ((p : Int), (s : Int)) ∧ p < n ∧ s ≤ 3 := by
  obtain ⟨p, h1, h2⟩ := List.mem_flatMap.mp h
  obtain ⟨s, h3, h4⟩ := List.mem_map.mp h2
  have := List.mem_range.mp h3
  exact ⟨p, s, h4.symm, List.mem_range.mp h1, by omega⟩
theorem pairs_len (n : Nat) : (pairsOf n).length = 4 * n := by
  unfold pairsOf
  rw [List.length_flatMap]
  simp only [List.length_map, List.length_range, List.map_const', List.sum_replicate_nat]
  exact Nat.mul_comm _ _
theorem Good.len {r : Rt} {T : Tb} (g : Good r T) : T.length ≤ 4 * r.length := by
  have h := len_le_of_sub (T.map (·.1)) (pairsOf r.length) g.nodup fun k hk => by
    obtain ⟨e, he⟩ := mem_lookup hk
    obtain ⟨p, s, m, rfl, h1, h2, _⟩ := g.fix k e he
    exact mem_pairs h1 h2
  rw [List.length_map, pairs_len] at h
  exact h
theorem mvAt_ok {r : Rt} (h : rOk r) {p s : Nat} {m : Mv} (hm : mvAt r p s = some m) : m.ok r.length := by
  unfold mvAt at hm
  cases e : r[p]? with
  | none => rw [e] at hm; cases hm
  | some post =>
    rw [e] at hm
    exact h.mv post (List.mem_of_getElem? e) m (List.mem_of_getElem? hm)
theorem mvAt_some {r : Rt} (h : rOk r) {p s : Nat} (hp : p < r.length) (hs : s ≤ 3) : ∃ m, mvAt r p s = some m := by
  unfold mvAt
  rw [List.getElem?_eq_getElem hp]
  have := h.four r[p] (List.getElem_mem hp)
  exact ⟨r[p][s], List.getElem?_eq_getElem (by omega)⟩

/-! ### what holds of all entries -/
/-- a property of entries that moves keep -/
theorem goW_inv {T : Tb} {back : List Int} (A : Int → List Int → Prop) (B : En → Prop)
    (hstep : ∀ (here : Int) (turns : Int) (marks : List Int) (e : En) (k : Nat), A here marks → B e → e.to ≠ -1 → A e.to ((marks ++ e.marks).take 1001)) (hrest : ∀ (here : Int) (turns : Int) (marks : List Int) (e : En) (k : Nat), A here marks → B e → e.to = -1 → B ⟨-1, turns + e.turns, (marks ++ e.marks).take 1001, e.left ++ back.drop (k + 1)⟩)
    (hT : ∀ k e, T.lookup k = some e → B e) : ∀ (ns : List Int) (k : Nat) (here turns : Int) (marks : List Int), A here marks → match goW T back ns k here turns marks with
      | .inl (.done e) => B e
      | .inl (.need _) => True
      | .inr (h, _, m) => A h m
  | [], _, _, _, _, h => h
  | n :: ns, k, here, turns, marks, h => by
    rw [goW_cons]
    cases e1 : T.lookup (here, n) with
    | none => exact True.intro
    | some e =>
      by_cases ht : e.to = -1
      · simp only [ht, if_true]
        exact hrest here turns marks e k h (hT _ _ e1) ht
      · simp only [ht, if_false]
        exact goW_inv A B hstep hrest hT ns (k + 1) e.to _ _ (hstep here turns marks e k h (hT _ _ e1) ht)
theorem Good.all {r : Rt} (h : rOk r) (B : En → Prop) (A : Int → List Int → Prop) (start : ∀ m : Mv, m.ok r.length → m.here ≠ -1 → A m.here m.marks) (rest : ∀ m : Mv, m.ok r.length → B ⟨-1, 1, m.marks, m.back⟩)
    (hstep : ∀ here marks e, A here marks → B e → e.to ≠ -1 → A e.to ((marks ++ e.marks).take 1001)) (hrest : ∀ here turns marks e (back : List Int) k, A here marks → B e → e.to = -1 → sortsOk back → B ⟨-1, turns + e.turns, (marks ++ e.marks).take 1001, e.left ++ back.drop (k + 1)⟩)
    (fin : ∀ here turns marks, A here marks → B ⟨here, turns, marks, []⟩) {T : Tb} (g : Good r T) : ∀ k e, T.lookup k = some e → B e := by
  induction g with
  | nil => intro k e z; cases z
  | @snoc T p s m e0 g h1 h2 h3 h4 h5 ih =>
    intro k e z
    rw [lookup_snoc] at z
    cases hk : T.lookup k with
    | some x =>
      rw [hk] at z
      cases z
      exact ih k _ hk
    | none =>
      rw [hk] at z
      simp only at z
      split at z
      · cases z
        have ok := mvAt_ok h h3
        unfold stepM at h5
        by_cases hh : m.here = -1
        · rw [if_pos hh] at h5
          cases h5
          exact rest m ok
        · rw [if_neg hh] at h5
          have q := goW_inv (T := T) (back := m.back) A B (fun a b c d k => hstep a c d) (fun a b c d k x y w => hrest a b c d m.back k x y w ok.bk2) ih (needsOf m s) 0 m.here 1 m.marks (start m ok hh)
          cases w : goW T m.back (needsOf m s) 0 m.here 1 m.marks with
          | inl x =>
            rw [w] at q h5
            obtain rfl : x = .done e0 := h5
            exact q
          | inr x =>
            obtain ⟨a, b, c⟩ := x
            rw [w] at q h5
            cases h5
            exact fin _ _ _ q
      · cases z
theorem sorts_app {a b : List Int} (ha : sortsOk a) (hb : sortsOk b) : sortsOk (a ++ b) := fun i hi => (List.mem_append.mp hi).elim (ha i) (hb i)
theorem sorts_take {a : List Int} (n : Nat) (ha : sortsOk a) : sortsOk (a.take n) := fun i hi => ha i (List.mem_of_mem_take hi)
theorem sorts_drop {a : List Int} (n : Nat) (ha : sortsOk a) : sortsOk (a.drop n) := fun i hi => ha i (List.mem_of_mem_drop hi)
/-- ends are posts or -1; marks are sorts, at most 1001 -/
theorem Good.ends {r : Rt} (h : rOk r) {T : Tb} (g : Good r T) : ∀ k e, T.lookup k = some e → (-1 ≤ e.to ∧ e.to < r.length) ∧ sortsOk e.marks ∧ e.marks.length ≤ 1001 := by
  refine g.all h (fun e => (-1 ≤ e.to ∧ e.to < r.length) ∧ sortsOk e.marks ∧ e.marks.length ≤ 1001) (fun here marks => (-1 ≤ here ∧ here < r.length) ∧ sortsOk marks ∧ marks.length ≤ 1001) ?_ ?_ ?_ ?_ ?_
  · intro m ok _
    have := ok.mk1
    exact ⟨⟨ok.lo, ok.hi⟩, ok.mk2, by omega⟩
  · intro m ok
    have := ok.mk1
    exact ⟨⟨Int.le_refl _, by show (-1 : Int) < _; omega⟩, ok.mk2, by show m.marks.length ≤ _; omega⟩
  · intro here marks e a b _
    exact ⟨b.1, sorts_take _ (sorts_app a.2.1 b.2.1), List.length_take_le _ _⟩
  · intro here turns marks e back k a b _ _
    exact ⟨⟨Int.le_refl _, by show (-1 : Int) < _; omega⟩, sorts_take _ (sorts_app a.2.1 b.2.1), List.length_take_le _ _⟩
  · intro here turns marks a
    exact a
/-- what is left over is short -/
theorem goW_left {T : Tb} {back : List Int} (hb : back.length ≤ 3) {B : Nat} (hT : ∀ k e, T.lookup k = some e → e.left.length ≤ B) : ∀ (ns : List Int) (k : Nat) (here turns : Int) (marks : List Int) (e : En), goW T back ns k here turns marks = .inl (.done e) → e.left.length ≤ B + 3
  | [], _, _, _, _, _, h => by cases h
  | n :: ns, k, here, turns, marks, e, h => by
    rw [goW_cons] at h
    cases e1 : T.lookup (here, n) with
    | none => rw [e1] at h; cases h
    | some x =>
      rw [e1] at h
      by_cases ht : x.to = -1
      · simp only [ht, if_true] at h
        cases h
        have := hT _ _ e1
        show (x.left ++ back.drop (k + 1)).length ≤ _
        rw [List.length_append, List.length_drop]
        omega
      · simp only [ht, if_false] at h
        exact goW_left hb hT ns _ _ _ _ e h
theorem Good.left {r : Rt} (h : rOk r) {T : Tb} (g : Good r T) : ∀ k e, T.lookup k = some e → e.left.length ≤ 3 * T.length := by
  induction g with
  | nil => intro k e z; cases z
  | @snoc T p s m e0 g h1 h2 h3 h4 h5 ih =>
    intro k e z
    rw [List.length_append, List.length_singleton]
    rw [lookup_snoc] at z
    cases hk : T.lookup k with
    | some x =>
      rw [hk] at z
      cases z
      have := ih k _ hk
      omega
    | none =>
      rw [hk] at z
      simp only at z
      split at z
      · cases z
        have ok := mvAt_ok h h3
        unfold stepM at h5
        by_cases hh : m.here = -1
        · rw [if_pos hh] at h5
          cases h5
          have := ok.bk1
          show m.back.length ≤ _
          omega
        · rw [if_neg hh] at h5
          cases w : goW T m.back (needsOf m s) 0 m.here 1 m.marks with
          | inl x =>
            rw [w] at h5
            obtain rfl : x = .done e0 := h5
            have := goW_left ok.bk1 ih _ _ _ _ _ _ w
            omega
          | inr x =>
            rw [w] at h5
            cases h5
            exact Nat.zero_le _
      · cases z
theorem Good.small {r : Rt} (h : rOk r) {T : Tb} (g : Good r T) : smE T := fun k e z => by
  have h1 := g.ends h k e z
  have h2 := g.left h k e z
  have h3 := g.len
  have h4 := h.six
  exact ⟨h1.2.2, by omega⟩
/-- a foot ends at rest -/
theorem goW_foot {T : Tb} {back : List Int} (hT : ∀ p e, T.lookup (p, 3) = some e → e.to = -1) : ∀ (ns : List Int) (k : Nat) (here turns : Int) (marks : List Int) (x : Int × Int × List Int), goW T back (ns ++ [3]) k here turns marks ≠ .inr x
  | [], k, here, turns, marks, x => by
    rw [List.nil_append, goW_cons]
    cases e1 : T.lookup (here, 3) with
    | none => exact fun z => nomatch z
    | some e =>
      simp only [hT _ _ e1, if_true]
      exact fun z => nomatch z
  | n :: ns, k, here, turns, marks, x => by
    rw [List.cons_append, goW_cons]
    cases e1 : T.lookup (here, n) with
    | none => exact fun z => nomatch z
    | some e =>
      by_cases ht : e.to = -1
      · simp only [ht, if_true]
        exact fun z => nomatch z
      · simp only [ht, if_false]
        exact goW_foot hT ns _ _ _ _ x
theorem goW_done_to {T : Tb} {back : List Int} : ∀ (ns : List Int) (k : Nat) (here turns : Int) (marks : List Int) (e : En), goW T back ns k here turns marks = .inl (.done e) → e.to = -1
  | [], _, _, _, _, _, h => by cases h
  | n :: ns, k, here, turns, marks, e, h => by
    rw [goW_cons] at h
    cases e1 : T.lookup (here, n) with
    | none => rw [e1] at h; cases h
    | some x =>
      rw [e1] at h
      by_cases ht : x.to = -1
      · simp only [ht, if_true] at h
        cases h
        rfl
      · simp only [ht, if_false] at h
        exact goW_done_to ns _ _ _ _ e h
theorem Good.foot {r : Rt} {T : Tb} (g : Good r T) : ∀ p e, T.lookup (p, 3) = some e → e.to = -1 := by
  induction g with
  | nil => intro p e z; cases z
  | @snoc T p s m e0 g h1 h2 h3 h4 h5 ih =>
    intro q e z
    rw [lookup_snoc] at z
    cases hk : T.lookup (q, 3) with
    | some x =>
      rw [hk] at z
      cases z
      exact ih q _ hk
    | none =>
      rw [hk] at z
      simp only at z
      split at z
      · rename_i zz
        cases z
        injection zz with _ z3
        unfold stepM at h5
        by_cases hh : m.here = -1
        · rw [if_pos hh] at h5
          cases h5
          rfl
        · rw [if_neg hh] at h5
          have hn : needsOf m s = m.back ++ [3] := by
            unfold needsOf
            rw [if_neg (by omega)]
          rw [hn] at h5
          cases w : goW T m.back (m.back ++ [3]) 0 m.here 1 m.marks with
          | inl x =>
            rw [w] at h5
            obtain rfl : x = .done e0 := h5
            exact goW_done_to _ _ _ _ _ _ w
          | inr x => exact absurd w (goW_foot ih _ _ _ _ _ _)
      · cases z
end Pg
set_option Elab.async false
set_option linter.all false
set_option maxRecDepth 100000
set_option maxHeartbeats 4000000
/-! The pure part, d: the law's table. -/
namespace Pg
open PySem PySem.Spec PyProof.Rows L2

/-- a loop that runs to its end, told by a pure fold -/
theorem for_fold {α β : Type} {tg : TD} {g : ES} (enc : β → D) (f : α → β → α) (R : α → Env → D → Prop) : ∀ (l : List β) (a : α) (ρ : Env) (s : D), (∀ (a : α) (x : β) (ρ : Env) (s : D), x ∈ l → R a ρ s → ∃ ρ1 ρ2 s2, tg (enc x) ρ = some ρ1 ∧ g ρ1 s = some (.nx ρ2, s2) ∧ R (f a x) ρ2 s2) → R a ρ s →
    ∃ ρ' s', forGo tg g (l.map enc) ρ s = some (.nx ρ', s') ∧ R (l.foldl f a) ρ' s'
  | [], a, ρ, s, _, h => ⟨ρ, s, rfl, h⟩
  | x :: l, a, ρ, s, H, h => by
    obtain ⟨ρ1, ρ2, s2, h1, h2, h3⟩ := H a x ρ s List.mem_cons_self h
    obtain ⟨ρ', s', h4, h5⟩ := for_fold enc f R l (f a x) ρ2 s2 (fun a y ρ s hy => H a y ρ s (List.mem_cons_of_mem _ hy)) h3
    refine ⟨ρ', s', ?_, h5⟩
    rw [List.map_cons]
    unfold forGo
    rw [h1]
    show bnd (g ρ1 s) _ = _
    rw [h2]
    exact h4
theorem for_foldI {α β : Type} {tg : TD} {g : ES} (enc : β → D) (f : α → β → α) (R : Nat → α → Env → D → Prop) : ∀ (l : List β) (i : Nat) (a : α) (ρ : Env) (s : D), (∀ (j : Nat) (a : α) (x : β) (ρ : Env) (s : D), j < i + l.length → x ∈ l → R j a ρ s → ∃ ρ1 ρ2 s2, tg (enc x) ρ = some ρ1 ∧ g ρ1 s = some (.nx ρ2, s2) ∧ R (j + 1) (f a x) ρ2 s2) → R i a ρ s →
    ∃ ρ' s', forGo tg g (l.map enc) ρ s = some (.nx ρ', s') ∧ R (i + l.length) (l.foldl f a) ρ' s'
  | [], i, a, ρ, s, _, h => ⟨ρ, s, rfl, h⟩
  | x :: l, i, a, ρ, s, H, h => by
    obtain ⟨ρ1, ρ2, s2, h1, h2, h3⟩ := H i a x ρ s (by rw [List.length_cons]; omega) List.mem_cons_self h
    obtain ⟨ρ', s', h4, h5⟩ := for_foldI enc f R l (i + 1) (f a x) ρ2 s2 (fun j a y ρ s hj hy => H j a y ρ s (by rw [List.length_cons]; omega) (List.mem_cons_of_mem _ hy)) h3
    refine ⟨ρ', s', ?_, by rw [List.length_cons, show i + (l.length + 1) = i + 1 + l.length by omega]; exact h5⟩
    rw [List.map_cons]
    unfold forGo
    rw [h1]
    show bnd (g ρ1 s) _ = _
    rw [h2]
    exact h4
theorem foldl_app {α β : Type} (f : α → List β) : ∀ (l : List α) (init : List β), l.foldl (fun acc x => acc ++ f x) init = init ++ l.flatMap f
  | [], init => by simp
  | x :: l, init => by rw [List.foldl_cons, foldl_app f l, List.flatMap_cons, List.append_assoc]

theorem rng_eval {fe : E} {ρ : Env} {s s' : D} {n : Nat} (h : fe ρ s = some (.int (n : Int), s')) (hn : n ≤ 1000) : iRng fe ρ s = some ((List.range n).map fun (i : Nat) => D.int i, s') := by
  have h' : fe ρ s = some (.int (Int.ofNat n), s') := h
  unfold iRng
  rw [h']
  show (if n ≤ 1000 then some ((List.range n).map fun (i : Nat) => D.int i, s') else none) = _
  rw [if_pos hn]
/-- one pair is looked at -/
def ins (r : Rt) (T : Tb) (k : Int × Int) : Tb := match T.lookup k with
  | some _ => T
  | none => match mvAt r k.1.toNat k.2.toNat with
    | some m => match stepM T m k.2 with
      | .done e => T ++ [(k, e)]
      | .need _ => T
    | none => T
def roundT (r : Rt) (T : Tb) : Tb := (pairsOf r.length).foldl (ins r) T
def tableT (r : Rt) : Tb := (List.range (4 * r.length + 1)).foldl (fun T _ => roundT r T) []
theorem ins_good {r : Rt} {T : Tb} (g : Good r T) {k : Int × Int} (hk : k ∈ pairsOf r.length) : Good r (ins r T k) := by
  obtain ⟨p, s, rfl, h1, h2⟩ := pairs_mem hk
  unfold ins
  cases e1 : T.lookup ((p : Int), (s : Int)) with
  | some x => exact g
  | none =>
    have a : ((p : Int), (s : Int)).1.toNat = p := by simp
    have b : ((p : Int), (s : Int)).2.toNat = s := by simp
    rw [a, b]
    cases e2 : mvAt r p s with
    | none => exact g
    | some m =>
      simp only
      cases e3 : stepM T m (s : Int) with
      | need q => exact g
      | done e => exact .snoc g h1 h2 e2 e1 e3
theorem ins_sub (r : Rt) (T : Tb) (k : Int × Int) : Sub' T (ins r T k) := by
  intro j e h
  unfold ins
  cases e1 : T.lookup k with
  | some x => exact h
  | none =>
    simp only
    cases e2 : mvAt r k.1.toNat k.2.toNat with
    | none => exact h
    | some m =>
      simp only
      cases e3 : stepM T m k.2 with
      | need q => exact h
      | done x => exact sub_snoc _ _ _ _ _ h
theorem fold_good {r : Rt} : ∀ (l : List (Int × Int)) {T : Tb}, Good r T → (∀ k ∈ l, k ∈ pairsOf r.length) → Good r (l.foldl (ins r) T) ∧ Sub' T (l.foldl (ins r) T)
  | [], T, g, _ => ⟨g, fun _ _ h => h⟩
  | k :: l, T, g, h => by
    obtain ⟨h1, h2⟩ := fold_good l (ins_good g (h k List.mem_cons_self)) fun q hq => h q (List.mem_cons_of_mem _ hq)
    exact ⟨h1, fun j e z => h2 j e (ins_sub r T k j e z)⟩
theorem round_good {r : Rt} {T : Tb} (g : Good r T) : Good r (roundT r T) := (fold_good _ g fun _ h => h).1
theorem round_sub {r : Rt} {T : Tb} (g : Good r T) : Sub' T (roundT r T) := (fold_good _ g fun _ h => h).2
theorem table_good (r : Rt) : Good r (tableT r) := by
  unfold tableT
  have : ∀ (l : List Nat) (T : Tb), Good r T → Good r (l.foldl (fun T _ => roundT r T) T) := by
    intro l
    induction l with
    | nil => exact fun T g => g
    | cons x l ih => exact fun T g => ih _ (round_good g)
  exact this _ _ .nil

/-! ### what the def computes -/
theorem plN_leE (e : En) : plN 5 (leE e) = true := by
  unfold leE
  rw [plN_lst]
  simp [plN_int, plN_tI]
theorem plN_enR (r : Rt) : plN 8 (enR r) = true := by
  unfold enR
  rw [plN_tup, List.all_eq_true]
  intro x hx
  obtain ⟨p, _, rfl⟩ := List.mem_map.mp hx
  unfold enPost
  rw [plN_tup, List.all_eq_true]
  intro y hy
  obtain ⟨m, _, rfl⟩ := List.mem_map.mp hy
  unfold enMv
  rw [plN_tup]
  simp [plN_int, plN_tI]
theorem put_new {T : Tb} {k : Int × Int} (h : T.lookup k = none) (e : En) : putP (T.map fun x => (x.1, leE x.2)) k (leE e) = (T ++ [(k, e)]).map fun x => (x.1, leE x.2) := by
  unfold putP
  rw [lookup_map, h]
  simp
theorem ins_eq {r : Rt} (h : rOk r) {T : Tb} (g : Good r T) {k : Int × Int} (hk : k ∈ pairsOf r.length) (prs x3 x4 x6 x7 : Option D) :
    ∃ y6, b3_law_table [some (enR r), some .cell, prs, x3, x4, some (dPr k), x6, x7] (encL T) = some (.nx [some (enR r), some .cell, prs, x3, x4, some (dPr k), y6, x7], encL (ins r T k)) := by
  obtain ⟨p, s, rfl, h1, h2⟩ := pairs_mem hk
  obtain ⟨m, hm⟩ := mvAt_some h h1 h2
  have ok := mvAt_ok h hm
  have lp := law_pair_eq (g.small h) hm ok
  have look := lookup_map leE ((p : Int), (s : Int)) T
  have six := h.six
  have len := g.len
  unfold ins
  cases e1 : T.lookup ((p : Int), (s : Int)) with
  | some x =>
    rw [e1] at look
    have look' : (T.map fun x => (x.1, leE x.2)).lookup ((p : Int), (s : Int)) = some (leE x) := look
    exact ⟨_, by simp [b3_law_table, sSeq, sAsg, sIf, sRet, sNil, sDrop, sPar2, sPar3, sFor, sCellSet, sCellApp, sCellPut, sNever, eVar, eC, eOp, eB, eTup, eLst, aCons, aNil, eIf, eAnd, eOr, eNot, eChain, bAnd, bOr, bNot, bYes, eCB, eCall, eSl, oNone, oSome, eNeg, eIsi, eGet, eOne, eNoP, eBack, eLc, eUpd, eBoth, tName, tTup, tsCons, tsNil, bnd, ret, iSeq, iRng, iEn, iZp, iKey, defF, startD, bodyOut, wipeD, List.getElem?_cons_zero, List.getElem?_cons_succ, List.set_cons_zero, List.set_cons_succ, List.length_cons, List.length_nil, List.map_cons, List.map_nil, List.replicate_succ, List.replicate_zero, List.cons_append, List.nil_append, if_true, if_false, Bool.false_eq_true, reduceIte, Option.map_some, Option.map_none, Nat.reduceAdd, Nat.reduceSub, Nat.reduceEqDiff, rDNotIn, kinOf, dicOf, dPr, encL, look', rNotN]; rfl⟩
  | none =>
    rw [e1] at look
    have look' : (T.map fun x => (x.1, leE x.2)).lookup ((p : Int), (s : Int)) = none := look
    have a : ((p : Int), (s : Int)).1.toNat = p := by simp
    have b : ((p : Int), (s : Int)).2.toNat = s := by simp
    rw [a, b, hm]
    simp only
    have pn := put_new e1
    cases e3 : stepM T m (s : Int) with
    | need q =>
      rw [e3] at lp
      unfold encL dPr at lp
      exact ⟨_, by simp [b3_law_table, sSeq, sAsg, sIf, sRet, sNil, sDrop, sPar2, sPar3, sFor, sCellSet, sCellApp, sCellPut, sNever, eVar, eC, eOp, eB, eTup, eLst, aCons, aNil, eIf, eAnd, eOr, eNot, eChain, bAnd, bOr, bNot, bYes, eCB, eCall, eSl, oNone, oSome, eNeg, eIsi, eGet, eOne, eNoP, eBack, eLc, eUpd, eBoth, tName, tTup, tsCons, tsNil, bnd, ret, iSeq, iRng, iEn, iZp, iKey, defF, startD, bodyOut, wipeD, List.getElem?_cons_zero, List.getElem?_cons_succ, List.set_cons_zero, List.set_cons_succ, List.length_cons, List.length_nil, List.map_cons, List.map_nil, List.replicate_succ, List.replicate_zero, List.cons_append, List.nil_append, if_true, if_false, Bool.false_eq_true, reduceIte, Option.map_some, Option.map_none, Nat.reduceAdd, Nat.reduceSub, Nat.reduceEqDiff, rDNotIn, kinOf, dicOf, dPr, encL, look', rNotN, lp, enWL]; rfl⟩
    | done e =>
      rw [e3] at lp
      unfold encL dPr at lp
      have le : leE e = .lst [.int e.to, .int e.turns, tI e.marks, tI e.left] := rfl
      have lp2 : enWL (.done e) = leE e := rfl
      rw [lp2] at lp
      have rn : rNotN (.dP (T.map fun x => (x.1, leE x.2))) (leE e) .non = some (.bl true) := rfl
      have ll : T.length ≤ 100000 := by omega
      exact ⟨some (leE e), by simp [b3_law_table, sSeq, sAsg, sIf, sRet, sNil, sDrop, sPar2, sPar3, sFor, sCellSet, sCellApp, sCellPut, sNever, eVar, eC, eOp, eB, eTup, eLst, aCons, aNil, eIf, eAnd, eOr, eNot, eChain, bAnd, bOr, bNot, bYes, eCB, eCall, eSl, oNone, oSome, eNeg, eIsi, eGet, eOne, eNoP, eBack, eLc, eUpd, eBoth, tName, tTup, tsCons, tsNil, bnd, ret, iSeq, iRng, iEn, iZp, iKey, defF, startD, bodyOut, wipeD, List.getElem?_cons_zero, List.getElem?_cons_succ, List.set_cons_zero, List.set_cons_succ, List.length_cons, List.length_nil, List.map_cons, List.map_nil, List.replicate_succ, List.replicate_zero, List.cons_append, List.nil_append, if_true, if_false, Bool.false_eq_true, reduceIte, Option.map_some, Option.map_none, Nat.reduceAdd, Nat.reduceSub, Nat.reduceEqDiff, rDNotIn, kinOf, dicOf, dPr, encL, look', lp, rn, pn, lim_eq, ll]⟩
theorem pairs_eq {r : Rt} (h : rOk r) : ∃ x3, forGo (tName 3) b2_law_table ((List.range r.length).map fun (i : Nat) => D.int i) [some (enR r), some .cell, some (.lst []), none, none, none, none, none] (.dP []) =
    some (.nx [some (enR r), some .cell, some (.lst ((pairsOf r.length).map dPr)), x3, none, none, none, none], .dP []) := by
  have six := h.six
  obtain ⟨ρ', s', e, x3, rfl, rfl, _⟩ := for_foldI (tg := tName 3) (g := b2_law_table) (fun (i : Nat) => D.int i) (fun (l : List (Int × Int)) (p : Nat) => l ++ (List.range 4).map fun (s : Nat) => ((p : Int), (s : Int)))
    (fun i l ρ s => ∃ x3, ρ = [some (enR r), some .cell, some (.lst (l.map dPr)), x3, none, none, none, none] ∧ s = .dP [] ∧ l.length = 4 * i) (List.range r.length) 0 [] [some (enR r), some .cell, some (.lst []), none, none, none, none, none] (.dP []) (fun j l p ρ s hj hp hR => by
      obtain ⟨x3, rfl, rfl, hl⟩ := hR
      rw [List.length_range] at hj
      have lc : lcGo (tName 7) bYes e1_law_table [some (enR r), some .cell, some (.lst (l.map dPr)), some (.int p), none, none, none, none] ([0, 1, 2, 3].map D.int) (.dP []) = some ([0, 1, 2, 3].map fun (i : Int) => dPr (p, i), .dP []) := by
        have := lc_map (tg := tName 7) (te := e1_law_table) (ρ := [some (enR r), some .cell, some (.lst (l.map dPr)), some (.int p), none, none, none, none]) (s := .dP []) (fun d => .tup [.int p, d]) (xs := [0, 1, 2, 3].map D.int) fun x hx => by
          refine ⟨_, rfl, ?_⟩
          simp [e1_law_table, sSeq, sAsg, sIf, sRet, sNil, sDrop, sPar2, sPar3, sFor, sCellSet, sCellApp, sCellPut, sNever, eVar, eC, eOp, eB, eTup, eLst, aCons, aNil, eIf, eAnd, eOr, eNot, eChain, bAnd, bOr, bNot, bYes, eCB, eCall, eSl, oNone, oSome, eNeg, eIsi, eGet, eOne, eNoP, eBack, eLc, eUpd, eBoth, tName, tTup, tsCons, tsNil, bnd, ret, iSeq, iRng, iEn, iZp, iKey, defF, startD, bodyOut, wipeD, List.getElem?_cons_zero, List.getElem?_cons_succ, List.set_cons_zero, List.set_cons_succ, List.length_cons, List.length_nil, List.map_cons, List.map_nil, List.replicate_succ, List.replicate_zero, List.cons_append, List.nil_append, if_true, if_false, Bool.false_eq_true, reduceIte, Option.map_some, Option.map_none, Nat.reduceAdd, Nat.reduceSub, Nat.reduceEqDiff, lim_eq]
        rw [this, List.map_map]
        rfl
      simp only [List.map_cons, List.map_nil] at lc
      have ll : l.length + 4 ≤ 100000 := by omega
      refine ⟨_, _, _, rfl, ?_, some (.int p), rfl, rfl, ?_⟩
      · simp [b2_law_table, sSeq, sAsg, sIf, sRet, sNil, sDrop, sPar2, sPar3, sFor, sCellSet, sCellApp, sCellPut, sNever, eVar, eC, eOp, eB, eTup, eLst, aCons, aNil, eIf, eAnd, eOr, eNot, eChain, bAnd, bOr, bNot, bYes, eCB, eCall, eSl, oNone, oSome, eNeg, eIsi, eGet, eOne, eNoP, eBack, eLc, eUpd, eBoth, tName, tTup, tsCons, tsNil, bnd, ret, iSeq, iRng, iEn, iZp, iKey, defF, startD, bodyOut, wipeD, List.getElem?_cons_zero, List.getElem?_cons_succ, List.set_cons_zero, List.set_cons_succ, List.length_cons, List.length_nil, List.map_cons, List.map_nil, List.replicate_succ, List.replicate_zero, List.cons_append, List.nil_append, if_true, if_false, Bool.false_eq_true, reduceIte, Option.map_some, Option.map_none, Nat.reduceAdd, Nat.reduceSub, Nat.reduceEqDiff, lim_eq, lc, rAdd, ll, dPr]
        rfl
      · rw [List.length_append, List.length_map, List.length_range]
        omega) ⟨none, rfl, rfl, rfl⟩
  refine ⟨x3, ?_⟩
  rw [e, foldl_app]
  rfl
theorem loop_eq {r : Rt} (h : rOk r) : ∀ (l : List Nat) (T : Tb) (x3 x4 x5 x6 : Option D), Good r T → ∃ y4 y5 y6, forGo (tName 4) b4_law_table (l.map fun (i : Nat) => D.int i) [some (enR r), some .cell, some (.lst ((pairsOf r.length).map dPr)), x3, x4, x5, x6, none] (encL T) =
    some (.nx [some (enR r), some .cell, some (.lst ((pairsOf r.length).map dPr)), x3, y4, y5, y6, none], encL (l.foldl (fun T _ => roundT r T) T)) := by
  intro l T x3 x4 x5 x6 g
  obtain ⟨ρ', s', e, a, b, c, rfl, rfl, _⟩ := for_fold (tg := tName 4) (g := b4_law_table) (fun (i : Nat) => D.int i) (fun (T : Tb) (_ : Nat) => roundT r T)
    (fun T ρ s => ∃ x4 x5 x6, ρ = [some (enR r), some .cell, some (.lst ((pairsOf r.length).map dPr)), x3, x4, x5, x6, none] ∧ s = encL T ∧ Good r T) l T [some (enR r), some .cell, some (.lst ((pairsOf r.length).map dPr)), x3, x4, x5, x6, none] (encL T) (fun T i ρ s _ hR => by
      obtain ⟨x4, x5, x6, rfl, rfl, g⟩ := hR
      obtain ⟨ρ', s', e, a, b, rfl, rfl, g'⟩ := for_fold (tg := tName 5) (g := b3_law_table) dPr (ins r)
        (fun T ρ s => ∃ x5 x6, ρ = [some (enR r), some .cell, some (.lst ((pairsOf r.length).map dPr)), x3, some (.int i), x5, x6, none] ∧ s = encL T ∧ Good r T) (pairsOf r.length) T [some (enR r), some .cell, some (.lst ((pairsOf r.length).map dPr)), x3, some (.int i), x5, x6, none] (encL T) (fun T k ρ s hk hR => by
          obtain ⟨x5, x6, rfl, rfl, g⟩ := hR
          obtain ⟨y6, e⟩ := ins_eq h g hk (some (.lst ((pairsOf r.length).map dPr))) x3 (some (.int i)) x6 none
          exact ⟨_, _, _, rfl, e, _, _, rfl, rfl, ins_good g hk⟩) ⟨_, _, rfl, rfl, g⟩
      refine ⟨_, _, _, rfl, ?_, some (.int i), a, b, rfl, rfl, g'⟩
      unfold b4_law_table
      show bnd (iSeq (eVar 2) [some (enR r), some .cell, some (.lst ((pairsOf r.length).map dPr)), x3, some (.int i), x5, x6, none] (encL T)) _ = _
      exact e) ⟨_, _, _, rfl, rfl, g⟩
  exact ⟨a, b, c, e⟩
theorem law_table_eq {r : Rt} (h : rOk r) (s : D) : F_law_table [enR r] s = some (encL (tableT r), s) := by
  have six := h.six
  obtain ⟨x3, e1⟩ := pairs_eq h
  obtain ⟨x4, x5, x6, e2⟩ := loop_eq h (List.range (4 * r.length + 1)) [] x3 none none none .nil
  have hl : ((pairsOf r.length).map dPr).length = 4 * r.length := by rw [List.length_map, pairs_len]
  have i1 : iRng (eCB rLen2 (aCons (eVar 0) aNil)) [some (enR r), some .cell, some (.lst []), none, none, none, none, none] (.dP []) = some ((List.range r.length).map fun (i : Nat) => D.int i, .dP []) := by
    refine rng_eval ?_ (by omega)
    simp [sSeq, sAsg, sIf, sRet, sNil, sDrop, sPar2, sPar3, sFor, sCellSet, sCellApp, sCellPut, sNever, eVar, eC, eOp, eB, eTup, eLst, aCons, aNil, eIf, eAnd, eOr, eNot, eChain, bAnd, bOr, bNot, bYes, eCB, eCall, eSl, oNone, oSome, eNeg, eIsi, eGet, eOne, eNoP, eBack, eLc, eUpd, eBoth, tName, tTup, tsCons, tsNil, bnd, ret, iSeq, iRng, iEn, iZp, iKey, defF, startD, bodyOut, wipeD, List.getElem?_cons_zero, List.getElem?_cons_succ, List.set_cons_zero, List.set_cons_succ, List.length_cons, List.length_nil, List.map_cons, List.map_nil, List.replicate_succ, List.replicate_zero, List.cons_append, List.nil_append, if_true, if_false, Bool.false_eq_true, reduceIte, Option.map_some, Option.map_none, Nat.reduceAdd, Nat.reduceSub, Nat.reduceEqDiff, enR, rLen2]
  have i2 : iRng (eOp rAdd (eCB rLen2 (aCons (eVar 2) aNil)) (eC (.int 1))) [some (enR r), some .cell, some (.lst ((pairsOf r.length).map dPr)), x3, none, none, none, none] (.dP []) = some ((List.range (4 * r.length + 1)).map fun (i : Nat) => D.int i, .dP []) := by
    refine rng_eval ?_ (by omega)
    have hl' := hl
    rw [List.length_map] at hl'
    simp [sSeq, sAsg, sIf, sRet, sNil, sDrop, sPar2, sPar3, sFor, sCellSet, sCellApp, sCellPut, sNever, eVar, eC, eOp, eB, eTup, eLst, aCons, aNil, eIf, eAnd, eOr, eNot, eChain, bAnd, bOr, bNot, bYes, eCB, eCall, eSl, oNone, oSome, eNeg, eIsi, eGet, eOne, eNoP, eBack, eLc, eUpd, eBoth, tName, tTup, tsCons, tsNil, bnd, ret, iSeq, iRng, iEn, iZp, iKey, defF, startD, bodyOut, wipeD, List.getElem?_cons_zero, List.getElem?_cons_succ, List.set_cons_zero, List.set_cons_succ, List.length_cons, List.length_nil, List.map_cons, List.map_nil, List.replicate_succ, List.replicate_zero, List.cons_append, List.nil_append, if_true, if_false, Bool.false_eq_true, reduceIte, Option.map_some, Option.map_none, Nat.reduceAdd, Nat.reduceSub, Nat.reduceEqDiff, rLen2, rAdd, hl']
  have z : encL [] = .dP [] := rfl
  rw [z] at e2
  have body : g_law_table [some (enR r), some .cell, some (.lst []), none, none, none, none, none] (.dP []) = some (.rt .cell, encL (tableT r)) := by
    unfold g_law_table sSeq sFor
    rw [i1]
    simp only [bnd_some]
    rw [e1]
    simp only [bnd_some]
    rw [i2]
    simp only [bnd_some]
    rw [e2]
    simp only [bnd_some, sRet, eVar, List.getElem?_cons_zero, List.getElem?_cons_succ]
    unfold tableT
    simp only
  have n1 : nc (enR r) = true := plN_enR r
  have a1 : ((tableT r).map fun x => (x.1, leE x.2)).all (fun e => plN 5 e.2) = true := List.all_eq_true.mpr fun x hx => by
    obtain ⟨y, _, rfl⟩ := List.mem_map.mp hx
    exact plN_leE y.2
  unfold F_law_table
  simp only [n1, if_true, body, encL, a1]
end Pg
set_option Elab.async false
set_option linter.all false
set_option maxRecDepth 100000
set_option maxHeartbeats 4000000
/-! The pure part, e: calm routines: what their tables hold; marks are few. -/
namespace Pg
open PySem PySem.Spec PyProof.Rows L2

structure calm (r : Rt) : Prop where
  ok : rOk r
  low : ∀ (p s : Nat) (m : Mv), mvAt r p s = some m → s < 3 → ∀ b ∈ m.back, b < (s : Int)

/-! ### all pairs of a post and a sort are there -/
theorem ins_has {r : Rt} {T : Tb} {p s : Nat} {m : Mv} {e : En} (hm : mvAt r p s = some m) (hd : stepM T m (s : Int) = .done e) : ∃ x, (ins r T ((p : Int), (s : Int))).lookup ((p : Int), (s : Int)) = some x := by
  unfold ins
  cases e1 : T.lookup ((p : Int), (s : Int)) with
  | some x => exact ⟨x, e1⟩
  | none =>
    have a : ((p : Int), (s : Int)).1.toNat = p := by simp
    have b : ((p : Int), (s : Int)).2.toNat = s := by simp
    simp only
    rw [a, b, hm]
    simp only
    rw [hd]
    exact ⟨e, lookup_new e1 e⟩
theorem fold_has {r : Rt} {p s : Nat} {m : Mv} (hm : mvAt r p s = some m) : ∀ (l : List (Int × Int)) (T : Tb), Good r T → (∀ k ∈ l, k ∈ pairsOf r.length) → ((p : Int), (s : Int)) ∈ l → (∃ e, stepM T m (s : Int) = .done e) → ∃ x, (l.foldl (ins r) T).lookup ((p : Int), (s : Int)) = some x
  | [], _, _, _, h, _ => nomatch h
  | k :: l, T, g, hl, hk, ⟨e, he⟩ => by
    have g1 := ins_good g (hl k List.mem_cons_self)
    have hl2 : ∀ q ∈ l, q ∈ pairsOf r.length := fun q hq => hl q (List.mem_cons_of_mem _ hq)
    rcases List.mem_cons.mp hk with h | h
    · subst h
      obtain ⟨x, hx⟩ := ins_has hm he
      exact ⟨x, (fold_good l g1 hl2).2 _ _ hx⟩
    · exact fold_has hm l _ g1 hl2 h ⟨e, stepM_mono (ins_sub r T k) he⟩
theorem round_has {r : Rt} {T : Tb} {p s : Nat} {m : Mv} (g : Good r T) (hp : p < r.length) (hs : s ≤ 3) (hm : mvAt r p s = some m) (hd : ∃ e, stepM T m (s : Int) = .done e) : ∃ x, (roundT r T).lookup ((p : Int), (s : Int)) = some x :=
  fold_has hm _ T g (fun _ h => h) (mem_pairs hp hs) hd
/-- a walk over needs that are all there -/
theorem goW_total {r : Rt} (h : rOk r) {T : Tb} (g : Good r T) {back : List Int} : ∀ (ns : List Int) (k : Nat) (here turns : Int) (marks : List Int), (∀ n ∈ ns, ∀ p : Nat, p < r.length → ∃ e, T.lookup ((p : Int), n) = some e) → 0 ≤ here ∧ here < r.length →
    ∀ q, goW T back ns k here turns marks ≠ .inl (.need q)
  | [], _, _, _, _, _, _, q => fun z => nomatch z
  | n :: ns, k, here, turns, marks, H, hh, q => by
    obtain ⟨e, he⟩ := H n List.mem_cons_self here.toNat (by omega)
    have e2 : ((here.toNat : Nat) : Int) = here := by omega
    rw [e2] at he
    rw [goW_cons, he]
    have ends := g.ends h _ _ he
    by_cases ht : e.to = -1
    · simp only [ht, if_true]
      exact fun z => nomatch z
    · simp only [ht, if_false]
      exact goW_total h g ns _ _ _ _ (fun x hx => H x (List.mem_cons_of_mem _ hx)) (by omega) q
theorem stepM_total {r : Rt} (h : rOk r) {T : Tb} (g : Good r T) {m : Mv} (ok : m.ok r.length) {s : Int} (H : ∀ n ∈ needsOf m s, ∀ p : Nat, p < r.length → ∃ e, T.lookup ((p : Int), n) = some e) : ∃ e, stepM T m s = .done e := by
  unfold stepM
  by_cases hh : m.here = -1
  · rw [if_pos hh]
    exact ⟨_, rfl⟩
  · rw [if_neg hh]
    have lo := ok.lo
    have hi := ok.hi
    have q := goW_total h g (back := m.back) (needsOf m s) 0 m.here 1 m.marks H (by omega)
    cases w : goW T m.back (needsOf m s) 0 m.here 1 m.marks with
    | inl x =>
      cases x with
      | need k => exact absurd w (q k)
      | done e => exact ⟨e, rfl⟩
    | inr x =>
      obtain ⟨a, b, c⟩ := x
      exact ⟨_, rfl⟩
def itT (r : Rt) (k : Nat) : Tb := (List.range k).foldl (fun T _ => roundT r T) []
theorem itT_succ (r : Rt) (k : Nat) : itT r (k + 1) = roundT r (itT r k) := by
  unfold itT
  rw [List.range_succ, List.foldl_append]
  rfl
theorem itT_good (r : Rt) : ∀ k, Good r (itT r k)
  | 0 => .nil
  | k + 1 => by rw [itT_succ]; exact round_good (itT_good r k)
theorem itT_sub (r : Rt) : ∀ (j k : Nat), Sub' (itT r k) (itT r (k + j))
  | 0, k => fun _ _ h => h
  | j + 1, k => by
    rw [show k + (j + 1) = (k + j) + 1 by omega, itT_succ]
    exact fun q e h => round_sub (itT_good r _) q e (itT_sub r j k q e h)
theorem calm_round {r : Rt} (c : calm r) : ∀ (s : Nat), s < 3 → ∀ (j p : Nat), j ≤ s → p < r.length → ∃ e, (itT r (s + 1)).lookup ((p : Int), (j : Int)) = some e
  | s, hs, j, p, hj, hp => by
    obtain ⟨m, hm⟩ := mvAt_some c.ok hp (by omega : j ≤ 3)
    have ok := mvAt_ok c.ok hm
    rw [itT_succ]
    refine round_has (itT_good r s) hp (by omega) hm (stepM_total c.ok (itT_good r s) ok fun n hn q hq => ?_)
    have hlt : ((j : Nat) : Int) < 3 := by omega
    unfold needsOf at hn
    rw [if_pos hlt] at hn
    have h1 := c.low p j m hm (by omega) n hn
    have h2 := ok.bk2 n hn
    cases s with
    | zero => omega
    | succ s =>
      obtain ⟨e, he⟩ := calm_round c s (by omega) n.toNat q (by omega) hq
      have e2 : ((n.toNat : Nat) : Int) = n := by omega
      rw [e2] at he
      exact ⟨e, he⟩
theorem tableT_it (r : Rt) : tableT r = itT r (4 * r.length + 1) := rfl
theorem calm_has {r : Rt} (c : calm r) {p s : Nat} (hp : p < r.length) (hs : s < 3) : ∃ e, (tableT r).lookup ((p : Int), (s : Int)) = some e := by
  obtain ⟨e, he⟩ := calm_round c 2 (by omega) s p (by omega) hp
  have one := c.ok.one
  rw [tableT_it, show 4 * r.length + 1 = 3 + (4 * r.length - 2) by omega]
  exact ⟨e, itT_sub r _ 3 _ _ he⟩
/-- what rests at once is there -/
theorem rest_has {r : Rt} (h : rOk r) {p s : Nat} {m : Mv} (hp : p < r.length) (hs : s ≤ 3) (hm : mvAt r p s = some m) (hh : m.here = -1) : ∃ e, (tableT r).lookup ((p : Int), (s : Int)) = some e := by
  have d : stepM (itT r 0) m (s : Int) = .done ⟨-1, 1, m.marks, m.back⟩ := by
    unfold stepM
    rw [if_pos hh]
  obtain ⟨e, he⟩ := round_has (itT_good r 0) hp hs hm ⟨_, d⟩
  rw [← itT_succ] at he
  rw [tableT_it, show 4 * r.length + 1 = (0 + 1) + 4 * r.length by omega]
  exact ⟨e, itT_sub r _ _ _ _ he⟩

/-! ### marks are few -/
theorem goW_len {T : Tb} {back : List Int} (w : Int → Nat) : ∀ (ns : List Int) (k : Nat) (here turns : Int) (marks : List Int), (∀ n ∈ ns, ∀ h e, T.lookup (h, n) = some e → e.marks.length ≤ w n) → match goW T back ns k here turns marks with
    | .inl (.done e) => e.marks.length ≤ marks.length + (ns.map w).sum
    | .inl (.need _) => True
    | .inr (_, _, m) => m.length ≤ marks.length + (ns.map w).sum
  | [], _, _, _, marks, _ => by
    show marks.length ≤ _
    simp
  | n :: ns, k, here, turns, marks, H => by
    rw [goW_cons]
    cases e1 : T.lookup (here, n) with
    | none => exact True.intro
    | some e =>
      have h1 := H n List.mem_cons_self here e e1
      have h2 : ((marks ++ e.marks).take 1001).length ≤ marks.length + e.marks.length := by
        rw [List.length_take, List.length_append]
        omega
      rw [List.map_cons, List.sum_cons]
      by_cases ht : e.to = -1
      · simp only [ht, if_true]
        omega
      · simp only [ht, if_false]
        have ih := goW_len (T := T) (back := back) w ns (k + 1) e.to (turns + e.turns) ((marks ++ e.marks).take 1001) fun x hx => H x (List.mem_cons_of_mem _ hx)
        split
        · rename_i z
          rw [z] at ih
          simp only at ih
          omega
        · trivial
        · rename_i z
          rw [z] at ih
          simp only at ih
          omega
def feet (T : Tb) : Nat := T.countP fun x => decide (x.1.2 = 3)
structure Few (T : Tb) : Prop where
  f0 : ∀ p e, T.lookup (p, 0) = some e → e.marks.length ≤ 2
  f1 : ∀ p e, T.lookup (p, 1) = some e → e.marks.length ≤ 8
  f2 : ∀ p e, T.lookup (p, 2) = some e → e.marks.length ≤ 26
  f3 : ∀ p e, T.lookup (p, 3) = some e → e.marks.length ≤ 80 * feet T
theorem sum_le {l : List Int} {w : Int → Nat} {c : Nat} (h : ∀ n ∈ l, w n ≤ c) : (l.map w).sum ≤ l.length * c := by
  induction l with
  | nil => simp
  | cons x l ih =>
    have h1 := h x List.mem_cons_self
    have h2 := ih fun n hn => h n (List.mem_cons_of_mem _ hn)
    rw [List.map_cons, List.sum_cons, List.length_cons, Nat.succ_mul]
    omega
def wgt (f : Nat) (n : Int) : Nat := if n = 0 then 2 else if n = 1 then 8 else if n = 2 then 26 else 80 * f
theorem Few.wgt {T : Tb} (F : Few T) (n : Int) (hn : n = 0 ∨ n = 1 ∨ n = 2 ∨ n = 3) : ∀ h e, T.lookup (h, n) = some e → e.marks.length ≤ wgt (feet T) n := by
  intro h e z
  rcases hn with rfl | rfl | rfl | rfl
  · exact F.f0 _ _ z
  · exact F.f1 _ _ z
  · exact F.f2 _ _ z
  · exact F.f3 _ _ z
theorem stepM_len {T : Tb} {m : Mv} {s : Int} {e : En} (w : Int → Nat) (H : ∀ n ∈ needsOf m s, ∀ h e, T.lookup (h, n) = some e → e.marks.length ≤ w n) (hd : stepM T m s = .done e) : e.marks.length ≤ m.marks.length + ((needsOf m s).map w).sum := by
  unfold stepM at hd
  by_cases hh : m.here = -1
  · rw [if_pos hh] at hd
    cases hd
    show m.marks.length ≤ _
    omega
  · rw [if_neg hh] at hd
    have q := goW_len (T := T) (back := m.back) w (needsOf m s) 0 m.here 1 m.marks H
    cases w' : goW T m.back (needsOf m s) 0 m.here 1 m.marks with
    | inl x =>
      rw [w'] at hd q
      obtain rfl : x = .done e := hd
      exact q
    | inr x =>
      obtain ⟨a, b, c⟩ := x
      rw [w'] at hd q
      cases hd
      exact q
theorem calm_few {r : Rt} (c : calm r) {T : Tb} (g : Good r T) : Few T := by
  induction g with
  | nil => exact ⟨(fun _ _ z => nomatch z), (fun _ _ z => nomatch z), (fun _ _ z => nomatch z), (fun _ _ z => nomatch z)⟩
  | @snoc T p s m e g h1 h2 h3 h4 h5 ih =>
    have ok := mvAt_ok c.ok h3
    have k1 := ok.mk1
    have k2 := ok.bk1
    -- the new entry
    have hneed : ∀ n ∈ needsOf m (s : Int), n = 0 ∨ n = 1 ∨ n = 2 ∨ n = 3 := fun n hn => by
      unfold needsOf at hn
      have : n ∈ m.back ∨ n = 3 := by
        split at hn
        · exact .inl hn
        · rcases List.mem_append.mp hn with z | z
          · exact .inl z
          · exact .inr (List.mem_singleton.mp z)
      rcases this with z | z
      · have := ok.bk2 n z
        omega
      · omega
    have bound := stepM_len (wgt (feet T)) (fun n hn => ih.wgt n (hneed n hn)) h5
    have small : s < 3 → e.marks.length ≤ 2 + 3 * (if s = 0 then 0 else if s = 1 then 2 else 8) := fun hs => by
      have lt : ((s : Nat) : Int) < 3 := by omega
      have hb : ((needsOf m (s : Int)).map (wgt (feet T))).sum ≤ m.back.length * (if s = 0 then 0 else if s = 1 then 2 else 8) := by
        unfold needsOf
        rw [if_pos lt]
        refine sum_le fun n hn => ?_
        have a1 := c.low p s m h3 hs n hn
        have a2 := ok.bk2 n hn
        unfold wgt
        rcases (by omega : s = 0 ∨ s = 1 ∨ s = 2) with rfl | rfl | rfl
        · omega
        · have : n = 0 := by omega
          simp [this]
        · rcases (by omega : n = 0 ∨ n = 1) with rfl | rfl <;> simp
      have hm2 : m.back.length * (if s = 0 then 0 else if s = 1 then 2 else 8) ≤ 3 * (if s = 0 then 0 else if s = 1 then 2 else 8) := Nat.mul_le_mul_right _ k2
      omega
    have foot : s = 3 → e.marks.length ≤ 80 * (feet T + 1) := fun hs => by
      subst hs
      have hb : ((needsOf m ((3 : Nat) : Int)).map (wgt (feet T))).sum ≤ m.back.length * 26 + 80 * feet T := by
        unfold needsOf
        rw [if_neg (by omega), List.map_append, List.sum_append]
        have a := sum_le (l := m.back) (w := wgt (feet T)) (c := 26) fun n hn => by
          have a2 := ok.bk2 n hn
          unfold wgt
          rcases (by omega : n = 0 ∨ n = 1 ∨ n = 2) with rfl | rfl | rfl <;> simp
        have b : ([(3 : Int)].map (wgt (feet T))).sum = 80 * feet T := by simp [wgt]
        omega
      have : m.back.length * 26 ≤ 3 * 26 := Nat.mul_le_mul_right _ k2
      omega
    have fe : feet (T ++ [(((p : Int), (s : Int)), e)]) = feet T + if s = 3 then 1 else 0 := by
      unfold feet
      rw [List.countP_append]
      by_cases hs : s = 3
      · subst hs; simp
      · have : ¬ ((s : Int) = 3) := by omega
        simp [hs, this]
    have look : ∀ q j x, (T ++ [(((p : Int), (s : Int)), e)]).lookup (q, j) = some x → T.lookup (q, j) = some x ∨ (j = (s : Int) ∧ x = e) := fun q j x z => by
      rw [lookup_snoc] at z
      cases hk : T.lookup (q, j) with
      | some y =>
        rw [hk] at z
        exact .inl z
      | none =>
        rw [hk] at z
        simp only at z
        split at z
        · rename_i zz
          injection zz with _ z2
          exact .inr ⟨z2, (Option.some.inj z).symm⟩
        · cases z
    refine ⟨fun q x z => ?_, fun q x z => ?_, fun q x z => ?_, fun q x z => ?_⟩
    · rcases look _ _ _ z with h | ⟨hj, rfl⟩
      · exact ih.f0 _ _ h
      · have : s = 0 := by omega
        subst this
        have := small (by omega)
        simpa using this
    · rcases look _ _ _ z with h | ⟨hj, rfl⟩
      · exact ih.f1 _ _ h
      · have : s = 1 := by omega
        subst this
        have := small (by omega)
        simpa using this
    · rcases look _ _ _ z with h | ⟨hj, rfl⟩
      · exact ih.f2 _ _ h
      · have : s = 2 := by omega
        subst this
        have := small (by omega)
        simpa using this
    · rw [fe]
      rcases look _ _ _ z with h | ⟨hj, rfl⟩
      · have := ih.f3 _ _ h
        split <;> omega
      · have : s = 3 := by omega
        subst this
        have := foot rfl
        simpa using this
theorem feet_le {r : Rt} {T : Tb} (g : Good r T) : feet T ≤ r.length := by
  have h1 : feet T = ((T.map (·.1)).filter fun k => decide (k.2 = 3)).length := by
    unfold feet
    rw [List.countP_eq_length_filter, List.filter_map, List.length_map]
    rfl
  have hn : ((T.map (·.1)).filter fun k => decide (k.2 = 3)).Nodup := List.Pairwise.filter _ g.nodup
  have h2 := len_le_of_sub ((T.map (·.1)).filter fun k => decide (k.2 = 3)) ((List.range r.length).map fun (p : Nat) => ((p : Int), (3 : Int))) hn fun k hk => by
    obtain ⟨a, b⟩ := List.mem_filter.mp hk
    obtain ⟨e, he⟩ := mem_lookup a
    obtain ⟨p, s, m, rfl, q1, q2, _⟩ := g.fix k e he
    have : ((s : Nat) : Int) = 3 := of_decide_eq_true b
    exact List.mem_map.mpr ⟨p, List.mem_range.mpr q1, by rw [← this]⟩
  rw [List.length_map, List.length_range] at h2
  omega
theorem calm_marks {r : Rt} (c : calm r) {T : Tb} (g : Good r T) : ∀ k e, T.lookup k = some e → e.marks.length ≤ 1000 := by
  intro k e z
  have F := calm_few c g
  have f := feet_le g
  have six := c.ok.six
  obtain ⟨p, s, m, rfl, q1, q2, _⟩ := g.fix k e z
  rcases (by omega : s = 0 ∨ s = 1 ∨ s = 2 ∨ s = 3) with rfl | rfl | rfl | rfl
  · have := F.f0 _ _ z; omega
  · have := F.f1 _ _ z; omega
  · have := F.f2 _ _ z; omega
  · have := F.f3 _ _ z; omega
end Pg
set_option Elab.async false
set_option linter.all false
set_option maxRecDepth 100000
set_option maxHeartbeats 4000000
/-! The pure part, f: the posts that are led to. -/
namespace Pg
open PySem PySem.Spec PyProof.Rows L2

def toOf (T : Tb) (p s : Int) : Int := match T.lookup (p, s) with
  | some e => e.to
  | none => -1
def ledStep (T : Tb) (p : Int) (L : List Int) (s : Int) : List Int := if toOf T p s ≠ -1 ∧ toOf T p s ∉ L then L ++ [toOf T p s] else L
def ledPost (T : Tb) (L : List Int) (p : Int) : List Int := if p ∈ L then [0, 1, 2].foldl (ledStep T p) L else L
def six : List Int := [0, 1, 2, 3, 4, 5]
def ledT (T : Tb) : List Int := ((List.replicate 6 six).flatten).foldl (ledPost T) [0]
theorem any_int (L : List Int) (x : Int) : ((L.map D.int).any fun z => deq z (.int x)) = decide (x ∈ L) := by
  induction L with
  | nil => simp
  | cons y L ih =>
    rw [List.map_cons, List.any_cons, ih]
    have e : deq (.int y) (.int x) = decide (x = y) := deq_of ⟨fun h => by injection h with h; exact h.symm, fun h => by rw [h]⟩
    rw [e]
    by_cases h1 : x = y <;> by_cases h2 : x ∈ L <;> simp [h1, h2]
theorem kIn_cell (L : List Int) (x : Int) : kIn (.lst (L.map .int)) (.int x) .cell = some (decide (x ∈ L)) := by
  unfold kIn
  simp only [seqOf, plN_int, plN_ints, Bool.and_self, if_true, any_int]
theorem ledStep_eq (T : Tb) (L : List Int) (p s : Int) (x4 : Option D) (hL : L.length ≤ 1000) :
    b1_law_led [some (encL T), some .cell, some (.int p), some (.int s), x4] (.lst (L.map .int)) = some (.nx [some (encL T), some .cell, some (.int p), some (.int s), some (.int (toOf T p s))], .lst ((ledStep T p L s).map .int)) := by
  have look := lookup_map leE (p, s) T
  have ll : L.length ≤ 100000 := by omega
  have at0 : ∀ (a : D) (l : List D), L2.atI (a :: l) 0 = some a := fun a l => by
    have := atI_nat (a :: l) 0
    exact this
  have get : eOp rIx (eGet (eVar 0) (eTup (aCons (eVar 2) (aCons (eVar 3) aNil))) (eLst (aCons (eNeg (eC (.int 1))) aNil))) (eC (.int 0)) [some (encL T), some .cell, some (.int p), some (.int s), x4] (.lst (L.map .int)) = some (.int (toOf T p s), .lst (L.map .int)) := by
    cases e1 : T.lookup (p, s) with
    | none =>
      rw [e1] at look
      have look' : (T.map fun x => (x.1, leE x.2)).lookup (p, s) = none := look
      simp [sSeq, sAsg, sIf, sRet, sNil, sDrop, sPar2, sPar3, sFor, sCellSet, sCellApp, sCellPut, sNever, eVar, eC, eOp, eB, eTup, eLst, aCons, aNil, eIf, eAnd, eOr, eNot, eChain, bAnd, bOr, bNot, bYes, eCB, eCall, eSl, oNone, oSome, eNeg, eIsi, eGet, eOne, eNoP, eBack, eLc, eUpd, eBoth, tName, tTup, tsCons, tsNil, bnd, ret, iSeq, iRng, iEn, iZp, iKey, defF, startD, bodyOut, wipeD, List.getElem?_cons_zero, List.getElem?_cons_succ, List.set_cons_zero, List.set_cons_succ, List.length_cons, List.length_nil, List.map_cons, List.map_nil, List.replicate_succ, List.replicate_zero, List.cons_append, List.nil_append, if_true, if_false, Bool.false_eq_true, reduceIte, Option.map_some, Option.map_none, Nat.reduceAdd, Nat.reduceSub, Nat.reduceEqDiff, encL, kinOf, dicOf, look', rIx, seqOf, at0, lim_eq, toOf, e1]
    | some e =>
      rw [e1] at look
      have look' : (T.map fun x => (x.1, leE x.2)).lookup (p, s) = some (leE e) := look
      have le : leE e = .lst [.int e.to, .int e.turns, tI e.marks, tI e.left] := rfl
      simp [sSeq, sAsg, sIf, sRet, sNil, sDrop, sPar2, sPar3, sFor, sCellSet, sCellApp, sCellPut, sNever, eVar, eC, eOp, eB, eTup, eLst, aCons, aNil, eIf, eAnd, eOr, eNot, eChain, bAnd, bOr, bNot, bYes, eCB, eCall, eSl, oNone, oSome, eNeg, eIsi, eGet, eOne, eNoP, eBack, eLc, eUpd, eBoth, tName, tTup, tsCons, tsNil, bnd, ret, iSeq, iRng, iEn, iZp, iKey, defF, startD, bodyOut, wipeD, List.getElem?_cons_zero, List.getElem?_cons_succ, List.set_cons_zero, List.set_cons_succ, List.length_cons, List.length_nil, List.map_cons, List.map_nil, List.replicate_succ, List.replicate_zero, List.cons_append, List.nil_append, if_true, if_false, Bool.false_eq_true, reduceIte, Option.map_some, Option.map_none, Nat.reduceAdd, Nat.reduceSub, Nat.reduceEqDiff, encL, kinOf, dicOf, look', le, rIx, seqOf, at0, lim_eq, toOf, e1]
  have kin := kIn_cell L (toOf T p s)
  unfold ledStep b1_law_led sSeq sAsg
  rw [get]
  simp only [bnd_some, tName, List.set_cons_succ, List.set_cons_zero]
  by_cases h1 : toOf T p s = -1
  · simp [sSeq, sAsg, sIf, sRet, sNil, sDrop, sPar2, sPar3, sFor, sCellSet, sCellApp, sCellPut, sNever, eVar, eC, eOp, eB, eTup, eLst, aCons, aNil, eIf, eAnd, eOr, eNot, eChain, bAnd, bOr, bNot, bYes, eCB, eCall, eSl, oNone, oSome, eNeg, eIsi, eGet, eOne, eNoP, eBack, eLc, eUpd, eBoth, tName, tTup, tsCons, tsNil, bnd, ret, iSeq, iRng, iEn, iZp, iKey, defF, startD, bodyOut, wipeD, List.getElem?_cons_zero, List.getElem?_cons_succ, List.set_cons_zero, List.set_cons_succ, List.length_cons, List.length_nil, List.map_cons, List.map_nil, List.replicate_succ, List.replicate_zero, List.cons_append, List.nil_append, if_true, if_false, Bool.false_eq_true, reduceIte, Option.map_some, Option.map_none, Nat.reduceAdd, Nat.reduceSub, Nat.reduceEqDiff, rNe, kEq_int, h1]
  · by_cases h2 : toOf T p s ∈ L
    · simp [sSeq, sAsg, sIf, sRet, sNil, sDrop, sPar2, sPar3, sFor, sCellSet, sCellApp, sCellPut, sNever, eVar, eC, eOp, eB, eTup, eLst, aCons, aNil, eIf, eAnd, eOr, eNot, eChain, bAnd, bOr, bNot, bYes, eCB, eCall, eSl, oNone, oSome, eNeg, eIsi, eGet, eOne, eNoP, eBack, eLc, eUpd, eBoth, tName, tTup, tsCons, tsNil, bnd, ret, iSeq, iRng, iEn, iZp, iKey, defF, startD, bodyOut, wipeD, List.getElem?_cons_zero, List.getElem?_cons_succ, List.set_cons_zero, List.set_cons_succ, List.length_cons, List.length_nil, List.map_cons, List.map_nil, List.replicate_succ, List.replicate_zero, List.cons_append, List.nil_append, if_true, if_false, Bool.false_eq_true, reduceIte, Option.map_some, Option.map_none, Nat.reduceAdd, Nat.reduceSub, Nat.reduceEqDiff, rNe, kEq_int, h1, rNotIn, kin, h2]
    · simp [sSeq, sAsg, sIf, sRet, sNil, sDrop, sPar2, sPar3, sFor, sCellSet, sCellApp, sCellPut, sNever, eVar, eC, eOp, eB, eTup, eLst, aCons, aNil, eIf, eAnd, eOr, eNot, eChain, bAnd, bOr, bNot, bYes, eCB, eCall, eSl, oNone, oSome, eNeg, eIsi, eGet, eOne, eNoP, eBack, eLc, eUpd, eBoth, tName, tTup, tsCons, tsNil, bnd, ret, iSeq, iRng, iEn, iZp, iKey, defF, startD, bodyOut, wipeD, List.getElem?_cons_zero, List.getElem?_cons_succ, List.set_cons_zero, List.set_cons_succ, List.length_cons, List.length_nil, List.map_cons, List.map_nil, List.replicate_succ, List.replicate_zero, List.cons_append, List.nil_append, if_true, if_false, Bool.false_eq_true, reduceIte, Option.map_some, Option.map_none, Nat.reduceAdd, Nat.reduceSub, Nat.reduceEqDiff, rNe, kEq_int, h1, rNotIn, kin, h2, lim_eq, ll]
theorem ledStep_len (T : Tb) (p : Int) (L : List Int) (s : Int) : (ledStep T p L s).length ≤ L.length + 1 := by
  unfold ledStep
  split
  · simp
  · omega
/-- entries lead to posts of the routine -/
def inPosts (n : Nat) (T : Tb) : Prop := ∀ k e, T.lookup k = some e → -1 ≤ e.to ∧ e.to < n
structure LedOk (n : Nat) (L : List Int) : Prop where
  nd : L.Nodup
  rg : ∀ p ∈ L, 0 ≤ p ∧ p < n
theorem LedOk.len {n : Nat} {L : List Int} (h : LedOk n L) : L.length ≤ n := by
  have := len_le_of_sub L ((List.range n).map fun (i : Nat) => (i : Int)) h.nd fun x hx => by
    have := h.rg x hx
    exact List.mem_map.mpr ⟨x.toNat, List.mem_range.mpr (by omega), by omega⟩
  rwa [List.length_map, List.length_range] at this
theorem toOf_in {n : Nat} (hn : 0 < n) {T : Tb} (h : inPosts n T) (p s : Int) : -1 ≤ toOf T p s ∧ toOf T p s < n := by
  unfold toOf
  cases e : T.lookup (p, s) with
  | none => exact ⟨Int.le_refl _, by show (-1 : Int) < _; omega⟩
  | some x => exact h _ _ e
theorem ledStep_ok {n : Nat} (hn : 0 < n) {T : Tb} (h : inPosts n T) {L : List Int} (g : LedOk n L) (p s : Int) : LedOk n (ledStep T p L s) := by
  unfold ledStep
  split
  · rename_i q
    have t := toOf_in hn h p s
    refine ⟨?_, fun x hx => ?_⟩
    · rw [List.nodup_append]
      refine ⟨g.nd, by simp, fun a ha b hb z => ?_⟩
      rw [List.mem_singleton] at hb
      subst hb z
      exact q.2 ha
    · rcases List.mem_append.mp hx with z | z
      · exact g.rg x z
      · rw [List.mem_singleton.mp z]
        omega
  · exact g
theorem ledFold_ok {n : Nat} (hn : 0 < n) {T : Tb} (h : inPosts n T) (p : Int) : ∀ (l : List Int) {L : List Int}, LedOk n L → LedOk n (l.foldl (ledStep T p) L)
  | [], _, g => g
  | s :: l, _, g => ledFold_ok hn h p l (ledStep_ok hn h g p s)
theorem ledPost_ok {n : Nat} (hn : 0 < n) {T : Tb} (h : inPosts n T) {L : List Int} (g : LedOk n L) (p : Int) : LedOk n (ledPost T L p) := by
  unfold ledPost
  split
  · exact ledFold_ok hn h p _ g
  · exact g
theorem led0_ok {n : Nat} (hn : 0 < n) : LedOk n [0] := ⟨by simp, fun x hx => by rw [List.mem_singleton.mp hx]; omega⟩
theorem ledT_ok {n : Nat} (hn : 0 < n) {T : Tb} (h : inPosts n T) : LedOk n (ledT T) := by
  unfold ledT
  have : ∀ (l : List Int) (L : List Int), LedOk n L → LedOk n (l.foldl (ledPost T) L) := by
    intro l
    induction l with
    | nil => exact fun L g => g
    | cons p l ih => exact fun L g => ih _ (ledPost_ok hn h g p)
  exact this _ _ (led0_ok hn)
theorem ledPost_eq {n : Nat} (hn : 0 < n) (h6 : n ≤ 6) {T : Tb} (h : inPosts n T) {L : List Int} (g : LedOk n L) (p : Int) (x3 x4 : Option D) :
    ∃ y3 y4, b2_law_led [some (encL T), some .cell, some (.int p), x3, x4] (.lst (L.map .int)) = some (.nx [some (encL T), some .cell, some (.int p), y3, y4], .lst ((ledPost T L p).map .int)) := by
  have kin := kIn_cell L p
  unfold ledPost
  by_cases hp : p ∈ L
  · rw [if_pos hp]
    obtain ⟨ρ', s', e, y3, y4, rfl, rfl, _⟩ := for_fold (tg := tName 3) (g := b1_law_led) D.int (ledStep T p) (fun L ρ s => ∃ y3 y4, ρ = [some (encL T), some .cell, some (.int p), y3, y4] ∧ s = .lst (L.map .int) ∧ LedOk n L) [0, 1, 2] L [some (encL T), some .cell, some (.int p), x3, x4] (.lst (L.map .int)) (fun L x ρ s _ hR => by
      obtain ⟨y3, y4, rfl, rfl, g⟩ := hR
      have len := g.len
      exact ⟨_, _, _, rfl, ledStep_eq T L p x y4 (by omega), _, _, rfl, rfl, ledStep_ok hn h g p x⟩) ⟨_, _, rfl, rfl, g⟩
    refine ⟨y3, y4, ?_⟩
    have it : iSeq (eIf (eB (eOp rIn (eVar 2) (eVar 1))) (eTup (aCons (eC (.int 0)) (aCons (eC (.int 1)) (aCons (eC (.int 2)) aNil)))) (eTup aNil)) [some (encL T), some .cell, some (.int p), x3, x4] (.lst (L.map .int)) = some ([0, 1, 2].map D.int, .lst (L.map .int)) := by
      simp [sSeq, sAsg, sIf, sRet, sNil, sDrop, sPar2, sPar3, sFor, sCellSet, sCellApp, sCellPut, sNever, eVar, eC, eOp, eB, eTup, eLst, aCons, aNil, eIf, eAnd, eOr, eNot, eChain, bAnd, bOr, bNot, bYes, eCB, eCall, eSl, oNone, oSome, eNeg, eIsi, eGet, eOne, eNoP, eBack, eLc, eUpd, eBoth, tName, tTup, tsCons, tsNil, bnd, ret, iSeq, iRng, iEn, iZp, iKey, defF, startD, bodyOut, wipeD, List.getElem?_cons_zero, List.getElem?_cons_succ, List.set_cons_zero, List.set_cons_succ, List.length_cons, List.length_nil, List.map_cons, List.map_nil, List.replicate_succ, List.replicate_zero, List.cons_append, List.nil_append, if_true, if_false, Bool.false_eq_true, reduceIte, Option.map_some, Option.map_none, Nat.reduceAdd, Nat.reduceSub, Nat.reduceEqDiff, rIn, kin, hp, lim_eq]
    unfold b2_law_led sFor
    rw [it]
    exact e
  · rw [if_neg hp]
    refine ⟨x3, x4, ?_⟩
    have it : iSeq (eIf (eB (eOp rIn (eVar 2) (eVar 1))) (eTup (aCons (eC (.int 0)) (aCons (eC (.int 1)) (aCons (eC (.int 2)) aNil)))) (eTup aNil)) [some (encL T), some .cell, some (.int p), x3, x4] (.lst (L.map .int)) = some ([], .lst (L.map .int)) := by
      simp [sSeq, sAsg, sIf, sRet, sNil, sDrop, sPar2, sPar3, sFor, sCellSet, sCellApp, sCellPut, sNever, eVar, eC, eOp, eB, eTup, eLst, aCons, aNil, eIf, eAnd, eOr, eNot, eChain, bAnd, bOr, bNot, bYes, eCB, eCall, eSl, oNone, oSome, eNeg, eIsi, eGet, eOne, eNoP, eBack, eLc, eUpd, eBoth, tName, tTup, tsCons, tsNil, bnd, ret, iSeq, iRng, iEn, iZp, iKey, defF, startD, bodyOut, wipeD, List.getElem?_cons_zero, List.getElem?_cons_succ, List.set_cons_zero, List.set_cons_succ, List.length_cons, List.length_nil, List.map_cons, List.map_nil, List.replicate_succ, List.replicate_zero, List.cons_append, List.nil_append, if_true, if_false, Bool.false_eq_true, reduceIte, Option.map_some, Option.map_none, Nat.reduceAdd, Nat.reduceSub, Nat.reduceEqDiff, rIn, kin, hp, lim_eq]
    unfold b2_law_led sFor
    rw [it]
    rfl
theorem law_led_eq {n : Nat} (hn : 0 < n) (h6 : n ≤ 6) {T : Tb} (h : inPosts n T) (s : D) : F_law_led [encL T] s = some (.lst ((ledT T).map .int), s) := by
  obtain ⟨ρ', s', e, y2, y3, y4, rfl, rfl, _⟩ := for_fold (tg := tName 2) (g := b2_law_led) D.int (ledPost T) (fun L ρ s => ∃ y2 y3 y4, ρ = [some (encL T), some .cell, y2, y3, y4] ∧ s = .lst (L.map .int) ∧ LedOk n L) (List.replicate 6 six).flatten [0] [some (encL T), some .cell, none, none, none] (.lst [.int 0]) (fun L x ρ s _ hR => by
    obtain ⟨y2, y3, y4, rfl, rfl, g⟩ := hR
    obtain ⟨z3, z4, e⟩ := ledPost_eq hn h6 h g x y3 y4
    exact ⟨_, _, _, rfl, e, _, _, _, rfl, rfl, ledPost_ok hn h g x⟩) ⟨_, _, _, rfl, rfl, led0_ok hn⟩
  have it : iSeq (eOp rMul (eTup (aCons (eC (.int 0)) (aCons (eC (.int 1)) (aCons (eC (.int 2)) (aCons (eC (.int 3)) (aCons (eC (.int 4)) (aCons (eC (.int 5)) aNil))))))) (eC (.int 6))) [some (encL T), some .cell, none, none, none] (.lst [.int 0]) = some ((List.replicate 6 six).flatten.map D.int, .lst [.int 0]) := by
    simp [sSeq, sAsg, sIf, sRet, sNil, sDrop, sPar2, sPar3, sFor, sCellSet, sCellApp, sCellPut, sNever, eVar, eC, eOp, eB, eTup, eLst, aCons, aNil, eIf, eAnd, eOr, eNot, eChain, bAnd, bOr, bNot, bYes, eCB, eCall, eSl, oNone, oSome, eNeg, eIsi, eGet, eOne, eNoP, eBack, eLc, eUpd, eBoth, tName, tTup, tsCons, tsNil, bnd, ret, iSeq, iRng, iEn, iZp, iKey, defF, startD, bodyOut, wipeD, List.getElem?_cons_zero, List.getElem?_cons_succ, List.set_cons_zero, List.set_cons_succ, List.length_cons, List.length_nil, List.map_cons, List.map_nil, List.replicate_succ, List.replicate_zero, List.cons_append, List.nil_append, if_true, if_false, Bool.false_eq_true, reduceIte, Option.map_some, Option.map_none, Nat.reduceAdd, Nat.reduceSub, Nat.reduceEqDiff, lim_eq, rMul, six]
  have body : g_law_led [some (encL T), some .cell, none, none, none] (.lst [.int 0]) = some (.rt .cell, .lst ((ledT T).map .int)) := by
    unfold g_law_led sSeq sFor
    rw [it]
    simp only [bnd_some]
    rw [e]
    rfl
  have n1 : nc (encL T) = true := List.all_eq_true.mpr fun x hx => by
    obtain ⟨y, _, rfl⟩ := List.mem_map.mp hx
    exact plN_leE y.2
  unfold F_law_led
  simp only [n1, if_true, body, plN_ints]

/-! ### the posts that are led to are closed, and no more than that -/
def closedL (T : Tb) (L : List Int) : Prop := ∀ p ∈ L, ∀ s ∈ ([0, 1, 2] : List Int), toOf T p s = -1 ∨ toOf T p s ∈ L
theorem step_ext (T : Tb) (p : Int) (L : List Int) (s : Int) : ∃ m, ledStep T p L s = L ++ m := by
  unfold ledStep
  split
  · exact ⟨_, rfl⟩
  · exact ⟨[], (List.append_nil L).symm⟩
theorem fold_ext {α : Type} (f : List Int → α → List Int) (hf : ∀ L x, ∃ m, f L x = L ++ m) : ∀ (l : List α) (L : List Int), ∃ m, l.foldl f L = L ++ m
  | [], L => ⟨[], (List.append_nil L).symm⟩
  | x :: l, L => by
    obtain ⟨m, e⟩ := hf L x
    obtain ⟨m2, e2⟩ := fold_ext f hf l (f L x)
    exact ⟨m ++ m2, by rw [List.foldl_cons, e2, e, List.append_assoc]⟩
theorem fold_still {α : Type} (f : List Int → α → List Int) (hf : ∀ L x, ∃ m, f L x = L ++ m) : ∀ (l : List α) (L : List Int), l.foldl f L = L → ∀ x ∈ l, f L x = L
  | [], _, _, _, h => nomatch h
  | x :: l, L, h, y, hy => by
    obtain ⟨m, e⟩ := hf L x
    obtain ⟨m2, e2⟩ := fold_ext f hf l (f L x)
    rw [List.foldl_cons, e2, e, List.append_assoc] at h
    have hm : m ++ m2 = [] := List.append_cancel_left (as := L) (by rw [h, List.append_nil])
    have h1 : m = [] := (List.append_eq_nil_iff.mp hm).1
    have h2 : m2 = [] := (List.append_eq_nil_iff.mp hm).2
    rw [h1, List.append_nil] at e
    rcases List.mem_cons.mp hy with rfl | hy
    · exact e
    · refine fold_still f hf l L ?_ y hy
      rw [e, h2, List.append_nil] at e2
      exact e2
theorem post_ext (T : Tb) (L : List Int) (p : Int) : ∃ m, ledPost T L p = L ++ m := by
  unfold ledPost
  split
  · exact fold_ext (ledStep T p) (step_ext T p) [0, 1, 2] L
  · exact ⟨[], (List.append_nil L).symm⟩
def ledRound (T : Tb) (L : List Int) : List Int := six.foldl (ledPost T) L
theorem round_closed {T : Tb} {L : List Int} (h : ledRound T L = L) (hL : ∀ p ∈ L, p ∈ six) : closedL T L := by
  intro p hp s hs
  have h1 := fold_still (ledPost T) (post_ext T) six L h p (hL p hp)
  unfold ledPost at h1
  rw [if_pos hp] at h1
  have h2 := fold_still (ledStep T p) (step_ext T p) [0, 1, 2] L h1 s hs
  unfold ledStep at h2
  split at h2
  · have := congrArg List.length h2
    simp at this
  · rename_i q
    by_cases a : toOf T p s = -1
    · exact .inl a
    · by_cases b : toOf T p s ∈ L
      · exact .inr b
      · exact absurd ⟨a, b⟩ q
def itR (T : Tb) : Nat → List Int
  | 0 => [0]
  | k + 1 => ledRound T (itR T k)
theorem ledT_it (T : Tb) : ledT T = itR T 6 := by
  unfold ledT
  simp only [List.replicate_succ, List.replicate_zero, List.flatten_cons, List.flatten_nil, List.append_nil, List.foldl_append]
  rfl
theorem itR_ok {n : Nat} (hn : 0 < n) {T : Tb} (h : inPosts n T) : ∀ k, LedOk n (itR T k)
  | 0 => led0_ok hn
  | k + 1 => by
    have g := itR_ok hn h k
    show LedOk n (six.foldl (ledPost T) (itR T k))
    have : ∀ (l : List Int) (L : List Int), LedOk n L → LedOk n (l.foldl (ledPost T) L) := by
      intro l
      induction l with
      | nil => exact fun L g => g
      | cons p l ih => exact fun L g => ih _ (ledPost_ok hn h g p)
    exact this _ _ g
theorem itR_still {T : Tb} {k : Nat} (h : ledRound T (itR T k) = itR T k) : ∀ j, itR T (k + j) = itR T k
  | 0 => rfl
  | j + 1 => by
    show ledRound T (itR T (k + j)) = _
    rw [itR_still h j]
    exact h
theorem itR_grow {T : Tb} : ∀ k, (∃ j, j < k ∧ ledRound T (itR T j) = itR T j) ∨ k + 1 ≤ (itR T k).length
  | 0 => .inr (Nat.le_refl _)
  | k + 1 => by
    rcases itR_grow (T := T) k with ⟨j, a, b⟩ | h
    · exact .inl ⟨j, by omega, b⟩
    · obtain ⟨m, e⟩ := fold_ext (ledPost T) (post_ext T) six (itR T k)
      have e' : itR T (k + 1) = itR T k ++ m := e
      cases m with
      | nil => exact .inl ⟨k, Nat.lt_succ_self k, by rw [List.append_nil] at e'; exact e'⟩
      | cons x m =>
        right
        rw [e', List.length_append, List.length_cons]
        omega
theorem led_closed {n : Nat} (hn : 0 < n) (h6 : n ≤ 6) {T : Tb} (h : inPosts n T) : closedL T (ledT T) := by
  rw [ledT_it]
  have mem : ∀ k, ∀ p ∈ itR T k, p ∈ six := fun k p hp => by
    have := (itR_ok hn h k).rg p hp
    have : p = 0 ∨ p = 1 ∨ p = 2 ∨ p = 3 ∨ p = 4 ∨ p = 5 := by omega
    unfold six
    rcases this with rfl | rfl | rfl | rfl | rfl | rfl <;> simp
  rcases itR_grow (T := T) 6 with ⟨j, a, b⟩ | g
  · have e := itR_still b (6 - j)
    rw [show j + (6 - j) = 6 by omega] at e
    rw [e]
    exact round_closed b (mem j)
  · have := (itR_ok hn h 6).len
    omega
theorem led_min {T : Tb} {M : List Int} (h0 : (0 : Int) ∈ M) (hM : closedL T M) : ∀ p ∈ ledT T, p ∈ M := by
  have step : ∀ (p : Int), p ∈ M → ∀ (l : List Int) (L : List Int), (∀ s ∈ l, s ∈ ([0, 1, 2] : List Int)) → (∀ q ∈ L, q ∈ M) → ∀ q ∈ l.foldl (ledStep T p) L, q ∈ M := by
    intro p hp l
    induction l with
    | nil => exact fun L _ h => h
    | cons s l ih =>
      intro L hl h
      refine ih (ledStep T p L s) (fun x hx => hl x (List.mem_cons_of_mem _ hx)) fun q hq => ?_
      unfold ledStep at hq
      split at hq
      · rename_i z
        rcases List.mem_append.mp hq with w | w
        · exact h q w
        · rw [List.mem_singleton.mp w]
          exact (hM p hp s (hl s List.mem_cons_self)).resolve_left z.1
      · exact h q hq
  have all : ∀ (l : List Int) (L : List Int), (∀ q ∈ L, q ∈ M) → ∀ q ∈ l.foldl (ledPost T) L, q ∈ M := by
    intro l
    induction l with
    | nil => exact fun L h => h
    | cons p l ih =>
      intro L h
      refine ih (ledPost T L p) fun q hq => ?_
      unfold ledPost at hq
      split at hq
      · rename_i hp
        exact step p (h p hp) _ L (fun _ h => h) h q hq
      · exact h q hq
  exact all _ [0] fun q hq => by rw [List.mem_singleton.mp hq]; exact h0
theorem led_zero (T : Tb) : (0 : Int) ∈ ledT T := by
  obtain ⟨m, e⟩ := fold_ext (ledPost T) (post_ext T) (List.replicate 6 six).flatten [0]
  have e' : ledT T = [0] ++ m := e
  rw [e']
  exact List.mem_append_left _ (List.mem_singleton.mpr rfl)
end Pg
set_option Elab.async false
set_option linter.all false
set_option maxRecDepth 100000
set_option maxHeartbeats 4000000
/-! The pure part, g: with_ends. -/
namespace Pg
open PySem PySem.Spec PyProof.Rows L2

theorem dPr_inj {a b : Int × Int} : dPr a = dPr b ↔ a = b := ⟨fun h => by
  unfold dPr at h
  injection h with h
  injection h with h1 h2
  injection h2 with h2 _
  injection h1 with h1
  injection h2 with h2
  exact Prod.ext h1 h2, fun h => by rw [h]⟩
theorem plN_dPr (n : Nat) (p : Int × Int) : plN (n + 1) (dPr p) = true := by
  unfold dPr
  rw [plN_tup]
  simp [plN_int]
theorem plN_dPrs (n : Nat) (l : List (Int × Int)) : (l.map dPr).all (plN (n + 1)) = true := List.all_eq_true.mpr fun x hx => by
  obtain ⟨p, _, rfl⟩ := List.mem_map.mp hx
  exact plN_dPr n p
theorem any_dPr (l : List (Int × Int)) (x : Int × Int) : ((l.map dPr).any fun z => deq z (dPr x)) = decide (x ∈ l) := by
  induction l with
  | nil => simp
  | cons y l ih =>
    rw [List.map_cons, List.any_cons, ih]
    have e : deq (dPr y) (dPr x) = decide (x = y) := deq_of ⟨fun h => (dPr_inj.mp h).symm, fun h => by rw [h]⟩
    rw [e]
    by_cases h1 : x = y <;> by_cases h2 : x ∈ l <;> simp [h1, h2]
theorem kIn_dPr (s : D) (l : List (Int × Int)) (x : Int × Int) : kIn s (dPr x) (.lst (l.map dPr)) = some (decide (x ∈ l)) := by
  unfold kIn
  simp only [seqOf, plN_dPr, plN_dPrs, Bool.and_self, if_true, any_dPr]
theorem kEq_nil (l : List (Int × Int)) : kEq (.lst (l.map dPr)) (.lst []) = some (decide (l = [])) := by
  have e : deq (.lst (l.map dPr)) (.lst []) = decide (l = []) := deq_of ⟨fun h => by
    injection h with h
    exact List.map_eq_nil_iff.mp h, fun h => by rw [h]; rfl⟩
  have h1 : plN 8 (.lst (l.map dPr)) = true := plN_dPrs 6 l
  have h2 : plN 8 (.lst []) = true := rfl
  unfold kEq
  simp only [h1, h2, Bool.and_self, if_true, e]
theorem last_ix (L : List D) (x : D) : L2.atI (L ++ [x]) (-1) = some x := by
  unfold L2.atI L2.ixN
  have n : (L ++ [x]).length = L.length + 1 := by simp
  rw [if_neg (by decide), n, if_pos (by omega)]
  show (L ++ [x])[((-1 : Int) + ((L.length + 1 : Nat) : Int)).toNat]? = _
  rw [show ((-1 : Int) + ((L.length + 1 : Nat) : Int)).toNat = L.length by omega, List.getElem?_append_right (Nat.le_refl _)]
  simp
theorem cut_last (L : List D) (x : D) : cutD (L ++ [x]) none (some (-1)) = L := by
  unfold cutD HT.sIx
  have n : (L ++ [x]).length = L.length + 1 := by simp
  rw [n]
  simp only [List.drop_zero, Nat.sub_zero]
  rw [if_pos (by decide), show ((-1 : Int) + ((L.length + 1 : Nat) : Int)).toNat = L.length by omega, List.take_left' rfl]
theorem put_same {T : Tb} {k : Int × Int} {e : En} (hn : (T.map (·.1)).Nodup) (h : T.lookup k = some e) : putP (T.map fun x => (x.1, peE x.2)) k (peE e) = T.map fun x => (x.1, peE x.2) := by
  unfold putP
  rw [lookup_map, h]
  simp only [Option.map_some, Option.isSome_some, if_true, List.map_map]
  refine List.map_congr_left fun x hx => ?_
  simp only [Function.comp]
  by_cases q : x.1 = k
  · rw [if_pos q]
    have : x.2 = e := by
      have key : ∀ (T : Tb), (T.map (·.1)).Nodup → T.lookup k = some e → x ∈ T → x.2 = e := by
        intro T
        induction T with
        | nil => intro _ h; cases h
        | cons y T ih =>
          intro hn h hx
          rw [List.map_cons, List.nodup_cons] at hn
          obtain ⟨i, a⟩ := y
          rw [List.lookup_cons] at h
          cases z : k == i with
          | true =>
            rw [z] at h
            have e1 : a = e := Option.some.inj h
            rcases List.mem_cons.mp hx with w | w
            · rw [w]; exact e1
            · exfalso
              refine hn.1 ?_
              have : k = i := beq_iff_eq.mp z
              show i ∈ _
              rw [← this, ← q]
              exact List.mem_map.mpr ⟨x, w, rfl⟩
          | false =>
            rw [z] at h
            rcases List.mem_cons.mp hx with w | w
            · rw [w] at q
              have : k = i := q.symm
              rw [this] at z
              simp at z
            · exact ih hn.2 h w
      exact key T hn h hx
    rw [← q, this]
  · rw [if_neg q]
theorem put_newP {T : Tb} {k : Int × Int} (h : T.lookup k = none) (e : En) : putP (T.map fun x => (x.1, peE x.2)) k (peE e) = (T ++ [(k, e)]).map fun x => (x.1, peE x.2) := by
  unfold putP
  rw [lookup_map, h]
  simp
theorem Good.boxP {r : Rt} (h : rOk r) {T : Tb} (g : Good r T) : box (T.map fun x => (x.1, peE x.2)) = true := by
  unfold box
  refine List.all_eq_true.mpr fun x hx => ?_
  obtain ⟨y, hy, rfl⟩ := List.mem_map.mp hx
  obtain ⟨e, he⟩ := mem_lookup (List.mem_map.mpr ⟨y, hy, rfl⟩ : y.1 ∈ T.map (·.1))
  obtain ⟨p, s, m, hk, h1, h2, _⟩ := g.fix _ e he
  have := h.six
  unfold inBox
  simp only [hk, Bool.and_eq_true, decide_eq_true_eq]
  omega
/-- one turn: the last pair of the line is known, or comes to its end -/
theorem we_pop {r : Rt} (h : rOk r) {E : Tb} (g : Good r E) {p s : Nat} (hp : p < r.length) (hs : s ≤ 3) {m : Mv} (hm : mvAt r p s = some m) {e : En} (hd : E.lookup ((p : Int), (s : Int)) = some e ∨ (E.lookup ((p : Int), (s : Int)) = none ∧ stepM E m s = .done e)) (P : D) (l : List (Int × Int)) (x4 x5 x6 x7 : Option D) (st : D) :
    w2_with_ends [some (enR r), some P, some (encP E), some (.lst ((l ++ [((p : Int), (s : Int))]).map dPr)), x4, x5, x6, x7] st =
      some (.nx [some (enR r), some P, some (encP (if (E.lookup ((p : Int), (s : Int))).isSome then E else E ++ [(((p : Int), (s : Int)), e)])), some (.lst (l.map dPr)), some (dPr (p, s)), some .non, some (peE e), x7], st) := by
  have look := lookup_map peE ((p : Int), (s : Int)) E
  have ok := mvAt_ok h hm
  have nn := next_need_eq st (g.small h) hm ok
  have hk : dPr ((p : Int), (s : Int)) = .tup [.int p, .int s] := rfl
  have len := g.len
  have six := h.six
  have bx := g.boxP h
  have ll : E.length < 100000 := by omega
  have n1 : rIsN (encP E) .non .non = some (.bl true) := rfl
  rcases hd with hd | ⟨hn, hd⟩
  · rw [hd] at look
    have look' : (E.map fun x => (x.1, peE x.2)).lookup ((p : Int), (s : Int)) = some (peE e) := look
    have same := put_same g.nodup hd
    rw [hd]
    unfold encP at *
    simp [w2_with_ends, sSeq, sAsg, sIf, sRet, sNil, sDrop, sPar2, sPar3, sFor, sCellSet, sCellApp, sCellPut, sNever, eVar, eC, eOp, eB, eTup, eLst, aCons, aNil, eIf, eAnd, eOr, eNot, eChain, bAnd, bOr, bNot, bYes, eCB, eCall, eSl, oNone, oSome, eNeg, eIsi, eGet, eOne, eNoP, eBack, eLc, eUpd, eBoth, tName, tTup, tsCons, tsNil, bnd, ret, iSeq, iRng, iEn, iZp, iKey, defF, startD, bodyOut, wipeD, List.getElem?_cons_zero, List.getElem?_cons_succ, List.set_cons_zero, List.set_cons_succ, List.length_cons, List.length_nil, List.map_cons, List.map_nil, List.replicate_succ, List.replicate_zero, List.cons_append, List.nil_append, if_true, if_false, Bool.false_eq_true, reduceIte, Option.map_some, Option.map_none, Nat.reduceAdd, Nat.reduceSub, Nat.reduceEqDiff, rIx, seqOf, last_ix, hk, rDIn, rDGet, kinOf, dicOf, look', lim_eq, rIsN, cut_last, ll, bx, same]
  · rw [hn] at look
    have look' : (E.map fun x => (x.1, peE x.2)).lookup ((p : Int), (s : Int)) = none := look
    have new := put_newP hn e
    rw [hd] at nn
    rw [hn]
    unfold encP at *
    rw [hk] at nn
    simp [w2_with_ends, sSeq, sAsg, sIf, sRet, sNil, sDrop, sPar2, sPar3, sFor, sCellSet, sCellApp, sCellPut, sNever, eVar, eC, eOp, eB, eTup, eLst, aCons, aNil, eIf, eAnd, eOr, eNot, eChain, bAnd, bOr, bNot, bYes, eCB, eCall, eSl, oNone, oSome, eNeg, eIsi, eGet, eOne, eNoP, eBack, eLc, eUpd, eBoth, tName, tTup, tsCons, tsNil, bnd, ret, iSeq, iRng, iEn, iZp, iKey, defF, startD, bodyOut, wipeD, List.getElem?_cons_zero, List.getElem?_cons_succ, List.set_cons_zero, List.set_cons_succ, List.length_cons, List.length_nil, List.map_cons, List.map_nil, List.replicate_succ, List.replicate_zero, List.cons_append, List.nil_append, if_true, if_false, Bool.false_eq_true, reduceIte, Option.map_some, Option.map_none, Nat.reduceAdd, Nat.reduceSub, Nat.reduceEqDiff, rIx, seqOf, last_ix, hk, rDIn, rDGet, kinOf, dicOf, look', lim_eq, rIsN, cut_last, ll, bx, new, nn, enWP]
/-- one turn: something else is wanted first -/
theorem we_push {r : Rt} (h : rOk r) {E : Tb} (g : Good r E) {p s : Nat} {m : Mv} (hm : mvAt r p s = some m) (hn : E.lookup ((p : Int), (s : Int)) = none) {q : Int × Int} (hd : stepM E m s = .need q) (P : D) (l : List (Int × Int)) (hl : l.length ≤ 1000) (hq : q ∉ l ++ [((p : Int), (s : Int))]) (x4 x5 x6 x7 : Option D) (st : D) :
    w2_with_ends [some (enR r), some P, some (encP E), some (.lst ((l ++ [((p : Int), (s : Int))]).map dPr)), x4, x5, x6, x7] st =
      some (.nx [some (enR r), some P, some (encP E), some (.lst (((l ++ [((p : Int), (s : Int))]) ++ [q]).map dPr)), some (dPr (p, s)), some (dPr q), some .non, x7], st) := by
  have look := lookup_map peE ((p : Int), (s : Int)) E
  have ok := mvAt_ok h hm
  have nn := next_need_eq st (g.small h) hm ok
  have hk : dPr ((p : Int), (s : Int)) = .tup [.int p, .int s] := rfl
  have kin := kIn_dPr st (l ++ [((p : Int), (s : Int))]) q
  rw [decide_eq_false hq] at kin
  rw [hn] at look
  have look' : (E.map fun x => (x.1, peE x.2)).lookup ((p : Int), (s : Int)) = none := look
  rw [hd] at nn
  have ll : l.length + 1 + 1 ≤ 100000 := by omega
  unfold encP at *
  rw [hk] at nn
  rw [List.map_append, List.map_cons, List.map_nil, hk] at kin
  have hq2 : dPr q = .tup [.int q.1, .int q.2] := rfl
  rw [hq2] at kin
  simp [w2_with_ends, sSeq, sAsg, sIf, sRet, sNil, sDrop, sPar2, sPar3, sFor, sCellSet, sCellApp, sCellPut, sNever, eVar, eC, eOp, eB, eTup, eLst, aCons, aNil, eIf, eAnd, eOr, eNot, eChain, bAnd, bOr, bNot, bYes, eCB, eCall, eSl, oNone, oSome, eNeg, eIsi, eGet, eOne, eNoP, eBack, eLc, eUpd, eBoth, tName, tTup, tsCons, tsNil, bnd, ret, iSeq, iRng, iEn, iZp, iKey, defF, startD, bodyOut, wipeD, List.getElem?_cons_zero, List.getElem?_cons_succ, List.set_cons_zero, List.set_cons_succ, List.length_cons, List.length_nil, List.map_cons, List.map_nil, List.replicate_succ, List.replicate_zero, List.cons_append, List.nil_append, if_true, if_false, Bool.false_eq_true, reduceIte, Option.map_some, Option.map_none, Nat.reduceAdd, Nat.reduceSub, Nat.reduceEqDiff, rIx, seqOf, last_ix, hk, rDIn, kinOf, dicOf, look', lim_eq, rIsN, nn, enWP, hq2, rIn, kin, rAdd, ll]
end Pg
set_option Elab.async false
set_option linter.all false
set_option maxRecDepth 100000
set_option maxHeartbeats 4000000
/-! The pure part, h: with_ends comes to its end. -/
namespace Pg
open PySem PySem.Spec PyProof.Rows L2

theorem while_turn {b : EB} {g : ES} {ρ ρ1 : Env} {s s1 s2 : D} (h1 : b ρ s = some (true, s1)) (h2 : g ρ s1 = some (.nx ρ1, s2)) (n : Nat) : whileGo b g (n + 1) ρ s = whileGo b g n ρ1 s2 := by
  show bnd (b ρ s) _ = _
  rw [h1]
  show bnd (g ρ s1) _ = _
  rw [h2]
  rfl
theorem while_end {b : EB} {g : ES} {ρ : Env} {s s1 : D} (h1 : b ρ s = some (false, s1)) (n : Nat) : whileGo b g (n + 1) ρ s = some (.nx ρ, s1) := by
  show bnd (b ρ s) _ = _
  rw [h1]
  rfl
theorem seq_nx {g h : ES} {ρ ρ1 : Env} {s s1 : D} (e : g ρ s = some (.nx ρ1, s1)) : sSeq g h ρ s = h ρ1 s1 := by
  show bnd (g ρ s) _ = _
  rw [e]
  rfl
theorem seq_rt {g h : ES} {ρ : Env} {s s1 d : D} (e : g ρ s = some (.rt d, s1)) : sSeq g h ρ s = some (.rt d, s1) := by
  show bnd (g ρ s) _ = _
  rw [e]
  rfl
abbrev weS (r : Rt) (P : D) (E : Tb) (l : List (Int × Int)) (x4 x5 x6 x7 : Option D) : Env := [some (enR r), some P, some (encP E), some (.lst (l.map dPr)), x4, x5, x6, x7]
theorem we_more (r : Rt) (P : D) (E : Tb) (l : List (Int × Int)) (x4 x5 x6 x7 : Option D) (st : D) : c1_with_ends (weS r P E l x4 x5 x6 x7) st = some (!decide (l = []), st) := by
  have k := kEq_nil l
  simp [c1_with_ends, sSeq, sAsg, sIf, sRet, sNil, sDrop, sPar2, sPar3, sFor, sCellSet, sCellApp, sCellPut, sNever, eVar, eC, eOp, eB, eTup, eLst, aCons, aNil, eIf, eAnd, eOr, eNot, eChain, bAnd, bOr, bNot, bYes, eCB, eCall, eSl, oNone, oSome, eNeg, eIsi, eGet, eOne, eNoP, eBack, eLc, eUpd, eBoth, tName, tTup, tsCons, tsNil, bnd, ret, iSeq, iRng, iEn, iZp, iKey, defF, startD, bodyOut, wipeD, List.getElem?_cons_zero, List.getElem?_cons_succ, List.set_cons_zero, List.set_cons_succ, List.length_cons, List.length_nil, List.map_cons, List.map_nil, List.replicate_succ, List.replicate_zero, List.cons_append, List.nil_append, if_true, if_false, Bool.false_eq_true, reduceIte, Option.map_some, Option.map_none, Nat.reduceAdd, Nat.reduceSub, Nat.reduceEqDiff, lim_eq, rNe, k]
def missing (T E : Tb) : Nat := (T.filter fun x => (E.lookup x.1).isNone).length
theorem missing_lt {T E E' : Tb} (h : Sub' E E') {q : Int × Int} {e e' : En} (h1 : T.lookup q = some e) (h2 : E.lookup q = none) (h3 : E'.lookup q = some e') : missing T E' < missing T E := by
  unfold missing
  have le : ∀ T : Tb, (T.filter fun x => (E'.lookup x.1).isNone).length ≤ (T.filter fun x => (E.lookup x.1).isNone).length := by
    intro T
    induction T with
    | nil => exact Nat.le_refl _
    | cons x T ih =>
      rw [List.filter_cons, List.filter_cons]
      cases a : E.lookup x.1 with
      | none => split <;> simp only [Option.isNone_none, if_true, List.length_cons] <;> omega
      | some y => rw [h _ _ a]; simpa using ih
  induction T with
  | nil => cases h1
  | cons x T ih =>
    obtain ⟨i, a⟩ := x
    rw [List.lookup_cons] at h1
    rw [List.filter_cons, List.filter_cons]
    cases z : q == i with
    | true =>
      have : q = i := beq_iff_eq.mp z
      subst this
      have := le T
      simp only [h2, h3, Option.isNone_none, Option.isNone_some, if_true, Bool.false_eq_true, if_false, List.length_cons]
      omega
    | false =>
      rw [z] at h1
      have := ih h1
      cases b : E.lookup i with
      | none => split <;> simp only [Option.isNone_none, if_true, List.length_cons] <;> omega
      | some y => rw [h _ _ b]; simpa using this
/-- what a run for the pair k leaves -/
structure WeOut (r : Rt) (T E : Tb) (k : Int × Int) (E' : Tb) : Prop where
  good : Good r E'
  sub : Sub' E E'
  has : ∃ e, E'.lookup k = some e
  new : ∀ j, E.lookup j = none → T.lookup j = none → E'.lookup j = none
theorem we_run {r : Rt} (h : rOk r) {T : Tb} (g : Good r T) : ∀ (k : Int × Int) (e : En), T.lookup k = some e → ∀ (E : Tb), Good r E → E.lookup k = none → ∀ (P : D) (l : List (Int × Int)) (x4 x5 x6 x7 : Option D) (st : D), (∀ x ∈ l, T.lookup x = none) → l.length + T.length ≤ 900 →
    ∃ (E' : Tb) (steps : Nat) (y4 y5 y6 : Option D), WeOut r T E k E' ∧ steps + 2 * E.length + 1 = 2 * E'.length ∧
      ∀ n, whileGo c1_with_ends w2_with_ends (n + steps) (weS r P E (l ++ [k]) x4 x5 x6 x7) st = whileGo c1_with_ends w2_with_ends n (weS r P E' l y4 y5 y6 x7) st := by
  induction g with
  | nil => intro k e z; cases z
  | @snoc T0 p s m e0 g h1 h2 h3 h4 h5 ih =>
    intro k e z
    have up := sub_snoc T0 ((p : Int), (s : Int)) e0
    have low : ∀ x, (T0 ++ [(((p : Int), (s : Int)), e0)]).lookup x = none → T0.lookup x = none := fun x hx => by
      cases q : T0.lookup x with
      | none => rfl
      | some y => rw [up x y q] at hx; cases hx
    rw [lookup_snoc] at z
    cases hk : T0.lookup k with
    | some y =>
      intro E gE hE P l x4 x5 x6 x7 st hl hlen
      rw [List.length_append, List.length_singleton] at hlen
      obtain ⟨E', steps, y4, y5, y6, a, b, c⟩ := ih k y hk E gE hE P l x4 x5 x6 x7 st (fun x hx => low x (hl x hx)) (by omega)
      exact ⟨E', steps, y4, y5, y6, ⟨a.good, a.sub, a.has, fun j q1 q2 => a.new j q1 (low j q2)⟩, b, c⟩
    | none =>
      rw [hk] at z
      simp only at z
      split at z
      · rename_i hkk
        subst hkk
        -- the new pair itself, by how many are missing
        have inner : ∀ (N : Nat) (E : Tb), missing T0 E ≤ N → Good r E → E.lookup ((p : Int), (s : Int)) = none → ∀ (P : D) (l : List (Int × Int)) (x4 x5 x6 x7 : Option D) (st : D), (∀ x ∈ l, (T0 ++ [(((p : Int), (s : Int)), e0)]).lookup x = none) → l.length + (T0.length + 1) ≤ 900 →
            ∃ (E' : Tb) (steps : Nat) (y4 y5 y6 : Option D), WeOut r (T0 ++ [(((p : Int), (s : Int)), e0)]) E ((p : Int), (s : Int)) E' ∧ steps + 2 * E.length + 1 = 2 * E'.length ∧
              ∀ n, whileGo c1_with_ends w2_with_ends (n + steps) (weS r P E (l ++ [((p : Int), (s : Int))]) x4 x5 x6 x7) st = whileGo c1_with_ends w2_with_ends n (weS r P E' l y4 y5 y6 x7) st := by
          intro N
          induction N with
          | zero =>
            intro E hN gE hE P l x4 x5 x6 x7 st hl hlen
            rcases stepM_agree (g.agree gE) h5 with w | ⟨q, w, w2, y, w3⟩
            · have pop := we_pop h gE h1 h2 h3 (.inr ⟨hE, w⟩) P l x4 x5 x6 x7 st
              rw [hE] at pop
              simp only [Option.isSome_none, Bool.false_eq_true, if_false] at pop
              refine ⟨E ++ [(((p : Int), (s : Int)), e0)], 1, _, _, _, ⟨.snoc gE h1 h2 h3 hE w, sub_snoc _ _ _, ⟨_, lookup_new hE e0⟩, fun j q1 q2 => ?_⟩, by rw [List.length_append, List.length_singleton]; omega, fun n => while_turn (by rw [we_more]; simp) pop n⟩
              rw [lookup_snoc, q1]
              simp only
              rw [if_neg]
              rintro rfl
              rw [lookup_new hk e0] at q2
              cases q2
            · exfalso
              have : 0 < missing T0 E := by
                have hm : (T0.filter fun x => (E.lookup x.1).isNone) ≠ [] := fun e => by
                  have key : ∀ T : Tb, T.lookup q = some y → (T.filter fun x => (E.lookup x.1).isNone) ≠ [] := by
                    intro T
                    induction T with
                    | nil => intro h; cases h
                    | cons x T ih =>
                      intro h
                      obtain ⟨i, a⟩ := x
                      rw [List.lookup_cons] at h
                      rw [List.filter_cons]
                      cases zz : q == i with
                      | true =>
                        have : q = i := beq_iff_eq.mp zz
                        subst this
                        simp [w2]
                      | false =>
                        rw [zz] at h
                        split
                        · simp
                        · exact ih h
                  exact key T0 w3 e
                exact List.length_pos_iff.mpr hm
              omega
          | succ N ihN =>
            intro E hN gE hE P l x4 x5 x6 x7 st hl hlen
            rcases stepM_agree (g.agree gE) h5 with w | ⟨q, w, w2, y, w3⟩
            · have pop := we_pop h gE h1 h2 h3 (.inr ⟨hE, w⟩) P l x4 x5 x6 x7 st
              rw [hE] at pop
              simp only [Option.isSome_none, Bool.false_eq_true, if_false] at pop
              refine ⟨E ++ [(((p : Int), (s : Int)), e0)], 1, _, _, _, ⟨.snoc gE h1 h2 h3 hE w, sub_snoc _ _ _, ⟨_, lookup_new hE e0⟩, fun j q1 q2 => ?_⟩, by rw [List.length_append, List.length_singleton]; omega, fun n => while_turn (by rw [we_more]; simp) pop n⟩
              rw [lookup_snoc, q1]
              simp only
              rw [if_neg]
              rintro rfl
              rw [lookup_new hk e0] at q2
              cases q2
            · have hq : q ∉ l ++ [((p : Int), (s : Int))] := fun hm => by
                rcases List.mem_append.mp hm with a | a
                · have := low q (hl q a)
                  rw [w3] at this
                  cases this
                · rw [List.mem_singleton.mp a, hk] at w3
                  cases w3
              have push := we_push h gE h3 hE w P l (by omega) hq x4 x5 x6 x7 st
              obtain ⟨E1, st1, z4, z5, z6, o1, c1, r1⟩ := ih q y w3 E gE w2 P (l ++ [((p : Int), (s : Int))]) (some (dPr (p, s))) (some (dPr q)) (some .non) x7 st (fun x hx => by
                rcases List.mem_append.mp hx with a | a
                · exact low x (hl x a)
                · rw [List.mem_singleton.mp a]
                  exact hk) (by rw [List.length_append, List.length_singleton]; omega)
              obtain ⟨e1, he1⟩ := o1.has
              have less := missing_lt o1.sub w3 w2 he1
              obtain ⟨E2, st2, y4, y5, y6, o2, c2, r2⟩ := ihN E1 (by omega) o1.good (o1.new _ hE hk) P l z4 z5 z6 x7 st hl hlen
              refine ⟨E2, st2 + st1 + 1, y4, y5, y6, ⟨o2.good, fun j x hx => o2.sub j x (o1.sub j x hx), o2.has, fun j q1 q2 => o2.new j (o1.new j q1 (low j q2)) q2⟩, by omega, fun n => ?_⟩
              rw [show n + (st2 + st1 + 1) = (n + st2 + st1) + 1 by omega, while_turn (by rw [we_more]; simp) push, r1 (n + st2), r2 n]
        intro E gE hE P l x4 x5 x6 x7 st hl hlen
        rw [List.length_append, List.length_singleton] at hlen
        exact inner _ E (Nat.le_refl _) gE hE P l x4 x5 x6 x7 st hl hlen
      · cases z
/-- with_ends -/
theorem with_ends_eq {r : Rt} (h : rOk r) {T E : Tb} (g : Good r T) (gE : Good r E) {k : Int × Int} {e : En} (hk : T.lookup k = some e) (st : D) : ∃ E', WeOut r T E k E' ∧ F_with_ends [enR r, dPr k, encP E] st = some (encP E', st) := by
  obtain ⟨p, s, m, rfl, h1, h2, h3, _⟩ := g.fix k e hk
  have len := g.len
  have six := h.six
  have a1 : sAsg (eLst (aCons (eVar 1) aNil)) (tName 3) [some (enR r), some (dPr (p, s)), some (encP E), none, none, none, none, none] st = some (.nx (weS r (dPr (p, s)) E ([] ++ [((p : Int), (s : Int))]) none none none none), st) := by
    simp [sSeq, sAsg, sIf, sRet, sNil, sDrop, sPar2, sPar3, sFor, sCellSet, sCellApp, sCellPut, sNever, eVar, eC, eOp, eB, eTup, eLst, aCons, aNil, eIf, eAnd, eOr, eNot, eChain, bAnd, bOr, bNot, bYes, eCB, eCall, eSl, oNone, oSome, eNeg, eIsi, eGet, eOne, eNoP, eBack, eLc, eUpd, eBoth, tName, tTup, tsCons, tsNil, bnd, ret, iSeq, iRng, iEn, iZp, iKey, defF, startD, bodyOut, wipeD, List.getElem?_cons_zero, List.getElem?_cons_succ, List.set_cons_zero, List.set_cons_succ, List.length_cons, List.length_nil, List.map_cons, List.map_nil, List.replicate_succ, List.replicate_zero, List.cons_append, List.nil_append, if_true, if_false, Bool.false_eq_true, reduceIte, Option.map_some, Option.map_none, Nat.reduceAdd, Nat.reduceSub, Nat.reduceEqDiff, lim_eq]
  have fin : ∀ (E' : Tb) (y4 y5 y6 : Option D) (n : Nat), whileGo c1_with_ends w2_with_ends (n + 1) (weS r (dPr (p, s)) E' [] y4 y5 y6 none) st = some (.nx (weS r (dPr (p, s)) E' [] y4 y5 y6 none), st) := fun E' y4 y5 y6 n => while_end (by rw [we_more]; rfl) n
  cases q : E.lookup ((p : Int), (s : Int)) with
  | some x =>
    refine ⟨E, ⟨gE, fun _ _ z => z, ⟨x, q⟩, fun _ z _ => z⟩, ?_⟩
    have pop := we_pop h gE h1 h2 h3 (.inl q) (dPr (p, s)) [] none none none none st
    rw [q] at pop
    simp only [Option.isSome_some, if_true] at pop
    have body : g_with_ends [some (enR r), some (dPr (p, s)), some (encP E), none, none, none, none, none] st = some (.rt (encP E), st) := by
      have w1 : whileGo c1_with_ends w2_with_ends 1000 (weS r (dPr (p, s)) E ([] ++ [((p : Int), (s : Int))]) none none none none) st = _ := while_turn (by rw [we_more]; simp) pop 999
      unfold g_with_ends
      rw [seq_nx a1, seq_nx (w1.trans (fin E _ _ _ 998))]
      rfl
    unfold F_with_ends defF
    simp only [List.length_cons, List.length_nil, if_true]
    show bodyOut (g_with_ends [some (enR r), some (dPr (p, s)), some (encP E), none, none, none, none, none] st) = _
    rw [body]
    rfl
  | none =>
    obtain ⟨E', steps, y4, y5, y6, o, c, run⟩ := we_run h g _ e hk E gE q (dPr (p, s)) [] none none none none st (fun x hx => nomatch hx) (by rw [List.length_nil]; omega)
    have len2 := o.good.len
    refine ⟨E', o, ?_⟩
    have body : g_with_ends [some (enR r), some (dPr (p, s)), some (encP E), none, none, none, none, none] st = some (.rt (encP E'), st) := by
      have e1 := run (1000 - steps)
      rw [show 1000 - steps + steps = 1000 by omega, show 1000 - steps = (999 - steps) + 1 by omega, fin] at e1
      unfold g_with_ends
      rw [seq_nx a1, seq_nx e1]
      rfl
    unfold F_with_ends defF
    simp only [List.length_cons, List.length_nil, if_true]
    show bodyOut (g_with_ends [some (enR r), some (dPr (p, s)), some (encP E), none, none, none, none, none] st) = _
    rw [body]
    rfl
end Pg
set_option Elab.async false
set_option linter.all false
set_option maxRecDepth 100000
set_option maxHeartbeats 4000000
/-! The pure part, i: led_posts. -/
namespace Pg
open PySem PySem.Spec PyProof.Rows L2

abbrev Fd := List (Int × List Int)
def encF (F : Fd) : D := .dI (F.map fun x => (x.1, tI x.2))
theorem lookup_mapI (k : Int) : ∀ F : Fd, (F.map fun x => (x.1, tI x.2)).lookup k = (F.lookup k).map tI
  | [] => rfl
  | x :: F => by
    obtain ⟨j, a⟩ := x
    rw [List.map_cons, List.lookup_cons, List.lookup_cons]
    cases h : k == j with
    | true => rfl
    | false => exact lookup_mapI k F
theorem lookupI_mem {α : Type} {F : List (Int × α)} {k : Int} {v : α} (h : F.lookup k = some v) : (k, v) ∈ F := by
  induction F with
  | nil => cases h
  | cons x F ih =>
    obtain ⟨j, a⟩ := x
    rw [List.lookup_cons] at h
    cases q : k == j with
    | true =>
      rw [q] at h
      rw [beq_iff_eq.mp q, Option.some.inj h]
      exact List.mem_cons_self
    | false =>
      rw [q] at h
      exact List.mem_cons_of_mem _ (ih h)
theorem memI_lookup {α : Type} {F : List (Int × α)} {k : Int} (h : k ∈ F.map (·.1)) : ∃ v, F.lookup k = some v := by
  induction F with
  | nil => cases h
  | cons x F ih =>
    obtain ⟨j, a⟩ := x
    rw [List.lookup_cons]
    cases q : k == j with
    | true => exact ⟨a, rfl⟩
    | false =>
      rcases List.mem_cons.mp h with z | z
      · have z' : k = j := z
        rw [z'] at q
        simp at q
      · exact ih z
theorem lookupI_none {α : Type} {F : List (Int × α)} {k : Int} (h : k ∉ F.map (·.1)) : F.lookup k = none := by
  cases q : F.lookup k with
  | none => rfl
  | some v => exact absurd (List.mem_map.mpr ⟨_, lookupI_mem q, rfl⟩) h
theorem putI_new {F : Fd} {k : Int} (h : k ∉ F.map (·.1)) (v : List Int) : putI (F.map fun x => (x.1, tI x.2)) k (tI v) = (F ++ [(k, v)]).map fun x => (x.1, tI x.2) := by
  unfold putI
  rw [lookup_mapI, lookupI_none h]
  simp
/-- where the search for the posts stands -/
structure LP (r : Rt) (T : Tb) (F : Fd) (line : List Int) (E : Tb) (cur : Option (Int × Nat)) : Prop where
  gE : Good r E
  new : ∀ j, T.lookup j = none → E.lookup j = none
  nd : (F.map (·.1)).Nodup
  zero : (0 : Int) ∈ F.map (·.1)
  led : ∀ p ∈ F.map (·.1), p ∈ ledT T
  stk : ∀ x ∈ F, x.2.length < F.length
  lin : ∀ p ∈ line, p ∈ F.map (·.1)
  done : ∀ p ∈ F.map (·.1), p ∉ line → ∀ s : Nat, s ≤ 3 → (∀ q j, cur = some (q, j) → p = q → s < j) → (∃ e, E.lookup (p, (s : Int)) = some e) ∧ (s < 3 → toOf E p s = -1 ∨ toOf E p s ∈ F.map (·.1))
/-- what is asked of the table: all that is led to is there -/
structure Rest (r : Rt) (T : Tb) : Prop where
  ok : rOk r
  good : Good r T
  all : ∀ p ∈ ledT T, ∀ s : Nat, s ≤ 3 → ∃ e, T.lookup (p, (s : Int)) = some e
  few : ∀ k e, T.lookup k = some e → e.marks.length ≤ 1000
theorem Rest.inP {r : Rt} {T : Tb} (R : Rest r T) : inPosts r.length T := fun k e h => (R.good.ends R.ok k e h).1
theorem Rest.ledOk {r : Rt} {T : Tb} (R : Rest r T) : LedOk r.length (ledT T) := ledT_ok R.ok.one R.inP
theorem LP.len {r : Rt} {T : Tb} (R : Rest r T) {F : Fd} {line : List Int} {E : Tb} {cur : Option (Int × Nat)} (I : LP r T F line E cur) : F.length ≤ 6 := by
  have h := len_le_of_sub (F.map (·.1)) (ledT T) I.nd I.led
  rw [List.length_map] at h
  have := R.ledOk.len
  have := R.ok.six
  omega
theorem kNotIn_F (st : D) (F : Fd) (x : Int) : rDNotIn st (.int x) (encF F) = some (.bl (decide (x ∉ F.map (·.1)))) := by
  unfold rDNotIn kinOf encF dicOf
  simp only [lookup_mapI, Option.map_some]
  by_cases h : x ∈ F.map (·.1)
  · obtain ⟨v, hv⟩ := memI_lookup h
    rw [hv, decide_eq_false (fun z => z h)]
    rfl
  · rw [lookupI_none h, decide_eq_true h]
    rfl
/-- one sort at the post p -/
theorem lp_step {r : Rt} {T : Tb} (R : Rest r T) {F : Fd} {line : List Int} {E : Tb} {p : Int} {j : Nat} (hj : j ≤ 3) (hp : p ∈ F.map (·.1)) (I : LP r T F line E (some (p, j))) (hl : line.length ≤ 100) (x5 x6 : Option D) (st : D) :
    ∃ F' line' E' y6, LP r T F' line' E' (some (p, j + 1)) ∧ p ∈ F'.map (·.1) ∧ (∃ k, F'.length = F.length + k ∧ line'.length = line.length + k) ∧
      b1_led_posts [some (enR r), some (encF F), some (.lst (line.map .int)), some (encP E), some (.int p), some (.int j), x6] st = some (.nx [some (enR r), some (encF F'), some (.lst (line'.map .int)), some (encP E'), some (.int p), some (.int j), y6], st) := by
  have hled := I.led p hp
  obtain ⟨e, he⟩ := R.all p hled j hj
  obtain ⟨E', o, run⟩ := with_ends_eq R.ok R.good I.gE he st
  obtain ⟨e', he'⟩ := o.has
  have ee : e' = e := o.good.agree R.good _ _ _ he' he
  subst ee
  have look := lookup_map peE (p, (j : Int)) E'
  rw [he'] at look
  have look' : (E'.map fun x => (x.1, peE x.2)).lookup (p, (j : Int)) = some (peE e') := look
  have hpe : peE e' = .tup [.int e'.to, .int e'.turns, tI e'.marks, tI e'.left] := rfl
  have at0 : ∀ (a : D) (l : List D), L2.atI (a :: l) 0 = some a := fun a l => atI_nat (a :: l) 0
  have s1 : sAsg (eCall 3 F_with_ends (aCons (eVar 0) (aCons (eTup (aCons (eVar 4) (aCons (eVar 5) aNil))) (aCons (eVar 3) aNil)))) (tName 3) [some (enR r), some (encF F), some (.lst (line.map .int)), some (encP E), some (.int p), some (.int j), x6] st =
      some (.nx [some (enR r), some (encF F), some (.lst (line.map .int)), some (encP E'), some (.int p), some (.int j), x6], st) := by
    have run' := run
    unfold dPr at run'
    simp [sSeq, sAsg, sIf, sRet, sNil, sDrop, sPar2, sPar3, sFor, sCellSet, sCellApp, sCellPut, sNever, eVar, eC, eOp, eB, eTup, eLst, aCons, aNil, eIf, eAnd, eOr, eNot, eChain, bAnd, bOr, bNot, bYes, eCB, eCall, eSl, oNone, oSome, eNeg, eIsi, eGet, eOne, eNoP, eBack, eLc, eUpd, eBoth, tName, tTup, tsCons, tsNil, bnd, ret, iSeq, iRng, iEn, iZp, iKey, defF, startD, bodyOut, wipeD, List.getElem?_cons_zero, List.getElem?_cons_succ, List.set_cons_zero, List.set_cons_succ, List.length_cons, List.length_nil, List.map_cons, List.map_nil, List.replicate_succ, List.replicate_zero, List.cons_append, List.nil_append, if_true, if_false, Bool.false_eq_true, reduceIte, Option.map_some, Option.map_none, Nat.reduceAdd, Nat.reduceSub, Nat.reduceEqDiff, lim_eq, run']
  have s2 : sAsg (eOp rIx (eOp rDGet (eVar 3) (eTup (aCons (eVar 4) (aCons (eVar 5) aNil)))) (eC (.int 0))) (tName 6) [some (enR r), some (encF F), some (.lst (line.map .int)), some (encP E'), some (.int p), some (.int j), x6] st =
      some (.nx [some (enR r), some (encF F), some (.lst (line.map .int)), some (encP E'), some (.int p), some (.int j), some (.int e'.to)], st) := by
    simp [sSeq, sAsg, sIf, sRet, sNil, sDrop, sPar2, sPar3, sFor, sCellSet, sCellApp, sCellPut, sNever, eVar, eC, eOp, eB, eTup, eLst, aCons, aNil, eIf, eAnd, eOr, eNot, eChain, bAnd, bOr, bNot, bYes, eCB, eCall, eSl, oNone, oSome, eNeg, eIsi, eGet, eOne, eNoP, eBack, eLc, eUpd, eBoth, tName, tTup, tsCons, tsNil, bnd, ret, iSeq, iRng, iEn, iZp, iKey, defF, startD, bodyOut, wipeD, List.getElem?_cons_zero, List.getElem?_cons_succ, List.set_cons_zero, List.set_cons_succ, List.length_cons, List.length_nil, List.map_cons, List.map_nil, List.replicate_succ, List.replicate_zero, List.cons_append, List.nil_append, if_true, if_false, Bool.false_eq_true, reduceIte, Option.map_some, Option.map_none, Nat.reduceAdd, Nat.reduceSub, Nat.reduceEqDiff, lim_eq, rDGet, kinOf, dicOf, encP, look', hpe, rIx, seqOf, at0]
  have nin := kNotIn_F st F e'.to
  have len := I.len R
  have to' : toOf E' p j = e'.to := by
    unfold toOf
    rw [he']
  have keep : ∀ q (s : Nat) x, E.lookup (q, (s : Int)) = some x → E'.lookup (q, (s : Int)) = some x ∧ toOf E' q s = toOf E q s := fun q s x hx => by
    have := o.sub _ _ hx
    refine ⟨this, ?_⟩
    unfold toOf
    rw [hx, this]
  have newE : ∀ k, T.lookup k = none → E'.lookup k = none := fun k hk => o.new k (I.new k hk) hk
  -- nothing new, or a new post
  by_cases hn : e'.to ≠ -1 ∧ e'.to ∉ F.map (·.1)
  · obtain ⟨h1, h2⟩ := hn
    have j3 : j < 3 := by
      rcases Nat.lt_or_ge j 3 with h | h
      · exact h
      · have : j = 3 := by omega
        subst this
        exact absurd (R.good.foot p e' he) h1
    obtain ⟨v, hv⟩ := memI_lookup hp
    have hvm := I.stk _ (lookupI_mem hv)
    have lv := lookup_mapI p F
    rw [hv] at lv
    have lv' : (F.map fun x => (x.1, tI x.2)).lookup p = some (tI v) := lv
    have ml : e'.to ∈ ledT T := by
      have := led_closed R.ok.one R.ok.six R.inP p hled (j : Int) (by rcases (by omega : j = 0 ∨ j = 1 ∨ j = 2) with rfl | rfl | rfl <;> simp)
      unfold toOf at this
      rw [he] at this
      exact this.resolve_left h1
    have put := putI_new h2 (v ++ [(j : Int)])
    refine ⟨F ++ [(e'.to, v ++ [(j : Int)])], line ++ [e'.to], E', some (.int e'.to), ?_, ?_, ⟨1, by simp, by simp⟩, ?_⟩
    · have mem : ∀ q, q ∈ (F ++ [(e'.to, v ++ [(j : Int)])]).map (·.1) ↔ q ∈ F.map (·.1) ∨ q = e'.to := fun q => by simp
      refine ⟨o.good, newE, ?_, (mem 0).mpr (.inl I.zero), fun q hq => ((mem q).mp hq).elim (I.led q) fun z => by rw [z]; exact ml, fun x hx => ?_, fun q hq => ?_, fun q hq hnq s hs hc => ?_⟩
      · rw [List.map_append, List.nodup_append]
        refine ⟨I.nd, by simp, fun a ha b hb z => ?_⟩
        simp only [List.map_cons, List.map_nil, List.mem_singleton] at hb
        subst hb z
        exact h2 ha
      · rw [List.length_append, List.length_singleton]
        rcases List.mem_append.mp hx with z | z
        · have := I.stk x z; omega
        · rw [List.mem_singleton.mp z]
          show (v ++ [(j : Int)]).length < _
          rw [List.length_append, List.length_singleton]
          have : v.length < F.length := hvm
          omega
      · rcases List.mem_append.mp hq with z | z
        · exact (mem q).mpr (.inl (I.lin q z))
        · exact (mem q).mpr (.inr (List.mem_singleton.mp z))
      · have hq' : q ∈ F.map (·.1) := ((mem q).mp hq).resolve_right fun z => hnq (List.mem_append_right _ (List.mem_singleton.mpr z))
        have hnl : q ∉ line := fun z => hnq (List.mem_append_left _ z)
        by_cases hs2 : q = p ∧ s = j
        · obtain ⟨rfl, rfl⟩ := hs2
          exact ⟨⟨_, he'⟩, fun _ => .inr (by rw [to']; exact (mem _).mpr (.inr rfl))⟩
        · obtain ⟨⟨x, hx⟩, d2⟩ := I.done q hq' hnl s hs fun q' j' hc' hqq => by
            cases hc'
            have := hc p (j + 1) rfl hqq
            have : s ≠ j := fun z => hs2 ⟨hqq, z⟩
            omega
          obtain ⟨k1, k2⟩ := keep q s x hx
          exact ⟨⟨x, k1⟩, fun z => by rw [k2]; exact (d2 z).imp id fun w => (mem _).mpr (.inl w)⟩
    · simp only [List.map_append, List.mem_append]
      exact .inl hp
    · unfold b1_led_posts
      rw [seq_nx s1, seq_nx s2]
      have vl : v.length + 1 ≤ 100000 := by
        have : v.length < F.length := hvm
        omega
      have ll : line.length + 1 ≤ 100000 := by omega
      have fl : F.length < 100000 := by omega
      have cat : tI (v ++ [(j : Int)]) = .tup (v.map D.int ++ [.int j]) := by unfold tI; simp
      rw [cat] at put
      have tv : tI v = .tup (v.map .int) := rfl
      rw [tv] at lv'
      unfold encF at nin ⊢
      simp [sSeq, sAsg, sIf, sRet, sNil, sDrop, sPar2, sPar3, sFor, sCellSet, sCellApp, sCellPut, sNever, eVar, eC, eOp, eB, eTup, eLst, aCons, aNil, eIf, eAnd, eOr, eNot, eChain, bAnd, bOr, bNot, bYes, eCB, eCall, eSl, oNone, oSome, eNeg, eIsi, eGet, eOne, eNoP, eBack, eLc, eUpd, eBoth, tName, tTup, tsCons, tsNil, bnd, ret, iSeq, iRng, iEn, iZp, iKey, defF, startD, bodyOut, wipeD, List.getElem?_cons_zero, List.getElem?_cons_succ, List.set_cons_zero, List.set_cons_succ, List.length_cons, List.length_nil, List.map_cons, List.map_nil, List.replicate_succ, List.replicate_zero, List.cons_append, List.nil_append, if_true, if_false, Bool.false_eq_true, reduceIte, Option.map_some, Option.map_none, Nat.reduceAdd, Nat.reduceSub, Nat.reduceEqDiff, lim_eq, rNe, kEq_int, kEq_intstr, h1, nin, h2, rDGet, kinOf, dicOf, lv', rAdd, vl, ll, fl, put]
  · refine ⟨F, line, E', some (.int e'.to), ?_, hp, ⟨0, rfl, rfl⟩, ?_⟩
    · refine ⟨o.good, newE, I.nd, I.zero, I.led, I.stk, I.lin, fun q hq hnq s hs hc => ?_⟩
      by_cases hs2 : q = p ∧ s = j
      · obtain ⟨rfl, rfl⟩ := hs2
        refine ⟨⟨_, he'⟩, fun _ => ?_⟩
        rw [to']
        by_cases h1 : e'.to = -1
        · exact .inl h1
        · by_cases h2 : e'.to ∈ F.map (·.1)
          · exact .inr h2
          · exact absurd ⟨h1, h2⟩ hn
      · obtain ⟨⟨x, hx⟩, d2⟩ := I.done q hq hnq s hs fun q' j' hc' hqq => by
          cases hc'
          have := hc p (j + 1) rfl hqq
          have : s ≠ j := fun z => hs2 ⟨hqq, z⟩
          omega
        obtain ⟨k1, k2⟩ := keep q s x hx
        exact ⟨⟨x, k1⟩, fun z => by rw [k2]; exact d2 z⟩
    · unfold b1_led_posts
      rw [seq_nx s1, seq_nx s2]
      by_cases h1 : e'.to = -1
      · simp [sSeq, sAsg, sIf, sRet, sNil, sDrop, sPar2, sPar3, sFor, sCellSet, sCellApp, sCellPut, sNever, eVar, eC, eOp, eB, eTup, eLst, aCons, aNil, eIf, eAnd, eOr, eNot, eChain, bAnd, bOr, bNot, bYes, eCB, eCall, eSl, oNone, oSome, eNeg, eIsi, eGet, eOne, eNoP, eBack, eLc, eUpd, eBoth, tName, tTup, tsCons, tsNil, bnd, ret, iSeq, iRng, iEn, iZp, iKey, defF, startD, bodyOut, wipeD, List.getElem?_cons_zero, List.getElem?_cons_succ, List.set_cons_zero, List.set_cons_succ, List.length_cons, List.length_nil, List.map_cons, List.map_nil, List.replicate_succ, List.replicate_zero, List.cons_append, List.nil_append, if_true, if_false, Bool.false_eq_true, reduceIte, Option.map_some, Option.map_none, Nat.reduceAdd, Nat.reduceSub, Nat.reduceEqDiff, rNe, kEq_int, h1]
      · have h2 : e'.to ∈ F.map (·.1) := Classical.byContradiction fun z => hn ⟨h1, z⟩
        rw [decide_eq_false (fun z => z h2)] at nin
        simp [sSeq, sAsg, sIf, sRet, sNil, sDrop, sPar2, sPar3, sFor, sCellSet, sCellApp, sCellPut, sNever, eVar, eC, eOp, eB, eTup, eLst, aCons, aNil, eIf, eAnd, eOr, eNot, eChain, bAnd, bOr, bNot, bYes, eCB, eCall, eSl, oNone, oSome, eNeg, eIsi, eGet, eOne, eNoP, eBack, eLc, eUpd, eBoth, tName, tTup, tsCons, tsNil, bnd, ret, iSeq, iRng, iEn, iZp, iKey, defF, startD, bodyOut, wipeD, List.getElem?_cons_zero, List.getElem?_cons_succ, List.set_cons_zero, List.set_cons_succ, List.length_cons, List.length_nil, List.map_cons, List.map_nil, List.replicate_succ, List.replicate_zero, List.cons_append, List.nil_append, if_true, if_false, Bool.false_eq_true, reduceIte, Option.map_some, Option.map_none, Nat.reduceAdd, Nat.reduceSub, Nat.reduceEqDiff, rNe, kEq_int, kEq_intstr, h1, nin]
theorem kEq_nilI (l : List Int) : kEq (.lst (l.map .int)) (.lst []) = some (decide (l = [])) := by
  have e : deq (.lst (l.map .int)) (.lst []) = decide (l = []) := deq_of ⟨fun h => by
    injection h with h
    exact List.map_eq_nil_iff.mp h, fun h => by rw [h]; rfl⟩
  have h1 : plN 8 (.lst (l.map .int)) = true := plN_ints 7 l
  have h2 : plN 8 (.lst []) = true := rfl
  unfold kEq
  simp only [h1, h2, Bool.and_self, if_true, e]
abbrev lpS (r : Rt) (F : Fd) (line : List Int) (E : Tb) (x4 x5 x6 : Option D) : Env := [some (enR r), some (encF F), some (.lst (line.map .int)), some (encP E), x4, x5, x6]
theorem lp_more (r : Rt) (F : Fd) (line : List Int) (E : Tb) (x4 x5 x6 : Option D) (st : D) : c2_led_posts (lpS r F line E x4 x5 x6) st = some (!decide (line = []), st) := by
  have k := kEq_nilI line
  simp [c2_led_posts, sSeq, sAsg, sIf, sRet, sNil, sDrop, sPar2, sPar3, sFor, sCellSet, sCellApp, sCellPut, sNever, eVar, eC, eOp, eB, eTup, eLst, aCons, aNil, eIf, eAnd, eOr, eNot, eChain, bAnd, bOr, bNot, bYes, eCB, eCall, eSl, oNone, oSome, eNeg, eIsi, eGet, eOne, eNoP, eBack, eLc, eUpd, eBoth, tName, tTup, tsCons, tsNil, bnd, ret, iSeq, iRng, iEn, iZp, iKey, defF, startD, bodyOut, wipeD, List.getElem?_cons_zero, List.getElem?_cons_succ, List.set_cons_zero, List.set_cons_succ, List.length_cons, List.length_nil, List.map_cons, List.map_nil, List.replicate_succ, List.replicate_zero, List.cons_append, List.nil_append, if_true, if_false, Bool.false_eq_true, reduceIte, Option.map_some, Option.map_none, Nat.reduceAdd, Nat.reduceSub, Nat.reduceEqDiff, lim_eq, rNe, k]
theorem for_range {tg : TD} {g : ES} (R : Nat → Env → D → Prop) : ∀ (n i : Nat) (ρ : Env) (s : D), (∀ (j : Nat) (ρ : Env) (s : D), j < i + n → R j ρ s → ∃ ρ1 ρ2 s2, tg (.int (j : Nat)) ρ = some ρ1 ∧ g ρ1 s = some (.nx ρ2, s2) ∧ R (j + 1) ρ2 s2) → R i ρ s →
    ∃ ρ' s', forGo tg g ((List.range' i n).map fun (i : Nat) => D.int i) ρ s = some (.nx ρ', s') ∧ R (i + n) ρ' s'
  | 0, i, ρ, s, _, h => ⟨ρ, s, rfl, h⟩
  | n + 1, i, ρ, s, H, h => by
    obtain ⟨ρ1, ρ2, s2, h1, h2, h3⟩ := H i ρ s (by omega) h
    obtain ⟨ρ', s', h4, h5⟩ := for_range R n (i + 1) ρ2 s2 (fun j ρ s hj => H j ρ s (by omega)) h3
    refine ⟨ρ', s', ?_, by rw [show i + (n + 1) = i + 1 + n by omega]; exact h5⟩
    rw [List.range'_succ, List.map_cons]
    unfold forGo
    rw [h1]
    show bnd (g ρ1 s) _ = _
    rw [h2]
    exact h4
/-- one post -/
theorem lp_post {r : Rt} {T : Tb} (R : Rest r T) {F : Fd} {p : Int} {line : List Int} {E : Tb} (I : LP r T F (p :: line) E none) (hl : line.length ≤ 50) (x4 x5 x6 : Option D) (st : D) :
    ∃ F' line' E' y4 y5 y6, LP r T F' line' E' none ∧ (∃ k, F'.length = F.length + k ∧ line'.length = line.length + k) ∧ w3_led_posts (lpS r F (p :: line) E x4 x5 x6) st = some (.nx (lpS r F' line' E' y4 y5 y6), st) := by
  have hp : p ∈ F.map (·.1) := I.lin p List.mem_cons_self
  have six := R.ok.six
  have I0 : LP r T F line E (some (p, 0)) := { I with
    lin := fun q hq => I.lin q (List.mem_cons_of_mem _ hq)
    done := fun q hq hn s hs hc => by
      by_cases hqp : q = p
      · have := hc p 0 rfl hqp
        omega
      · exact I.done q hq (fun z => (List.mem_cons.mp z).elim hqp hn) s hs fun _ _ z => nomatch z }
  obtain ⟨ρ', s', e, F', line', E', y5, y6, hρ', hs', I4, hp4, ⟨k, hk1, hk2⟩⟩ := for_range (tg := tName 5) (g := b1_led_posts)
    (fun i ρ s => ∃ F' line' E' y5 y6, ρ = lpS r F' line' E' (some (.int p)) y5 y6 ∧ s = st ∧ LP r T F' line' E' (some (p, i)) ∧ p ∈ F'.map (·.1) ∧ (∃ k, F'.length = F.length + k ∧ line'.length = line.length + k)) 4 0 (lpS r F line E (some (.int p)) x5 x6) st (fun j ρ s hj hR => by
      obtain ⟨F1, l1, E1, y5, y6, rfl, rfl, I1, hp1, k1, hk1, hk2⟩ := hR
      have len := I1.len R
      obtain ⟨F2, l2, E2, z6, I2, hp2, ⟨k2, a, b⟩, run⟩ := lp_step R (by omega : j ≤ 3) hp1 I1 (by omega) none y6 s
      exact ⟨_, _, _, rfl, run, F2, l2, E2, some (.int j), z6, rfl, rfl, I2, hp2, k1 + k2, by omega, by omega⟩) ⟨F, line, E, x5, x6, rfl, rfl, I0, hp, 0, rfl, rfl⟩
  rw [hρ', hs'] at e
  refine ⟨F', line', E', some (.int p), y5, y6, { I4 with done := fun q hq hn s hs _ => I4.done q hq hn s hs fun q' j' z w => by cases z; show s < 0 + 4; omega }, ⟨k, hk1, hk2⟩, ?_⟩
  have i0 : L2.atI ((p :: line).map D.int) 0 = some (.int p) := atI_nat ((p :: line).map D.int) 0
  have c1 := cut_from ((p :: line).map D.int) 1
  have e1 : sPar2 4 2 (aCons (eOp rIx (eVar 2) (eC (.int 0))) (aCons (eSl (eVar 2) (oSome (eC (.int 1))) oNone) aNil)) (lpS r F (p :: line) E x4 x5 x6) st = some (.nx (lpS r F line E (some (.int p)) x5 x6), st) := by
    have c1' : cutD (D.int p :: line.map D.int) (some 1) none = line.map D.int := c1
    have i0' : L2.atI (D.int p :: line.map D.int) 0 = some (.int p) := i0
    simp [sSeq, sAsg, sIf, sRet, sNil, sDrop, sPar2, sPar3, sFor, sCellSet, sCellApp, sCellPut, sNever, eVar, eC, eOp, eB, eTup, eLst, aCons, aNil, eIf, eAnd, eOr, eNot, eChain, bAnd, bOr, bNot, bYes, eCB, eCall, eSl, oNone, oSome, eNeg, eIsi, eGet, eOne, eNoP, eBack, eLc, eUpd, eBoth, tName, tTup, tsCons, tsNil, bnd, ret, iSeq, iRng, iEn, iZp, iKey, defF, startD, bodyOut, wipeD, List.getElem?_cons_zero, List.getElem?_cons_succ, List.set_cons_zero, List.set_cons_succ, List.length_cons, List.length_nil, List.map_cons, List.map_nil, List.replicate_succ, List.replicate_zero, List.cons_append, List.nil_append, if_true, if_false, Bool.false_eq_true, reduceIte, Option.map_some, Option.map_none, Nat.reduceAdd, Nat.reduceSub, Nat.reduceEqDiff, rIx, seqOf, i0', c1']
  unfold w3_led_posts
  rw [seq_nx e1]
  have it : iRng (eOp rAdd (eC (.int 3)) (eC (.int 1))) (lpS r F line E (some (.int p)) x5 x6) st = some ((List.range 4).map fun (i : Nat) => D.int i, st) := rng_eval (n := 4) (by simp [sSeq, sAsg, sIf, sRet, sNil, sDrop, sPar2, sPar3, sFor, sCellSet, sCellApp, sCellPut, sNever, eVar, eC, eOp, eB, eTup, eLst, aCons, aNil, eIf, eAnd, eOr, eNot, eChain, bAnd, bOr, bNot, bYes, eCB, eCall, eSl, oNone, oSome, eNeg, eIsi, eGet, eOne, eNoP, eBack, eLc, eUpd, eBoth, tName, tTup, tsCons, tsNil, bnd, ret, iSeq, iRng, iEn, iZp, iKey, defF, startD, bodyOut, wipeD, List.getElem?_cons_zero, List.getElem?_cons_succ, List.set_cons_zero, List.set_cons_succ, List.length_cons, List.length_nil, List.map_cons, List.map_nil, List.replicate_succ, List.replicate_zero, List.cons_append, List.nil_append, if_true, if_false, Bool.false_eq_true, reduceIte, Option.map_some, Option.map_none, Nat.reduceAdd, Nat.reduceSub, Nat.reduceEqDiff, rAdd]) (by decide)
  unfold sFor
  rw [it]
  rw [← List.range_eq_range'] at e
  exact e
end Pg
set_option Elab.async false
set_option linter.all false
set_option maxRecDepth 100000
set_option maxHeartbeats 4000000
/-! The pure part, j: led_posts as a whole. -/
namespace Pg
open PySem PySem.Spec PyProof.Rows L2

theorem lp_run {r : Rt} {T : Tb} (R : Rest r T) (st : D) : ∀ (M : Nat) (F : Fd) (line : List Int) (E : Tb) (x4 x5 x6 : Option D), LP r T F line E none → line.length ≤ 6 * M → 2 * (6 - F.length) + line.length ≤ M → M ≤ 12 →
    ∀ n, ∃ F' E' y4 y5 y6, LP r T F' [] E' none ∧ whileGo c2_led_posts w3_led_posts (n + M + 1) (lpS r F line E x4 x5 x6) st = some (.nx (lpS r F' [] E' y4 y5 y6), st)
  | M, F, [], E, x4, x5, x6, I, _, _, _, n => ⟨F, E, x4, x5, x6, I, while_end (by rw [lp_more]; rfl) _⟩
  | 0, F, p :: line, E, x4, x5, x6, I, _, h, _, n => by
    rw [List.length_cons] at h
    omega
  | M + 1, F, p :: line, E, x4, x5, x6, I, hl, h, hM, n => by
    rw [List.length_cons] at h
    obtain ⟨F', line', E', y4, y5, y6, I', ⟨k, a, b⟩, run⟩ := lp_post R I (by omega) x4 x5 x6 st
    have len := I'.len R
    obtain ⟨F2, E2, z4, z5, z6, I2, run2⟩ := lp_run R st M F' line' E' y4 y5 y6 I' (by omega) (by omega) (by omega) n
    refine ⟨F2, E2, z4, z5, z6, I2, ?_⟩
    rw [show n + (M + 1) + 1 = (n + M + 1) + 1 by omega, while_turn (by rw [lp_more]; rfl) run]
    exact run2
/-- what led_posts hands back: the posts that are led to, their ends -/
structure Posts (r : Rt) (T : Tb) (F : Fd) (E : Tb) : Prop where
  gE : Good r E
  nd : (F.map (·.1)).Nodup
  keys : ∀ p, p ∈ F.map (·.1) ↔ p ∈ ledT T
  has : ∀ p ∈ ledT T, ∀ s : Nat, s ≤ 3 → ∃ e, E.lookup (p, (s : Int)) = some e ∧ T.lookup (p, (s : Int)) = some e
  len : F.length ≤ 6
theorem led_posts_eq {r : Rt} {T : Tb} (R : Rest r T) (st : D) : ∃ F E, Posts r T F E ∧ F_led_posts [enR r] st = some (.tup [encF F, encP E], st) := by
  have I0 : LP r T [(0, [])] [0] [] none := ⟨.nil, fun _ _ => rfl, by simp, by simp, fun p hp => by
    simp only [List.map_cons, List.map_nil, List.mem_singleton] at hp
    rw [hp]
    exact led_zero T, fun x hx => by rw [List.mem_singleton.mp hx]; exact Nat.zero_lt_one, fun p hp => by simpa using hp, fun p hp hn => by
    exfalso
    simp only [List.map_cons, List.map_nil, List.mem_singleton] at hp
    exact hn (by rw [hp]; simp)⟩
  obtain ⟨F, E, y4, y5, y6, I, run⟩ := lp_run R st 12 [(0, [])] [0] [] none none none I0 (by simp) (by simp) (by omega) 987
  refine ⟨F, E, ⟨I.gE, I.nd, fun p => ⟨I.led p, led_min I.zero (fun q hq s hs => ?_) p⟩, fun p hp s hs => ?_, I.len R⟩, ?_⟩
  · obtain ⟨n, hn, rfl⟩ : ∃ n : Nat, n < 3 ∧ s = (n : Int) := by
      simp only [List.mem_cons, List.not_mem_nil, or_false] at hs
      rcases hs with rfl | rfl | rfl
      · exact ⟨0, by omega, rfl⟩
      · exact ⟨1, by omega, rfl⟩
      · exact ⟨2, by omega, rfl⟩
    obtain ⟨⟨e, he⟩, d⟩ := I.done q hq (fun z => nomatch z) n (by omega) fun _ _ z => nomatch z
    obtain ⟨e', he'⟩ := R.all q (I.led q hq) n (by omega)
    have ee := I.gE.agree R.good _ _ _ he he'
    have : toOf T q (n : Int) = toOf E q (n : Int) := by
      unfold toOf
      rw [he, he', ee]
    rw [this]
    exact d hn
  · have hq : p ∈ F.map (·.1) := led_min I.zero (fun q hq s hs => by
      obtain ⟨n, hn, rfl⟩ : ∃ n : Nat, n < 3 ∧ s = (n : Int) := by
        simp only [List.mem_cons, List.not_mem_nil, or_false] at hs
        rcases hs with rfl | rfl | rfl
        · exact ⟨0, by omega, rfl⟩
        · exact ⟨1, by omega, rfl⟩
        · exact ⟨2, by omega, rfl⟩
      obtain ⟨⟨e, he⟩, d⟩ := I.done q hq (fun z => nomatch z) n (by omega) fun _ _ z => nomatch z
      obtain ⟨e', he'⟩ := R.all q (I.led q hq) n (by omega)
      have ee := I.gE.agree R.good _ _ _ he he'
      have : toOf T q (n : Int) = toOf E q (n : Int) := by
        unfold toOf
        rw [he, he', ee]
      rw [this]
      exact d hn) p hp
    obtain ⟨⟨e, he⟩, _⟩ := I.done p hq (fun z => nomatch z) s hs fun _ _ z => nomatch z
    obtain ⟨e', he'⟩ := R.all p hp s hs
    obtain rfl := I.gE.agree R.good _ _ _ he he'
    exact ⟨e, he, he'⟩
  · have s1 : sPar3 1 2 3 (aCons (eOne (eC (.int 0)) (eTup aNil)) (aCons (eLst (aCons (eC (.int 0)) aNil)) (aCons eNoP aNil))) [some (enR r), none, none, none, none, none, none] st = some (.nx (lpS r [(0, [])] [0] [] none none none), st) := by
      simp [sSeq, sAsg, sIf, sRet, sNil, sDrop, sPar2, sPar3, sFor, sCellSet, sCellApp, sCellPut, sNever, eVar, eC, eOp, eB, eTup, eLst, aCons, aNil, eIf, eAnd, eOr, eNot, eChain, bAnd, bOr, bNot, bYes, eCB, eCall, eSl, oNone, oSome, eNeg, eIsi, eGet, eOne, eNoP, eBack, eLc, eUpd, eBoth, tName, tTup, tsCons, tsNil, bnd, ret, iSeq, iRng, iEn, iZp, iKey, defF, startD, bodyOut, wipeD, List.getElem?_cons_zero, List.getElem?_cons_succ, List.set_cons_zero, List.set_cons_succ, List.length_cons, List.length_nil, List.map_cons, List.map_nil, List.replicate_succ, List.replicate_zero, List.cons_append, List.nil_append, if_true, if_false, Bool.false_eq_true, reduceIte, Option.map_some, Option.map_none, Nat.reduceAdd, Nat.reduceSub, Nat.reduceEqDiff, lim_eq, encF, encP, tI]
    have body : g_led_posts [some (enR r), none, none, none, none, none, none] st = some (.rt (.tup [encF F, encP E]), st) := by
      unfold g_led_posts
      rw [seq_nx s1, seq_nx run]
      simp [sSeq, sAsg, sIf, sRet, sNil, sDrop, sPar2, sPar3, sFor, sCellSet, sCellApp, sCellPut, sNever, eVar, eC, eOp, eB, eTup, eLst, aCons, aNil, eIf, eAnd, eOr, eNot, eChain, bAnd, bOr, bNot, bYes, eCB, eCall, eSl, oNone, oSome, eNeg, eIsi, eGet, eOne, eNoP, eBack, eLc, eUpd, eBoth, tName, tTup, tsCons, tsNil, bnd, ret, iSeq, iRng, iEn, iZp, iKey, defF, startD, bodyOut, wipeD, List.getElem?_cons_zero, List.getElem?_cons_succ, List.set_cons_zero, List.set_cons_succ, List.length_cons, List.length_nil, List.map_cons, List.map_nil, List.replicate_succ, List.replicate_zero, List.cons_append, List.nil_append, if_true, if_false, Bool.false_eq_true, reduceIte, Option.map_some, Option.map_none, Nat.reduceAdd, Nat.reduceSub, Nat.reduceEqDiff, lim_eq]
    unfold F_led_posts defF
    simp only [List.length_cons, List.length_nil, if_true]
    show bodyOut (g_led_posts [some (enR r), none, none, none, none, none, none] st) = _
    rw [body]
    rfl
end Pg
set_option Elab.async false
set_option linter.all false
set_option maxRecDepth 100000
set_option maxHeartbeats 4000000
/-! The pure part, k: least_endless, need_rest, need_few, walk_rows. -/
namespace Pg
open PySem PySem.Spec PyProof.Rows L2

theorem atI0 (a : D) (l : List D) : L2.atI (a :: l) 0 = some a := atI_nat (a :: l) 0
theorem encP_get {E : Tb} {p s : Int} {e : En} (h : E.lookup (p, s) = some e) (st : D) : rDGet st (encP E) (.tup [.int p, .int s]) = some (.tup [.int e.to, .int e.turns, tI e.marks, tI e.left]) := by
  have look := lookup_map peE (p, s) E
  rw [h] at look
  unfold rDGet kinOf encP dicOf
  simp only [look, Option.map_some]
  rfl
theorem least_endless_eq {r : Rt} {T : Tb} (R : Rest r T) (st : D) : F_least_endless [enR r] st = some (.non, st) := by
  obtain ⟨F, E, P, e⟩ := led_posts_eq R st
  have inner : ∀ (p : Int), p ∈ ledT T → ∀ (x5 x6 : Option D), ∃ y5, b2_least_endless [some (enR r), some (encF F), some (encP E), some (.lst []), some (.int p), x5, x6] st = some (.nx [some (enR r), some (encF F), some (encP E), some (.lst []), some (.int p), y5, x6], st) := by
    intro p hp x5 x6
    obtain ⟨ρ', s', run, y5, h1, h2⟩ := for_range (tg := tName 5) (g := b1_least_endless) (fun _ ρ s => ∃ y5, ρ = [some (enR r), some (encF F), some (encP E), some (.lst []), some (.int p), y5, x6] ∧ s = st) 4 0 [some (enR r), some (encF F), some (encP E), some (.lst []), some (.int p), x5, x6] st (fun j ρ s hj hR => by
      obtain ⟨y5, rfl, rfl⟩ := hR
      obtain ⟨x, hx, _⟩ := P.has p hp j (by omega)
      refine ⟨_, _, _, rfl, ?_, some (.int j), rfl, rfl⟩
      have g := encP_get hx s
      simp [b1_least_endless, sSeq, sAsg, sIf, sRet, sNil, sDrop, sPar2, sPar3, sFor, sCellSet, sCellApp, sCellPut, sNever, eVar, eC, eOp, eB, eTup, eLst, aCons, aNil, eIf, eAnd, eOr, eNot, eChain, bAnd, bOr, bNot, bYes, eCB, eCall, eSl, oNone, oSome, eNeg, eIsi, eGet, eOne, eNoP, eBack, eLc, eUpd, eBoth, tName, tTup, tsCons, tsNil, bnd, ret, iSeq, iRng, iEn, iZp, iKey, defF, startD, bodyOut, wipeD, List.getElem?_cons_zero, List.getElem?_cons_succ, List.set_cons_zero, List.set_cons_succ, List.length_cons, List.length_nil, List.map_cons, List.map_nil, List.replicate_succ, List.replicate_zero, List.cons_append, List.nil_append, if_true, if_false, Bool.false_eq_true, reduceIte, Option.map_some, Option.map_none, Nat.reduceAdd, Nat.reduceSub, Nat.reduceEqDiff, lim_eq, g, rIx, seqOf, atI0, rEq, kEq_intstr]) ⟨x5, rfl, rfl⟩
    rw [h1, h2] at run
    refine ⟨y5, ?_⟩
    have it : iRng (eOp rAdd (eC (.int 3)) (eC (.int 1))) [some (enR r), some (encF F), some (encP E), some (.lst []), some (.int p), x5, x6] st = some ((List.range 4).map fun (i : Nat) => D.int i, st) := rng_eval (n := 4) (by simp [sSeq, sAsg, sIf, sRet, sNil, sDrop, sPar2, sPar3, sFor, sCellSet, sCellApp, sCellPut, sNever, eVar, eC, eOp, eB, eTup, eLst, aCons, aNil, eIf, eAnd, eOr, eNot, eChain, bAnd, bOr, bNot, bYes, eCB, eCall, eSl, oNone, oSome, eNeg, eIsi, eGet, eOne, eNoP, eBack, eLc, eUpd, eBoth, tName, tTup, tsCons, tsNil, bnd, ret, iSeq, iRng, iEn, iZp, iKey, defF, startD, bodyOut, wipeD, List.getElem?_cons_zero, List.getElem?_cons_succ, List.set_cons_zero, List.set_cons_succ, List.length_cons, List.length_nil, List.map_cons, List.map_nil, List.replicate_succ, List.replicate_zero, List.cons_append, List.nil_append, if_true, if_false, Bool.false_eq_true, reduceIte, Option.map_some, Option.map_none, Nat.reduceAdd, Nat.reduceSub, Nat.reduceEqDiff, rAdd]) (by decide)
    unfold b2_least_endless sFor
    rw [it, List.range_eq_range']
    exact run
  obtain ⟨ρ', s', run, y4, y5, h1, h2⟩ := for_fold (tg := tName 4) (g := b2_least_endless) D.int (fun (_ : Unit) (_ : Int) => ()) (fun _ ρ s => ∃ y4 y5, ρ = [some (enR r), some (encF F), some (encP E), some (.lst []), y4, y5, none] ∧ s = st) (F.map (·.1)) () [some (enR r), some (encF F), some (encP E), some (.lst []), none, none, none] st (fun _ p ρ s hp hR => by
    obtain ⟨y4, y5, rfl, rfl⟩ := hR
    obtain ⟨z5, q⟩ := inner p ((P.keys p).mp hp) y5 none
    exact ⟨_, _, _, rfl, q, _, _, rfl, rfl⟩) ⟨_, _, rfl, rfl⟩
  rw [h1, h2] at run
  have s1 : sAsg (eCall 1 F_led_posts (aCons (eVar 0) aNil)) (tTup 2 (tsCons (tName 1) (tsCons (tName 2) tsNil))) [some (enR r), none, none, none, none, none, none] st = some (.nx [some (enR r), some (encF F), some (encP E), none, none, none, none], st) := by
    simp [sSeq, sAsg, sIf, sRet, sNil, sDrop, sPar2, sPar3, sFor, sCellSet, sCellApp, sCellPut, sNever, eVar, eC, eOp, eB, eTup, eLst, aCons, aNil, eIf, eAnd, eOr, eNot, eChain, bAnd, bOr, bNot, bYes, eCB, eCall, eSl, oNone, oSome, eNeg, eIsi, eGet, eOne, eNoP, eBack, eLc, eUpd, eBoth, tName, tTup, tsCons, tsNil, bnd, ret, iSeq, iRng, iEn, iZp, iKey, defF, startD, bodyOut, wipeD, List.getElem?_cons_zero, List.getElem?_cons_succ, List.set_cons_zero, List.set_cons_succ, List.length_cons, List.length_nil, List.map_cons, List.map_nil, List.replicate_succ, List.replicate_zero, List.cons_append, List.nil_append, if_true, if_false, Bool.false_eq_true, reduceIte, Option.map_some, Option.map_none, Nat.reduceAdd, Nat.reduceSub, Nat.reduceEqDiff, e]
  have s2 : sAsg (eLst aNil) (tName 3) [some (enR r), some (encF F), some (encP E), none, none, none, none] st = some (.nx [some (enR r), some (encF F), some (encP E), some (.lst []), none, none, none], st) := by
    simp [sSeq, sAsg, sIf, sRet, sNil, sDrop, sPar2, sPar3, sFor, sCellSet, sCellApp, sCellPut, sNever, eVar, eC, eOp, eB, eTup, eLst, aCons, aNil, eIf, eAnd, eOr, eNot, eChain, bAnd, bOr, bNot, bYes, eCB, eCall, eSl, oNone, oSome, eNeg, eIsi, eGet, eOne, eNoP, eBack, eLc, eUpd, eBoth, tName, tTup, tsCons, tsNil, bnd, ret, iSeq, iRng, iEn, iZp, iKey, defF, startD, bodyOut, wipeD, List.getElem?_cons_zero, List.getElem?_cons_succ, List.set_cons_zero, List.set_cons_succ, List.length_cons, List.length_nil, List.map_cons, List.map_nil, List.replicate_succ, List.replicate_zero, List.cons_append, List.nil_append, if_true, if_false, Bool.false_eq_true, reduceIte, Option.map_some, Option.map_none, Nat.reduceAdd, Nat.reduceSub, Nat.reduceEqDiff]
  have s3 : sFor (iKey 1) (tName 4) b2_least_endless [some (enR r), some (encF F), some (encP E), some (.lst []), none, none, none] st = some (.nx [some (enR r), some (encF F), some (encP E), some (.lst []), y4, y5, none], st) := by
    have it : iKey 1 [some (enR r), some (encF F), some (encP E), some (.lst []), none, none, none] st = some ((F.map (·.1)).map D.int, st) := by
      simp [iKey, encF]
    unfold sFor
    rw [it]
    exact run
  have k := kEq_nilI []
  rw [List.map_nil] at k
  have body : g_least_endless [some (enR r), none, none, none, none, none, none] st = some (.rt .non, st) := by
    unfold g_least_endless
    rw [seq_nx s1, seq_nx s2, seq_nx s3]
    simp [sSeq, sAsg, sIf, sRet, sNil, sDrop, sPar2, sPar3, sFor, sCellSet, sCellApp, sCellPut, sNever, eVar, eC, eOp, eB, eTup, eLst, aCons, aNil, eIf, eAnd, eOr, eNot, eChain, bAnd, bOr, bNot, bYes, eCB, eCall, eSl, oNone, oSome, eNeg, eIsi, eGet, eOne, eNoP, eBack, eLc, eUpd, eBoth, tName, tTup, tsCons, tsNil, bnd, ret, iSeq, iRng, iEn, iZp, iKey, defF, startD, bodyOut, wipeD, List.getElem?_cons_zero, List.getElem?_cons_succ, List.set_cons_zero, List.set_cons_succ, List.length_cons, List.length_nil, List.map_cons, List.map_nil, List.replicate_succ, List.replicate_zero, List.cons_append, List.nil_append, if_true, if_false, Bool.false_eq_true, reduceIte, Option.map_some, Option.map_none, Nat.reduceAdd, Nat.reduceSub, Nat.reduceEqDiff, rNe, k]
  unfold F_least_endless defF
  simp only [List.length_cons, List.length_nil, if_true]
  show bodyOut (g_least_endless [some (enR r), none, none, none, none, none, none] st) = _
  rw [body]
  rfl
theorem need_rest_eq {r : Rt} {T : Tb} (R : Rest r T) (st : D) : F_need_rest [enR r] st = some (.non, st) := by
  have e := least_endless_eq R st
  simp [F_need_rest, g_need_rest, sSeq, sAsg, sIf, sRet, sNil, sDrop, sPar2, sPar3, sFor, sCellSet, sCellApp, sCellPut, sNever, eVar, eC, eOp, eB, eTup, eLst, aCons, aNil, eIf, eAnd, eOr, eNot, eChain, bAnd, bOr, bNot, bYes, eCB, eCall, eSl, oNone, oSome, eNeg, eIsi, eGet, eOne, eNoP, eBack, eLc, eUpd, eBoth, tName, tTup, tsCons, tsNil, bnd, ret, iSeq, iRng, iEn, iZp, iKey, defF, startD, bodyOut, wipeD, List.getElem?_cons_zero, List.getElem?_cons_succ, List.set_cons_zero, List.set_cons_succ, List.length_cons, List.length_nil, List.map_cons, List.map_nil, List.replicate_succ, List.replicate_zero, List.cons_append, List.nil_append, if_true, if_false, Bool.false_eq_true, reduceIte, Option.map_some, Option.map_none, Nat.reduceAdd, Nat.reduceSub, Nat.reduceEqDiff, e, rNotN]
theorem need_few_eq (l : List Int) (h : l.length ≤ 1000) (st : D) : F_need_few [tI l] st = some (.non, st) := by
  have : ¬ ((1000 : Int) < (l.length : Int)) := by omega
  simp [F_need_few, g_need_few, sSeq, sAsg, sIf, sRet, sNil, sDrop, sPar2, sPar3, sFor, sCellSet, sCellApp, sCellPut, sNever, eVar, eC, eOp, eB, eTup, eLst, aCons, aNil, eIf, eAnd, eOr, eNot, eChain, bAnd, bOr, bNot, bYes, eCB, eCall, eSl, oNone, oSome, eNeg, eIsi, eGet, eOne, eNoP, eBack, eLc, eUpd, eBoth, tName, tTup, tsCons, tsNil, bnd, ret, iSeq, iRng, iEn, iZp, iKey, defF, startD, bodyOut, wipeD, List.getElem?_cons_zero, List.getElem?_cons_succ, List.set_cons_zero, List.set_cons_succ, List.length_cons, List.length_nil, List.map_cons, List.map_nil, List.replicate_succ, List.replicate_zero, List.cons_append, List.nil_append, if_true, if_false, Bool.false_eq_true, reduceIte, Option.map_some, Option.map_none, Nat.reduceAdd, Nat.reduceSub, Nat.reduceEqDiff, tI, rLen2, rGt, this]
end Pg
set_option Elab.async false
set_option linter.all false
set_option maxRecDepth 100000
set_option maxHeartbeats 4000000
/-! The pure part, l: walk_rows, walk_table. -/
namespace Pg
open PySem PySem.Spec PyProof.Rows L2

/-! ### lists that are the same up to their order -/
theorem perm_map {α β : Type} (f : α → β) : ∀ {ds e : List β}, ds.Perm e → ∀ {l : List α}, e = l.map f → ∃ L : List α, ds = L.map f ∧ L.Perm l := by
  intro ds e h
  induction h with
  | nil =>
    intro l hl
    cases l with
    | nil => exact ⟨[], rfl, .nil⟩
    | cons a l => cases hl
  | cons x h ih =>
    intro l hl
    cases l with
    | nil => cases hl
    | cons a l =>
      rw [List.map_cons] at hl
      injection hl with h1 h2
      obtain ⟨L, e, p⟩ := ih h2
      exact ⟨a :: L, by rw [List.map_cons, h1, e], .cons a p⟩
  | swap x y m =>
    intro l hl
    cases l with
    | nil => cases hl
    | cons a l =>
      cases l with
      | nil => cases hl
      | cons b l =>
        rw [List.map_cons, List.map_cons] at hl
        injection hl with h1 h2
        injection h2 with h2 h3
        exact ⟨b :: a :: l, by rw [List.map_cons, List.map_cons, h1, h2, h3], .swap a b l⟩
  | trans _ _ ih1 ih2 =>
    intro l hl
    obtain ⟨L2, e2, p2⟩ := ih2 hl
    obtain ⟨L1, e1, p1⟩ := ih1 e2
    exact ⟨L1, e1, p1.trans p2⟩
theorem sort_map {α : Type} (f : α → D) (l : List α) : ∃ L : List α, sortD (l.map f) = L.map f ∧ L.Perm l := perm_map f (sortD_perm (l.map f)) rfl

/-! ### lookups by pairs -/
theorem lookK_none {α : Type} {l : List ((Int × Int) × α)} {k : Int × Int} (h : k ∉ l.map (·.1)) : l.lookup k = none := by
  rw [List.lookup_eq_none_iff]
  intro p hp
  rw [bne_iff_ne]
  intro e
  exact h (List.mem_map.mpr ⟨p, hp, e.symm⟩)
theorem lookK_mem {α : Type} {k : Int × Int} {v : α} : ∀ {l : List ((Int × Int) × α)}, (l.map (·.1)).Nodup → (k, v) ∈ l → l.lookup k = some v
  | [], _, h => nomatch h
  | x :: l, n, h => by
    rw [List.map_cons, List.nodup_cons] at n
    obtain ⟨j, a⟩ := x
    rw [List.lookup_cons]
    rcases List.mem_cons.mp h with e | h
    · cases e
      simp
    · have ne : (k == j) = false := beq_eq_false_iff_ne.mpr fun e => n.1 (by
        show j ∈ _
        rw [← e]
        exact List.mem_map.mpr ⟨_, h, rfl⟩)
      rw [ne]
      exact lookK_mem n.2 h
theorem fold_put : ∀ (l acc : List ((Int × Int) × D)), ((acc ++ l).map (·.1)).Nodup → l.foldl (fun acc e => putP acc e.1 e.2) acc = acc ++ l
  | [], acc, _ => (List.append_nil acc).symm
  | x :: l, acc, h => by
    have hx : x.1 ∉ acc.map (·.1) := fun m => by
      rw [List.map_append, List.map_cons, List.nodup_append] at h
      exact h.2.2 _ m _ List.mem_cons_self rfl
    have e : putP acc x.1 x.2 = acc ++ [x] := by
      unfold putP
      rw [lookK_none hx]
      rfl
    rw [List.foldl_cons, e, fold_put l (acc ++ [x]) (by rw [List.append_assoc]; exact h), List.append_assoc]
    rfl

/-! ### comprehensions over data that stand for things -/
theorem lc_enc {β : Type} {tg : TD} {te : E} {ρ : Env} {s : D} (enc h : β → D) : ∀ {xs : List β}, (∀ x ∈ xs, ∃ ρ2, tg (enc x) ρ = some ρ2 ∧ te ρ2 s = some (h x, s)) → lcGo tg bYes te ρ (xs.map enc) s = some (xs.map h, s)
  | [], _ => rfl
  | x :: xs, H => by
    obtain ⟨ρ2, h1, h2⟩ := H x List.mem_cons_self
    have ih := lc_enc enc h (xs := xs) fun y hy => H y (List.mem_cons_of_mem _ hy)
    rw [List.map_cons]
    unfold lcGo
    rw [h1]
    show bnd (te ρ2 s) _ = _
    rw [h2]
    show bnd (lcGo tg bYes te ρ (xs.map enc) s) _ = _
    rw [ih]
    rfl
theorem lc_encF {β : Type} {tg : TD} {tt : EB} {te : E} {ρ : Env} {s : D} (enc h : β → D) (p : β → Bool) : ∀ {xs : List β}, (∀ x ∈ xs, ∃ ρ2, tg (enc x) ρ = some ρ2 ∧ tt ρ2 s = some (p x, s) ∧ (p x = true → te ρ2 s = some (h x, s))) → lcGo tg tt te ρ (xs.map enc) s = some ((xs.filter p).map h, s)
  | [], _ => rfl
  | x :: xs, H => by
    obtain ⟨ρ2, h1, h2, h3⟩ := H x List.mem_cons_self
    have ih := lc_encF enc h p (xs := xs) fun y hy => H y (List.mem_cons_of_mem _ hy)
    rw [List.map_cons]
    unfold lcGo
    rw [h1]
    show bnd (tt ρ2 s) _ = _
    rw [h2]
    cases hp : p x with
    | true =>
      rw [List.filter_cons_of_pos hp]
      show bnd (te ρ2 s) _ = _
      rw [h3 hp]
      show bnd (lcGo tg tt te ρ (xs.map enc) s) _ = _
      rw [ih]
      rfl
    | false =>
      rw [List.filter_cons_of_neg (by rw [hp]; exact Bool.false_ne_true)]
      exact ih

/-! ### the rows of a walk -/
def mkOf (T : Tb) (p s : Int) : List Int := match T.lookup (p, s) with
  | some e => e.marks
  | none => []
abbrev Wt := List ((Int × Int) × (List Int × Int))
def rowW (T : Tb) (p : Int) (s : Nat) : (Int × Int) × (List Int × Int) := ((p, (s : Int)), (mkOf T p s, toOf T p s))
def dRow (x : (Int × Int) × (List Int × Int)) : D := .tup [.int x.1.1, .int x.1.2, tI x.2.1, .int x.2.2]
def rowsOf (T : Tb) (p : Int) : Wt := (List.range 4).flatMap fun s => [rowW T p s]
def rowsW (T : Tb) (L : List Int) : Wt := L.flatMap (rowsOf T)
theorem rowsOf_len (T : Tb) (p : Int) : (rowsOf T p).length = 4 := rfl
theorem wr_step {r : Rt} {T : Tb} (R : Rest r T) {F : Fd} {E : Tb} (P : Posts r T F E) {p : Int} (hp : p ∈ ledT T) {j : Nat} (hj : j ≤ 3) (acc : Wt) (hl : acc.length ≤ 1000) (x6 x7 x8 x9 : Option D) (st : D) :
    ∃ y6 y7 y8 y9, b1_walk_rows [some (enR r), some (encF F), some (encP E), some (.lst (acc.map dRow)), some (.int p), some (.int j), x6, x7, x8, x9] st =
      some (.nx [some (enR r), some (encF F), some (encP E), some (.lst ((acc ++ [rowW T p j]).map dRow)), some (.int p), some (.int j), y6, y7, y8, y9], st) := by
  obtain ⟨e, he, hT⟩ := P.has p hp j hj
  have g := encP_get he st
  have q := need_few_eq e.marks (R.few _ _ hT) st
  have l1 : acc.length + 1 ≤ 100000 := by omega
  have a1 : mkOf T p j = e.marks := by unfold mkOf; rw [hT]
  have a2 : toOf T p j = e.to := by unfold toOf; rw [hT]
  refine ⟨some (.int e.to), some (.int e.turns), some (tI e.marks), some (tI e.left), ?_⟩
  simp [b1_walk_rows, sSeq, sAsg, sIf, sRet, sNil, sDrop, sPar2, sPar3, sFor, sCellSet, sCellApp, sCellPut, sNever, eVar, eC, eOp, eB, eTup, eLst, aCons, aNil, eIf, eAnd, eOr, eNot, eChain, bAnd, bOr, bNot, bYes, eCB, eCall, eSl, oNone, oSome, eNeg, eIsi, eGet, eOne, eNoP, eBack, eLc, eUpd, eBoth, tName, tTup, tsCons, tsNil, bnd, ret, iSeq, iRng, iEn, iZp, iKey, defF, startD, bodyOut, wipeD, List.getElem?_cons_zero, List.getElem?_cons_succ, List.set_cons_zero, List.set_cons_succ, List.length_cons, List.length_nil, List.map_cons, List.map_nil, List.replicate_succ, List.replicate_zero, List.cons_append, List.nil_append, if_true, if_false, Bool.false_eq_true, reduceIte, Option.map_some, Option.map_none, Nat.reduceAdd, Nat.reduceSub, Nat.reduceEqDiff, lim_eq, g, q, rAdd, l1, rowW, dRow, a1, a2]
theorem walk_rows_eq {r : Rt} {T : Tb} (R : Rest r T) (st : D) : ∃ L : List Int, L.Nodup ∧ (∀ p, p ∈ L ↔ p ∈ ledT T) ∧ F_walk_rows [enR r] st = some (.lst ((rowsW T L).map dRow), st) := by
  obtain ⟨F, E, P, e⟩ := led_posts_eq R st
  obtain ⟨L, eL, pL⟩ := sort_map D.int (F.map (·.1))
  have nd : L.Nodup := pL.nodup_iff.mpr P.nd
  have mem : ∀ p, p ∈ L ↔ p ∈ ledT T := fun p => pL.mem_iff.trans (P.keys p)
  have l6 : L.length ≤ 6 := by
    have := P.len
    rw [pL.length_eq, List.length_map]
    exact this
  refine ⟨L, nd, mem, ?_⟩
  have inner : ∀ (p : Int), p ∈ ledT T → ∀ (acc : Wt), acc.length ≤ 900 → ∀ (x5 x6 x7 x8 x9 : Option D), ∃ y5 y6 y7 y8 y9, b2_walk_rows [some (enR r), some (encF F), some (encP E), some (.lst (acc.map dRow)), some (.int p), x5, x6, x7, x8, x9] st =
      some (.nx [some (enR r), some (encF F), some (encP E), some (.lst ((acc ++ rowsOf T p).map dRow)), some (.int p), y5, y6, y7, y8, y9], st) := by
    intro p hp acc hacc x5 x6 x7 x8 x9
    obtain ⟨ρ', s', run, y5, y6, y7, y8, y9, h1, h2, h3⟩ := for_foldI (tg := tName 5) (g := b1_walk_rows) (fun (i : Nat) => D.int i) (fun (a : Wt) (j : Nat) => a ++ [rowW T p j])
      (fun i a ρ s => ∃ y5 y6 y7 y8 y9, ρ = [some (enR r), some (encF F), some (encP E), some (.lst (a.map dRow)), some (.int p), y5, y6, y7, y8, y9] ∧ s = st ∧ a.length = acc.length + i) (List.range 4) 0 acc [some (enR r), some (encF F), some (encP E), some (.lst (acc.map dRow)), some (.int p), x5, x6, x7, x8, x9] st (fun i a j ρ s hi hj hR => by
        obtain ⟨y5, y6, y7, y8, y9, rfl, rfl, hlen⟩ := hR
        have hj' := List.mem_range.mp hj
        rw [List.length_range] at hi
        obtain ⟨z6, z7, z8, z9, q⟩ := wr_step R P hp (by omega : j ≤ 3) a (by omega) y6 y7 y8 y9 s
        exact ⟨_, _, _, rfl, q, _, _, _, _, _, rfl, rfl, by rw [List.length_append, List.length_singleton]; omega⟩) ⟨_, _, _, _, _, rfl, rfl, rfl⟩
    rw [h1, h2, foldl_app] at run
    refine ⟨y5, y6, y7, y8, y9, ?_⟩
    have it : iRng (eOp rAdd (eC (.int 3)) (eC (.int 1))) [some (enR r), some (encF F), some (encP E), some (.lst (acc.map dRow)), some (.int p), x5, x6, x7, x8, x9] st = some ((List.range 4).map fun (i : Nat) => D.int i, st) := rng_eval (n := 4) (by simp [sSeq, sAsg, sIf, sRet, sNil, sDrop, sPar2, sPar3, sFor, sCellSet, sCellApp, sCellPut, sNever, eVar, eC, eOp, eB, eTup, eLst, aCons, aNil, eIf, eAnd, eOr, eNot, eChain, bAnd, bOr, bNot, bYes, eCB, eCall, eSl, oNone, oSome, eNeg, eIsi, eGet, eOne, eNoP, eBack, eLc, eUpd, eBoth, tName, tTup, tsCons, tsNil, bnd, ret, iSeq, iRng, iEn, iZp, iKey, defF, startD, bodyOut, wipeD, List.getElem?_cons_zero, List.getElem?_cons_succ, List.set_cons_zero, List.set_cons_succ, List.length_cons, List.length_nil, List.map_cons, List.map_nil, List.replicate_succ, List.replicate_zero, List.cons_append, List.nil_append, if_true, if_false, Bool.false_eq_true, reduceIte, Option.map_some, Option.map_none, Nat.reduceAdd, Nat.reduceSub, Nat.reduceEqDiff, rAdd]) (by decide)
    unfold b2_walk_rows sFor
    rw [it]
    exact run
  obtain ⟨ρ', s', run, y4, y5, y6, y7, y8, y9, h1, h2, h3⟩ := for_foldI (tg := tName 4) (g := b2_walk_rows) D.int (fun (a : Wt) (p : Int) => a ++ rowsOf T p)
    (fun i a ρ s => ∃ y4 y5 y6 y7 y8 y9, ρ = [some (enR r), some (encF F), some (encP E), some (.lst (a.map dRow)), y4, y5, y6, y7, y8, y9] ∧ s = st ∧ a.length = 4 * i) L 0 [] [some (enR r), some (encF F), some (encP E), some (.lst []), none, none, none, none, none, none] st (fun i a p ρ s hi hp hR => by
      obtain ⟨y4, y5, y6, y7, y8, y9, rfl, rfl, hlen⟩ := hR
      obtain ⟨z5, z6, z7, z8, z9, q⟩ := inner p ((mem p).mp hp) a (by omega) y5 y6 y7 y8 y9
      exact ⟨_, _, _, rfl, q, _, _, _, _, _, _, rfl, rfl, by rw [List.length_append, rowsOf_len]; omega⟩) ⟨_, _, _, _, _, _, rfl, rfl, rfl⟩
  rw [h1, h2, foldl_app, List.nil_append] at run
  have s1 : sAsg (eCall 1 F_led_posts (aCons (eVar 0) aNil)) (tTup 2 (tsCons (tName 1) (tsCons (tName 2) tsNil))) [some (enR r), none, none, none, none, none, none, none, none, none] st = some (.nx [some (enR r), some (encF F), some (encP E), none, none, none, none, none, none, none], st) := by
    simp [sSeq, sAsg, sIf, sRet, sNil, sDrop, sPar2, sPar3, sFor, sCellSet, sCellApp, sCellPut, sNever, eVar, eC, eOp, eB, eTup, eLst, aCons, aNil, eIf, eAnd, eOr, eNot, eChain, bAnd, bOr, bNot, bYes, eCB, eCall, eSl, oNone, oSome, eNeg, eIsi, eGet, eOne, eNoP, eBack, eLc, eUpd, eBoth, tName, tTup, tsCons, tsNil, bnd, ret, iSeq, iRng, iEn, iZp, iKey, defF, startD, bodyOut, wipeD, List.getElem?_cons_zero, List.getElem?_cons_succ, List.set_cons_zero, List.set_cons_succ, List.length_cons, List.length_nil, List.map_cons, List.map_nil, List.replicate_succ, List.replicate_zero, List.cons_append, List.nil_append, if_true, if_false, Bool.false_eq_true, reduceIte, Option.map_some, Option.map_none, Nat.reduceAdd, Nat.reduceSub, Nat.reduceEqDiff, e]
  have s2 : sAsg (eLst aNil) (tName 3) [some (enR r), some (encF F), some (encP E), none, none, none, none, none, none, none] st = some (.nx [some (enR r), some (encF F), some (encP E), some (.lst []), none, none, none, none, none, none], st) := by
    simp [sSeq, sAsg, sIf, sRet, sNil, sDrop, sPar2, sPar3, sFor, sCellSet, sCellApp, sCellPut, sNever, eVar, eC, eOp, eB, eTup, eLst, aCons, aNil, eIf, eAnd, eOr, eNot, eChain, bAnd, bOr, bNot, bYes, eCB, eCall, eSl, oNone, oSome, eNeg, eIsi, eGet, eOne, eNoP, eBack, eLc, eUpd, eBoth, tName, tTup, tsCons, tsNil, bnd, ret, iSeq, iRng, iEn, iZp, iKey, defF, startD, bodyOut, wipeD, List.getElem?_cons_zero, List.getElem?_cons_succ, List.set_cons_zero, List.set_cons_succ, List.length_cons, List.length_nil, List.map_cons, List.map_nil, List.replicate_succ, List.replicate_zero, List.cons_append, List.nil_append, if_true, if_false, Bool.false_eq_true, reduceIte, Option.map_some, Option.map_none, Nat.reduceAdd, Nat.reduceSub, Nat.reduceEqDiff]
  have s3 : sFor (iSeq (eCB rSorted (aCons (eVar 1) aNil))) (tName 4) b2_walk_rows [some (enR r), some (encF F), some (encP E), some (.lst []), none, none, none, none, none, none] st = some (.nx [some (enR r), some (encF F), some (encP E), some (.lst ((rowsW T L).map dRow)), y4, y5, y6, y7, y8, y9], st) := by
    have fl : F.length ≤ 100000 := by
      have := P.len
      omega
    have it : iSeq (eCB rSorted (aCons (eVar 1) aNil)) [some (enR r), some (encF F), some (encP E), some (.lst []), none, none, none, none, none, none] st = some (L.map D.int, st) := by
      rw [List.map_map] at eL
      have eL' : sortD (F.map fun x => D.int x.1) = L.map D.int := eL
      simp [sSeq, sAsg, sIf, sRet, sNil, sDrop, sPar2, sPar3, sFor, sCellSet, sCellApp, sCellPut, sNever, eVar, eC, eOp, eB, eTup, eLst, aCons, aNil, eIf, eAnd, eOr, eNot, eChain, bAnd, bOr, bNot, bYes, eCB, eCall, eSl, oNone, oSome, eNeg, eIsi, eGet, eOne, eNoP, eBack, eLc, eUpd, eBoth, tName, tTup, tsCons, tsNil, bnd, ret, iSeq, iRng, iEn, iZp, iKey, defF, startD, bodyOut, wipeD, List.getElem?_cons_zero, List.getElem?_cons_succ, List.set_cons_zero, List.set_cons_succ, List.length_cons, List.length_nil, List.map_cons, List.map_nil, List.replicate_succ, List.replicate_zero, List.cons_append, List.nil_append, if_true, if_false, Bool.false_eq_true, reduceIte, Option.map_some, Option.map_none, Nat.reduceAdd, Nat.reduceSub, Nat.reduceEqDiff, encF, rSorted, lim_eq, fl, Function.comp_def, eL']
    unfold sFor
    rw [it]
    exact run
  have body : g_walk_rows [some (enR r), none, none, none, none, none, none, none, none, none] st = some (.rt (.lst ((rowsW T L).map dRow)), st) := by
    unfold g_walk_rows
    rw [seq_nx s1, seq_nx s2, seq_nx s3]
    rfl
  unfold F_walk_rows defF
  simp only [List.length_cons, List.length_nil, if_true]
  show bodyOut (g_walk_rows [some (enR r), none, none, none, none, none, none, none, none, none] st) = _
  rw [body]
  rfl

/-! ### the walk as a table -/
def dW (x : List Int × Int) : D := .tup [tI x.1, .int x.2]
def encW (W : Wt) : D := .dP (W.map fun x => (x.1, dW x.2))
def restW : Wt := (List.range 4).map fun (s : Nat) => ((-1, (s : Int)), ([], -1))
/-- what a pair hands out and comes to -/
def mw (T : Tb) (p s : Int) : List Int × Int := if p = -1 then ([], -1) else (mkOf T p s, toOf T p s)
structure IsW (T : Tb) (W : Wt) : Prop where
  has : ∀ p, p = -1 ∨ p ∈ ledT T → ∀ s : Nat, s ≤ 3 → W.lookup (p, (s : Int)) = some (mw T p s)
  non : ∀ p, p ≠ -1 → p ∉ ledT T → W.lookup (p, 0) = none
  few : 6 ≤ W.length ∧ W.length ≤ 100
theorem keys_rows (T : Tb) (L : List Int) : (rowsW T L).map (·.1) = L.flatMap fun p => [(p, 0), (p, 1), (p, 2), (p, 3)] := by
  induction L with
  | nil => rfl
  | cons p L ih =>
    unfold rowsW at ih ⊢
    rw [List.flatMap_cons, List.map_append, ih, List.flatMap_cons]
    rfl
theorem four_nodup {L : List Int} (h : L.Nodup) : (L.flatMap fun p => [((p, 0) : Int × Int), (p, 1), (p, 2), (p, 3)]).Nodup := by
  induction L with
  | nil => exact .nil
  | cons p L ih =>
    rw [List.nodup_cons] at h
    rw [List.flatMap_cons, List.nodup_append]
    refine ⟨by simp, ih h.2, fun a ha b hb e => ?_⟩
    subst e
    obtain ⟨q, hq, hb⟩ := List.mem_flatMap.mp hb
    have h1 : a.1 = p := by
      simp only [List.mem_cons, List.not_mem_nil, or_false] at ha
      rcases ha with rfl | rfl | rfl | rfl <;> rfl
    have h2 : a.1 = q := by
      simp only [List.mem_cons, List.not_mem_nil, or_false] at hb
      rcases hb with rfl | rfl | rfl | rfl <;> rfl
    exact h.1 (by rw [← h1, h2]; exact hq)
theorem prs_map {α : Type} (f : α → D) : ∀ l : List ((Int × Int) × α), prs? (l.map fun x => D.tup [.tup [.int x.1.1, .int x.1.2], f x.2]) = some (l.map fun x => (x.1, f x.2))
  | [] => rfl
  | x :: l => by
    show (prs? (l.map _)).map _ = _
    rw [prs_map f l]
    rfl
theorem rows_len (T : Tb) (L : List Int) : (rowsW T L).length = 4 * L.length := by
  induction L with
  | nil => rfl
  | cons p L ih =>
    unfold rowsW at ih ⊢
    rw [List.flatMap_cons, List.length_append, ih, rowsOf_len, List.length_cons]
    omega
theorem walk_table_eq {r : Rt} {T : Tb} (R : Rest r T) (st : D) : ∃ W, IsW T W ∧ F_walk_table [enR r] st = some (encW W, st) := by
  obtain ⟨L, nd, mem, e⟩ := walk_rows_eq R st
  have six : L.length ≤ 6 := by
    have h := len_le_of_sub L (ledT T) nd fun p hp => (mem p).mp hp
    have := R.ledOk.len
    have := R.ok.six
    omega
  have one : 1 ≤ L.length := by
    have : (0 : Int) ∈ L := (mem 0).mpr (led_zero T)
    exact List.length_pos_iff.mpr fun z => by rw [z] at this; cases this
  have rng : ∀ p ∈ L, 0 ≤ p ∧ p ≤ 5 := fun p hp => by
    have := R.ledOk.rg p ((mem p).mp hp)
    have := R.ok.six
    omega
  have nk := four_nodup nd
  have kr : restW.map (·.1) = [(-1, 0), (-1, 1), (-1, 2), (-1, 3)] := rfl
  have nW : ((rowsW T L ++ restW).map (·.1)).Nodup := by
    rw [List.map_append, keys_rows, kr, List.nodup_append]
    refine ⟨nk, by simp, fun a ha b hb z => ?_⟩
    subst z
    obtain ⟨q, hq, ha⟩ := List.mem_flatMap.mp ha
    have h1 : a.1 = q := by
      simp only [List.mem_cons, List.not_mem_nil, or_false] at ha
      rcases ha with rfl | rfl | rfl | rfl <;> rfl
    have h2 : a.1 = -1 := by
      simp only [List.mem_cons, List.not_mem_nil, or_false] at hb
      rcases hb with rfl | rfl | rfl | rfl <;> rfl
    have := rng q hq
    omega
  have len := rows_len T L
  refine ⟨rowsW T L ++ restW, ⟨fun p hp s hs => ?_, fun p h1 h2 => ?_, ?_⟩, ?_⟩
  · refine lookK_mem nW ?_
    by_cases h : p = -1
    · subst h
      refine List.mem_append_right _ (List.mem_map.mpr ⟨s, List.mem_range.mpr (by omega), ?_⟩)
      simp [mw]
    · have hp' := (mem p).mpr (hp.resolve_left h)
      refine List.mem_append_left _ (List.mem_flatMap.mpr ⟨p, hp', List.mem_flatMap.mpr ⟨s, List.mem_range.mpr (by omega), List.mem_singleton.mpr ?_⟩⟩)
      simp [mw, h, rowW]
  · refine lookK_none fun z => ?_
    rw [List.map_append, keys_rows, kr] at z
    rcases List.mem_append.mp z with z | z
    · obtain ⟨q, hq, z⟩ := List.mem_flatMap.mp z
      simp only [List.mem_cons, List.not_mem_nil, or_false, Prod.mk.injEq] at z
      have : p = q := by omega
      exact h2 ((mem p).mp (by rw [this]; exact hq))
    · simp only [List.mem_cons, List.not_mem_nil, or_false, Prod.mk.injEq] at z
      omega
  · rw [List.length_append, len, show restW.length = 4 from rfl]
    omega
  · have lc1 : ∀ ρ : Env, ρ.length = 6 → lcGo (tTup 4 (tsCons (tName 2) (tsCons (tName 3) (tsCons (tName 4) (tsCons (tName 5) tsNil))))) bYes e1_walk_table ρ ((rowsW T L).map dRow) st = some ((rowsW T L).map fun x => D.tup [.tup [.int x.1.1, .int x.1.2], dW x.2], st) := fun ρ hρ => by
      match ρ, hρ with
      | [a0, a1, a2, a3, a4, a5], _ =>
        exact lc_enc dRow (fun x => D.tup [.tup [.int x.1.1, .int x.1.2], dW x.2]) fun x _ => ⟨_, rfl, by simp [e1_walk_table, sSeq, sAsg, sIf, sRet, sNil, sDrop, sPar2, sPar3, sFor, sCellSet, sCellApp, sCellPut, sNever, eVar, eC, eOp, eB, eTup, eLst, aCons, aNil, eIf, eAnd, eOr, eNot, eChain, bAnd, bOr, bNot, bYes, eCB, eCall, eSl, oNone, oSome, eNeg, eIsi, eGet, eOne, eNoP, eBack, eLc, eUpd, eBoth, tName, tTup, tsCons, tsNil, bnd, ret, iSeq, iRng, iEn, iZp, iKey, defF, startD, bodyOut, wipeD, List.getElem?_cons_zero, List.getElem?_cons_succ, List.set_cons_zero, List.set_cons_succ, List.length_cons, List.length_nil, List.map_cons, List.map_nil, List.replicate_succ, List.replicate_zero, List.cons_append, List.nil_append, if_true, if_false, Bool.false_eq_true, reduceIte, Option.map_some, Option.map_none, Nat.reduceAdd, Nat.reduceSub, Nat.reduceEqDiff, lim_eq, dW]⟩
    have lc2 : ∀ ρ : Env, ρ.length = 6 → lcGo (tName 3) bYes e2_walk_table ρ ((List.range 4).map fun (i : Nat) => D.int i) st = some (restW.map fun x => D.tup [.tup [.int x.1.1, .int x.1.2], dW x.2], st) := fun ρ hρ => by
      match ρ, hρ with
      | [a0, a1, a2, a3, a4, a5], _ =>
        have := lc_enc (tg := tName 3) (te := e2_walk_table) (ρ := [a0, a1, a2, a3, a4, a5]) (s := st) (fun (i : Nat) => D.int i) (fun (i : Nat) => D.tup [.tup [.int (-1), .int i], dW ([], -1)]) (xs := List.range 4) fun x _ => ⟨_, rfl, by simp [e2_walk_table, sSeq, sAsg, sIf, sRet, sNil, sDrop, sPar2, sPar3, sFor, sCellSet, sCellApp, sCellPut, sNever, eVar, eC, eOp, eB, eTup, eLst, aCons, aNil, eIf, eAnd, eOr, eNot, eChain, bAnd, bOr, bNot, bYes, eCB, eCall, eSl, oNone, oSome, eNeg, eIsi, eGet, eOne, eNoP, eBack, eLc, eUpd, eBoth, tName, tTup, tsCons, tsNil, bnd, ret, iSeq, iRng, iEn, iZp, iKey, defF, startD, bodyOut, wipeD, List.getElem?_cons_zero, List.getElem?_cons_succ, List.set_cons_zero, List.set_cons_succ, List.length_cons, List.length_nil, List.map_cons, List.map_nil, List.replicate_succ, List.replicate_zero, List.cons_append, List.nil_append, if_true, if_false, Bool.false_eq_true, reduceIte, Option.map_some, Option.map_none, Nat.reduceAdd, Nat.reduceSub, Nat.reduceEqDiff, lim_eq, dW, tI]⟩
        rw [this]
        rfl
    have p1 := prs_map dW (rowsW T L)
    have p2 := prs_map dW restW
    have key : ∀ W : Wt, (W.map fun x => (x.1, dW x.2)).map (·.1) = W.map (·.1) := fun W => by rw [List.map_map]; rfl
    have f1 := fold_put ((rowsW T L).map fun x => (x.1, dW x.2)) [] (by rw [List.nil_append, key, keys_rows]; exact nk)
    have f2 := fold_put (restW.map fun x => (x.1, dW x.2)) [] (by rw [List.nil_append, key, kr]; simp)
    have f3 := fold_put (restW.map fun x => (x.1, dW x.2)) ((rowsW T L).map fun x => (x.1, dW x.2)) (by rw [← List.map_append, key]; exact nW)
    rw [List.nil_append] at f1 f2
    have b1 : box ((rowsW T L).map fun x => (x.1, dW x.2)) = true := by
      unfold box
      refine List.all_eq_true.mpr fun x hx => ?_
      obtain ⟨y, hy, rfl⟩ := List.mem_map.mp hx
      have : y.1 ∈ (rowsW T L).map (·.1) := List.mem_map.mpr ⟨y, hy, rfl⟩
      rw [keys_rows] at this
      obtain ⟨q, hq, z⟩ := List.mem_flatMap.mp this
      have := rng q hq
      unfold inBox
      simp only [Bool.and_eq_true, decide_eq_true_eq]
      simp only [List.mem_cons, List.not_mem_nil, or_false] at z
      rcases z with z | z | z | z <;> rw [z] <;> omega
    have b2 : box (restW.map fun x => (x.1, dW x.2)) = true := by decide
    have l1 : ((rowsW T L).map fun x => (x.1, dW x.2)).length + (restW.map fun x => (x.1, dW x.2)).length ≤ 100000 := by
      rw [List.length_map, List.length_map, len, show restW.length = 4 from rfl]
      omega
    have it : iRng (eOp rAdd (eC (.int 3)) (eC (.int 1))) [some (enR r), some (.dP ((rowsW T L).map fun x => (x.1, dW x.2))), none, none, none, none] st = some ((List.range 4).map fun (i : Nat) => D.int i, st) := rng_eval (n := 4) (by simp [sSeq, sAsg, sIf, sRet, sNil, sDrop, sPar2, sPar3, sFor, sCellSet, sCellApp, sCellPut, sNever, eVar, eC, eOp, eB, eTup, eLst, aCons, aNil, eIf, eAnd, eOr, eNot, eChain, bAnd, bOr, bNot, bYes, eCB, eCall, eSl, oNone, oSome, eNeg, eIsi, eGet, eOne, eNoP, eBack, eLc, eUpd, eBoth, tName, tTup, tsCons, tsNil, bnd, ret, iSeq, iRng, iEn, iZp, iKey, defF, startD, bodyOut, wipeD, List.getElem?_cons_zero, List.getElem?_cons_succ, List.set_cons_zero, List.set_cons_succ, List.length_cons, List.length_nil, List.map_cons, List.map_nil, List.replicate_succ, List.replicate_zero, List.cons_append, List.nil_append, if_true, if_false, Bool.false_eq_true, reduceIte, Option.map_some, Option.map_none, Nat.reduceAdd, Nat.reduceSub, Nat.reduceEqDiff, rAdd]) (by decide)
    have s1 : sAsg (eCB rDict (aCons (eLc (iSeq (eCall 1 F_walk_rows (aCons (eVar 0) aNil))) (tTup 4 (tsCons (tName 2) (tsCons (tName 3) (tsCons (tName 4) (tsCons (tName 5) tsNil))))) bYes e1_walk_table [2, 3, 4, 5]) aNil)) (tName 1) [some (enR r), none, none, none, none, none] st =
        some (.nx [some (enR r), some (.dP ((rowsW T L).map fun x => (x.1, dW x.2))), none, none, none, none], st) := by
      have c := lc1 (wipeD [some (enR r), none, none, none, none, none] [2, 3, 4, 5]) rfl
      have ll : ((rowsW T L).map dRow).length ≤ 100000 := by rw [List.length_map, len]; omega
      unfold sAsg eCB aCons eLc iSeq eCall
      simp only [aCons, aNil, eVar, bnd, List.getElem?_cons_zero, List.length_cons, List.length_nil, if_true, e, lim_eq, ll, c, ret, rDict, p1, Option.map_some, f1]
      rfl
    have s2 : eBoth (eVar 1) (eCB rDict (aCons (eLc (iRng (eOp rAdd (eC (.int 3)) (eC (.int 1)))) (tName 3) bYes e2_walk_table [3]) aNil)) [some (enR r), some (.dP ((rowsW T L).map fun x => (x.1, dW x.2))), none, none, none, none] st = some (encW (rowsW T L ++ restW), st) := by
      have c := lc2 (wipeD [some (enR r), some (.dP ((rowsW T L).map fun x => (x.1, dW x.2))), none, none, none, none] [3]) rfl
      have ll : ((List.range 4).map fun (i : Nat) => D.int i).length ≤ 100000 := by simp
      unfold eBoth eCB aCons eLc
      simp only [aCons, aNil, eVar, bnd, List.getElem?_cons_zero, List.getElem?_cons_succ, it, lim_eq, ll, if_true, c, ret, rDict, p2, Option.map_some, f2, l1, b1, b2, and_self, f3]
      unfold encW
      rw [List.map_append]
    have body : g_walk_table [some (enR r), none, none, none, none, none] st = some (.rt (encW (rowsW T L ++ restW)), st) := by
      unfold g_walk_table
      rw [seq_nx s1]
      unfold sRet
      rw [s2]
      rfl
    unfold F_walk_table defF
    simp only [List.length_cons, List.length_nil, if_true]
    show bodyOut (g_walk_table [some (enR r), none, none, none, none, none] st) = _
    rw [body]
    rfl
end Pg
set_option Elab.async false
set_option linter.all false
set_option maxRecDepth 100000
set_option maxHeartbeats 4000000
/-! The pure part, m: nexts_of, is_hit, reached_with. -/
namespace Pg
open PySem PySem.Spec PyProof.Rows L2

abbrev Sta := Int × Int
theorem for_it {fi : EI} {tg : TD} {g : ES} {ρ : Env} {s s1 : D} {xs : List D} (h : fi ρ s = some (xs, s1)) : sFor fi tg g ρ s = forGo tg g xs ρ s1 := by
  unfold sFor
  rw [h]
  rfl
def nx1 (T : Tb) (marks : List Int) (q : Sta) (s : Nat) : List (Int × Sta) :=
  if (marks.drop q.2.toNat).take (mw T q.1 s).1.length = (mw T q.1 s).1 then [((s : Int), ((mw T q.1 s).2, q.2 + ((mw T q.1 s).1.length : Int)))] else []
def nxs (T : Tb) (marks : List Int) (q : Sta) : List (Int × Sta) := (List.range 3).flatMap (nx1 T marks q)
def dNx (x : Int × Sta) : D := .tup [.int x.1, dPr x.2]
structure okS (T : Tb) (marks : List Int) (q : Sta) : Prop where
  inL : q.1 = -1 ∨ q.1 ∈ ledT T
  lo : 0 ≤ q.2
  hi : q.2 ≤ marks.length
theorem encW_get {T : Tb} {W : Wt} (hW : IsW T W) {p : Int} (hp : p = -1 ∨ p ∈ ledT T) {s : Nat} (hs : s ≤ 3) (st : D) : rDGet st (encW W) (.tup [.int p, .int s]) = some (.tup [tI (mw T p s).1, .int (mw T p s).2]) := by
  have look := lookup_map dW (p, (s : Int)) W
  rw [hW.has p hp s hs] at look
  unfold rDGet kinOf encW dicOf
  simp only [look, Option.map_some]
  rfl
theorem nx1_len (T : Tb) (marks : List Int) (q : Sta) (s : Nat) : (nx1 T marks q s).length ≤ 1 := by
  unfold nx1
  split <;> simp
theorem nx_step {T : Tb} {W : Wt} (hW : IsW T W) {marks : List Int} {p : Int} (hp : p = -1 ∨ p ∈ ledT T) {n : Nat} {j : Nat} (hj : j < 3) (acc : List (Int × Sta)) (hl : acc.length ≤ 1000) (x3 x4 : D) (x7 x8 : Option D) (st : D) :
    ∃ y7 y8, b1_nexts_of [some (encW W), some (tI marks), some x3, some (.int p), some (.int n), some (.lst (acc.map dNx)), some (.int j), x7, x8] st =
      some (.nx [some (encW W), some (tI marks), some x3, some (.int p), some (.int n), some (.lst ((acc ++ nx1 T marks (p, (n : Int)) j).map dNx)), some (.int j), y7, y8], st) := by
  have g := encW_get hW hp (s := j) (by omega) st
  unfold nx1
  cases hm : mw T p (j : Int) with
  | mk mk to =>
    rw [hm] at g
    have c1 := cut_both (marks.map D.int) n (n + mk.length) (Nat.le_add_right _ _)
    rw [Nat.add_sub_cancel_left] at c1
    have k1 : ((n + mk.length : Nat) : Int) = (n : Int) + (mk.length : Int) := by omega
    rw [k1] at c1
    have ke := kEq_tI ((marks.drop n).take mk.length) mk
    unfold tI at ke
    rw [List.map_take, List.map_drop] at ke
    have l1 : acc.length + 1 ≤ 100000 := by omega
    have tn : ((p, (n : Int)) : Sta).2.toNat = n := by simp
    refine ⟨some (tI mk), some (.int to), ?_⟩
    unfold tI at g ⊢
    by_cases h : (marks.drop n).take mk.length = mk
    · rw [decide_eq_true h] at ke
      simp [b1_nexts_of, sSeq, sAsg, sIf, sRet, sNil, sDrop, sPar2, sPar3, sFor, sCellSet, sCellApp, sCellPut, sNever, eVar, eC, eOp, eB, eTup, eLst, aCons, aNil, eIf, eAnd, eOr, eNot, eChain, bAnd, bOr, bNot, bYes, eCB, eCall, eSl, oNone, oSome, eNeg, eIsi, eGet, eOne, eNoP, eBack, eLc, eUpd, eBoth, tName, tTup, tsCons, tsNil, bnd, ret, iSeq, iRng, iEn, iZp, iKey, defF, startD, bodyOut, wipeD, List.getElem?_cons_zero, List.getElem?_cons_succ, List.set_cons_zero, List.set_cons_succ, List.length_cons, List.length_nil, List.map_cons, List.map_nil, List.replicate_succ, List.replicate_zero, List.cons_append, List.nil_append, if_true, if_false, Bool.false_eq_true, reduceIte, Option.map_some, Option.map_none, Nat.reduceAdd, Nat.reduceSub, Nat.reduceEqDiff, lim_eq, g, rLen2, rAdd, rEq, c1, ke, h, hm, l1, dNx, dPr]
    · rw [decide_eq_false h] at ke
      simp [b1_nexts_of, sSeq, sAsg, sIf, sRet, sNil, sDrop, sPar2, sPar3, sFor, sCellSet, sCellApp, sCellPut, sNever, eVar, eC, eOp, eB, eTup, eLst, aCons, aNil, eIf, eAnd, eOr, eNot, eChain, bAnd, bOr, bNot, bYes, eCB, eCall, eSl, oNone, oSome, eNeg, eIsi, eGet, eOne, eNoP, eBack, eLc, eUpd, eBoth, tName, tTup, tsCons, tsNil, bnd, ret, iSeq, iRng, iEn, iZp, iKey, defF, startD, bodyOut, wipeD, List.getElem?_cons_zero, List.getElem?_cons_succ, List.set_cons_zero, List.set_cons_succ, List.length_cons, List.length_nil, List.map_cons, List.map_nil, List.replicate_succ, List.replicate_zero, List.cons_append, List.nil_append, if_true, if_false, Bool.false_eq_true, reduceIte, Option.map_some, Option.map_none, Nat.reduceAdd, Nat.reduceSub, Nat.reduceEqDiff, lim_eq, g, rLen2, rAdd, rEq, c1, ke, h, hm, l1, dNx, dPr]
theorem nexts_of_eq {T : Tb} {W : Wt} (hW : IsW T W) {marks : List Int} {q : Sta} (hq : okS T marks q) (st : D) : F_nexts_of [encW W, tI marks, dPr q] st = some (.lst ((nxs T marks q).map dNx), st) := by
  obtain ⟨p, c⟩ := q
  obtain ⟨n, rfl⟩ : ∃ n : Nat, c = (n : Int) := ⟨c.toNat, by have := hq.lo; simp only at this; omega⟩
  have hp : p = -1 ∨ p ∈ ledT T := hq.inL
  have dp : dPr (p, (n : Int)) = .tup [.int p, .int n] := rfl
  obtain ⟨ρ', s', run, y6, y7, y8, h1, h2, h3⟩ := for_foldI (tg := tName 6) (g := b1_nexts_of) (fun (i : Nat) => D.int i) (fun (a : List (Int × Sta)) (j : Nat) => a ++ nx1 T marks (p, (n : Int)) j)
    (fun i a ρ s => ∃ y6 y7 y8, ρ = [some (encW W), some (tI marks), some (dPr (p, (n : Int))), some (.int p), some (.int n), some (.lst (a.map dNx)), y6, y7, y8] ∧ s = st ∧ a.length ≤ i) (List.range 3) 0 [] [some (encW W), some (tI marks), some (dPr (p, (n : Int))), some (.int p), some (.int n), some (.lst []), none, none, none] st (fun i a j ρ s hi hj hR => by
      obtain ⟨y6, y7, y8, rfl, rfl, hlen⟩ := hR
      have hj' := List.mem_range.mp hj
      rw [List.length_range] at hi
      obtain ⟨z7, z8, e⟩ := nx_step hW (marks := marks) hp (n := n) hj' a (by omega) (dPr (p, (n : Int))) (dPr (p, (n : Int))) y7 y8 s
      have := nx1_len T marks (p, (n : Int)) j
      exact ⟨_, _, _, rfl, e, _, _, _, rfl, rfl, by rw [List.length_append]; omega⟩) ⟨_, _, _, rfl, rfl, Nat.le_refl _⟩
  rw [h1, h2, foldl_app, List.nil_append] at run
  have s1 : sAsg (eVar 2) (tTup 2 (tsCons (tName 3) (tsCons (tName 4) tsNil))) [some (encW W), some (tI marks), some (dPr (p, (n : Int))), none, none, none, none, none, none] st = some (.nx [some (encW W), some (tI marks), some (dPr (p, (n : Int))), some (.int p), some (.int n), none, none, none, none], st) := by
    simp [sSeq, sAsg, sIf, sRet, sNil, sDrop, sPar2, sPar3, sFor, sCellSet, sCellApp, sCellPut, sNever, eVar, eC, eOp, eB, eTup, eLst, aCons, aNil, eIf, eAnd, eOr, eNot, eChain, bAnd, bOr, bNot, bYes, eCB, eCall, eSl, oNone, oSome, eNeg, eIsi, eGet, eOne, eNoP, eBack, eLc, eUpd, eBoth, tName, tTup, tsCons, tsNil, bnd, ret, iSeq, iRng, iEn, iZp, iKey, defF, startD, bodyOut, wipeD, List.getElem?_cons_zero, List.getElem?_cons_succ, List.set_cons_zero, List.set_cons_succ, List.length_cons, List.length_nil, List.map_cons, List.map_nil, List.replicate_succ, List.replicate_zero, List.cons_append, List.nil_append, if_true, if_false, Bool.false_eq_true, reduceIte, Option.map_some, Option.map_none, Nat.reduceAdd, Nat.reduceSub, Nat.reduceEqDiff, dp]
  have s2 : sAsg (eLst aNil) (tName 5) [some (encW W), some (tI marks), some (dPr (p, (n : Int))), some (.int p), some (.int n), none, none, none, none] st = some (.nx [some (encW W), some (tI marks), some (dPr (p, (n : Int))), some (.int p), some (.int n), some (.lst []), none, none, none], st) := by
    simp [sSeq, sAsg, sIf, sRet, sNil, sDrop, sPar2, sPar3, sFor, sCellSet, sCellApp, sCellPut, sNever, eVar, eC, eOp, eB, eTup, eLst, aCons, aNil, eIf, eAnd, eOr, eNot, eChain, bAnd, bOr, bNot, bYes, eCB, eCall, eSl, oNone, oSome, eNeg, eIsi, eGet, eOne, eNoP, eBack, eLc, eUpd, eBoth, tName, tTup, tsCons, tsNil, bnd, ret, iSeq, iRng, iEn, iZp, iKey, defF, startD, bodyOut, wipeD, List.getElem?_cons_zero, List.getElem?_cons_succ, List.set_cons_zero, List.set_cons_succ, List.length_cons, List.length_nil, List.map_cons, List.map_nil, List.replicate_succ, List.replicate_zero, List.cons_append, List.nil_append, if_true, if_false, Bool.false_eq_true, reduceIte, Option.map_some, Option.map_none, Nat.reduceAdd, Nat.reduceSub, Nat.reduceEqDiff]
  have it : iRng (eC (.int 3)) [some (encW W), some (tI marks), some (dPr (p, (n : Int))), some (.int p), some (.int n), some (.lst []), none, none, none] st = some ((List.range 3).map fun (i : Nat) => D.int i, st) := rng_eval (n := 3) rfl (by decide)
  have body : g_nexts_of [some (encW W), some (tI marks), some (dPr (p, (n : Int))), none, none, none, none, none, none] st = some (.rt (.lst ((nxs T marks (p, (n : Int))).map dNx)), st) := by
    unfold g_nexts_of
    rw [seq_nx s1, seq_nx s2, seq_nx ((for_it it).trans run)]
    rfl
  unfold F_nexts_of defF
  simp only [List.length_cons, List.length_nil, if_true]
  show bodyOut (g_nexts_of [some (encW W), some (tI marks), some (dPr (p, (n : Int))), none, none, none, none, none, none] st) = _
  rw [body]
  rfl
def hitB (T : Tb) (marks : List Int) (q : Sta) : Bool := decide ((mw T q.1 3).1 = marks.drop q.2.toNat)
theorem is_hit_eq {T : Tb} {W : Wt} (hW : IsW T W) {marks : List Int} {q : Sta} (hq : okS T marks q) (st : D) : F_is_hit [encW W, tI marks, dPr q] st = some (.bl (hitB T marks q), st) := by
  obtain ⟨p, c⟩ := q
  obtain ⟨n, rfl⟩ : ∃ n : Nat, c = (n : Int) := ⟨c.toNat, by have := hq.lo; simp only at this; omega⟩
  have hp : p = -1 ∨ p ∈ ledT T := hq.inL
  have dp : dPr (p, (n : Int)) = .tup [.int p, .int n] := rfl
  have g := encW_get hW hp (s := 3) (by omega) st
  have c1 := cut_from (marks.map D.int) n
  have k3 : ((3 : Nat) : Int) = 3 := rfl
  rw [k3] at g
  have tn : ((p, (n : Int)) : Sta).2.toNat = n := by simp
  have ke := kEq_tI (mw T p 3).1 (marks.drop n)
  unfold hitB
  rw [tn]
  unfold tI at ke g ⊢
  rw [List.map_drop] at ke
  simp [F_is_hit, g_is_hit, sSeq, sAsg, sIf, sRet, sNil, sDrop, sPar2, sPar3, sFor, sCellSet, sCellApp, sCellPut, sNever, eVar, eC, eOp, eB, eTup, eLst, aCons, aNil, eIf, eAnd, eOr, eNot, eChain, bAnd, bOr, bNot, bYes, eCB, eCall, eSl, oNone, oSome, eNeg, eIsi, eGet, eOne, eNoP, eBack, eLc, eUpd, eBoth, tName, tTup, tsCons, tsNil, bnd, ret, iSeq, iRng, iEn, iZp, iKey, defF, startD, bodyOut, wipeD, List.getElem?_cons_zero, List.getElem?_cons_succ, List.set_cons_zero, List.set_cons_succ, List.length_cons, List.length_nil, List.map_cons, List.map_nil, List.replicate_succ, List.replicate_zero, List.cons_append, List.nil_append, if_true, if_false, Bool.false_eq_true, reduceIte, Option.map_some, Option.map_none, Nat.reduceAdd, Nat.reduceSub, Nat.reduceEqDiff, lim_eq, dp, g, rIx, seqOf, atI0, c1, rEq, ke]

/-! ### where one comes to -/
theorem mem_nxs {T : Tb} {marks : List Int} {q : Sta} {x : Int × Sta} (h : x ∈ nxs T marks q) : ∃ s : Nat, s < 3 ∧ x = ((s : Int), ((mw T q.1 s).2, q.2 + ((mw T q.1 s).1.length : Int))) ∧ (marks.drop q.2.toNat).take (mw T q.1 s).1.length = (mw T q.1 s).1 := by
  obtain ⟨s, hs, hx⟩ := List.mem_flatMap.mp h
  unfold nx1 at hx
  split at hx
  · rename_i e
    exact ⟨s, List.mem_range.mp hs, List.mem_singleton.mp hx, e⟩
  · cases hx
theorem mw_in {T : Tb} {n : Nat} (hn : 0 < n) (h6 : n ≤ 6) (h : inPosts n T) {p : Int} (hp : p = -1 ∨ p ∈ ledT T) {s : Nat} (hs : s < 3) : (mw T p s).2 = -1 ∨ (mw T p s).2 ∈ ledT T := by
  unfold mw
  by_cases e : p = -1
  · rw [if_pos e]
    exact .inl rfl
  · rw [if_neg e]
    exact led_closed hn h6 h p (hp.resolve_left e) (s : Int) (by rcases (by omega : s = 0 ∨ s = 1 ∨ s = 2) with rfl | rfl | rfl <;> simp)
theorem nxs_ok {r : Rt} {T : Tb} (R : Rest r T) {marks : List Int} {q : Sta} (hq : okS T marks q) {x : Int × Sta} (h : x ∈ nxs T marks q) : okS T marks x.2 := by
  obtain ⟨s, hs, rfl, e⟩ := mem_nxs h
  have l := congrArg List.length e
  rw [List.length_take, List.length_drop] at l
  have := hq.lo
  have := hq.hi
  refine ⟨mw_in R.ok.one R.ok.six R.inP hq.inL hs, ?_, ?_⟩
  · show 0 ≤ q.2 + ((mw T q.1 s).1.length : Int)
    omega
  · show q.2 + ((mw T q.1 s).1.length : Int) ≤ _
    omega
inductive Reach (T : Tb) (marks : List Int) : List Int → Sta → Prop
  | nil : Reach T marks [] (0, 0)
  | snoc {v : List Int} {q : Sta} {x : Int × Sta} : Reach T marks v q → x ∈ nxs T marks q → Reach T marks (v ++ [x.1]) x.2
abbrev Gd := List (Sta × List Int)
def encG (G : Gd) : D := .dP (G.map fun x => (x.1, tI x.2))
structure RW (T : Tb) (marks : List Int) (G : Gd) (line : List Sta) (cur : Option (Sta × List (Int × Sta))) : Prop where
  nd : (G.map (·.1)).Nodup
  zero : ((0, 0) : Sta) ∈ G.map (·.1)
  ok : ∀ k ∈ G.map (·.1), okS T marks k
  stk : ∀ x ∈ G, Reach T marks x.2 x.1 ∧ x.2.length < G.length
  lin : ∀ k ∈ line, k ∈ G.map (·.1)
  done : ∀ k ∈ G.map (·.1), k ∉ line → ∀ x ∈ nxs T marks k, x.2 ∈ G.map (·.1) ∨ ∃ rest, cur = some (k, rest) ∧ x ∈ rest
theorem okS.box {r : Rt} {T : Tb} (R : Rest r T) {marks : List Int} (h9 : marks.length ≤ 9) {q : Sta} (hq : okS T marks q) : inBox q = true := by
  have a := hq.lo
  have b := hq.hi
  have six := R.ok.six
  unfold inBox
  simp only [Bool.and_eq_true, decide_eq_true_eq]
  rcases hq.inL with h | h
  · omega
  · have := R.ledOk.rg _ h
    omega
theorem RW.len {r : Rt} {T : Tb} (R : Rest r T) {marks : List Int} (h9 : marks.length ≤ 9) {G : Gd} {line : List Sta} {cur : Option (Sta × List (Int × Sta))} (I : RW T marks G line cur) : G.length ≤ 70 := by
  have h := len_le_of_sub (G.map (·.1)) boxL I.nd fun k hk => mem_box ((I.ok k hk).box R h9)
  rw [List.length_map] at h
  have : boxL.length = 70 := by decide +kernel
  omega
theorem kNotIn_G (st : D) (G : Gd) (x : Sta) : rDNotIn st (.tup [.int x.1, .int x.2]) (encG G) = some (.bl (decide (x ∉ G.map (·.1)))) := by
  unfold rDNotIn kinOf encG dicOf
  have lm := lookup_map tI x G
  simp only [lm, Option.map_some]
  by_cases h : x ∈ G.map (·.1)
  · cases e : G.lookup x with
    | none =>
      rw [List.lookup_eq_none_iff] at e
      obtain ⟨y, hy, rfl⟩ := List.mem_map.mp h
      have := e y hy
      simp at this
    | some v =>
      rw [decide_eq_false (fun z => z h)]
      rfl
  · rw [lookK_none h, decide_eq_true h]
    rfl
theorem rw_for {r : Rt} {T : Tb} (R : Rest r T) {W : Wt} (hW : IsW T W) {marks : List Int} (h9 : marks.length ≤ 9) {here : Sta} (st : D) : ∀ (xs : List (Int × Sta)) (G : Gd) (line : List Sta) (x5 x6 : Option D), (∀ x ∈ xs, x ∈ nxs T marks here) → here ∈ G.map (·.1) → RW T marks G line (some (here, xs)) → line.length ≤ 200 - xs.length → xs.length ≤ 100 →
    ∃ G' line' y5 y6, RW T marks G' line' none ∧ (∃ k, G'.length = G.length + k ∧ line'.length = line.length + k) ∧
      forGo (tTup 2 (tsCons (tName 5) (tsCons (tName 6) tsNil))) b1_reached_with (xs.map dNx) [some (encW W), some (tI marks), some (encG G), some (.lst (line.map dPr)), some (dPr here), x5, x6] st =
        some (.nx [some (encW W), some (tI marks), some (encG G'), some (.lst (line'.map dPr)), some (dPr here), y5, y6], st)
  | [], G, line, x5, x6, _, hh, I, hl, hx => by
    refine ⟨G, line, x5, x6, { I with done := ?_ }, ⟨0, rfl, rfl⟩, rfl⟩
    intro k hk hn x hx
    rcases I.done k hk hn x hx with h | ⟨rest, e, h⟩
    · exact .inl h
    · cases e
      cases h
  | x :: xs, G, line, x5, x6, hs, hh, I, hl, hx => by
    rw [List.length_cons] at hl hx
    have len := I.len R h9
    have nin := kNotIn_G st G x.2
    have hx1 := hs x List.mem_cons_self
    have okx := nxs_ok R (I.ok here hh) hx1
    have dpx : dPr x.2 = .tup [.int x.2.1, .int x.2.2] := rfl
    have dph : dPr here = .tup [.int here.1, .int here.2] := rfl
    have tgt : tTup 2 (tsCons (tName 5) (tsCons (tName 6) tsNil)) (dNx x) [some (encW W), some (tI marks), some (encG G), some (.lst (line.map dPr)), some (dPr here), x5, x6] = some [some (encW W), some (tI marks), some (encG G), some (.lst (line.map dPr)), some (dPr here), some (.int x.1), some (dPr x.2)] := by
      unfold dNx
      rfl
    by_cases h : x.2 ∈ G.map (·.1)
    · have I' : RW T marks G line (some (here, xs)) := by
        refine { I with done := ?_ }
        intro k hk hn y hy
        rcases I.done k hk hn y hy with h1 | ⟨rest, e, h1⟩
        · exact .inl h1
        · cases e
          rcases List.mem_cons.mp h1 with rfl | h1
          · exact .inl h
          · exact .inr ⟨xs, rfl, h1⟩
      obtain ⟨G', line', y5, y6, I2, k, run⟩ := rw_for R hW h9 st xs G line (some (.int x.1)) (some (dPr x.2)) (fun y hy => hs y (List.mem_cons_of_mem _ hy)) hh I' (by omega) (by omega)
      refine ⟨G', line', y5, y6, I2, k, ?_⟩
      rw [decide_eq_false (fun z => z h)] at nin
      have step : b1_reached_with [some (encW W), some (tI marks), some (encG G), some (.lst (line.map dPr)), some (dPr here), some (.int x.1), some (dPr x.2)] st = some (.nx [some (encW W), some (tI marks), some (encG G), some (.lst (line.map dPr)), some (dPr here), some (.int x.1), some (dPr x.2)], st) := by
        rw [dpx]
        simp [b1_reached_with, sSeq, sAsg, sIf, sRet, sNil, sDrop, sPar2, sPar3, sFor, sCellSet, sCellApp, sCellPut, sNever, eVar, eC, eOp, eB, eTup, eLst, aCons, aNil, eIf, eAnd, eOr, eNot, eChain, bAnd, bOr, bNot, bYes, eCB, eCall, eSl, oNone, oSome, eNeg, eIsi, eGet, eOne, eNoP, eBack, eLc, eUpd, eBoth, tName, tTup, tsCons, tsNil, bnd, ret, iSeq, iRng, iEn, iZp, iKey, defF, startD, bodyOut, wipeD, List.getElem?_cons_zero, List.getElem?_cons_succ, List.set_cons_zero, List.set_cons_succ, List.length_cons, List.length_nil, List.map_cons, List.map_nil, List.replicate_succ, List.replicate_zero, List.cons_append, List.nil_append, if_true, if_false, Bool.false_eq_true, reduceIte, Option.map_some, Option.map_none, Nat.reduceAdd, Nat.reduceSub, Nat.reduceEqDiff, nin]
      rw [List.map_cons]
      unfold forGo
      rw [tgt]
      show bnd (b1_reached_with [some (encW W), some (tI marks), some (encG G), some (.lst (line.map dPr)), some (dPr here), some (.int x.1), some (dPr x.2)] st) _ = _
      rw [step]
      exact run
    · obtain ⟨y, hy, rfl⟩ := List.mem_map.mp hh
      have lv := lookup_map tI y.1 G
      rw [lookK_mem I.nd (show (y.1, y.2) ∈ G from hy)] at lv
      have hst := I.stk y hy
      have put : putP (G.map fun x => (x.1, tI x.2)) x.2 (tI (y.2 ++ [x.1])) = (G ++ [(x.2, y.2 ++ [x.1])]).map fun x => (x.1, tI x.2) := by
        unfold putP
        rw [lookup_map, lookK_none h]
        simp
      have mem : ∀ q, q ∈ (G ++ [(x.2, y.2 ++ [x.1])]).map (·.1) ↔ q ∈ G.map (·.1) ∨ q = x.2 := fun q => by simp
      have I' : RW T marks (G ++ [(x.2, y.2 ++ [x.1])]) (line ++ [x.2]) (some (y.1, xs)) := by
        refine ⟨?_, (mem _).mpr (.inl I.zero), fun k hk => ((mem k).mp hk).elim (I.ok k) fun z => by rw [z]; exact okx, fun z hz => ?_, fun k hk => ?_, fun k hk hn z hz => ?_⟩
        · rw [List.map_append, List.nodup_append]
          refine ⟨I.nd, by simp, fun a ha b hb z => ?_⟩
          simp only [List.map_cons, List.map_nil, List.mem_singleton] at hb
          subst hb z
          exact h ha
        · rw [List.length_append, List.length_singleton]
          rcases List.mem_append.mp hz with z1 | z1
          · have := I.stk z z1
            exact ⟨this.1, by omega⟩
          · rw [List.mem_singleton.mp z1]
            refine ⟨.snoc hst.1 hx1, ?_⟩
            show (y.2 ++ [x.1]).length < _
            rw [List.length_append, List.length_singleton]
            omega
        · rcases List.mem_append.mp hk with z | z
          · exact (mem k).mpr (.inl (I.lin k z))
          · exact (mem k).mpr (.inr (List.mem_singleton.mp z))
        · have hk' : k ∈ G.map (·.1) := ((mem k).mp hk).resolve_right fun z => hn (List.mem_append_right _ (List.mem_singleton.mpr z))
          rcases I.done k hk' (fun z => hn (List.mem_append_left _ z)) z hz with h1 | ⟨rest, e, h1⟩
          · exact .inl ((mem _).mpr (.inl h1))
          · cases e
            rcases List.mem_cons.mp h1 with rfl | h1
            · exact .inl ((mem _).mpr (.inr rfl))
            · exact .inr ⟨xs, rfl, h1⟩
      obtain ⟨G', line', y5, y6, I2, ⟨k, k1, k2⟩, run⟩ := rw_for R hW h9 st xs _ _ (some (.int x.1)) (some (dPr x.2)) (fun y hy => hs y (List.mem_cons_of_mem _ hy)) ((mem _).mpr (.inl hh)) I' (by rw [List.length_append, List.length_singleton]; omega) (by omega)
      rw [List.length_append, List.length_singleton] at k1 k2
      refine ⟨G', line', y5, y6, I2, ⟨k + 1, by omega, by omega⟩, ?_⟩
      rw [decide_eq_true h] at nin
      have bx : box (G.map fun x => (x.1, tI x.2)) = true := by
        unfold box
        refine List.all_eq_true.mpr fun z hz => ?_
        obtain ⟨w, hw, rfl⟩ := List.mem_map.mp hz
        exact (I.ok w.1 (List.mem_map.mpr ⟨w, hw, rfl⟩)).box R h9
      have step : b1_reached_with [some (encW W), some (tI marks), some (encG G), some (.lst (line.map dPr)), some (dPr y.1), some (.int x.1), some (dPr x.2)] st = some (.nx [some (encW W), some (tI marks), some (encG (G ++ [(x.2, y.2 ++ [x.1])])), some (.lst ((line ++ [x.2]).map dPr)), some (dPr y.1), some (.int x.1), some (dPr x.2)], st) := by
        have l1 : y.2.length + 1 ≤ 100000 := by omega
        have l2 : line.length + 1 ≤ 100000 := by omega
        have l3 : G.length < 100000 := by omega
        have cat : tI (y.2 ++ [x.1]) = .tup (y.2.map D.int ++ [.int x.1]) := by unfold tI; simp
        rw [cat] at put
        have lv' : (G.map fun x => (x.1, tI x.2)).lookup (y.1.1, y.1.2) = some (.tup (y.2.map .int)) := lv
        unfold encG at nin ⊢
        rw [dpx, dph]
        simp [b1_reached_with, sSeq, sAsg, sIf, sRet, sNil, sDrop, sPar2, sPar3, sFor, sCellSet, sCellApp, sCellPut, sNever, eVar, eC, eOp, eB, eTup, eLst, aCons, aNil, eIf, eAnd, eOr, eNot, eChain, bAnd, bOr, bNot, bYes, eCB, eCall, eSl, oNone, oSome, eNeg, eIsi, eGet, eOne, eNoP, eBack, eLc, eUpd, eBoth, tName, tTup, tsCons, tsNil, bnd, ret, iSeq, iRng, iEn, iZp, iKey, defF, startD, bodyOut, wipeD, List.getElem?_cons_zero, List.getElem?_cons_succ, List.set_cons_zero, List.set_cons_succ, List.length_cons, List.length_nil, List.map_cons, List.map_nil, List.replicate_succ, List.replicate_zero, List.cons_append, List.nil_append, if_true, if_false, Bool.false_eq_true, reduceIte, Option.map_some, Option.map_none, Nat.reduceAdd, Nat.reduceSub, Nat.reduceEqDiff, lim_eq, nin, rDGet, kinOf, dicOf, lv', rAdd, l1, l2, l3, bx, put, dpx]
      rw [List.map_cons]
      unfold forGo
      rw [tgt]
      show bnd (b1_reached_with [some (encW W), some (tI marks), some (encG G), some (.lst (line.map dPr)), some (dPr y.1), some (.int x.1), some (dPr x.2)] st) _ = _
      rw [step]
      exact run
theorem nxs_len (T : Tb) (marks : List Int) (q : Sta) : (nxs T marks q).length ≤ 3 := by
  have a := nx1_len T marks q 0
  have b := nx1_len T marks q 1
  have c := nx1_len T marks q 2
  have e : nxs T marks q = nx1 T marks q 0 ++ (nx1 T marks q 1 ++ (nx1 T marks q 2 ++ [])) := rfl
  rw [e]
  simp only [List.length_append, List.length_nil]
  omega
abbrev rwS (W : Wt) (marks : List Int) (G : Gd) (line : List Sta) (x4 x5 x6 : Option D) : Env := [some (encW W), some (tI marks), some (encG G), some (.lst (line.map dPr)), x4, x5, x6]
theorem rw_more (W : Wt) (marks : List Int) (G : Gd) (line : List Sta) (x4 x5 x6 : Option D) (st : D) : c2_reached_with (rwS W marks G line x4 x5 x6) st = some (!decide (line = []), st) := by
  have k := kEq_nil line
  simp [c2_reached_with, sSeq, sAsg, sIf, sRet, sNil, sDrop, sPar2, sPar3, sFor, sCellSet, sCellApp, sCellPut, sNever, eVar, eC, eOp, eB, eTup, eLst, aCons, aNil, eIf, eAnd, eOr, eNot, eChain, bAnd, bOr, bNot, bYes, eCB, eCall, eSl, oNone, oSome, eNeg, eIsi, eGet, eOne, eNoP, eBack, eLc, eUpd, eBoth, tName, tTup, tsCons, tsNil, bnd, ret, iSeq, iRng, iEn, iZp, iKey, defF, startD, bodyOut, wipeD, List.getElem?_cons_zero, List.getElem?_cons_succ, List.set_cons_zero, List.set_cons_succ, List.length_cons, List.length_nil, List.map_cons, List.map_nil, List.replicate_succ, List.replicate_zero, List.cons_append, List.nil_append, if_true, if_false, Bool.false_eq_true, reduceIte, Option.map_some, Option.map_none, Nat.reduceAdd, Nat.reduceSub, Nat.reduceEqDiff, lim_eq, rNe, k]
theorem rw_turn {r : Rt} {T : Tb} (R : Rest r T) {W : Wt} (hW : IsW T W) {marks : List Int} (h9 : marks.length ≤ 9) {G : Gd} {here : Sta} {line : List Sta} (I : RW T marks G (here :: line) none) (hl : line.length ≤ 100) (x4 x5 x6 : Option D) (st : D) :
    ∃ G' line' y4 y5 y6, RW T marks G' line' none ∧ (∃ k, G'.length = G.length + k ∧ line'.length = line.length + k) ∧ w3_reached_with (rwS W marks G (here :: line) x4 x5 x6) st = some (.nx (rwS W marks G' line' y4 y5 y6), st) := by
  have hh : here ∈ G.map (·.1) := I.lin here List.mem_cons_self
  have I' : RW T marks G line (some (here, nxs T marks here)) := by
    refine { I with lin := fun k hk => I.lin k (List.mem_cons_of_mem _ hk), done := ?_ }
    intro k hk hn x hx
    by_cases e : k = here
    · subst e
      exact .inr ⟨_, rfl, hx⟩
    · rcases I.done k hk (fun z => (List.mem_cons.mp z).elim e hn) x hx with h | ⟨rest, z, _⟩
      · exact .inl h
      · cases z
  have n3 := nxs_len T marks here
  obtain ⟨G', line', y5, y6, I2, k, run⟩ := rw_for R hW h9 st (nxs T marks here) G line x5 x6 (fun _ h => h) hh I' (by omega) (by omega)
  refine ⟨G', line', some (dPr here), y5, y6, I2, k, ?_⟩
  have i0 : L2.atI ((here :: line).map dPr) 0 = some (dPr here) := atI_nat ((here :: line).map dPr) 0
  have c1 := cut_from ((here :: line).map dPr) 1
  have e1 : sPar2 4 3 (aCons (eOp rIx (eVar 3) (eC (.int 0))) (aCons (eSl (eVar 3) (oSome (eC (.int 1))) oNone) aNil)) (rwS W marks G (here :: line) x4 x5 x6) st = some (.nx (rwS W marks G line (some (dPr here)) x5 x6), st) := by
    have c1' : cutD (dPr here :: line.map dPr) (some 1) none = line.map dPr := c1
    have i0' : L2.atI (dPr here :: line.map dPr) 0 = some (dPr here) := i0
    simp [sSeq, sAsg, sIf, sRet, sNil, sDrop, sPar2, sPar3, sFor, sCellSet, sCellApp, sCellPut, sNever, eVar, eC, eOp, eB, eTup, eLst, aCons, aNil, eIf, eAnd, eOr, eNot, eChain, bAnd, bOr, bNot, bYes, eCB, eCall, eSl, oNone, oSome, eNeg, eIsi, eGet, eOne, eNoP, eBack, eLc, eUpd, eBoth, tName, tTup, tsCons, tsNil, bnd, ret, iSeq, iRng, iEn, iZp, iKey, defF, startD, bodyOut, wipeD, List.getElem?_cons_zero, List.getElem?_cons_succ, List.set_cons_zero, List.set_cons_succ, List.length_cons, List.length_nil, List.map_cons, List.map_nil, List.replicate_succ, List.replicate_zero, List.cons_append, List.nil_append, if_true, if_false, Bool.false_eq_true, reduceIte, Option.map_some, Option.map_none, Nat.reduceAdd, Nat.reduceSub, Nat.reduceEqDiff, rIx, seqOf, i0', c1']
  have nx := nexts_of_eq hW (I.ok here hh) st
  have it : iSeq (eCall 3 F_nexts_of (aCons (eVar 0) (aCons (eVar 1) (aCons (eVar 4) aNil)))) (rwS W marks G line (some (dPr here)) x5 x6) st = some ((nxs T marks here).map dNx, st) := by
    simp [sSeq, sAsg, sIf, sRet, sNil, sDrop, sPar2, sPar3, sFor, sCellSet, sCellApp, sCellPut, sNever, eVar, eC, eOp, eB, eTup, eLst, aCons, aNil, eIf, eAnd, eOr, eNot, eChain, bAnd, bOr, bNot, bYes, eCB, eCall, eSl, oNone, oSome, eNeg, eIsi, eGet, eOne, eNoP, eBack, eLc, eUpd, eBoth, tName, tTup, tsCons, tsNil, bnd, ret, iSeq, iRng, iEn, iZp, iKey, defF, startD, bodyOut, wipeD, List.getElem?_cons_zero, List.getElem?_cons_succ, List.set_cons_zero, List.set_cons_succ, List.length_cons, List.length_nil, List.map_cons, List.map_nil, List.replicate_succ, List.replicate_zero, List.cons_append, List.nil_append, if_true, if_false, Bool.false_eq_true, reduceIte, Option.map_some, Option.map_none, Nat.reduceAdd, Nat.reduceSub, Nat.reduceEqDiff, nx]
  unfold w3_reached_with
  rw [seq_nx e1]
  unfold sFor
  rw [it]
  exact run
theorem rw_run {r : Rt} {T : Tb} (R : Rest r T) {W : Wt} (hW : IsW T W) {marks : List Int} (h9 : marks.length ≤ 9) (st : D) : ∀ (M : Nat) (G : Gd) (line : List Sta) (x4 x5 x6 : Option D), RW T marks G line none → (70 - G.length) + line.length ≤ M → M ≤ 80 →
    ∀ n, ∃ G' y4 y5 y6, RW T marks G' [] none ∧ whileGo c2_reached_with w3_reached_with (n + M + 1) (rwS W marks G line x4 x5 x6) st = some (.nx (rwS W marks G' [] y4 y5 y6), st)
  | M, G, [], x4, x5, x6, I, _, _, n => ⟨G, x4, x5, x6, I, while_end (by rw [rw_more]; rfl) _⟩
  | 0, G, p :: line, x4, x5, x6, I, h, _, n => by
    rw [List.length_cons] at h
    omega
  | M + 1, G, p :: line, x4, x5, x6, I, h, hM, n => by
    rw [List.length_cons] at h
    obtain ⟨G', line', y4, y5, y6, I', ⟨k, a, b⟩, run⟩ := rw_turn R hW h9 I (by omega) x4 x5 x6 st
    have len := I'.len R h9
    obtain ⟨G2, z4, z5, z6, I2, run2⟩ := rw_run R hW h9 st M G' line' y4 y5 y6 I' (by omega) (by omega) n
    refine ⟨G2, z4, z5, z6, I2, ?_⟩
    rw [show n + (M + 1) + 1 = (n + M + 1) + 1 by omega, while_turn (by rw [rw_more]; simp) run]
    exact run2
/-- all that is reached, with stacks -/
structure Rched (T : Tb) (marks : List Int) (G : Gd) : Prop where
  nd : (G.map (·.1)).Nodup
  zero : ((0, 0) : Sta) ∈ G.map (·.1)
  ok : ∀ k ∈ G.map (·.1), okS T marks k
  stk : ∀ x ∈ G, Reach T marks x.2 x.1 ∧ x.2.length ≤ 70
  closed : ∀ k ∈ G.map (·.1), ∀ x ∈ nxs T marks k, x.2 ∈ G.map (·.1)
  len : G.length ≤ 70
theorem reached_with_eq {r : Rt} {T : Tb} (R : Rest r T) {W : Wt} (hW : IsW T W) {marks : List Int} (h9 : marks.length ≤ 9) (st : D) : ∃ G, Rched T marks G ∧ F_reached_with [encW W, tI marks] st = some (encG G, st) := by
  have ok0 : okS T marks (0, 0) := ⟨.inr (led_zero T), Int.le_refl _, by show (0 : Int) ≤ _; omega⟩
  have I0 : RW T marks [((0, 0), [])] [(0, 0)] none := ⟨by simp, by simp, fun k hk => by
    simp only [List.map_cons, List.map_nil, List.mem_singleton] at hk
    rw [hk]
    exact ok0, fun x hx => by
    rw [List.mem_singleton.mp hx]
    exact ⟨.nil, Nat.zero_lt_one⟩, fun k hk => by simpa using hk, fun k hk hn => by
    exfalso
    simp only [List.map_cons, List.map_nil] at hk
    exact hn hk⟩
  obtain ⟨G, y4, y5, y6, I, run⟩ := rw_run R hW h9 st 70 _ _ none none none I0 (by simp) (by omega) 929
  have len := I.len R h9
  refine ⟨G, ⟨I.nd, I.zero, I.ok, fun x hx => ⟨(I.stk x hx).1, by have := (I.stk x hx).2; omega⟩, fun k hk x hx => ?_, len⟩, ?_⟩
  · rcases I.done k hk (fun z => nomatch z) x hx with h | ⟨rest, z, _⟩
    · exact h
    · cases z
  · have s1 : sPar2 2 3 (aCons (eOne (eTup (aCons (eC (.int 0)) (aCons (eC (.int 0)) aNil))) (eTup aNil)) (aCons (eLst (aCons (eTup (aCons (eC (.int 0)) (aCons (eC (.int 0)) aNil))) aNil)) aNil)) [some (encW W), some (tI marks), none, none, none, none, none] st = some (.nx (rwS W marks [((0, 0), [])] [(0, 0)] none none none), st) := by
      simp [sSeq, sAsg, sIf, sRet, sNil, sDrop, sPar2, sPar3, sFor, sCellSet, sCellApp, sCellPut, sNever, eVar, eC, eOp, eB, eTup, eLst, aCons, aNil, eIf, eAnd, eOr, eNot, eChain, bAnd, bOr, bNot, bYes, eCB, eCall, eSl, oNone, oSome, eNeg, eIsi, eGet, eOne, eNoP, eBack, eLc, eUpd, eBoth, tName, tTup, tsCons, tsNil, bnd, ret, iSeq, iRng, iEn, iZp, iKey, defF, startD, bodyOut, wipeD, List.getElem?_cons_zero, List.getElem?_cons_succ, List.set_cons_zero, List.set_cons_succ, List.length_cons, List.length_nil, List.map_cons, List.map_nil, List.replicate_succ, List.replicate_zero, List.cons_append, List.nil_append, if_true, if_false, Bool.false_eq_true, reduceIte, Option.map_some, Option.map_none, Nat.reduceAdd, Nat.reduceSub, Nat.reduceEqDiff, lim_eq, encG, tI, dPr]
    have body : g_reached_with [some (encW W), some (tI marks), none, none, none, none, none] st = some (.rt (encG G), st) := by
      unfold g_reached_with
      rw [seq_nx s1, seq_nx run]
      rfl
    unfold F_reached_with defF
    simp only [List.length_cons, List.length_nil, if_true]
    show bodyOut (g_reached_with [some (encW W), some (tI marks), none, none, none, none, none] st) = _
    rw [body]
    rfl
/-- what is reached stands among what was found -/
theorem Rched.all {T : Tb} {marks : List Int} {G : Gd} (h : Rched T marks G) {v : List Int} {q : Sta} (z : Reach T marks v q) : q ∈ G.map (·.1) := by
  induction z with
  | nil => exact h.zero
  | snoc _ hx ih => exact h.closed _ ih _ hx
end Pg
set_option Elab.async false
set_option linter.all false
set_option maxRecDepth 100000
set_option maxHeartbeats 4000000
/-! The pure part, n: least_handing, handing_stack, none_paper. -/
namespace Pg
open PySem PySem.Spec PyProof.Rows L2

/-! ### sorting pairs -/
theorem leD_pair (a b : Sta) : leP a b = leD (dPr a) (dPr b) := by
  rw [← le_py]
  have e : ∀ c : Sta, toPy (dPr c) = PyData.tuple [.int c.1, .int c.2] := fun c => py_II c.1 c.2
  unfold leD PySem.W.dataLe PySem.W.sortLe
  simp only [e]
theorem sort_pairs (l : List Sta) : sortD (l.map dPr) = (srtP l).map dPr := (List.map_mergeSort fun a _ b _ => leD_pair a b).symm

def hitRow (x : Sta × List Int) : D := .tup [.int x.2.length, tI x.2]
/-- what is told of the marks: a stack that hands them out, or none does -/
def Told (T : Tb) (marks : List Int) : Option (List Int) → Prop
  | some v => ∃ q, Reach T marks v q ∧ hitB T marks q = true ∧ okS T marks q ∧ v.length ≤ 70
  | none => ∀ v q, Reach T marks v q → hitB T marks q = false
def encO : Option (List Int) → D
  | some v => tI v
  | none => .non
theorem srt_hits (l : List (Sta × List Int)) : srt (l.map hitRow) = true := by
  have : (l.map hitRow).all isIT = true := List.all_eq_true.mpr fun x hx => by
    obtain ⟨y, _, rfl⟩ := List.mem_map.mp hx
    show (ints? (y.2.map .int)).isSome = true
    rw [ints?_map]
    rfl
  unfold srt
  rw [this]
  simp
theorem least_handing_eq {r : Rt} {T : Tb} (R : Rest r T) {W : Wt} (hW : IsW T W) {marks : List Int} (h9 : marks.length ≤ 9) (st : D) : ∃ o, Told T marks o ∧ F_least_handing [encW W, tI marks] st = some (encO o, st) := by
  obtain ⟨G, hG, e⟩ := reached_with_eq R hW h9 st
  have lc : ∀ ρ : Env, (∃ a b, ρ = [some (encW W), some (tI marks), some (encG G), a, b]) → lcGo (tName 4) t1_least_handing e2_least_handing ρ (G.map fun x => dPr x.1) st = some ((G.filter fun x => hitB T marks x.1).map hitRow, st) := by
    rintro ρ ⟨a, b, rfl⟩
    refine lc_encF (fun x : Sta × List Int => dPr x.1) hitRow (fun x => hitB T marks x.1) fun x hx => ⟨_, rfl, ?_, fun _ => ?_⟩
    · have q := is_hit_eq hW (hG.ok x.1 (List.mem_map.mpr ⟨x, hx, rfl⟩)) st
      simp [t1_least_handing, sSeq, sAsg, sIf, sRet, sNil, sDrop, sPar2, sPar3, sFor, sCellSet, sCellApp, sCellPut, sNever, eVar, eC, eOp, eB, eTup, eLst, aCons, aNil, eIf, eAnd, eOr, eNot, eChain, bAnd, bOr, bNot, bYes, eCB, eCall, eSl, oNone, oSome, eNeg, eIsi, eGet, eOne, eNoP, eBack, eLc, eUpd, eBoth, tName, tTup, tsCons, tsNil, bnd, ret, iSeq, iRng, iEn, iZp, iKey, defF, startD, bodyOut, wipeD, List.getElem?_cons_zero, List.getElem?_cons_succ, List.set_cons_zero, List.set_cons_succ, List.length_cons, List.length_nil, List.map_cons, List.map_nil, List.replicate_succ, List.replicate_zero, List.cons_append, List.nil_append, if_true, if_false, Bool.false_eq_true, reduceIte, Option.map_some, Option.map_none, Nat.reduceAdd, Nat.reduceSub, Nat.reduceEqDiff, q]
    · have lv := lookup_map tI x.1 G
      rw [lookK_mem hG.nd (show (x.1, x.2) ∈ G from hx)] at lv
      have lv' : (G.map fun x => (x.1, tI x.2)).lookup (x.1.1, x.1.2) = some (.tup (x.2.map .int)) := lv
      unfold tI at lv'
      simp [e2_least_handing, sSeq, sAsg, sIf, sRet, sNil, sDrop, sPar2, sPar3, sFor, sCellSet, sCellApp, sCellPut, sNever, eVar, eC, eOp, eB, eTup, eLst, aCons, aNil, eIf, eAnd, eOr, eNot, eChain, bAnd, bOr, bNot, bYes, eCB, eCall, eSl, oNone, oSome, eNeg, eIsi, eGet, eOne, eNoP, eBack, eLc, eUpd, eBoth, tName, tTup, tsCons, tsNil, bnd, ret, iSeq, iRng, iEn, iZp, iKey, defF, startD, bodyOut, wipeD, List.getElem?_cons_zero, List.getElem?_cons_succ, List.set_cons_zero, List.set_cons_succ, List.length_cons, List.length_nil, List.map_cons, List.map_nil, List.replicate_succ, List.replicate_zero, List.cons_append, List.nil_append, if_true, if_false, Bool.false_eq_true, reduceIte, Option.map_some, Option.map_none, Nat.reduceAdd, Nat.reduceSub, Nat.reduceEqDiff, lim_eq, encG, dPr, rDGet, kinOf, dicOf, lv', rLen2, hitRow, tI]
  obtain ⟨L, eL, pL⟩ := sort_map hitRow (G.filter fun x => hitB T marks x.1)
  have l1 : G.length ≤ 100000 := by
    have := hG.len
    omega
  have l2 : (G.filter fun x => hitB T marks x.1).length ≤ 100000 := Nat.le_trans (List.length_filter_le _ _) l1
  have s1 : sAsg (eCall 2 F_reached_with (aCons (eVar 0) (aCons (eVar 1) aNil))) (tName 2) [some (encW W), some (tI marks), none, none, none] st = some (.nx [some (encW W), some (tI marks), some (encG G), none, none], st) := by
    simp [sSeq, sAsg, sIf, sRet, sNil, sDrop, sPar2, sPar3, sFor, sCellSet, sCellApp, sCellPut, sNever, eVar, eC, eOp, eB, eTup, eLst, aCons, aNil, eIf, eAnd, eOr, eNot, eChain, bAnd, bOr, bNot, bYes, eCB, eCall, eSl, oNone, oSome, eNeg, eIsi, eGet, eOne, eNoP, eBack, eLc, eUpd, eBoth, tName, tTup, tsCons, tsNil, bnd, ret, iSeq, iRng, iEn, iZp, iKey, defF, startD, bodyOut, wipeD, List.getElem?_cons_zero, List.getElem?_cons_succ, List.set_cons_zero, List.set_cons_succ, List.length_cons, List.length_nil, List.map_cons, List.map_nil, List.replicate_succ, List.replicate_zero, List.cons_append, List.nil_append, if_true, if_false, Bool.false_eq_true, reduceIte, Option.map_some, Option.map_none, Nat.reduceAdd, Nat.reduceSub, Nat.reduceEqDiff, e]
  have s2 : sAsg (eCB rSorted (aCons (eLc (iKey 2) (tName 4) t1_least_handing e2_least_handing [4]) aNil)) (tName 3) [some (encW W), some (tI marks), some (encG G), none, none] st = some (.nx [some (encW W), some (tI marks), some (encG G), some (.lst (L.map hitRow)), none], st) := by
    have c := lc (wipeD [some (encW W), some (tI marks), some (encG G), none, none] [4]) ⟨_, _, rfl⟩
    have it : iKey 2 [some (encW W), some (tI marks), some (encG G), none, none] st = some (G.map fun x => dPr x.1, st) := by
      simp [iKey, encG, dPr]
    have sh := srt_hits (G.filter fun x => hitB T marks x.1)
    unfold sAsg eCB aCons eLc aNil
    rw [it]
    have l1' : (G.map fun x => dPr x.1).length ≤ lim := by rw [List.length_map]; exact l1
    simp only [bnd_some, l1', if_true, c]
    have l2' : ((G.filter fun x => hitB T marks x.1).map hitRow).length ≤ lim := by rw [List.length_map]; exact l2
    simp only [rSorted, sh, l2', and_self, if_true, ret, eL]
    rfl
  have fin : ∃ o, Told T marks o ∧ eIf (eB (eOp rNe (eVar 3) (eLst aNil))) (eOp rIx (eOp rIx (eVar 3) (eC (.int 0))) (eC (.int 1))) (eC .non) [some (encW W), some (tI marks), some (encG G), some (.lst (L.map hitRow)), none] st = some (encO o, st) := by
    have kn : kEq (.lst (L.map hitRow)) (.lst []) = some (decide (L = [])) := by
      have e : deq (.lst (L.map hitRow)) (.lst []) = decide (L = []) := deq_of ⟨fun h => by
        injection h with h
        exact List.map_eq_nil_iff.mp h, fun h => by rw [h]; rfl⟩
      have h1 : plN 8 (.lst (L.map hitRow)) = true := by
        rw [plN_lst, List.all_eq_true]
        intro x hx
        obtain ⟨y, _, rfl⟩ := List.mem_map.mp hx
        unfold hitRow
        rw [plN_tup]
        simp [plN_int, plN_tI]
      have h2 : plN 8 (.lst []) = true := rfl
      unfold kEq
      simp only [h1, h2, Bool.and_self, if_true, e]
    cases L with
    | nil =>
      refine ⟨none, fun v q hv => ?_, ?_⟩
      · have hq := hG.all hv
        obtain ⟨x, hx, rfl⟩ := List.mem_map.mp hq
        cases hh : hitB T marks x.1 with
        | false => rfl
        | true =>
          have : x ∈ ([] : List (Sta × List Int)) := pL.mem_iff.mpr (List.mem_filter.mpr ⟨hx, hh⟩)
          cases this
      · simp [sSeq, sAsg, sIf, sRet, sNil, sDrop, sPar2, sPar3, sFor, sCellSet, sCellApp, sCellPut, sNever, eVar, eC, eOp, eB, eTup, eLst, aCons, aNil, eIf, eAnd, eOr, eNot, eChain, bAnd, bOr, bNot, bYes, eCB, eCall, eSl, oNone, oSome, eNeg, eIsi, eGet, eOne, eNoP, eBack, eLc, eUpd, eBoth, tName, tTup, tsCons, tsNil, bnd, ret, iSeq, iRng, iEn, iZp, iKey, defF, startD, bodyOut, wipeD, List.getElem?_cons_zero, List.getElem?_cons_succ, List.set_cons_zero, List.set_cons_succ, List.length_cons, List.length_nil, List.map_cons, List.map_nil, List.replicate_succ, List.replicate_zero, List.cons_append, List.nil_append, if_true, if_false, Bool.false_eq_true, reduceIte, Option.map_some, Option.map_none, Nat.reduceAdd, Nat.reduceSub, Nat.reduceEqDiff, lim_eq, rNe, kn, encO] at kn ⊢
        simp [kn]
    | cons x L =>
      have hx := List.mem_filter.mp (pL.mem_iff.mp (List.mem_cons_self (a := x) (l := L)))
      refine ⟨some x.2, ⟨x.1, (hG.stk x hx.1).1, hx.2, hG.ok x.1 (List.mem_map.mpr ⟨x, hx.1, rfl⟩), (hG.stk x hx.1).2⟩, ?_⟩
      rw [decide_eq_false (by simp)] at kn
      rw [List.map_cons] at kn ⊢
      have i1 : L2.atI [D.int x.2.length, tI x.2] 1 = some (tI x.2) := atI_nat _ 1
      have hr : hitRow x = .tup [.int x.2.length, tI x.2] := rfl
      rw [hr] at kn
      simp [sSeq, sAsg, sIf, sRet, sNil, sDrop, sPar2, sPar3, sFor, sCellSet, sCellApp, sCellPut, sNever, eVar, eC, eOp, eB, eTup, eLst, aCons, aNil, eIf, eAnd, eOr, eNot, eChain, bAnd, bOr, bNot, bYes, eCB, eCall, eSl, oNone, oSome, eNeg, eIsi, eGet, eOne, eNoP, eBack, eLc, eUpd, eBoth, tName, tTup, tsCons, tsNil, bnd, ret, iSeq, iRng, iEn, iZp, iKey, defF, startD, bodyOut, wipeD, List.getElem?_cons_zero, List.getElem?_cons_succ, List.set_cons_zero, List.set_cons_succ, List.length_cons, List.length_nil, List.map_cons, List.map_nil, List.replicate_succ, List.replicate_zero, List.cons_append, List.nil_append, if_true, if_false, Bool.false_eq_true, reduceIte, Option.map_some, Option.map_none, Nat.reduceAdd, Nat.reduceSub, Nat.reduceEqDiff, lim_eq, rNe, kn, encO, rIx, seqOf, atI0, hr, i1]
  obtain ⟨o, ho, fin⟩ := fin
  refine ⟨o, ho, ?_⟩
  have body : g_least_handing [some (encW W), some (tI marks), none, none, none] st = some (.rt (encO o), st) := by
    unfold g_least_handing
    rw [seq_nx s1, seq_nx s2]
    unfold sRet
    rw [fin]
    rfl
  unfold F_least_handing defF
  simp only [List.length_cons, List.length_nil, if_true]
  show bodyOut (g_least_handing [some (encW W), some (tI marks), none, none, none] st) = _
  rw [body]
  rfl
theorem handing_stack_eq {r : Rt} {T : Tb} (R : Rest r T) {marks : List Int} (hm : sortsOk marks) (h9 : marks.length ≤ 9) (st : D) : ∃ o, Told T marks o ∧ F_handing_stack [enR r, tI marks] st = some (encO o, st) := by
  obtain ⟨W, hW, w⟩ := walk_table_eq R st
  obtain ⟨o, ho, e⟩ := least_handing_eq R hW h9 st
  have n1 := need_routine_eq st R.ok
  have n2 := need_marks_eq st hm h9
  have n3 := need_rest_eq R st
  exact ⟨o, ho, by simp [F_handing_stack, g_handing_stack, sSeq, sAsg, sIf, sRet, sNil, sDrop, sPar2, sPar3, sFor, sCellSet, sCellApp, sCellPut, sNever, eVar, eC, eOp, eB, eTup, eLst, aCons, aNil, eIf, eAnd, eOr, eNot, eChain, bAnd, bOr, bNot, bYes, eCB, eCall, eSl, oNone, oSome, eNeg, eIsi, eGet, eOne, eNoP, eBack, eLc, eUpd, eBoth, tName, tTup, tsCons, tsNil, bnd, ret, iSeq, iRng, iEn, iZp, iKey, defF, startD, bodyOut, wipeD, List.getElem?_cons_zero, List.getElem?_cons_succ, List.set_cons_zero, List.set_cons_succ, List.length_cons, List.length_nil, List.map_cons, List.map_nil, List.replicate_succ, List.replicate_zero, List.cons_append, List.nil_append, if_true, if_false, Bool.false_eq_true, reduceIte, Option.map_some, Option.map_none, Nat.reduceAdd, Nat.reduceSub, Nat.reduceEqDiff, n1, n2, n3, w, e]⟩

/-! ### papers -/
structure IsPaper (T : Tb) (marks : List Int) (v : List Sta) : Prop where
  asc : v.Pairwise ltP
  zero : ((0, 0) : Sta) ∈ v
  ok : ∀ q ∈ v, okS T marks q
  nohit : ∀ q ∈ v, hitB T marks q = false
  closed : ∀ q ∈ v, ∀ x ∈ nxs T marks q, x.2 ∈ v
theorem none_paper_eq {r : Rt} {T : Tb} (R : Rest r T) {marks : List Int} (hm : sortsOk marks) (h9 : marks.length ≤ 9) (st : D) :
    (∃ o, Told T marks (some o) ∧ F_none_paper [enR r, tI marks] st = some (.non, st)) ∨ ∃ v, Told T marks none ∧ IsPaper T marks v ∧ v.length ≤ 70 ∧ v ≠ [] ∧ F_none_paper [enR r, tI marks] st = some (.tup (v.map dPr), st) := by
  obtain ⟨W, hW, w⟩ := walk_table_eq R st
  obtain ⟨o, ho, e⟩ := least_handing_eq R hW h9 st
  obtain ⟨G, hG, e2⟩ := reached_with_eq R hW h9 st
  have n1 := need_routine_eq st R.ok
  have n2 := need_marks_eq st hm h9
  have n3 := need_rest_eq R st
  cases o with
  | some v =>
    have e' : F_least_handing [encW W, tI marks] st = some (tI v, st) := e
    unfold tI at e' n2 ⊢
    exact .inl ⟨v, ho, by simp [F_none_paper, g_none_paper, sSeq, sAsg, sIf, sRet, sNil, sDrop, sPar2, sPar3, sFor, sCellSet, sCellApp, sCellPut, sNever, eVar, eC, eOp, eB, eTup, eLst, aCons, aNil, eIf, eAnd, eOr, eNot, eChain, bAnd, bOr, bNot, bYes, eCB, eCall, eSl, oNone, oSome, eNeg, eIsi, eGet, eOne, eNoP, eBack, eLc, eUpd, eBoth, tName, tTup, tsCons, tsNil, bnd, ret, iSeq, iRng, iEn, iZp, iKey, defF, startD, bodyOut, wipeD, List.getElem?_cons_zero, List.getElem?_cons_succ, List.set_cons_zero, List.set_cons_succ, List.length_cons, List.length_nil, List.map_cons, List.map_nil, List.replicate_succ, List.replicate_zero, List.cons_append, List.nil_append, if_true, if_false, Bool.false_eq_true, reduceIte, Option.map_some, Option.map_none, Nat.reduceAdd, Nat.reduceSub, Nat.reduceEqDiff, n1, n2, n3, w, e', rNotN]⟩
  | none =>
    have e' : F_least_handing [encW W, tI marks] st = some (.non, st) := e
    have mem : ∀ q, q ∈ srtP (G.map (·.1)) ↔ q ∈ G.map (·.1) := fun q => (srtP_perm _).mem_iff
    refine .inr ⟨srtP (G.map (·.1)), ho, ⟨srtP_strict hG.nd, (mem _).mpr hG.zero, fun q hq => hG.ok q ((mem q).mp hq), fun q hq => ?_, fun q hq x hx => (mem _).mpr (hG.closed q ((mem q).mp hq) x hx)⟩, ?_, ?_, ?_⟩
    · obtain ⟨x, hx, rfl⟩ := List.mem_map.mp ((mem q).mp hq)
      exact ho _ _ (hG.stk x hx).1
    · rw [(srtP_perm _).length_eq, List.length_map]
      exact hG.len
    · intro z
      have := (mem _).mpr hG.zero
      rw [z] at this
      cases this
    · have sp := sort_pairs (G.map (·.1))
      rw [List.map_map] at sp
      have sp' : sortD (G.map fun x => D.tup [.int x.1.1, .int x.1.2]) = (srtP (G.map (·.1))).map dPr := sp
      have l1 : G.length ≤ 100000 := by
        have := hG.len
        omega
      unfold encG at e2
      simp [F_none_paper, g_none_paper, sSeq, sAsg, sIf, sRet, sNil, sDrop, sPar2, sPar3, sFor, sCellSet, sCellApp, sCellPut, sNever, eVar, eC, eOp, eB, eTup, eLst, aCons, aNil, eIf, eAnd, eOr, eNot, eChain, bAnd, bOr, bNot, bYes, eCB, eCall, eSl, oNone, oSome, eNeg, eIsi, eGet, eOne, eNoP, eBack, eLc, eUpd, eBoth, tName, tTup, tsCons, tsNil, bnd, ret, iSeq, iRng, iEn, iZp, iKey, defF, startD, bodyOut, wipeD, List.getElem?_cons_zero, List.getElem?_cons_succ, List.set_cons_zero, List.set_cons_succ, List.length_cons, List.length_nil, List.map_cons, List.map_nil, List.replicate_succ, List.replicate_zero, List.cons_append, List.nil_append, if_true, if_false, Bool.false_eq_true, reduceIte, Option.map_some, Option.map_none, Nat.reduceAdd, Nat.reduceSub, Nat.reduceEqDiff, n1, n2, n3, w, e', rNotN, e2, rSorted, lim_eq, l1, Function.comp_def, sp', rTuple]
end Pg
set_option Elab.async false
set_option linter.all false
set_option maxRecDepth 100000
set_option maxHeartbeats 4000000
/-! The pure part, o: fits_none at pairs of whole numbers. -/
namespace Pg
open PySem PySem.Spec PyProof.Rows L2

/-- a loop that looks at each thing -/
theorem for_test {β : Type} {tg : TD} {g : ES} {s : D} (enc : β → D) (p : β → Bool) (Inv : Env → Prop) : ∀ {xs : List β}, (∀ x ∈ xs, ∀ ρ, Inv ρ → ∃ ρ1, tg (enc x) ρ = some ρ1 ∧ (p x = true → ∃ ρ2, g ρ1 s = some (.nx ρ2, s) ∧ Inv ρ2) ∧ (p x = false → g ρ1 s = some (.rt (.bl false), s))) → ∀ ρ, Inv ρ →
    (xs.all p = true ∧ ∃ ρ', forGo tg g (xs.map enc) ρ s = some (.nx ρ', s) ∧ Inv ρ') ∨ (xs.all p = false ∧ forGo tg g (xs.map enc) ρ s = some (.rt (.bl false), s))
  | [], _, ρ, h => .inl ⟨rfl, ρ, rfl, h⟩
  | x :: xs, H, ρ, h => by
    obtain ⟨ρ1, h1, h2, h3⟩ := H x List.mem_cons_self ρ h
    rw [List.map_cons, List.all_cons]
    cases hp : p x with
    | true =>
      obtain ⟨ρ2, h4, h5⟩ := h2 hp
      have e : forGo tg g (enc x :: xs.map enc) ρ s = forGo tg g (xs.map enc) ρ2 s := by
        show (match tg (enc x) ρ with | none => none | some ρ1 => bnd (g ρ1 s) _) = _
        rw [h1]
        show bnd (g ρ1 s) _ = _
        rw [h4]
        rfl
      rw [e, Bool.true_and]
      exact for_test enc p Inv (fun y hy => H y (List.mem_cons_of_mem _ hy)) ρ2 h5
    | false =>
      refine .inr ⟨rfl, ?_⟩
      show (match tg (enc x) ρ with | none => none | some ρ1 => bnd (g ρ1 s) _) = _
      rw [h1]
      show bnd (g ρ1 s) _ = _
      rw [h3 hp]
      rfl
theorem lc2_enc {β γ : Type} {tg : TD} {fi1 : EI} {tg1 : TD} {te : E} {vs1 : List Nat} {ρ : Env} {s : D} (enc : β → D) (enc1 h : γ → D) (ys : β → List γ) : ∀ {xs : List β}, (∀ x ∈ xs, ∃ ρ2, tg (enc x) ρ = some ρ2 ∧ fi1 ρ2 s = some ((ys x).map enc1, s) ∧ lcGo tg1 bYes te (wipeD ρ2 vs1) ((ys x).map enc1) s = some ((ys x).map h, s)) →
    lc2Go tg bYes fi1 tg1 bYes te vs1 ρ (xs.map enc) s = some ((xs.flatMap ys).map h, s)
  | [], _ => rfl
  | x :: xs, H => by
    obtain ⟨ρ2, h1, h2, h3⟩ := H x List.mem_cons_self
    have ih := lc2_enc enc enc1 h ys (xs := xs) fun y hy => H y (List.mem_cons_of_mem _ hy)
    rw [List.map_cons, List.flatMap_cons, List.map_append]
    unfold lc2Go
    rw [h1]
    show bnd (fi1 ρ2 s) _ = _
    rw [h2]
    show bnd (lcGo tg1 bYes te (wipeD ρ2 vs1) ((ys x).map enc1) s) _ = _
    rw [h3]
    show bnd (lc2Go tg bYes fi1 tg1 bYes te vs1 ρ (xs.map enc) s) _ = _
    rw [ih]
    rfl

/-! ### in order -/
def ltB (p q : Sta) : Bool := decide (p.1 < q.1 ∨ (p.1 = q.1 ∧ p.2 < q.2))
theorem lex_ltB (p q : Sta) : HT.lexLt [p.1, p.2] [q.1, q.2] = ltB p q := by
  unfold ltB
  rw [HT.lexLt_cons, HT.lexLt_cons, HT.lexLt_nil_nil]
  by_cases h1 : p.1 = q.1
  · rw [if_pos h1]
    by_cases h2 : p.2 = q.2
    · rw [if_pos h2, Eq.comm, decide_eq_false_iff_not]
      omega
    · rw [if_neg h2, decide_eq_decide]
      omega
  · rw [if_neg h1, decide_eq_decide]
    omega
theorem rLt_pair (st : D) (p q : Sta) : rLt st (dPr p) (dPr q) = some (.bl (ltB p q)) := by
  have a := ints?_map [p.1, p.2]
  have b := ints?_map [q.1, q.2]
  simp only [List.map_cons, List.map_nil] at a b
  unfold rLt dPr
  simp only [a, b, Option.bind_some, Option.map_some, lex_ltB]
theorem ltB_iff {p q : Sta} : ltB p q = true ↔ ltP p q := by
  unfold ltB ltP
  exact decide_eq_true_iff
theorem ltP_trans {a b c : Sta} (h1 : ltP a b) (h2 : ltP b c) : ltP a c := by
  unfold ltP at *
  omega
theorem asc_iff : ∀ v : List Sta, ((v.zip (v.drop 1)).all fun p => ltB p.1 p.2) = true ↔ v.Pairwise ltP
  | [] => by simp
  | [a] => by simp
  | a :: b :: v => by
    have ih := asc_iff (b :: v)
    have e : (a :: b :: v).zip ((a :: b :: v).drop 1) = (a, b) :: (b :: v).zip ((b :: v).drop 1) := rfl
    rw [e, List.all_cons, Bool.and_eq_true, ih]
    constructor
    · rintro ⟨h1, h2⟩
      have h1' : ltP a b := ltB_iff.mp h1
      refine List.pairwise_cons.mpr ⟨fun c hc => ?_, h2⟩
      rcases List.mem_cons.mp hc with rfl | hc
      · exact h1'
      · exact ltP_trans h1' ((List.pairwise_cons.mp h2).1 c hc)
    · intro h
      obtain ⟨h1, h2⟩ := List.pairwise_cons.mp h
      exact ⟨ltB_iff.mpr (h1 b List.mem_cons_self), h2⟩
def okB (T : Tb) (marks : List Int) (q : Sta) : Bool := decide ((q.1 = -1 ∨ q.1 ∈ ledT T) ∧ 0 ≤ q.2 ∧ q.2 ≤ marks.length)
theorem okB_iff {T : Tb} {marks : List Int} {q : Sta} : okB T marks q = true ↔ okS T marks q := by
  unfold okB
  rw [decide_eq_true_eq]
  exact ⟨fun ⟨a, b, c⟩ => ⟨a, b, c⟩, fun h => ⟨h.inL, h.lo, h.hi⟩⟩
/-- all of it at once -/
def papB (T : Tb) (marks : List Int) (v : List Sta) : Bool :=
  v.all (okB T marks) && ((v.zip (v.drop 1)).all fun p => ltB p.1 p.2) && decide (((0, 0) : Sta) ∈ v) && (v.all fun q => !hitB T marks q) && (v.flatMap (nxs T marks)).all fun x => decide (x.2 ∈ v)
theorem papB_iff {T : Tb} {marks : List Int} {v : List Sta} : papB T marks v = true ↔ IsPaper T marks v := by
  unfold papB
  rw [Bool.and_eq_true, Bool.and_eq_true, Bool.and_eq_true, Bool.and_eq_true, asc_iff]
  simp only [List.all_eq_true, okB_iff, decide_eq_true_eq, Bool.not_eq_true', List.mem_flatMap]
  constructor
  · rintro ⟨⟨⟨⟨h1, h2⟩, h3⟩, h4⟩, h5⟩
    exact ⟨h2, h3, h1, h4, fun q hq x hx => h5 x ⟨q, hq, hx⟩⟩
  · intro h
    exact ⟨⟨⟨⟨h.ok, h.asc⟩, h.zero⟩, h.nohit⟩, fun x ⟨q, hq, hx⟩ => h.closed q hq x hx⟩
theorem kIn_dPrT (s : D) (l : List Sta) (x : Sta) : kIn s (dPr x) (.tup (l.map dPr)) = some (decide (x ∈ l)) := by
  unfold kIn
  simp only [seqOf, plN_dPr, plN_dPrs, Bool.and_self, if_true, any_dPr]

/-! ### fits_none -/
theorem fn_row {r : Rt} {T : Tb} (R : Rest r T) {W : Wt} (hW : IsW T W) {marks : List Int} (q : Sta) (x2 x4 x5 x6 : Option D) (st : D) :
    b2_fits_none [some (encW W), some (tI marks), x2, some (dPr q), x4, x5, x6] st = if okB T marks q then some (.nx [some (encW W), some (tI marks), x2, some (dPr q), x4, x5, x6], st) else some (.rt (.bl false), st) := by
  have i1 : L2.atI [D.int q.1, D.int q.2] 1 = some (.int q.2) := atI_nat _ 1
  have n1 := is_whole_eq (v := .int q.1) (-1) (W.length : Int) st rfl
  have n2 := is_whole_eq (v := .int q.2) 0 (marks.length : Int) st rfl
  have look := lookup_map dW (q.1, 0) W
  have fw := hW.few
  by_cases h : okB T marks q = true
  · rw [if_pos h]
    have ok := okB_iff.mp h
    have a1 := ok.lo
    have a2 := ok.hi
    have a3 : -1 ≤ q.1 ∧ q.1 ≤ 6 := by
      rcases ok.inL with z | z
      · omega
      · have := R.ledOk.rg _ z
        have := R.ok.six
        omega
    have w1 : wholeB (.int q.1) (-1) (W.length : Int) = true := by
      simp only [wholeB, Bool.and_eq_true, decide_eq_true_eq]
      omega
    have w2 : wholeB (.int q.2) 0 (marks.length : Int) = true := by
      simp only [wholeB, Bool.and_eq_true, decide_eq_true_eq]
      omega
    rw [w1] at n1
    rw [w2] at n2
    have lk := hW.has q.1 ok.inL 0 (by omega)
    have lk' : W.lookup (q.1, 0) = some (mw T q.1 0) := lk
    rw [lk'] at look
    simp [b2_fits_none, sSeq, sAsg, sIf, sRet, sNil, sDrop, sPar2, sPar3, sFor, sCellSet, sCellApp, sCellPut, sNever, eVar, eC, eOp, eB, eTup, eLst, aCons, aNil, eIf, eAnd, eOr, eNot, eChain, bAnd, bOr, bNot, bYes, eCB, eCall, eSl, oNone, oSome, eNeg, eIsi, eGet, eOne, eNoP, eBack, eLc, eUpd, eBoth, tName, tTup, tsCons, tsNil, bnd, ret, iSeq, iRng, iEn, iZp, iKey, defF, startD, bodyOut, wipeD, List.getElem?_cons_zero, List.getElem?_cons_succ, List.set_cons_zero, List.set_cons_succ, List.length_cons, List.length_nil, List.map_cons, List.map_nil, List.replicate_succ, List.replicate_zero, List.cons_append, List.nil_append, if_true, if_false, Bool.false_eq_true, reduceIte, Option.map_some, Option.map_none, Nat.reduceAdd, Nat.reduceSub, Nat.reduceEqDiff, lim_eq, dPr, rIx, seqOf, atI0, i1, rLen2, encW, tI, n1, n2, rDNotIn, kinOf, dicOf, look]
  · rw [if_neg h]
    by_cases c1 : -1 ≤ q.1 ∧ q.1 ≤ W.length
    · have w1 : wholeB (.int q.1) (-1) (W.length : Int) = true := by
        simp only [wholeB, Bool.and_eq_true, decide_eq_true_eq]
        omega
      rw [w1] at n1
      by_cases c2 : 0 ≤ q.2 ∧ q.2 ≤ marks.length
      · have w2 : wholeB (.int q.2) 0 (marks.length : Int) = true := by
          simp only [wholeB, Bool.and_eq_true, decide_eq_true_eq]
          omega
        rw [w2] at n2
        have nl : ¬ (q.1 = -1 ∨ q.1 ∈ ledT T) := fun z => h (okB_iff.mpr ⟨z, c2.1, c2.2⟩)
        have lk := hW.non q.1 (fun z => nl (.inl z)) fun z => nl (.inr z)
        rw [lk] at look
        simp [b2_fits_none, sSeq, sAsg, sIf, sRet, sNil, sDrop, sPar2, sPar3, sFor, sCellSet, sCellApp, sCellPut, sNever, eVar, eC, eOp, eB, eTup, eLst, aCons, aNil, eIf, eAnd, eOr, eNot, eChain, bAnd, bOr, bNot, bYes, eCB, eCall, eSl, oNone, oSome, eNeg, eIsi, eGet, eOne, eNoP, eBack, eLc, eUpd, eBoth, tName, tTup, tsCons, tsNil, bnd, ret, iSeq, iRng, iEn, iZp, iKey, defF, startD, bodyOut, wipeD, List.getElem?_cons_zero, List.getElem?_cons_succ, List.set_cons_zero, List.set_cons_succ, List.length_cons, List.length_nil, List.map_cons, List.map_nil, List.replicate_succ, List.replicate_zero, List.cons_append, List.nil_append, if_true, if_false, Bool.false_eq_true, reduceIte, Option.map_some, Option.map_none, Nat.reduceAdd, Nat.reduceSub, Nat.reduceEqDiff, lim_eq, dPr, rIx, seqOf, atI0, i1, rLen2, encW, tI, n1, n2, rDNotIn, kinOf, dicOf, look]
      · have w2 : wholeB (.int q.2) 0 (marks.length : Int) = false := by
          rw [Bool.eq_false_iff]
          simp only [wholeB, ne_eq, Bool.and_eq_true, decide_eq_true_eq]
          omega
        rw [w2] at n2
        simp [b2_fits_none, sSeq, sAsg, sIf, sRet, sNil, sDrop, sPar2, sPar3, sFor, sCellSet, sCellApp, sCellPut, sNever, eVar, eC, eOp, eB, eTup, eLst, aCons, aNil, eIf, eAnd, eOr, eNot, eChain, bAnd, bOr, bNot, bYes, eCB, eCall, eSl, oNone, oSome, eNeg, eIsi, eGet, eOne, eNoP, eBack, eLc, eUpd, eBoth, tName, tTup, tsCons, tsNil, bnd, ret, iSeq, iRng, iEn, iZp, iKey, defF, startD, bodyOut, wipeD, List.getElem?_cons_zero, List.getElem?_cons_succ, List.set_cons_zero, List.set_cons_succ, List.length_cons, List.length_nil, List.map_cons, List.map_nil, List.replicate_succ, List.replicate_zero, List.cons_append, List.nil_append, if_true, if_false, Bool.false_eq_true, reduceIte, Option.map_some, Option.map_none, Nat.reduceAdd, Nat.reduceSub, Nat.reduceEqDiff, lim_eq, dPr, rIx, seqOf, atI0, i1, rLen2, encW, tI, n1, n2]
    · have w1 : wholeB (.int q.1) (-1) (W.length : Int) = false := by
        rw [Bool.eq_false_iff]
        simp only [wholeB, ne_eq, Bool.and_eq_true, decide_eq_true_eq]
        omega
      rw [w1] at n1
      simp [b2_fits_none, sSeq, sAsg, sIf, sRet, sNil, sDrop, sPar2, sPar3, sFor, sCellSet, sCellApp, sCellPut, sNever, eVar, eC, eOp, eB, eTup, eLst, aCons, aNil, eIf, eAnd, eOr, eNot, eChain, bAnd, bOr, bNot, bYes, eCB, eCall, eSl, oNone, oSome, eNeg, eIsi, eGet, eOne, eNoP, eBack, eLc, eUpd, eBoth, tName, tTup, tsCons, tsNil, bnd, ret, iSeq, iRng, iEn, iZp, iKey, defF, startD, bodyOut, wipeD, List.getElem?_cons_zero, List.getElem?_cons_succ, List.set_cons_zero, List.set_cons_succ, List.length_cons, List.length_nil, List.map_cons, List.map_nil, List.replicate_succ, List.replicate_zero, List.cons_append, List.nil_append, if_true, if_false, Bool.false_eq_true, reduceIte, Option.map_some, Option.map_none, Nat.reduceAdd, Nat.reduceSub, Nat.reduceEqDiff, lim_eq, dPr, rIx, seqOf, atI0, i1, rLen2, encW, tI, n1]
theorem two_rows (v : List Sta) (ρ : Env) (s : D) (h : ∃ a0 a1 a2 a3 a4 a5 a6, ρ = [a0, a1, a2, a3, a4, a5, a6]) : lcGo (tName 3) bYes e1_fits_none ρ (v.map dPr) s = some (v.map fun _ => D.bl true, s) := by
  obtain ⟨a0, a1, a2, a3, a4, a5, a6, rfl⟩ := h
  refine lc_enc dPr (fun _ => D.bl true) fun x _ => ⟨_, rfl, ?_⟩
  simp [e1_fits_none, sSeq, sAsg, sIf, sRet, sNil, sDrop, sPar2, sPar3, sFor, sCellSet, sCellApp, sCellPut, sNever, eVar, eC, eOp, eB, eTup, eLst, aCons, aNil, eIf, eAnd, eOr, eNot, eChain, bAnd, bOr, bNot, bYes, eCB, eCall, eSl, oNone, oSome, eNeg, eIsi, eGet, eOne, eNoP, eBack, eLc, eUpd, eBoth, tName, tTup, tsCons, tsNil, bnd, ret, iSeq, iRng, iEn, iZp, iKey, defF, startD, bodyOut, wipeD, List.getElem?_cons_zero, List.getElem?_cons_succ, List.set_cons_zero, List.set_cons_succ, List.length_cons, List.length_nil, List.map_cons, List.map_nil, List.replicate_succ, List.replicate_zero, List.cons_append, List.nil_append, if_true, if_false, Bool.false_eq_true, reduceIte, Option.map_some, Option.map_none, Nat.reduceAdd, Nat.reduceSub, Nat.reduceEqDiff, dPr, qTup, rLen2, rEq, kEq_int]
theorem all_yes {α : Type} (v : List α) : (v.map fun _ => true).all id = true := by simp
theorem fits_none_eq {r : Rt} {T : Tb} (R : Rest r T) {W : Wt} (hW : IsW T W) {marks : List Int} (v : List Sta) (hv : v.length ≤ 1000) (st : D) : F_fits_none [encW W, tI marks, .tup (v.map dPr)] st = some (.bl (papB T marks v), st) := by
  have lv : (v.map dPr).length ≤ lim := by rw [List.length_map, lim_eq]; omega
  have fin : ∀ b : Bool, g_fits_none [some (encW W), some (tI marks), some (.tup (v.map dPr)), none, none, none, none] st = some (.rt (.bl b), st) → papB T marks v = b → F_fits_none [encW W, tI marks, .tup (v.map dPr)] st = some (.bl (papB T marks v), st) := fun b h e => by
    rw [e]
    unfold F_fits_none defF
    simp only [List.length_cons, List.length_nil, if_true]
    show bodyOut (g_fits_none [some (encW W), some (tI marks), some (.tup (v.map dPr)), none, none, none, none] st) = _
    rw [h]
    rfl
  have s1 : ∀ (ρ : Env), ρ = [some (encW W), some (tI marks), some (.tup (v.map dPr)), none, none, none, none] → sIf (bOr (bNot (eB (eIsi qTup (eVar 2)))) (bNot (eB (eCB rAll (aCons (eLc (iSeq (eVar 2)) (tName 3) bYes e1_fits_none [3]) aNil))))) (sRet (eC (.bl false))) sNil ρ st = some (.nx ρ, st) := fun ρ hρ => by
    subst hρ
    have c := two_rows v (wipeD [some (encW W), some (tI marks), some (.tup (v.map dPr)), none, none, none, none] [3]) st ⟨_, _, _, _, _, _, _, rfl⟩
    have b := bls_map (fun _ : Sta => true) v
    have it : iSeq (eVar 2) [some (encW W), some (tI marks), some (.tup (v.map dPr)), none, none, none, none] st = some (v.map dPr, st) := rfl
    have lc : eCB rAll (aCons (eLc (iSeq (eVar 2)) (tName 3) bYes e1_fits_none [3]) aNil) [some (encW W), some (tI marks), some (.tup (v.map dPr)), none, none, none, none] st = some (.bl true, st) := by
      simp only [eCB, aCons, aNil, eLc, it, bnd_some, lv, if_true, c, rAll, b, Option.map_some, ret, all_yes]
    have isi : eIsi qTup (eVar 2) [some (encW W), some (tI marks), some (.tup (v.map dPr)), none, none, none, none] st = some (.bl true, st) := rfl
    simp only [sIf, bOr, bNot, eB, isi, bnd_some, Bool.not_true, Bool.false_eq_true, if_false, lc]
    simp [sSeq, sAsg, sIf, sRet, sNil, sDrop, sPar2, sPar3, sFor, sCellSet, sCellApp, sCellPut, sNever, eVar, eC, eOp, eB, eTup, eLst, aCons, aNil, eIf, eAnd, eOr, eNot, eChain, bAnd, bOr, bNot, bYes, eCB, eCall, eSl, oNone, oSome, eNeg, eIsi, eGet, eOne, eNoP, eBack, eLc, eUpd, eBoth, tName, tTup, tsCons, tsNil, bnd, ret, iSeq, iRng, iEn, iZp, iKey, defF, startD, bodyOut, wipeD, List.getElem?_cons_zero, List.getElem?_cons_succ, List.set_cons_zero, List.set_cons_succ, List.length_cons, List.length_nil, List.map_cons, List.map_nil, List.replicate_succ, List.replicate_zero, List.cons_append, List.nil_append, if_true, if_false, Bool.false_eq_true, reduceIte, Option.map_some, Option.map_none, Nat.reduceAdd, Nat.reduceSub, Nat.reduceEqDiff]
  rcases for_test (tg := tName 3) (g := b2_fits_none) (s := st) dPr (okB T marks) (fun ρ => ∃ y3, ρ = [some (encW W), some (tI marks), some (.tup (v.map dPr)), y3, none, none, none]) (xs := v) (fun q _ ρ hρ => by
      obtain ⟨y3, rfl⟩ := hρ
      have e := fn_row R hW q (some (.tup (v.map dPr))) none none none (marks := marks) st
      exact ⟨_, rfl, fun h => ⟨_, by rw [h] at e; exact e, _, rfl⟩, fun h => by rw [h] at e; exact e⟩) [some (encW W), some (tI marks), some (.tup (v.map dPr)), none, none, none, none] ⟨_, rfl⟩ with ⟨hall, ρ', run, y3, rfl⟩ | ⟨hno, run⟩
  · have hok : ∀ q ∈ v, okS T marks q := fun q hq => okB_iff.mp (List.all_eq_true.mp hall q hq)
    -- in order, and the start
    have lc1 : eCB rAll (aCons (eLc (iZp (aCons (eVar 2) (aCons (eSl (eVar 2) (oSome (eC (.int 1))) oNone) aNil))) (tTup 2 (tsCons (tName 6) (tsCons (tName 5) tsNil))) bYes e3_fits_none [6, 5]) aNil) [some (encW W), some (tI marks), some (.tup (v.map dPr)), y3, none, none, none] st = some (.bl ((v.zip (v.drop 1)).all fun p => ltB p.1 p.2), st) := by
      have c1 := cut_from (v.map dPr) 1
      have c1' : cutD (v.map dPr) (some 1) none = (v.drop 1).map dPr := c1.trans List.map_drop.symm
      have z : (((v.map dPr).zip ((v.drop 1).map dPr)).map fun p => D.tup [p.1, p.2]) = (v.zip (v.drop 1)).map fun p => D.tup [dPr p.1, dPr p.2] := by
        rw [List.zip_map, List.map_map]
        rfl
      have c := lc_enc (tg := tTup 2 (tsCons (tName 6) (tsCons (tName 5) tsNil))) (te := e3_fits_none) (ρ := wipeD [some (encW W), some (tI marks), some (.tup (v.map dPr)), y3, none, none, none] [6, 5]) (s := st) (fun p : Sta × Sta => D.tup [dPr p.1, dPr p.2]) (fun p => D.bl (ltB p.1 p.2)) (xs := v.zip (v.drop 1)) fun p _ => ⟨_, rfl, by
        have := rLt_pair st p.1 p.2
        simp [e3_fits_none, sSeq, sAsg, sIf, sRet, sNil, sDrop, sPar2, sPar3, sFor, sCellSet, sCellApp, sCellPut, sNever, eVar, eC, eOp, eB, eTup, eLst, aCons, aNil, eIf, eAnd, eOr, eNot, eChain, bAnd, bOr, bNot, bYes, eCB, eCall, eSl, oNone, oSome, eNeg, eIsi, eGet, eOne, eNoP, eBack, eLc, eUpd, eBoth, tName, tTup, tsCons, tsNil, bnd, ret, iSeq, iRng, iEn, iZp, iKey, defF, startD, bodyOut, wipeD, List.getElem?_cons_zero, List.getElem?_cons_succ, List.set_cons_zero, List.set_cons_succ, List.length_cons, List.length_nil, List.map_cons, List.map_nil, List.replicate_succ, List.replicate_zero, List.cons_append, List.nil_append, if_true, if_false, Bool.false_eq_true, reduceIte, Option.map_some, Option.map_none, Nat.reduceAdd, Nat.reduceSub, Nat.reduceEqDiff, wipeD, this]⟩
      have b := bls_map (fun p : Sta × Sta => ltB p.1 p.2) (v.zip (v.drop 1))
      have it : iZp (aCons (eVar 2) (aCons (eSl (eVar 2) (oSome (eC (.int 1))) oNone) aNil)) [some (encW W), some (tI marks), some (.tup (v.map dPr)), y3, none, none, none] st = some ((v.zip (v.drop 1)).map fun p => D.tup [dPr p.1, dPr p.2], st) := by
        simp only [sSeq, sAsg, sIf, sRet, sNil, sDrop, sPar2, sPar3, sFor, sCellSet, sCellApp, sCellPut, sNever, eVar, eC, eOp, eB, eTup, eLst, aCons, aNil, eIf, eAnd, eOr, eNot, eChain, bAnd, bOr, bNot, bYes, eCB, eCall, eSl, oNone, oSome, eNeg, eIsi, eGet, eOne, eNoP, eBack, eLc, eUpd, eBoth, tName, tTup, tsCons, tsNil, bnd, ret, iSeq, iRng, iEn, iZp, iKey, defF, startD, bodyOut, wipeD, List.getElem?_cons_zero, List.getElem?_cons_succ, List.set_cons_zero, List.set_cons_succ, List.length_cons, List.length_nil, List.map_cons, List.map_nil, List.replicate_succ, List.replicate_zero, List.cons_append, List.nil_append, if_true, if_false, Bool.false_eq_true, reduceIte, Option.map_some, Option.map_none, Nat.reduceAdd, Nat.reduceSub, Nat.reduceEqDiff, c1', z]
      have l2 : ((v.zip (v.drop 1)).map fun p => D.tup [dPr p.1, dPr p.2]).length ≤ lim := by
        rw [List.length_map, List.length_zip, lim_eq]
        omega
      simp only [eCB, aCons, aNil, eLc, it, bnd_some, l2, if_true, c, rAll, b, Option.map_some, ret]
      rw [List.all_map]
      rfl
    have kin := kIn_dPrT st v (0, 0)
    have kin' : kIn st (.tup [.int 0, .int 0]) (.tup (v.map dPr)) = some (decide (((0, 0) : Sta) ∈ v)) := kin
    by_cases h2 : (((v.zip (v.drop 1)).all fun p => ltB p.1 p.2) && decide (((0, 0) : Sta) ∈ v)) = true
    · rw [Bool.and_eq_true] at h2
      obtain ⟨h2, h3⟩ := h2
      -- hits
      have lc2 : eCB rAny (aCons (eLc (iSeq (eVar 2)) (tName 3) bYes e4_fits_none [3]) aNil) [some (encW W), some (tI marks), some (.tup (v.map dPr)), y3, none, none, none] st = some (.bl (v.any (hitB T marks)), st) := by
        have c := lc_enc (tg := tName 3) (te := e4_fits_none) (ρ := wipeD [some (encW W), some (tI marks), some (.tup (v.map dPr)), y3, none, none, none] [3]) (s := st) dPr (fun q => D.bl (hitB T marks q)) (xs := v) fun q hq => ⟨_, rfl, by
          have := is_hit_eq hW (hok q hq) st
          simp [e4_fits_none, sSeq, sAsg, sIf, sRet, sNil, sDrop, sPar2, sPar3, sFor, sCellSet, sCellApp, sCellPut, sNever, eVar, eC, eOp, eB, eTup, eLst, aCons, aNil, eIf, eAnd, eOr, eNot, eChain, bAnd, bOr, bNot, bYes, eCB, eCall, eSl, oNone, oSome, eNeg, eIsi, eGet, eOne, eNoP, eBack, eLc, eUpd, eBoth, tName, tTup, tsCons, tsNil, bnd, ret, iSeq, iRng, iEn, iZp, iKey, defF, startD, bodyOut, wipeD, List.getElem?_cons_zero, List.getElem?_cons_succ, List.set_cons_zero, List.set_cons_succ, List.length_cons, List.length_nil, List.map_cons, List.map_nil, List.replicate_succ, List.replicate_zero, List.cons_append, List.nil_append, if_true, if_false, Bool.false_eq_true, reduceIte, Option.map_some, Option.map_none, Nat.reduceAdd, Nat.reduceSub, Nat.reduceEqDiff, wipeD, this]⟩
        have b := bls_map (hitB T marks) v
        have it : iSeq (eVar 2) [some (encW W), some (tI marks), some (.tup (v.map dPr)), y3, none, none, none] st = some (v.map dPr, st) := rfl
        simp only [eCB, aCons, aNil, eLc, it, bnd_some, lv, if_true, c, rAny, b, Option.map_some, ret]
        rw [List.any_map]
        rfl
      have lc3 : eCB rAll (aCons (eLc2 (iSeq (eVar 2)) (tName 3) bYes i6_fits_none (tTup 2 (tsCons (tName 4) (tsCons (tName 5) tsNil))) bYes e5_fits_none [3, 4, 5] [4, 5]) aNil) [some (encW W), some (tI marks), some (.tup (v.map dPr)), y3, none, none, none] st = some (.bl ((v.flatMap (nxs T marks)).all fun x => decide (x.2 ∈ v)), st) := by
        have c := lc2_enc (tg := tName 3) (fi1 := i6_fits_none) (tg1 := tTup 2 (tsCons (tName 4) (tsCons (tName 5) tsNil))) (te := e5_fits_none) (vs1 := [4, 5]) (ρ := wipeD [some (encW W), some (tI marks), some (.tup (v.map dPr)), y3, none, none, none] [3, 4, 5]) (s := st) dPr dNx (fun x => D.bl (decide (x.2 ∈ v))) (nxs T marks) (xs := v) fun q hq => ⟨_, rfl, by
          have := nexts_of_eq hW (hok q hq) st
          simp [i6_fits_none, sSeq, sAsg, sIf, sRet, sNil, sDrop, sPar2, sPar3, sFor, sCellSet, sCellApp, sCellPut, sNever, eVar, eC, eOp, eB, eTup, eLst, aCons, aNil, eIf, eAnd, eOr, eNot, eChain, bAnd, bOr, bNot, bYes, eCB, eCall, eSl, oNone, oSome, eNeg, eIsi, eGet, eOne, eNoP, eBack, eLc, eUpd, eBoth, tName, tTup, tsCons, tsNil, bnd, ret, iSeq, iRng, iEn, iZp, iKey, defF, startD, bodyOut, wipeD, List.getElem?_cons_zero, List.getElem?_cons_succ, List.set_cons_zero, List.set_cons_succ, List.length_cons, List.length_nil, List.map_cons, List.map_nil, List.replicate_succ, List.replicate_zero, List.cons_append, List.nil_append, if_true, if_false, Bool.false_eq_true, reduceIte, Option.map_some, Option.map_none, Nat.reduceAdd, Nat.reduceSub, Nat.reduceEqDiff, wipeD, this], by
          refine lc_enc dNx (fun x => D.bl (decide (x.2 ∈ v))) fun x _ => ⟨_, rfl, ?_⟩
          have := kIn_dPrT st v x.2
          simp [e5_fits_none, sSeq, sAsg, sIf, sRet, sNil, sDrop, sPar2, sPar3, sFor, sCellSet, sCellApp, sCellPut, sNever, eVar, eC, eOp, eB, eTup, eLst, aCons, aNil, eIf, eAnd, eOr, eNot, eChain, bAnd, bOr, bNot, bYes, eCB, eCall, eSl, oNone, oSome, eNeg, eIsi, eGet, eOne, eNoP, eBack, eLc, eUpd, eBoth, tName, tTup, tsCons, tsNil, bnd, ret, iSeq, iRng, iEn, iZp, iKey, defF, startD, bodyOut, wipeD, List.getElem?_cons_zero, List.getElem?_cons_succ, List.set_cons_zero, List.set_cons_succ, List.length_cons, List.length_nil, List.map_cons, List.map_nil, List.replicate_succ, List.replicate_zero, List.cons_append, List.nil_append, if_true, if_false, Bool.false_eq_true, reduceIte, Option.map_some, Option.map_none, Nat.reduceAdd, Nat.reduceSub, Nat.reduceEqDiff, wipeD, rIn, this]⟩
        have b := bls_map (fun x : Int × Sta => decide (x.2 ∈ v)) (v.flatMap (nxs T marks))
        have it : iSeq (eVar 2) [some (encW W), some (tI marks), some (.tup (v.map dPr)), y3, none, none, none] st = some (v.map dPr, st) := rfl
        have fl : ∀ w : List Sta, (w.flatMap (nxs T marks)).length ≤ 3 * w.length := by
          intro w
          induction w with
          | nil => simp
          | cons a w ih =>
            have := nxs_len T marks a
            rw [List.flatMap_cons, List.length_append, List.length_cons]
            omega
        have l2 : ((v.flatMap (nxs T marks)).map fun x : Int × Sta => D.bl (decide (x.2 ∈ v))).length ≤ lim := by
          have := fl v
          rw [List.length_map, lim_eq]
          omega
        simp only [eCB, aCons, aNil, eLc2, it, bnd_some, c, l2, if_true, rAll, b, Option.map_some, ret]
        rw [List.all_map]
        rfl
      by_cases h4 : v.any (hitB T marks) = true
      · refine fin false ?_ ?_
        · unfold g_fits_none
          rw [seq_nx (s1 _ rfl), seq_nx (show sFor (iSeq (eVar 2)) (tName 3) b2_fits_none [some (encW W), some (tI marks), some (.tup (v.map dPr)), none, none, none, none] st = _ from run)]
          rw [h2] at lc1
          rw [h3] at kin'
          rw [h4] at lc2
          have t1 : sIf (bOr (bNot (eB (eCB rAll (aCons (eLc (iZp (aCons (eVar 2) (aCons (eSl (eVar 2) (oSome (eC (.int 1))) oNone) aNil))) (tTup 2 (tsCons (tName 6) (tsCons (tName 5) tsNil))) bYes e3_fits_none [6, 5]) aNil)))) (eB (eOp rNotIn (eTup (aCons (eC (.int 0)) (aCons (eC (.int 0)) aNil))) (eVar 2)))) (sRet (eC (.bl false))) sNil [some (encW W), some (tI marks), some (.tup (v.map dPr)), y3, none, none, none] st = some (.nx [some (encW W), some (tI marks), some (.tup (v.map dPr)), y3, none, none, none], st) := by
            simp only [sIf, bOr, bNot, eB, lc1, bnd_some]
            simp [sSeq, sAsg, sIf, sRet, sNil, sDrop, sPar2, sPar3, sFor, sCellSet, sCellApp, sCellPut, sNever, eVar, eC, eOp, eB, eTup, eLst, aCons, aNil, eIf, eAnd, eOr, eNot, eChain, bAnd, bOr, bNot, bYes, eCB, eCall, eSl, oNone, oSome, eNeg, eIsi, eGet, eOne, eNoP, eBack, eLc, eUpd, eBoth, tName, tTup, tsCons, tsNil, bnd, ret, iSeq, iRng, iEn, iZp, iKey, defF, startD, bodyOut, wipeD, List.getElem?_cons_zero, List.getElem?_cons_succ, List.set_cons_zero, List.set_cons_succ, List.length_cons, List.length_nil, List.map_cons, List.map_nil, List.replicate_succ, List.replicate_zero, List.cons_append, List.nil_append, if_true, if_false, Bool.false_eq_true, reduceIte, Option.map_some, Option.map_none, Nat.reduceAdd, Nat.reduceSub, Nat.reduceEqDiff, lim_eq, rNotIn, kin']
          rw [seq_nx t1]
          simp only [sSeq, sIf, eB, lc2, bnd_some]
          simp [sSeq, sAsg, sIf, sRet, sNil, sDrop, sPar2, sPar3, sFor, sCellSet, sCellApp, sCellPut, sNever, eVar, eC, eOp, eB, eTup, eLst, aCons, aNil, eIf, eAnd, eOr, eNot, eChain, bAnd, bOr, bNot, bYes, eCB, eCall, eSl, oNone, oSome, eNeg, eIsi, eGet, eOne, eNoP, eBack, eLc, eUpd, eBoth, tName, tTup, tsCons, tsNil, bnd, ret, iSeq, iRng, iEn, iZp, iKey, defF, startD, bodyOut, wipeD, List.getElem?_cons_zero, List.getElem?_cons_succ, List.set_cons_zero, List.set_cons_succ, List.length_cons, List.length_nil, List.map_cons, List.map_nil, List.replicate_succ, List.replicate_zero, List.cons_append, List.nil_append, if_true, if_false, Bool.false_eq_true, reduceIte, Option.map_some, Option.map_none, Nat.reduceAdd, Nat.reduceSub, Nat.reduceEqDiff]
        · unfold papB
          have : (v.all fun q => !hitB T marks q) = false := by
            rw [List.any_eq_true] at h4
            obtain ⟨q, hq, h4⟩ := h4
            rw [List.all_eq_false]
            exact ⟨q, hq, by rw [h4]; simp⟩
          rw [this]
          simp
      · refine fin ((v.flatMap (nxs T marks)).all fun x => decide (x.2 ∈ v)) ?_ ?_
        · unfold g_fits_none
          rw [seq_nx (s1 _ rfl), seq_nx (show sFor (iSeq (eVar 2)) (tName 3) b2_fits_none [some (encW W), some (tI marks), some (.tup (v.map dPr)), none, none, none, none] st = _ from run)]
          rw [h2] at lc1
          rw [h3] at kin'
          rw [Bool.eq_false_iff.mpr h4] at lc2
          have t1 : sIf (bOr (bNot (eB (eCB rAll (aCons (eLc (iZp (aCons (eVar 2) (aCons (eSl (eVar 2) (oSome (eC (.int 1))) oNone) aNil))) (tTup 2 (tsCons (tName 6) (tsCons (tName 5) tsNil))) bYes e3_fits_none [6, 5]) aNil)))) (eB (eOp rNotIn (eTup (aCons (eC (.int 0)) (aCons (eC (.int 0)) aNil))) (eVar 2)))) (sRet (eC (.bl false))) sNil [some (encW W), some (tI marks), some (.tup (v.map dPr)), y3, none, none, none] st = some (.nx [some (encW W), some (tI marks), some (.tup (v.map dPr)), y3, none, none, none], st) := by
            simp only [sIf, bOr, bNot, eB, lc1, bnd_some]
            simp [sSeq, sAsg, sIf, sRet, sNil, sDrop, sPar2, sPar3, sFor, sCellSet, sCellApp, sCellPut, sNever, eVar, eC, eOp, eB, eTup, eLst, aCons, aNil, eIf, eAnd, eOr, eNot, eChain, bAnd, bOr, bNot, bYes, eCB, eCall, eSl, oNone, oSome, eNeg, eIsi, eGet, eOne, eNoP, eBack, eLc, eUpd, eBoth, tName, tTup, tsCons, tsNil, bnd, ret, iSeq, iRng, iEn, iZp, iKey, defF, startD, bodyOut, wipeD, List.getElem?_cons_zero, List.getElem?_cons_succ, List.set_cons_zero, List.set_cons_succ, List.length_cons, List.length_nil, List.map_cons, List.map_nil, List.replicate_succ, List.replicate_zero, List.cons_append, List.nil_append, if_true, if_false, Bool.false_eq_true, reduceIte, Option.map_some, Option.map_none, Nat.reduceAdd, Nat.reduceSub, Nat.reduceEqDiff, lim_eq, rNotIn, kin']
          rw [seq_nx t1]
          have t2 : sIf (eB (eCB rAny (aCons (eLc (iSeq (eVar 2)) (tName 3) bYes e4_fits_none [3]) aNil))) (sRet (eC (.bl false))) sNil [some (encW W), some (tI marks), some (.tup (v.map dPr)), y3, none, none, none] st = some (.nx [some (encW W), some (tI marks), some (.tup (v.map dPr)), y3, none, none, none], st) := by
            simp only [sIf, eB, lc2, bnd_some]
            simp [sSeq, sAsg, sIf, sRet, sNil, sDrop, sPar2, sPar3, sFor, sCellSet, sCellApp, sCellPut, sNever, eVar, eC, eOp, eB, eTup, eLst, aCons, aNil, eIf, eAnd, eOr, eNot, eChain, bAnd, bOr, bNot, bYes, eCB, eCall, eSl, oNone, oSome, eNeg, eIsi, eGet, eOne, eNoP, eBack, eLc, eUpd, eBoth, tName, tTup, tsCons, tsNil, bnd, ret, iSeq, iRng, iEn, iZp, iKey, defF, startD, bodyOut, wipeD, List.getElem?_cons_zero, List.getElem?_cons_succ, List.set_cons_zero, List.set_cons_succ, List.length_cons, List.length_nil, List.map_cons, List.map_nil, List.replicate_succ, List.replicate_zero, List.cons_append, List.nil_append, if_true, if_false, Bool.false_eq_true, reduceIte, Option.map_some, Option.map_none, Nat.reduceAdd, Nat.reduceSub, Nat.reduceEqDiff]
          rw [seq_nx t2]
          simp only [sRet, lc3, bnd_some]
        · unfold papB
          have : (v.all fun q => !hitB T marks q) = true := by
            rw [List.all_eq_true]
            intro q hq
            cases e : hitB T marks q with
            | false => rfl
            | true => exact absurd (List.any_eq_true.mpr ⟨q, hq, e⟩) h4
          rw [hall, h2, h3, this]
          simp
    · refine fin false ?_ ?_
      · unfold g_fits_none
        rw [seq_nx (s1 _ rfl), seq_nx (show sFor (iSeq (eVar 2)) (tName 3) b2_fits_none [some (encW W), some (tI marks), some (.tup (v.map dPr)), none, none, none, none] st = _ from run)]
        refine seq_rt ?_
        simp only [sIf, bOr, bNot, eB, lc1, bnd_some]
        cases a : (v.zip (v.drop 1)).all fun p => ltB p.1 p.2 with
        | false => simp [sSeq, sAsg, sIf, sRet, sNil, sDrop, sPar2, sPar3, sFor, sCellSet, sCellApp, sCellPut, sNever, eVar, eC, eOp, eB, eTup, eLst, aCons, aNil, eIf, eAnd, eOr, eNot, eChain, bAnd, bOr, bNot, bYes, eCB, eCall, eSl, oNone, oSome, eNeg, eIsi, eGet, eOne, eNoP, eBack, eLc, eUpd, eBoth, tName, tTup, tsCons, tsNil, bnd, ret, iSeq, iRng, iEn, iZp, iKey, defF, startD, bodyOut, wipeD, List.getElem?_cons_zero, List.getElem?_cons_succ, List.set_cons_zero, List.set_cons_succ, List.length_cons, List.length_nil, List.map_cons, List.map_nil, List.replicate_succ, List.replicate_zero, List.cons_append, List.nil_append, if_true, if_false, Bool.false_eq_true, reduceIte, Option.map_some, Option.map_none, Nat.reduceAdd, Nat.reduceSub, Nat.reduceEqDiff]
        | true =>
          have h3 : ((0, 0) : Sta) ∉ v := fun z => h2 (by rw [a, decide_eq_true z]; rfl)
          rw [decide_eq_false h3] at kin'
          simp [sSeq, sAsg, sIf, sRet, sNil, sDrop, sPar2, sPar3, sFor, sCellSet, sCellApp, sCellPut, sNever, eVar, eC, eOp, eB, eTup, eLst, aCons, aNil, eIf, eAnd, eOr, eNot, eChain, bAnd, bOr, bNot, bYes, eCB, eCall, eSl, oNone, oSome, eNeg, eIsi, eGet, eOne, eNoP, eBack, eLc, eUpd, eBoth, tName, tTup, tsCons, tsNil, bnd, ret, iSeq, iRng, iEn, iZp, iKey, defF, startD, bodyOut, wipeD, List.getElem?_cons_zero, List.getElem?_cons_succ, List.set_cons_zero, List.set_cons_succ, List.length_cons, List.length_nil, List.map_cons, List.map_nil, List.replicate_succ, List.replicate_zero, List.cons_append, List.nil_append, if_true, if_false, Bool.false_eq_true, reduceIte, Option.map_some, Option.map_none, Nat.reduceAdd, Nat.reduceSub, Nat.reduceEqDiff, lim_eq, rNotIn, kin']
      · unfold papB
        rw [hall, Bool.true_and]
        cases q : (((v.zip (v.drop 1)).all fun p => ltB p.1 p.2) && decide (((0, 0) : Sta) ∈ v)) with
        | true => exact absurd q h2
        | false => rfl
  · refine fin false ?_ ?_
    · unfold g_fits_none
      rw [seq_nx (s1 _ rfl)]
      exact seq_rt (show sFor (iSeq (eVar 2)) (tName 3) b2_fits_none [some (encW W), some (tI marks), some (.tup (v.map dPr)), none, none, none, none] st = _ from run)
    · unfold papB
      rw [hno]
      simp
end Pg
set_option Elab.async false
set_option linter.all false
set_option maxRecDepth 100000
set_option maxHeartbeats 4000000
/-! The pure part, p: the law's judge of papers, at pairs of whole numbers. -/
namespace Pg
open PySem PySem.Spec PyProof.Rows L2

theorem kIn_int (s : D) (L : List Int) (x : Int) : kIn s (.int x) (.lst (L.map .int)) = some (decide (x ∈ L)) := by
  unfold kIn
  simp only [seqOf, plN_int, plN_ints, Bool.and_self, if_true, any_int]
theorem law_moved_eq {r : Rt} {T : Tb} (R : Rest r T) {p : Int} (hp : p = -1 ∨ p ∈ ledT T) {s : Nat} (hs : s ≤ 3) (st : D) : F_law_moved [encL T, .int p, .int s] st = some (.tup [tI (mw T p s).1, .int (mw T p s).2], st) := by
  by_cases h : p = -1
  · subst h
    simp [F_law_moved, g_law_moved, sSeq, sAsg, sIf, sRet, sNil, sDrop, sPar2, sPar3, sFor, sCellSet, sCellApp, sCellPut, sNever, eVar, eC, eOp, eB, eTup, eLst, aCons, aNil, eIf, eAnd, eOr, eNot, eChain, bAnd, bOr, bNot, bYes, eCB, eCall, eSl, oNone, oSome, eNeg, eIsi, eGet, eOne, eNoP, eBack, eLc, eUpd, eBoth, tName, tTup, tsCons, tsNil, bnd, ret, iSeq, iRng, iEn, iZp, iKey, defF, startD, bodyOut, wipeD, List.getElem?_cons_zero, List.getElem?_cons_succ, List.set_cons_zero, List.set_cons_succ, List.length_cons, List.length_nil, List.map_cons, List.map_nil, List.replicate_succ, List.replicate_zero, List.cons_append, List.nil_append, if_true, if_false, Bool.false_eq_true, reduceIte, Option.map_some, Option.map_none, Nat.reduceAdd, Nat.reduceSub, Nat.reduceEqDiff, rEq, kEq_int, lim_eq, mw, tI]
  · obtain ⟨e, he⟩ := R.all p (hp.resolve_left h) s hs
    have look := lookup_map leE (p, (s : Int)) T
    rw [he] at look
    have look' : (T.map fun x => (x.1, leE x.2)).lookup (p, (s : Int)) = some (.lst [.int e.to, .int e.turns, tI e.marks, tI e.left]) := look
    have a1 : mkOf T p s = e.marks := by unfold mkOf; rw [he]
    have a2 : toOf T p s = e.to := by unfold toOf; rw [he]
    unfold encL
    simp [F_law_moved, g_law_moved, sSeq, sAsg, sIf, sRet, sNil, sDrop, sPar2, sPar3, sFor, sCellSet, sCellApp, sCellPut, sNever, eVar, eC, eOp, eB, eTup, eLst, aCons, aNil, eIf, eAnd, eOr, eNot, eChain, bAnd, bOr, bNot, bYes, eCB, eCall, eSl, oNone, oSome, eNeg, eIsi, eGet, eOne, eNoP, eBack, eLc, eUpd, eBoth, tName, tTup, tsCons, tsNil, bnd, ret, iSeq, iRng, iEn, iZp, iKey, defF, startD, bodyOut, wipeD, List.getElem?_cons_zero, List.getElem?_cons_succ, List.set_cons_zero, List.set_cons_succ, List.length_cons, List.length_nil, List.map_cons, List.map_nil, List.replicate_succ, List.replicate_zero, List.cons_append, List.nil_append, if_true, if_false, Bool.false_eq_true, reduceIte, Option.map_some, Option.map_none, Nat.reduceAdd, Nat.reduceSub, Nat.reduceEqDiff, rEq, kEq_int, lim_eq, mw, h, rDGet, kinOf, dicOf, look', a1, a2]
theorem lp_row {r : Rt} {T : Tb} (R : Rest r T) {marks : List Int} (q : Sta) (x2 x5 x6 x7 x8 : Option D) (st : D) :
    b2_law_is_paper [some (encL T), some (tI marks), x2, some (.int q.1), some (.int q.2), x5, x6, x7, x8] st = if okB T marks q then some (.nx [some (encL T), some (tI marks), x2, some (.int q.1), some (.int q.2), x5, x6, x7, x8], st) else some (.rt (.bl false), st) := by
  have led := law_led_eq R.ok.one R.ok.six R.inP st
  have kin := kIn_int st (ledT T ++ [-1]) q.1
  rw [List.map_append, List.map_cons, List.map_nil] at kin
  have l1 : (ledT T).length + 1 ≤ 100000 := by
    have := R.ledOk.len
    have := R.ok.six
    omega
  have e : decide (q.1 ∈ ledT T ++ [-1]) = decide (q.1 = -1 ∨ q.1 ∈ ledT T) := by
    rw [decide_eq_decide, List.mem_append, List.mem_singleton, Or.comm]
  rw [e] at kin
  unfold okB
  by_cases h1 : q.1 = -1 ∨ q.1 ∈ ledT T
  · rw [decide_eq_true h1] at kin
    by_cases h2 : 0 ≤ q.2
    · by_cases h3 : q.2 ≤ marks.length
      · simp [b2_law_is_paper, sSeq, sAsg, sIf, sRet, sNil, sDrop, sPar2, sPar3, sFor, sCellSet, sCellApp, sCellPut, sNever, eVar, eC, eOp, eB, eTup, eLst, aCons, aNil, eIf, eAnd, eOr, eNot, eChain, bAnd, bOr, bNot, bYes, eCB, eCall, eSl, oNone, oSome, eNeg, eIsi, eGet, eOne, eNoP, eBack, eLc, eUpd, eBoth, tName, tTup, tsCons, tsNil, bnd, ret, iSeq, iRng, iEn, iZp, iKey, defF, startD, bodyOut, wipeD, List.getElem?_cons_zero, List.getElem?_cons_succ, List.set_cons_zero, List.set_cons_succ, List.length_cons, List.length_nil, List.map_cons, List.map_nil, List.replicate_succ, List.replicate_zero, List.cons_append, List.nil_append, if_true, if_false, Bool.false_eq_true, reduceIte, Option.map_some, Option.map_none, Nat.reduceAdd, Nat.reduceSub, Nat.reduceEqDiff, lim_eq, qBool, qInt, led, rAdd, l1, rNotIn, kin, rLe, tI, rLen2, h1, h2, h3]
      · simp [b2_law_is_paper, sSeq, sAsg, sIf, sRet, sNil, sDrop, sPar2, sPar3, sFor, sCellSet, sCellApp, sCellPut, sNever, eVar, eC, eOp, eB, eTup, eLst, aCons, aNil, eIf, eAnd, eOr, eNot, eChain, bAnd, bOr, bNot, bYes, eCB, eCall, eSl, oNone, oSome, eNeg, eIsi, eGet, eOne, eNoP, eBack, eLc, eUpd, eBoth, tName, tTup, tsCons, tsNil, bnd, ret, iSeq, iRng, iEn, iZp, iKey, defF, startD, bodyOut, wipeD, List.getElem?_cons_zero, List.getElem?_cons_succ, List.set_cons_zero, List.set_cons_succ, List.length_cons, List.length_nil, List.map_cons, List.map_nil, List.replicate_succ, List.replicate_zero, List.cons_append, List.nil_append, if_true, if_false, Bool.false_eq_true, reduceIte, Option.map_some, Option.map_none, Nat.reduceAdd, Nat.reduceSub, Nat.reduceEqDiff, lim_eq, qBool, qInt, led, rAdd, l1, rNotIn, kin, rLe, tI, rLen2, h1, h2, h3]
    · simp [b2_law_is_paper, sSeq, sAsg, sIf, sRet, sNil, sDrop, sPar2, sPar3, sFor, sCellSet, sCellApp, sCellPut, sNever, eVar, eC, eOp, eB, eTup, eLst, aCons, aNil, eIf, eAnd, eOr, eNot, eChain, bAnd, bOr, bNot, bYes, eCB, eCall, eSl, oNone, oSome, eNeg, eIsi, eGet, eOne, eNoP, eBack, eLc, eUpd, eBoth, tName, tTup, tsCons, tsNil, bnd, ret, iSeq, iRng, iEn, iZp, iKey, defF, startD, bodyOut, wipeD, List.getElem?_cons_zero, List.getElem?_cons_succ, List.set_cons_zero, List.set_cons_succ, List.length_cons, List.length_nil, List.map_cons, List.map_nil, List.replicate_succ, List.replicate_zero, List.cons_append, List.nil_append, if_true, if_false, Bool.false_eq_true, reduceIte, Option.map_some, Option.map_none, Nat.reduceAdd, Nat.reduceSub, Nat.reduceEqDiff, lim_eq, qBool, qInt, led, rAdd, l1, rNotIn, kin, rLe, tI, rLen2, h1, h2]
  · rw [decide_eq_false h1] at kin
    simp [b2_law_is_paper, sSeq, sAsg, sIf, sRet, sNil, sDrop, sPar2, sPar3, sFor, sCellSet, sCellApp, sCellPut, sNever, eVar, eC, eOp, eB, eTup, eLst, aCons, aNil, eIf, eAnd, eOr, eNot, eChain, bAnd, bOr, bNot, bYes, eCB, eCall, eSl, oNone, oSome, eNeg, eIsi, eGet, eOne, eNoP, eBack, eLc, eUpd, eBoth, tName, tTup, tsCons, tsNil, bnd, ret, iSeq, iRng, iEn, iZp, iKey, defF, startD, bodyOut, wipeD, List.getElem?_cons_zero, List.getElem?_cons_succ, List.set_cons_zero, List.set_cons_succ, List.length_cons, List.length_nil, List.map_cons, List.map_nil, List.replicate_succ, List.replicate_zero, List.cons_append, List.nil_append, if_true, if_false, Bool.false_eq_true, reduceIte, Option.map_some, Option.map_none, Nat.reduceAdd, Nat.reduceSub, Nat.reduceEqDiff, lim_eq, qBool, qInt, led, rAdd, l1, rNotIn, kin, h1]
theorem sortOnce_iff (v : List Sta) : v = sortOnce v ↔ v.Pairwise ltP := ⟨fun h => by rw [h]; exact sortOnce_strict v, fun h => strict_unique h (sortOnce_strict v) fun x => mem_sortOnce.symm⟩
theorem lp_next {r : Rt} {T : Tb} (R : Rest r T) {marks : List Int} {q : Sta} (hq : okS T marks q) (v : List Sta) {j : Nat} (hj : j < 3) (x6 x7 x8 : Option D) (st : D) :
    ∃ y6 y7, b3_law_is_paper [some (encL T), some (tI marks), some (.tup (v.map dPr)), some (.int q.1), some (.int q.2), some (.int j), x6, x7, x8] st = if (nx1 T marks q j).all fun x => decide (x.2 ∈ v) then some (.nx [some (encL T), some (tI marks), some (.tup (v.map dPr)), some (.int q.1), some (.int q.2), some (.int j), y6, y7, x8], st) else some (.rt (.bl false), st) := by
  obtain ⟨p, c⟩ := q
  obtain ⟨n, rfl⟩ : ∃ n : Nat, c = (n : Int) := ⟨c.toNat, by have := hq.lo; simp only at this; omega⟩
  have g := law_moved_eq R hq.inL (s := j) (by omega) st
  have tn : ((p, (n : Int)) : Sta).2.toNat = n := by simp
  unfold nx1
  rw [tn]
  simp only at g ⊢
  cases hm : mw T p (j : Int) with
  | mk mk to =>
    rw [hm] at g
    have c1 := cut_both (marks.map D.int) n (n + mk.length) (Nat.le_add_right _ _)
    rw [Nat.add_sub_cancel_left] at c1
    have k1 : ((n + mk.length : Nat) : Int) = (n : Int) + (mk.length : Int) := by omega
    rw [k1] at c1
    have ke := kEq_tI ((marks.drop n).take mk.length) mk
    unfold tI at ke
    rw [List.map_take, List.map_drop] at ke
    have kin := kIn_dPrT st v (to, (n : Int) + (mk.length : Int))
    unfold dPr at kin ⊢
    refine ⟨some (tI mk), some (.int to), ?_⟩
    unfold tI at g ⊢
    by_cases h : (marks.drop n).take mk.length = mk
    · rw [decide_eq_true h] at ke
      by_cases h2 : (to, (n : Int) + (mk.length : Int)) ∈ v
      · rw [decide_eq_true h2] at kin
        simp [b3_law_is_paper, sSeq, sAsg, sIf, sRet, sNil, sDrop, sPar2, sPar3, sFor, sCellSet, sCellApp, sCellPut, sNever, eVar, eC, eOp, eB, eTup, eLst, aCons, aNil, eIf, eAnd, eOr, eNot, eChain, bAnd, bOr, bNot, bYes, eCB, eCall, eSl, oNone, oSome, eNeg, eIsi, eGet, eOne, eNoP, eBack, eLc, eUpd, eBoth, tName, tTup, tsCons, tsNil, bnd, ret, iSeq, iRng, iEn, iZp, iKey, defF, startD, bodyOut, wipeD, List.getElem?_cons_zero, List.getElem?_cons_succ, List.set_cons_zero, List.set_cons_succ, List.length_cons, List.length_nil, List.map_cons, List.map_nil, List.replicate_succ, List.replicate_zero, List.cons_append, List.nil_append, if_true, if_false, Bool.false_eq_true, reduceIte, Option.map_some, Option.map_none, Nat.reduceAdd, Nat.reduceSub, Nat.reduceEqDiff, lim_eq, g, rLen2, rAdd, rEq, c1, ke, h, rNotIn, kin, h2]
      · rw [decide_eq_false h2] at kin
        simp [b3_law_is_paper, sSeq, sAsg, sIf, sRet, sNil, sDrop, sPar2, sPar3, sFor, sCellSet, sCellApp, sCellPut, sNever, eVar, eC, eOp, eB, eTup, eLst, aCons, aNil, eIf, eAnd, eOr, eNot, eChain, bAnd, bOr, bNot, bYes, eCB, eCall, eSl, oNone, oSome, eNeg, eIsi, eGet, eOne, eNoP, eBack, eLc, eUpd, eBoth, tName, tTup, tsCons, tsNil, bnd, ret, iSeq, iRng, iEn, iZp, iKey, defF, startD, bodyOut, wipeD, List.getElem?_cons_zero, List.getElem?_cons_succ, List.set_cons_zero, List.set_cons_succ, List.length_cons, List.length_nil, List.map_cons, List.map_nil, List.replicate_succ, List.replicate_zero, List.cons_append, List.nil_append, if_true, if_false, Bool.false_eq_true, reduceIte, Option.map_some, Option.map_none, Nat.reduceAdd, Nat.reduceSub, Nat.reduceEqDiff, lim_eq, g, rLen2, rAdd, rEq, c1, ke, h, rNotIn, kin, h2]
    · rw [decide_eq_false h] at ke
      simp [b3_law_is_paper, sSeq, sAsg, sIf, sRet, sNil, sDrop, sPar2, sPar3, sFor, sCellSet, sCellApp, sCellPut, sNever, eVar, eC, eOp, eB, eTup, eLst, aCons, aNil, eIf, eAnd, eOr, eNot, eChain, bAnd, bOr, bNot, bYes, eCB, eCall, eSl, oNone, oSome, eNeg, eIsi, eGet, eOne, eNoP, eBack, eLc, eUpd, eBoth, tName, tTup, tsCons, tsNil, bnd, ret, iSeq, iRng, iEn, iZp, iKey, defF, startD, bodyOut, wipeD, List.getElem?_cons_zero, List.getElem?_cons_succ, List.set_cons_zero, List.set_cons_succ, List.length_cons, List.length_nil, List.map_cons, List.map_nil, List.replicate_succ, List.replicate_zero, List.cons_append, List.nil_append, if_true, if_false, Bool.false_eq_true, reduceIte, Option.map_some, Option.map_none, Nat.reduceAdd, Nat.reduceSub, Nat.reduceEqDiff, lim_eq, g, rLen2, rAdd, rEq, c1, ke, h]
theorem lp_hit {r : Rt} {T : Tb} (R : Rest r T) {marks : List Int} {q : Sta} (hq : okS T marks q) (v : List Sta) (x5 x6 x7 x8 : Option D) (st : D) :
    (((!hitB T marks q) && (nxs T marks q).all fun x => decide (x.2 ∈ v)) = true ∧ ∃ y5 y6 y7, b4_law_is_paper [some (encL T), some (tI marks), some (.tup (v.map dPr)), some (.int q.1), some (.int q.2), x5, x6, x7, x8] st = some (.nx [some (encL T), some (tI marks), some (.tup (v.map dPr)), some (.int q.1), some (.int q.2), y5, y6, y7, x8], st)) ∨
    (((!hitB T marks q) && (nxs T marks q).all fun x => decide (x.2 ∈ v)) = false ∧ b4_law_is_paper [some (encL T), some (tI marks), some (.tup (v.map dPr)), some (.int q.1), some (.int q.2), x5, x6, x7, x8] st = some (.rt (.bl false), st)) := by
  have g := law_moved_eq R hq.inL (s := 3) (by omega) st
  have k3 : ((3 : Nat) : Int) = 3 := rfl
  rw [k3] at g
  have ke := kEq_tI (mw T q.1 3).1 (marks.drop q.2.toNat)
  have hh : hitB T marks q = decide ((mw T q.1 3).1 = marks.drop q.2.toNat) := rfl
  rw [← hh] at ke
  have c1 := cut_from (marks.map D.int) q.2.toNat
  have qn : ((q.2.toNat : Nat) : Int) = q.2 := by have := hq.lo; omega
  rw [qn, drop_int] at c1
  have first : eB (eOp rEq (eOp rIx (eCall 3 F_law_moved (aCons (eVar 0) (aCons (eVar 3) (aCons (eC (.int 3)) aNil)))) (eC (.int 0))) (eSl (eVar 1) (oSome (eVar 4)) oNone)) [some (encL T), some (tI marks), some (.tup (v.map dPr)), some (.int q.1), some (.int q.2), x5, x6, x7, x8] st = some (hitB T marks q, st) := by
    have tm : tI marks = .tup (marks.map .int) := rfl
    have td : D.tup ((marks.drop q.2.toNat).map .int) = tI (marks.drop q.2.toNat) := rfl
    rw [tm]
    simp only [sSeq, sAsg, sIf, sRet, sNil, sDrop, sPar2, sPar3, sFor, sCellSet, sCellApp, sCellPut, sNever, eVar, eC, eOp, eB, eTup, eLst, aCons, aNil, eIf, eAnd, eOr, eNot, eChain, bAnd, bOr, bNot, bYes, eCB, eCall, eSl, oNone, oSome, eNeg, eIsi, eGet, eOne, eNoP, eBack, eLc, eUpd, eBoth, tName, tTup, tsCons, tsNil, bnd, ret, iSeq, iRng, iEn, iZp, iKey, defF, startD, bodyOut, wipeD, List.getElem?_cons_zero, List.getElem?_cons_succ, List.set_cons_zero, List.set_cons_succ, List.length_cons, List.length_nil, List.map_cons, List.map_nil, List.replicate_succ, List.replicate_zero, List.cons_append, List.nil_append, if_true, if_false, Bool.false_eq_true, reduceIte, Option.map_some, Option.map_none, Nat.reduceAdd, Nat.reduceSub, Nat.reduceEqDiff, g, rIx, seqOf, atI0, c1, td, rEq, ke]
  unfold b4_law_is_paper
  cases h : hitB T marks q with
  | true =>
    rw [h] at first
    refine .inr ⟨by simp, seq_rt ?_⟩
    unfold sIf
    rw [first]
    rfl
  | false =>
    rw [h] at first
    have s1 : sIf (eB (eOp rEq (eOp rIx (eCall 3 F_law_moved (aCons (eVar 0) (aCons (eVar 3) (aCons (eC (.int 3)) aNil)))) (eC (.int 0))) (eSl (eVar 1) (oSome (eVar 4)) oNone))) (sRet (eC (.bl false))) sNil [some (encL T), some (tI marks), some (.tup (v.map dPr)), some (.int q.1), some (.int q.2), x5, x6, x7, x8] st = some (.nx [some (encL T), some (tI marks), some (.tup (v.map dPr)), some (.int q.1), some (.int q.2), x5, x6, x7, x8], st) := by
      unfold sIf
      rw [first]
      rfl
    have it : iSeq (eTup (aCons (eC (.int 0)) (aCons (eC (.int 1)) (aCons (eC (.int 2)) aNil)))) [some (encL T), some (tI marks), some (.tup (v.map dPr)), some (.int q.1), some (.int q.2), x5, x6, x7, x8] st = some ((List.range 3).map fun (i : Nat) => D.int i, st) := rfl
    rw [seq_nx s1, for_it it]
    have al : (nxs T marks q).all (fun x => decide (x.2 ∈ v)) = (List.range 3).all fun j => (nx1 T marks q j).all fun x => decide (x.2 ∈ v) := by
      unfold nxs
      rw [List.all_flatMap]
    rw [al, Bool.not_false, Bool.true_and]
    rcases for_test (tg := tName 5) (g := b3_law_is_paper) (s := st) (fun (i : Nat) => D.int i) (fun j => (nx1 T marks q j).all fun x => decide (x.2 ∈ v)) (fun ρ => ∃ y5 y6 y7, ρ = [some (encL T), some (tI marks), some (.tup (v.map dPr)), some (.int q.1), some (.int q.2), y5, y6, y7, x8]) (xs := List.range 3) (fun j hj ρ hρ => by
        obtain ⟨y5, y6, y7, rfl⟩ := hρ
        obtain ⟨z6, z7, e⟩ := lp_next R hq v (List.mem_range.mp hj) y6 y7 x8 st
        exact ⟨_, rfl, fun h => ⟨_, by rw [h] at e; exact e, _, _, _, rfl⟩, fun h => by rw [h] at e; exact e⟩) [some (encL T), some (tI marks), some (.tup (v.map dPr)), some (.int q.1), some (.int q.2), x5, x6, x7, x8] ⟨_, _, _, rfl⟩ with ⟨a, ρ', run, y5, y6, y7, rfl⟩ | ⟨a, run⟩
    · exact .inl ⟨a, y5, y6, y7, run⟩
    · exact .inr ⟨a, run⟩
theorem papB_split (T : Tb) (marks : List Int) (v : List Sta) : papB T marks v = (v.all (okB T marks) && (decide (v = sortOnce v) && decide (((0, 0) : Sta) ∈ v)) && v.all fun q => (!hitB T marks q) && (nxs T marks q).all fun x => decide (x.2 ∈ v)) := by
  have h1 : ((v.zip (v.drop 1)).all fun p => ltB p.1 p.2) = decide (v = sortOnce v) := by
    rw [Bool.eq_iff_iff, asc_iff, decide_eq_true_eq, sortOnce_iff]
  have h2 : (v.all fun q => (!hitB T marks q) && (nxs T marks q).all fun x => decide (x.2 ∈ v)) = ((v.all fun q => !hitB T marks q) && (v.flatMap (nxs T marks)).all fun x => decide (x.2 ∈ v)) := by
    rw [List.all_flatMap, Bool.eq_iff_iff, Bool.and_eq_true]
    simp only [List.all_eq_true, Bool.and_eq_true]
    exact ⟨fun h => ⟨fun q hq => (h q hq).1, fun q hq => (h q hq).2⟩, fun h q hq => ⟨h.1 q hq, h.2 q hq⟩⟩
  unfold papB
  rw [h1, h2]
  simp only [Bool.and_assoc]
theorem kEq_dPrs (a b : List Sta) : kEq (.lst (a.map dPr)) (.lst (b.map dPr)) = some (decide (a = b)) := by
  have e : deq (.lst (a.map dPr)) (.lst (b.map dPr)) = decide (a = b) := deq_of ⟨fun h => by
    injection h with h
    exact (List.map_inj_right fun _ _ z => dPr_inj.mp z).mp h, fun h => by rw [h]⟩
  have h1 : ∀ c : List Sta, plN 8 (.lst (c.map dPr)) = true := fun c => plN_dPrs 6 c
  unfold kEq
  simp only [h1, Bool.and_self, if_true, e]
theorem law_is_paper_eq {r : Rt} {T : Tb} (R : Rest r T) {marks : List Int} (h9 : marks.length ≤ 9) (v : List Sta) (hv : v.length ≤ 1000) (st : D) : F_law_is_paper [encL T, tI marks, .tup (v.map dPr)] st = some (.bl (papB T marks v), st) := by
  have lv : (v.map dPr).length ≤ lim := by rw [List.length_map, lim_eq]; omega
  have fin : ∀ b : Bool, g_law_is_paper [some (encL T), some (tI marks), some (.tup (v.map dPr)), none, none, none, none, none, none] st = some (.rt (.bl b), st) → papB T marks v = b → F_law_is_paper [encL T, tI marks, .tup (v.map dPr)] st = some (.bl (papB T marks v), st) := fun b h e => by
    rw [e]
    unfold F_law_is_paper defF
    simp only [List.length_cons, List.length_nil, if_true]
    show bodyOut (g_law_is_paper [some (encL T), some (tI marks), some (.tup (v.map dPr)), none, none, none, none, none, none] st) = _
    rw [h]
    rfl
  have s1 : sIf (bOr (bNot (eB (eIsi qTup (eVar 2)))) (eB (eOp rNe (eLc (iSeq (eVar 2)) (tName 8) t1_law_is_paper (eVar 8) [8]) (eLst aNil)))) (sRet (eC (.bl false))) sNil [some (encL T), some (tI marks), some (.tup (v.map dPr)), none, none, none, none, none, none] st = some (.nx [some (encL T), some (tI marks), some (.tup (v.map dPr)), none, none, none, none, none, none], st) := by
    have c := lc_encF (tg := tName 8) (tt := t1_law_is_paper) (te := eVar 8) (ρ := wipeD [some (encL T), some (tI marks), some (.tup (v.map dPr)), none, none, none, none, none, none] [8]) (s := st) dPr dPr (fun _ => false) (xs := v) fun x _ => ⟨_, rfl, by
      simp [t1_law_is_paper, sSeq, sAsg, sIf, sRet, sNil, sDrop, sPar2, sPar3, sFor, sCellSet, sCellApp, sCellPut, sNever, eVar, eC, eOp, eB, eTup, eLst, aCons, aNil, eIf, eAnd, eOr, eNot, eChain, bAnd, bOr, bNot, bYes, eCB, eCall, eSl, oNone, oSome, eNeg, eIsi, eGet, eOne, eNoP, eBack, eLc, eUpd, eBoth, tName, tTup, tsCons, tsNil, bnd, ret, iSeq, iRng, iEn, iZp, iKey, defF, startD, bodyOut, wipeD, List.getElem?_cons_zero, List.getElem?_cons_succ, List.set_cons_zero, List.set_cons_succ, List.length_cons, List.length_nil, List.map_cons, List.map_nil, List.replicate_succ, List.replicate_zero, List.cons_append, List.nil_append, if_true, if_false, Bool.false_eq_true, reduceIte, Option.map_some, Option.map_none, Nat.reduceAdd, Nat.reduceSub, Nat.reduceEqDiff, wipeD, dPr, qTup, rLen2, rNe, kEq_int], fun h => nomatch h⟩
    have it : iSeq (eVar 2) [some (encL T), some (tI marks), some (.tup (v.map dPr)), none, none, none, none, none, none] st = some (v.map dPr, st) := rfl
    have isi : eIsi qTup (eVar 2) [some (encL T), some (tI marks), some (.tup (v.map dPr)), none, none, none, none, none, none] st = some (.bl true, st) := rfl
    have lc : eLc (iSeq (eVar 2)) (tName 8) t1_law_is_paper (eVar 8) [8] [some (encL T), some (tI marks), some (.tup (v.map dPr)), none, none, none, none, none, none] st = some (.lst [], st) := by
      simp only [eLc, it, bnd_some, lv, if_true, c]
      simp
    have k := kEq_nil []
    rw [List.map_nil] at k
    simp only [sIf, bOr, bNot, eB, isi, bnd_some, Bool.not_true, Bool.false_eq_true, if_false, eOp, lc]
    simp [sSeq, sAsg, sIf, sRet, sNil, sDrop, sPar2, sPar3, sFor, sCellSet, sCellApp, sCellPut, sNever, eVar, eC, eOp, eB, eTup, eLst, aCons, aNil, eIf, eAnd, eOr, eNot, eChain, bAnd, bOr, bNot, bYes, eCB, eCall, eSl, oNone, oSome, eNeg, eIsi, eGet, eOne, eNoP, eBack, eLc, eUpd, eBoth, tName, tTup, tsCons, tsNil, bnd, ret, iSeq, iRng, iEn, iZp, iKey, defF, startD, bodyOut, wipeD, List.getElem?_cons_zero, List.getElem?_cons_succ, List.set_cons_zero, List.set_cons_succ, List.length_cons, List.length_nil, List.map_cons, List.map_nil, List.replicate_succ, List.replicate_zero, List.cons_append, List.nil_append, if_true, if_false, Bool.false_eq_true, reduceIte, Option.map_some, Option.map_none, Nat.reduceAdd, Nat.reduceSub, Nat.reduceEqDiff, lim_eq, rNe, k]
  replace fin : ∀ b : Bool, g_law_is_paper [some (encL T), some (tI marks), some (.tup (v.map dPr)), none, none, none, none, none, none] st = some (.rt (.bl b), st) → (v.all (okB T marks) && (decide (v = sortOnce v) && decide (((0, 0) : Sta) ∈ v)) && v.all fun q => (!hitB T marks q) && (nxs T marks q).all fun x => decide (x.2 ∈ v)) = b → F_law_is_paper [encL T, tI marks, .tup (v.map dPr)] st = some (.bl (papB T marks v), st) := fun b h e => fin b h ((papB_split T marks v).trans e)
  rcases for_test (tg := tTup 2 (tsCons (tName 3) (tsCons (tName 4) tsNil))) (g := b2_law_is_paper) (s := st) dPr (okB T marks) (fun ρ => ∃ y3 y4, ρ = [some (encL T), some (tI marks), some (.tup (v.map dPr)), y3, y4, none, none, none, none]) (xs := v) (fun q _ ρ hρ => by
      obtain ⟨y3, y4, rfl⟩ := hρ
      have e := lp_row R q (some (.tup (v.map dPr))) none none none none (marks := marks) st
      exact ⟨_, rfl, fun h => ⟨_, by rw [h] at e; exact e, _, _, rfl⟩, fun h => by rw [h] at e; exact e⟩) [some (encL T), some (tI marks), some (.tup (v.map dPr)), none, none, none, none, none, none] ⟨_, _, rfl⟩ with ⟨hall, ρ', run, y3, y4, rfl⟩ | ⟨hno, run⟩
  · have hok : ∀ q ∈ v, okS T marks q := fun q hq => okB_iff.mp (List.all_eq_true.mp hall q hq)
    have bx : v.all inBox = true := List.all_eq_true.mpr fun q hq => (hok q hq).box R h9
    have f1 := (for_it (fi := iSeq (eVar 2)) (tg := tTup 2 (tsCons (tName 3) (tsCons (tName 4) tsNil))) (g := b2_law_is_paper) (s := st) (s1 := st) (xs := v.map dPr) (ρ := [some (encL T), some (tI marks), some (.tup (v.map dPr)), none, none, none, none, none, none]) rfl).trans run
    have kin := kIn_dPrT st v (0, 0)
    have kin' : kIn st (.tup [.int 0, .int 0]) (.tup (v.map dPr)) = some (decide (((0, 0) : Sta) ∈ v)) := kin
    have ss : eOp rNe (eCB rList (aCons (eVar 2) aNil)) (eSS (eVar 2)) [some (encL T), some (tI marks), some (.tup (v.map dPr)), y3, y4, none, none, none, none] st = some (.bl (!decide (v = sortOnce v)), st) := by
      have pi : prI? (v.map dPr) = some v := prI?_map v
      have ke := kEq_dPrs v (sortOnce v)
      have ke' : kEq (.lst (v.map dPr)) (.lst ((sortOnce v).map dPair)) = some (decide (v = sortOnce v)) := ke
      simp [sSeq, sAsg, sIf, sRet, sNil, sDrop, sPar2, sPar3, sFor, sCellSet, sCellApp, sCellPut, sNever, eVar, eC, eOp, eB, eTup, eLst, aCons, aNil, eIf, eAnd, eOr, eNot, eChain, bAnd, bOr, bNot, bYes, eCB, eCall, eSl, oNone, oSome, eNeg, eIsi, eGet, eOne, eNoP, eBack, eLc, eUpd, eBoth, tName, tTup, tsCons, tsNil, bnd, ret, iSeq, iRng, iEn, iZp, iKey, defF, startD, bodyOut, wipeD, List.getElem?_cons_zero, List.getElem?_cons_succ, List.set_cons_zero, List.set_cons_succ, List.length_cons, List.length_nil, List.map_cons, List.map_nil, List.replicate_succ, List.replicate_zero, List.cons_append, List.nil_append, if_true, if_false, Bool.false_eq_true, reduceIte, Option.map_some, Option.map_none, Nat.reduceAdd, Nat.reduceSub, Nat.reduceEqDiff, rList, eSS, pi, bx, rNe, ke']
    have t : sIf (bOr (eB (eOp rNe (eCB rList (aCons (eVar 2) aNil)) (eSS (eVar 2)))) (eB (eOp rNotIn (eTup (aCons (eC (.int 0)) (aCons (eC (.int 0)) aNil))) (eVar 2)))) (sRet (eC (.bl false))) sNil [some (encL T), some (tI marks), some (.tup (v.map dPr)), y3, y4, none, none, none, none] st =
        if (decide (v = sortOnce v) && decide (((0, 0) : Sta) ∈ v)) = true then some (.nx [some (encL T), some (tI marks), some (.tup (v.map dPr)), y3, y4, none, none, none, none], st) else some (.rt (.bl false), st) := by
      simp only [sIf, bOr, eB, ss, bnd_some]
      by_cases a : v = sortOnce v
      · rw [decide_eq_true a]
        by_cases b : ((0, 0) : Sta) ∈ v
        · rw [decide_eq_true b] at kin' ⊢
          simp [sSeq, sAsg, sIf, sRet, sNil, sDrop, sPar2, sPar3, sFor, sCellSet, sCellApp, sCellPut, sNever, eVar, eC, eOp, eB, eTup, eLst, aCons, aNil, eIf, eAnd, eOr, eNot, eChain, bAnd, bOr, bNot, bYes, eCB, eCall, eSl, oNone, oSome, eNeg, eIsi, eGet, eOne, eNoP, eBack, eLc, eUpd, eBoth, tName, tTup, tsCons, tsNil, bnd, ret, iSeq, iRng, iEn, iZp, iKey, defF, startD, bodyOut, wipeD, List.getElem?_cons_zero, List.getElem?_cons_succ, List.set_cons_zero, List.set_cons_succ, List.length_cons, List.length_nil, List.map_cons, List.map_nil, List.replicate_succ, List.replicate_zero, List.cons_append, List.nil_append, if_true, if_false, Bool.false_eq_true, reduceIte, Option.map_some, Option.map_none, Nat.reduceAdd, Nat.reduceSub, Nat.reduceEqDiff, lim_eq, rNotIn, kin']
        · rw [decide_eq_false b] at kin' ⊢
          simp [sSeq, sAsg, sIf, sRet, sNil, sDrop, sPar2, sPar3, sFor, sCellSet, sCellApp, sCellPut, sNever, eVar, eC, eOp, eB, eTup, eLst, aCons, aNil, eIf, eAnd, eOr, eNot, eChain, bAnd, bOr, bNot, bYes, eCB, eCall, eSl, oNone, oSome, eNeg, eIsi, eGet, eOne, eNoP, eBack, eLc, eUpd, eBoth, tName, tTup, tsCons, tsNil, bnd, ret, iSeq, iRng, iEn, iZp, iKey, defF, startD, bodyOut, wipeD, List.getElem?_cons_zero, List.getElem?_cons_succ, List.set_cons_zero, List.set_cons_succ, List.length_cons, List.length_nil, List.map_cons, List.map_nil, List.replicate_succ, List.replicate_zero, List.cons_append, List.nil_append, if_true, if_false, Bool.false_eq_true, reduceIte, Option.map_some, Option.map_none, Nat.reduceAdd, Nat.reduceSub, Nat.reduceEqDiff, lim_eq, rNotIn, kin']
      · rw [decide_eq_false a]
        simp [sSeq, sAsg, sIf, sRet, sNil, sDrop, sPar2, sPar3, sFor, sCellSet, sCellApp, sCellPut, sNever, eVar, eC, eOp, eB, eTup, eLst, aCons, aNil, eIf, eAnd, eOr, eNot, eChain, bAnd, bOr, bNot, bYes, eCB, eCall, eSl, oNone, oSome, eNeg, eIsi, eGet, eOne, eNoP, eBack, eLc, eUpd, eBoth, tName, tTup, tsCons, tsNil, bnd, ret, iSeq, iRng, iEn, iZp, iKey, defF, startD, bodyOut, wipeD, List.getElem?_cons_zero, List.getElem?_cons_succ, List.set_cons_zero, List.set_cons_succ, List.length_cons, List.length_nil, List.map_cons, List.map_nil, List.replicate_succ, List.replicate_zero, List.cons_append, List.nil_append, if_true, if_false, Bool.false_eq_true, reduceIte, Option.map_some, Option.map_none, Nat.reduceAdd, Nat.reduceSub, Nat.reduceEqDiff]
    cases hz : (decide (v = sortOnce v) && decide (((0, 0) : Sta) ∈ v)) with
    | false =>
      rw [hz] at t
      refine fin false ?_ (by rw [hz]; simp)
      unfold g_law_is_paper
      rw [seq_nx s1, seq_nx f1]
      exact seq_rt t
    | true =>
      rw [hz] at t
      have run2 := for_test (tg := tTup 2 (tsCons (tName 3) (tsCons (tName 4) tsNil))) (g := b4_law_is_paper) (s := st) dPr (fun q => (!hitB T marks q) && (nxs T marks q).all fun x => decide (x.2 ∈ v)) (fun ρ => ∃ y3 y4 y5 y6 y7, ρ = [some (encL T), some (tI marks), some (.tup (v.map dPr)), y3, y4, y5, y6, y7, none]) (xs := v) (fun q hq ρ hρ => by
        obtain ⟨y3, y4, y5, y6, y7, rfl⟩ := hρ
        rcases lp_hit R (hok q hq) v y5 y6 y7 none st with ⟨a, z5, z6, z7, e⟩ | ⟨a, e⟩
        · exact ⟨_, rfl, fun _ => ⟨_, e, _, _, _, _, _, rfl⟩, fun h => by rw [a] at h; cases h⟩
        · exact ⟨_, rfl, fun h => (by rw [a] at h; cases h), fun _ => e⟩) [some (encL T), some (tI marks), some (.tup (v.map dPr)), y3, y4, none, none, none, none] ⟨_, _, _, _, _, rfl⟩
      rcases run2 with ⟨a, ρ', run2, z3, z4, z5, z6, z7, rfl⟩ | ⟨a, run2⟩
      · refine fin true ?_ (by rw [hall, hz, a]; rfl)
        have f2 := (for_it (fi := iSeq (eVar 2)) (tg := tTup 2 (tsCons (tName 3) (tsCons (tName 4) tsNil))) (g := b4_law_is_paper) (s := st) (s1 := st) (xs := v.map dPr) (ρ := [some (encL T), some (tI marks), some (.tup (v.map dPr)), y3, y4, none, none, none, none]) rfl).trans run2
        unfold g_law_is_paper
        rw [seq_nx s1, seq_nx f1, seq_nx t, seq_nx f2]
        rfl
      · refine fin false ?_ (by rw [hall, hz, a]; rfl)
        have f2 := (for_it (fi := iSeq (eVar 2)) (tg := tTup 2 (tsCons (tName 3) (tsCons (tName 4) tsNil))) (g := b4_law_is_paper) (s := st) (s1 := st) (xs := v.map dPr) (ρ := [some (encL T), some (tI marks), some (.tup (v.map dPr)), y3, y4, none, none, none, none]) rfl).trans run2
        unfold g_law_is_paper
        rw [seq_nx s1, seq_nx f1, seq_nx t]
        exact seq_rt f2
  · refine fin false ?_ (by rw [hno]; simp)
    unfold g_law_is_paper
    rw [seq_nx s1]
    exact seq_rt ((for_it (fi := iSeq (eVar 2)) (tg := tTup 2 (tsCons (tName 3) (tsCons (tName 4) tsNil))) (g := b2_law_is_paper) (s := st) (s1 := st) (xs := v.map dPr) (ρ := [some (encL T), some (tI marks), some (.tup (v.map dPr)), none, none, none, none, none, none]) rfl).trans run)
end Pg
set_option Elab.async false
set_option linter.all false
set_option maxRecDepth 100000
set_option maxHeartbeats 4000000
/-! The pure part, q: both judges, at all values that stand near a paper. -/
namespace Pg
open PySem PySem.Spec PyProof.Rows L2

/-- a row that is no tuple of two -/
def badRow (d : D) : Prop := d = .non ∨ (∃ a b c : Int, d = .tup [.int a, .int b, .int c]) ∨ ∃ a b : Int, d = .lst [.int a, .int b]
/-- a row of two that are not both whole numbers -/
def oddRow (a b : D) : Prop := (a = .bl true ∧ b = .int 0) ∨ (a = .int 0 ∧ b = .bl true) ∨ (a = .str "0" ∧ b = .int 0)
inductive Val : D → Prop
  | pairs (w : List Sta) : w.length ≤ 1000 → Val (.tup (w.map dPr))
  | lst (ds : List D) : Val (.lst ds)
  | bad (v1 v2 : List Sta) (d : D) : badRow d → v1.length + v2.length ≤ 1000 → Val (.tup (v1.map dPr ++ d :: v2.map dPr))
  | odd (v1 v2 : List Sta) (a b : D) : oddRow a b → v1.length + v2.length ≤ 1000 → Val (.tup (v1.map dPr ++ .tup [a, b] :: v2.map dPr))
def two (d : D) : Bool := match d with
  | .tup [_, _] => true
  | _ => false
theorem two_dPr (q : Sta) : two (dPr q) = true := rfl
theorem two_bad {d : D} (h : badRow d) : two d = false := by
  rcases h with rfl | ⟨a, b, c, rfl⟩ | ⟨a, b, rfl⟩ <;> rfl
theorem plN_bad {d : D} (h : badRow d) : plN 7 d = true := by
  rcases h with rfl | ⟨a, b, c, rfl⟩ | ⟨a, b, rfl⟩
  · rfl
  · rw [plN_tup]
    simp [plN_int]
  · rw [plN_lst]
    simp [plN_int]
/-- what stands in a row -/
def rowish (d : D) : Prop := (∃ a b, d = .tup [a, b]) ∨ badRow d
theorem e1_two {d : D} (h : rowish d) (x0 x1 x2 x4 x5 x6 : Option D) (s : D) : e1_fits_none [x0, x1, x2, some d, x4, x5, x6] s = some (.bl (two d), s) := by
  rcases h with ⟨a, b, rfl⟩ | rfl | ⟨a, b, c, rfl⟩ | ⟨a, b, rfl⟩
  · simp [e1_fits_none, sSeq, sAsg, sIf, sRet, sNil, sDrop, sPar2, sPar3, sFor, sCellSet, sCellApp, sCellPut, sNever, eVar, eC, eOp, eB, eTup, eLst, aCons, aNil, eIf, eAnd, eOr, eNot, eChain, bAnd, bOr, bNot, bYes, eCB, eCall, eSl, oNone, oSome, eNeg, eIsi, eGet, eOne, eNoP, eBack, eLc, eUpd, eBoth, tName, tTup, tsCons, tsNil, bnd, ret, iSeq, iRng, iEn, iZp, iKey, defF, startD, bodyOut, wipeD, List.getElem?_cons_zero, List.getElem?_cons_succ, List.set_cons_zero, List.set_cons_succ, List.length_cons, List.length_nil, List.map_cons, List.map_nil, List.replicate_succ, List.replicate_zero, List.cons_append, List.nil_append, if_true, if_false, Bool.false_eq_true, reduceIte, Option.map_some, Option.map_none, Nat.reduceAdd, Nat.reduceSub, Nat.reduceEqDiff, qTup, rLen2, rEq, kEq_int, two]
  · simp [e1_fits_none, sSeq, sAsg, sIf, sRet, sNil, sDrop, sPar2, sPar3, sFor, sCellSet, sCellApp, sCellPut, sNever, eVar, eC, eOp, eB, eTup, eLst, aCons, aNil, eIf, eAnd, eOr, eNot, eChain, bAnd, bOr, bNot, bYes, eCB, eCall, eSl, oNone, oSome, eNeg, eIsi, eGet, eOne, eNoP, eBack, eLc, eUpd, eBoth, tName, tTup, tsCons, tsNil, bnd, ret, iSeq, iRng, iEn, iZp, iKey, defF, startD, bodyOut, wipeD, List.getElem?_cons_zero, List.getElem?_cons_succ, List.set_cons_zero, List.set_cons_succ, List.length_cons, List.length_nil, List.map_cons, List.map_nil, List.replicate_succ, List.replicate_zero, List.cons_append, List.nil_append, if_true, if_false, Bool.false_eq_true, reduceIte, Option.map_some, Option.map_none, Nat.reduceAdd, Nat.reduceSub, Nat.reduceEqDiff, qTup, two]
  · simp [e1_fits_none, sSeq, sAsg, sIf, sRet, sNil, sDrop, sPar2, sPar3, sFor, sCellSet, sCellApp, sCellPut, sNever, eVar, eC, eOp, eB, eTup, eLst, aCons, aNil, eIf, eAnd, eOr, eNot, eChain, bAnd, bOr, bNot, bYes, eCB, eCall, eSl, oNone, oSome, eNeg, eIsi, eGet, eOne, eNoP, eBack, eLc, eUpd, eBoth, tName, tTup, tsCons, tsNil, bnd, ret, iSeq, iRng, iEn, iZp, iKey, defF, startD, bodyOut, wipeD, List.getElem?_cons_zero, List.getElem?_cons_succ, List.set_cons_zero, List.set_cons_succ, List.length_cons, List.length_nil, List.map_cons, List.map_nil, List.replicate_succ, List.replicate_zero, List.cons_append, List.nil_append, if_true, if_false, Bool.false_eq_true, reduceIte, Option.map_some, Option.map_none, Nat.reduceAdd, Nat.reduceSub, Nat.reduceEqDiff, qTup, rLen2, rEq, kEq_int, two]
  · simp [e1_fits_none, sSeq, sAsg, sIf, sRet, sNil, sDrop, sPar2, sPar3, sFor, sCellSet, sCellApp, sCellPut, sNever, eVar, eC, eOp, eB, eTup, eLst, aCons, aNil, eIf, eAnd, eOr, eNot, eChain, bAnd, bOr, bNot, bYes, eCB, eCall, eSl, oNone, oSome, eNeg, eIsi, eGet, eOne, eNoP, eBack, eLc, eUpd, eBoth, tName, tTup, tsCons, tsNil, bnd, ret, iSeq, iRng, iEn, iZp, iKey, defF, startD, bodyOut, wipeD, List.getElem?_cons_zero, List.getElem?_cons_succ, List.set_cons_zero, List.set_cons_succ, List.length_cons, List.length_nil, List.map_cons, List.map_nil, List.replicate_succ, List.replicate_zero, List.cons_append, List.nil_append, if_true, if_false, Bool.false_eq_true, reduceIte, Option.map_some, Option.map_none, Nat.reduceAdd, Nat.reduceSub, Nat.reduceEqDiff, qTup, two]
theorem t1_two {d : D} (h : rowish d) (x0 x1 x2 x3 x4 x5 x6 x7 : Option D) (s : D) : t1_law_is_paper [x0, x1, x2, x3, x4, x5, x6, x7, some d] s = some (!two d, s) := by
  rcases h with ⟨a, b, rfl⟩ | rfl | ⟨a, b, c, rfl⟩ | ⟨a, b, rfl⟩
  · simp [t1_law_is_paper, sSeq, sAsg, sIf, sRet, sNil, sDrop, sPar2, sPar3, sFor, sCellSet, sCellApp, sCellPut, sNever, eVar, eC, eOp, eB, eTup, eLst, aCons, aNil, eIf, eAnd, eOr, eNot, eChain, bAnd, bOr, bNot, bYes, eCB, eCall, eSl, oNone, oSome, eNeg, eIsi, eGet, eOne, eNoP, eBack, eLc, eUpd, eBoth, tName, tTup, tsCons, tsNil, bnd, ret, iSeq, iRng, iEn, iZp, iKey, defF, startD, bodyOut, wipeD, List.getElem?_cons_zero, List.getElem?_cons_succ, List.set_cons_zero, List.set_cons_succ, List.length_cons, List.length_nil, List.map_cons, List.map_nil, List.replicate_succ, List.replicate_zero, List.cons_append, List.nil_append, if_true, if_false, Bool.false_eq_true, reduceIte, Option.map_some, Option.map_none, Nat.reduceAdd, Nat.reduceSub, Nat.reduceEqDiff, qTup, rLen2, rNe, kEq_int, two]
  · simp [t1_law_is_paper, sSeq, sAsg, sIf, sRet, sNil, sDrop, sPar2, sPar3, sFor, sCellSet, sCellApp, sCellPut, sNever, eVar, eC, eOp, eB, eTup, eLst, aCons, aNil, eIf, eAnd, eOr, eNot, eChain, bAnd, bOr, bNot, bYes, eCB, eCall, eSl, oNone, oSome, eNeg, eIsi, eGet, eOne, eNoP, eBack, eLc, eUpd, eBoth, tName, tTup, tsCons, tsNil, bnd, ret, iSeq, iRng, iEn, iZp, iKey, defF, startD, bodyOut, wipeD, List.getElem?_cons_zero, List.getElem?_cons_succ, List.set_cons_zero, List.set_cons_succ, List.length_cons, List.length_nil, List.map_cons, List.map_nil, List.replicate_succ, List.replicate_zero, List.cons_append, List.nil_append, if_true, if_false, Bool.false_eq_true, reduceIte, Option.map_some, Option.map_none, Nat.reduceAdd, Nat.reduceSub, Nat.reduceEqDiff, qTup, two]
  · simp [t1_law_is_paper, sSeq, sAsg, sIf, sRet, sNil, sDrop, sPar2, sPar3, sFor, sCellSet, sCellApp, sCellPut, sNever, eVar, eC, eOp, eB, eTup, eLst, aCons, aNil, eIf, eAnd, eOr, eNot, eChain, bAnd, bOr, bNot, bYes, eCB, eCall, eSl, oNone, oSome, eNeg, eIsi, eGet, eOne, eNoP, eBack, eLc, eUpd, eBoth, tName, tTup, tsCons, tsNil, bnd, ret, iSeq, iRng, iEn, iZp, iKey, defF, startD, bodyOut, wipeD, List.getElem?_cons_zero, List.getElem?_cons_succ, List.set_cons_zero, List.set_cons_succ, List.length_cons, List.length_nil, List.map_cons, List.map_nil, List.replicate_succ, List.replicate_zero, List.cons_append, List.nil_append, if_true, if_false, Bool.false_eq_true, reduceIte, Option.map_some, Option.map_none, Nat.reduceAdd, Nat.reduceSub, Nat.reduceEqDiff, qTup, rLen2, rNe, kEq_int, two]
  · simp [t1_law_is_paper, sSeq, sAsg, sIf, sRet, sNil, sDrop, sPar2, sPar3, sFor, sCellSet, sCellApp, sCellPut, sNever, eVar, eC, eOp, eB, eTup, eLst, aCons, aNil, eIf, eAnd, eOr, eNot, eChain, bAnd, bOr, bNot, bYes, eCB, eCall, eSl, oNone, oSome, eNeg, eIsi, eGet, eOne, eNoP, eBack, eLc, eUpd, eBoth, tName, tTup, tsCons, tsNil, bnd, ret, iSeq, iRng, iEn, iZp, iKey, defF, startD, bodyOut, wipeD, List.getElem?_cons_zero, List.getElem?_cons_succ, List.set_cons_zero, List.set_cons_succ, List.length_cons, List.length_nil, List.map_cons, List.map_nil, List.replicate_succ, List.replicate_zero, List.cons_append, List.nil_append, if_true, if_false, Bool.false_eq_true, reduceIte, Option.map_some, Option.map_none, Nat.reduceAdd, Nat.reduceSub, Nat.reduceEqDiff, qTup, two]
/-- the first look of fits_none -/
theorem fn_first {W : Wt} {marks : List Int} {ds : List D} (hr : ∀ d ∈ ds, rowish d) (hl : ds.length ≤ lim) (st : D) : sIf (bOr (bNot (eB (eIsi qTup (eVar 2)))) (bNot (eB (eCB rAll (aCons (eLc (iSeq (eVar 2)) (tName 3) bYes e1_fits_none [3]) aNil))))) (sRet (eC (.bl false))) sNil [some (encW W), some (tI marks), some (.tup ds), none, none, none, none] st =
    if ds.all two then some (.nx [some (encW W), some (tI marks), some (.tup ds), none, none, none, none], st) else some (.rt (.bl false), st) := by
  have c := lc_map (tg := tName 3) (te := e1_fits_none) (ρ := wipeD [some (encW W), some (tI marks), some (.tup ds), none, none, none, none] [3]) (s := st) (fun d => D.bl (two d)) (xs := ds) fun d hd => ⟨_, rfl, e1_two (hr d hd) _ _ _ _ _ _ _⟩
  have b := bls_map two ds
  have it : iSeq (eVar 2) [some (encW W), some (tI marks), some (.tup ds), none, none, none, none] st = some (ds, st) := rfl
  have lc : eCB rAll (aCons (eLc (iSeq (eVar 2)) (tName 3) bYes e1_fits_none [3]) aNil) [some (encW W), some (tI marks), some (.tup ds), none, none, none, none] st = some (.bl (ds.all two), st) := by
    simp only [eCB, aCons, aNil, eLc, it, bnd_some, hl, if_true, c, rAll, b, Option.map_some, ret]
    rw [List.all_map]
    rfl
  have isi : eIsi qTup (eVar 2) [some (encW W), some (tI marks), some (.tup ds), none, none, none, none] st = some (.bl true, st) := rfl
  simp only [sIf, bOr, bNot, eB, isi, bnd_some, Bool.not_true, Bool.false_eq_true, if_false, lc]
  cases ds.all two <;> simp [sSeq, sAsg, sIf, sRet, sNil, sDrop, sPar2, sPar3, sFor, sCellSet, sCellApp, sCellPut, sNever, eVar, eC, eOp, eB, eTup, eLst, aCons, aNil, eIf, eAnd, eOr, eNot, eChain, bAnd, bOr, bNot, bYes, eCB, eCall, eSl, oNone, oSome, eNeg, eIsi, eGet, eOne, eNoP, eBack, eLc, eUpd, eBoth, tName, tTup, tsCons, tsNil, bnd, ret, iSeq, iRng, iEn, iZp, iKey, defF, startD, bodyOut, wipeD, List.getElem?_cons_zero, List.getElem?_cons_succ, List.set_cons_zero, List.set_cons_succ, List.length_cons, List.length_nil, List.map_cons, List.map_nil, List.replicate_succ, List.replicate_zero, List.cons_append, List.nil_append, if_true, if_false, Bool.false_eq_true, reduceIte, Option.map_some, Option.map_none, Nat.reduceAdd, Nat.reduceSub, Nat.reduceEqDiff]
/-- the first look of the law -/
theorem lp_first {T : Tb} {marks : List Int} {ds : List D} (hr : ∀ d ∈ ds, rowish d) (hl : ds.length ≤ lim) (st : D) : sIf (bOr (bNot (eB (eIsi qTup (eVar 2)))) (eB (eOp rNe (eLc (iSeq (eVar 2)) (tName 8) t1_law_is_paper (eVar 8) [8]) (eLst aNil)))) (sRet (eC (.bl false))) sNil [some (encL T), some (tI marks), some (.tup ds), none, none, none, none, none, none] st =
    if ds.all two then some (.nx [some (encL T), some (tI marks), some (.tup ds), none, none, none, none, none, none], st) else some (.rt (.bl false), st) := by
  have c := lc_filter (tg := tName 8) (tt := t1_law_is_paper) (te := eVar 8) (ρ := wipeD [some (encL T), some (tI marks), some (.tup ds), none, none, none, none, none, none] [8]) (s := st) (fun d => !two d) id (xs := ds) fun d hd => ⟨_, rfl, t1_two (hr d hd) _ _ _ _ _ _ _ _ _, fun _ => rfl⟩
  rw [List.map_id] at c
  have it : iSeq (eVar 2) [some (encL T), some (tI marks), some (.tup ds), none, none, none, none, none, none] st = some (ds, st) := rfl
  have isi : eIsi qTup (eVar 2) [some (encL T), some (tI marks), some (.tup ds), none, none, none, none, none, none] st = some (.bl true, st) := rfl
  have lc : eLc (iSeq (eVar 2)) (tName 8) t1_law_is_paper (eVar 8) [8] [some (encL T), some (tI marks), some (.tup ds), none, none, none, none, none, none] st = some (.lst (ds.filter fun d => !two d), st) := by
    simp only [eLc, it, bnd_some, hl, if_true, c]
  have k : kEq (.lst (ds.filter fun d => !two d)) (.lst []) = some (ds.all two) := by
    have e : deq (.lst (ds.filter fun d => !two d)) (.lst []) = ds.all two := by
      rw [Bool.eq_iff_iff, deq_iff]
      constructor
      · intro h
        injection h with h
        rw [List.filter_eq_nil_iff] at h
        rw [List.all_eq_true]
        intro d hd
        have := h d hd
        simpa using this
      · intro h
        rw [List.all_eq_true] at h
        congr 1
        rw [List.filter_eq_nil_iff]
        intro d hd
        rw [h d hd]
        simp
    have h1 : plN 8 (.lst (ds.filter fun d => !two d)) = true := by
      rw [plN_lst, List.all_eq_true]
      intro d hd
      obtain ⟨hd, h2⟩ := List.mem_filter.mp hd
      rcases hr d hd with ⟨a, b, rfl⟩ | hb
      · cases h2
      · exact plN_bad hb
    have h2 : plN 8 (.lst []) = true := rfl
    unfold kEq
    simp only [h1, h2, Bool.and_self, if_true, e]
  simp only [sIf, bOr, bNot, eB, isi, bnd_some, Bool.not_true, Bool.false_eq_true, if_false, eOp, lc]
  cases h : ds.all two with
  | true =>
    rw [h] at k
    simp [sSeq, sAsg, sIf, sRet, sNil, sDrop, sPar2, sPar3, sFor, sCellSet, sCellApp, sCellPut, sNever, eVar, eC, eOp, eB, eTup, eLst, aCons, aNil, eIf, eAnd, eOr, eNot, eChain, bAnd, bOr, bNot, bYes, eCB, eCall, eSl, oNone, oSome, eNeg, eIsi, eGet, eOne, eNoP, eBack, eLc, eUpd, eBoth, tName, tTup, tsCons, tsNil, bnd, ret, iSeq, iRng, iEn, iZp, iKey, defF, startD, bodyOut, wipeD, List.getElem?_cons_zero, List.getElem?_cons_succ, List.set_cons_zero, List.set_cons_succ, List.length_cons, List.length_nil, List.map_cons, List.map_nil, List.replicate_succ, List.replicate_zero, List.cons_append, List.nil_append, if_true, if_false, Bool.false_eq_true, reduceIte, Option.map_some, Option.map_none, Nat.reduceAdd, Nat.reduceSub, Nat.reduceEqDiff, lim_eq, rNe, k]
  | false =>
    rw [h] at k
    simp [sSeq, sAsg, sIf, sRet, sNil, sDrop, sPar2, sPar3, sFor, sCellSet, sCellApp, sCellPut, sNever, eVar, eC, eOp, eB, eTup, eLst, aCons, aNil, eIf, eAnd, eOr, eNot, eChain, bAnd, bOr, bNot, bYes, eCB, eCall, eSl, oNone, oSome, eNeg, eIsi, eGet, eOne, eNoP, eBack, eLc, eUpd, eBoth, tName, tTup, tsCons, tsNil, bnd, ret, iSeq, iRng, iEn, iZp, iKey, defF, startD, bodyOut, wipeD, List.getElem?_cons_zero, List.getElem?_cons_succ, List.set_cons_zero, List.set_cons_succ, List.length_cons, List.length_nil, List.map_cons, List.map_nil, List.replicate_succ, List.replicate_zero, List.cons_append, List.nil_append, if_true, if_false, Bool.false_eq_true, reduceIte, Option.map_some, Option.map_none, Nat.reduceAdd, Nat.reduceSub, Nat.reduceEqDiff, lim_eq, rNe, k]
abbrev Rw := Sta ⊕ (D × D)
def enRw : Rw → D
  | .inl q => dPr q
  | .inr x => .tup [x.1, x.2]
def rwB (T : Tb) (marks : List Int) : Rw → Bool
  | .inl q => okB T marks q
  | .inr _ => false
theorem fn_odd {W : Wt} {T : Tb} (hW : IsW T W) {marks : List Int} {a b : D} (h : oddRow a b) (x2 x4 x5 x6 : Option D) (st : D) : b2_fits_none [some (encW W), some (tI marks), x2, some (.tup [a, b]), x4, x5, x6] st = some (.rt (.bl false), st) := by
  have i1 : L2.atI [a, b] 1 = some b := atI_nat _ 1
  have fw := hW.few
  rcases h with ⟨rfl, rfl⟩ | ⟨rfl, rfl⟩ | ⟨rfl, rfl⟩
  · have n1 := is_whole_eq (v := .bl true) (-1) (W.length : Int) st rfl
    simp [b2_fits_none, sSeq, sAsg, sIf, sRet, sNil, sDrop, sPar2, sPar3, sFor, sCellSet, sCellApp, sCellPut, sNever, eVar, eC, eOp, eB, eTup, eLst, aCons, aNil, eIf, eAnd, eOr, eNot, eChain, bAnd, bOr, bNot, bYes, eCB, eCall, eSl, oNone, oSome, eNeg, eIsi, eGet, eOne, eNoP, eBack, eLc, eUpd, eBoth, tName, tTup, tsCons, tsNil, bnd, ret, iSeq, iRng, iEn, iZp, iKey, defF, startD, bodyOut, wipeD, List.getElem?_cons_zero, List.getElem?_cons_succ, List.set_cons_zero, List.set_cons_succ, List.length_cons, List.length_nil, List.map_cons, List.map_nil, List.replicate_succ, List.replicate_zero, List.cons_append, List.nil_append, if_true, if_false, Bool.false_eq_true, reduceIte, Option.map_some, Option.map_none, Nat.reduceAdd, Nat.reduceSub, Nat.reduceEqDiff, lim_eq, rIx, seqOf, atI0, i1, rLen2, encW, n1, wholeB]
  · have n1 := is_whole_eq (v := .int 0) (-1) (W.length : Int) st rfl
    have n2 := is_whole_eq (v := .bl true) 0 (marks.length : Int) st rfl
    have w1 : wholeB (.int 0) (-1) (W.length : Int) = true := by
      simp only [wholeB, Bool.and_eq_true, decide_eq_true_eq]
      omega
    rw [w1] at n1
    simp [b2_fits_none, sSeq, sAsg, sIf, sRet, sNil, sDrop, sPar2, sPar3, sFor, sCellSet, sCellApp, sCellPut, sNever, eVar, eC, eOp, eB, eTup, eLst, aCons, aNil, eIf, eAnd, eOr, eNot, eChain, bAnd, bOr, bNot, bYes, eCB, eCall, eSl, oNone, oSome, eNeg, eIsi, eGet, eOne, eNoP, eBack, eLc, eUpd, eBoth, tName, tTup, tsCons, tsNil, bnd, ret, iSeq, iRng, iEn, iZp, iKey, defF, startD, bodyOut, wipeD, List.getElem?_cons_zero, List.getElem?_cons_succ, List.set_cons_zero, List.set_cons_succ, List.length_cons, List.length_nil, List.map_cons, List.map_nil, List.replicate_succ, List.replicate_zero, List.cons_append, List.nil_append, if_true, if_false, Bool.false_eq_true, reduceIte, Option.map_some, Option.map_none, Nat.reduceAdd, Nat.reduceSub, Nat.reduceEqDiff, lim_eq, rIx, seqOf, atI0, i1, rLen2, encW, tI, n1, n2, wholeB]
  · have n1 := is_whole_eq (v := .str "0") (-1) (W.length : Int) st rfl
    simp [b2_fits_none, sSeq, sAsg, sIf, sRet, sNil, sDrop, sPar2, sPar3, sFor, sCellSet, sCellApp, sCellPut, sNever, eVar, eC, eOp, eB, eTup, eLst, aCons, aNil, eIf, eAnd, eOr, eNot, eChain, bAnd, bOr, bNot, bYes, eCB, eCall, eSl, oNone, oSome, eNeg, eIsi, eGet, eOne, eNoP, eBack, eLc, eUpd, eBoth, tName, tTup, tsCons, tsNil, bnd, ret, iSeq, iRng, iEn, iZp, iKey, defF, startD, bodyOut, wipeD, List.getElem?_cons_zero, List.getElem?_cons_succ, List.set_cons_zero, List.set_cons_succ, List.length_cons, List.length_nil, List.map_cons, List.map_nil, List.replicate_succ, List.replicate_zero, List.cons_append, List.nil_append, if_true, if_false, Bool.false_eq_true, reduceIte, Option.map_some, Option.map_none, Nat.reduceAdd, Nat.reduceSub, Nat.reduceEqDiff, lim_eq, rIx, seqOf, atI0, i1, rLen2, encW, n1, wholeB]
theorem lp_odd {T : Tb} {marks : List Int} {a b : D} (h : oddRow a b) (x2 x5 x6 x7 x8 : Option D) (st : D) : b2_law_is_paper [some (encL T), some (tI marks), x2, some a, some b, x5, x6, x7, x8] st = some (.rt (.bl false), st) := by
  rcases h with ⟨rfl, rfl⟩ | ⟨rfl, rfl⟩ | ⟨rfl, rfl⟩
  · simp [b2_law_is_paper, sSeq, sAsg, sIf, sRet, sNil, sDrop, sPar2, sPar3, sFor, sCellSet, sCellApp, sCellPut, sNever, eVar, eC, eOp, eB, eTup, eLst, aCons, aNil, eIf, eAnd, eOr, eNot, eChain, bAnd, bOr, bNot, bYes, eCB, eCall, eSl, oNone, oSome, eNeg, eIsi, eGet, eOne, eNoP, eBack, eLc, eUpd, eBoth, tName, tTup, tsCons, tsNil, bnd, ret, iSeq, iRng, iEn, iZp, iKey, defF, startD, bodyOut, wipeD, List.getElem?_cons_zero, List.getElem?_cons_succ, List.set_cons_zero, List.set_cons_succ, List.length_cons, List.length_nil, List.map_cons, List.map_nil, List.replicate_succ, List.replicate_zero, List.cons_append, List.nil_append, if_true, if_false, Bool.false_eq_true, reduceIte, Option.map_some, Option.map_none, Nat.reduceAdd, Nat.reduceSub, Nat.reduceEqDiff, qBool, qInt]
  · simp [b2_law_is_paper, sSeq, sAsg, sIf, sRet, sNil, sDrop, sPar2, sPar3, sFor, sCellSet, sCellApp, sCellPut, sNever, eVar, eC, eOp, eB, eTup, eLst, aCons, aNil, eIf, eAnd, eOr, eNot, eChain, bAnd, bOr, bNot, bYes, eCB, eCall, eSl, oNone, oSome, eNeg, eIsi, eGet, eOne, eNoP, eBack, eLc, eUpd, eBoth, tName, tTup, tsCons, tsNil, bnd, ret, iSeq, iRng, iEn, iZp, iKey, defF, startD, bodyOut, wipeD, List.getElem?_cons_zero, List.getElem?_cons_succ, List.set_cons_zero, List.set_cons_succ, List.length_cons, List.length_nil, List.map_cons, List.map_nil, List.replicate_succ, List.replicate_zero, List.cons_append, List.nil_append, if_true, if_false, Bool.false_eq_true, reduceIte, Option.map_some, Option.map_none, Nat.reduceAdd, Nat.reduceSub, Nat.reduceEqDiff, qBool, qInt]
  · simp [b2_law_is_paper, sSeq, sAsg, sIf, sRet, sNil, sDrop, sPar2, sPar3, sFor, sCellSet, sCellApp, sCellPut, sNever, eVar, eC, eOp, eB, eTup, eLst, aCons, aNil, eIf, eAnd, eOr, eNot, eChain, bAnd, bOr, bNot, bYes, eCB, eCall, eSl, oNone, oSome, eNeg, eIsi, eGet, eOne, eNoP, eBack, eLc, eUpd, eBoth, tName, tTup, tsCons, tsNil, bnd, ret, iSeq, iRng, iEn, iZp, iKey, defF, startD, bodyOut, wipeD, List.getElem?_cons_zero, List.getElem?_cons_succ, List.set_cons_zero, List.set_cons_succ, List.length_cons, List.length_nil, List.map_cons, List.map_nil, List.replicate_succ, List.replicate_zero, List.cons_append, List.nil_append, if_true, if_false, Bool.false_eq_true, reduceIte, Option.map_some, Option.map_none, Nat.reduceAdd, Nat.reduceSub, Nat.reduceEqDiff, qBool, qInt]
theorem fn_out {W : Wt} {marks : List Int} {x : D} {b : Bool} {st : D} (h : g_fits_none [some (encW W), some (tI marks), some x, none, none, none, none] st = some (.rt (.bl b), st)) : F_fits_none [encW W, tI marks, x] st = some (.bl b, st) := by
  unfold F_fits_none defF
  simp only [List.length_cons, List.length_nil, if_true]
  show bodyOut (g_fits_none [some (encW W), some (tI marks), some x, none, none, none, none] st) = _
  rw [h]
  rfl
theorem lp_out {T : Tb} {marks : List Int} {x : D} {b : Bool} {st : D} (h : g_law_is_paper [some (encL T), some (tI marks), some x, none, none, none, none, none, none] st = some (.rt (.bl b), st)) : F_law_is_paper [encL T, tI marks, x] st = some (.bl b, st) := by
  unfold F_law_is_paper defF
  simp only [List.length_cons, List.length_nil, if_true]
  show bodyOut (g_law_is_paper [some (encL T), some (tI marks), some x, none, none, none, none, none, none] st) = _
  rw [h]
  rfl
theorem both_rows {r : Rt} {T : Tb} (R : Rest r T) {W : Wt} (hW : IsW T W) {marks : List Int} (xs : List Rw) (hl : xs.length ≤ 2000) (ho : ∀ a b, .inr (a, b) ∈ xs → oddRow a b) (he : ∃ x, (.inr x : Rw) ∈ xs) (st : D) :
    F_fits_none [encW W, tI marks, .tup (xs.map enRw)] st = some (.bl false, st) ∧ F_law_is_paper [encL T, tI marks, .tup (xs.map enRw)] st = some (.bl false, st) := by
  have hr : ∀ d ∈ xs.map enRw, rowish d := fun d hd => by
    obtain ⟨x, _, rfl⟩ := List.mem_map.mp hd
    cases x with
    | inl q => exact .inl ⟨_, _, rfl⟩
    | inr x => exact .inl ⟨_, _, rfl⟩
  have ll : (xs.map enRw).length ≤ lim := by rw [List.length_map, lim_eq]; omega
  have at' : (xs.map enRw).all two = true := List.all_eq_true.mpr fun d hd => by
    obtain ⟨x, _, rfl⟩ := List.mem_map.mp hd
    cases x <;> rfl
  have no : xs.all (rwB T marks) = false := by
    obtain ⟨x, hx⟩ := he
    rw [List.all_eq_false]
    exact ⟨_, hx, by simp [rwB]⟩
  constructor
  · have f := fn_first (W := W) (marks := marks) hr ll st
    rw [at'] at f
    refine fn_out ?_
    unfold g_fits_none
    rw [seq_nx f]
    rcases for_test (tg := tName 3) (g := b2_fits_none) (s := st) enRw (rwB T marks) (fun ρ => ∃ y3, ρ = [some (encW W), some (tI marks), some (.tup (xs.map enRw)), y3, none, none, none]) (xs := xs) (fun x hx ρ hρ => by
      obtain ⟨y3, rfl⟩ := hρ
      cases x with
      | inl q =>
        have e := fn_row R hW q (some (.tup (xs.map enRw))) none none none (marks := marks) st
        exact ⟨_, rfl, fun h => ⟨_, by rw [show okB T marks q = true from h] at e; exact e, _, rfl⟩, fun h => by rw [show okB T marks q = false from h] at e; exact e⟩
      | inr x => exact ⟨_, rfl, (fun h => nomatch h), fun _ => fn_odd hW (ho x.1 x.2 hx) _ _ _ _ st⟩) [some (encW W), some (tI marks), some (.tup (xs.map enRw)), none, none, none, none] ⟨_, rfl⟩ with ⟨a, _⟩ | ⟨_, run⟩
    · rw [no] at a
      cases a
    · exact seq_rt ((for_it (fi := iSeq (eVar 2)) (tg := tName 3) (g := b2_fits_none) (s := st) (s1 := st) (xs := xs.map enRw) (ρ := [some (encW W), some (tI marks), some (.tup (xs.map enRw)), none, none, none, none]) rfl).trans run)
  · have f := lp_first (T := T) (marks := marks) hr ll st
    rw [at'] at f
    refine lp_out ?_
    unfold g_law_is_paper
    rw [seq_nx f]
    rcases for_test (tg := tTup 2 (tsCons (tName 3) (tsCons (tName 4) tsNil))) (g := b2_law_is_paper) (s := st) enRw (rwB T marks) (fun ρ => ∃ y3 y4, ρ = [some (encL T), some (tI marks), some (.tup (xs.map enRw)), y3, y4, none, none, none, none]) (xs := xs) (fun x hx ρ hρ => by
      obtain ⟨y3, y4, rfl⟩ := hρ
      cases x with
      | inl q =>
        have e := lp_row R q (some (.tup (xs.map enRw))) none none none none (marks := marks) st
        exact ⟨_, rfl, fun h => ⟨_, by rw [show okB T marks q = true from h] at e; exact e, _, _, rfl⟩, fun h => by rw [show okB T marks q = false from h] at e; exact e⟩
      | inr x => exact ⟨_, rfl, (fun h => nomatch h), fun _ => lp_odd (ho x.1 x.2 hx) _ _ _ _ _ st⟩) [some (encL T), some (tI marks), some (.tup (xs.map enRw)), none, none, none, none, none, none] ⟨_, _, rfl⟩ with ⟨a, _⟩ | ⟨_, run⟩
    · rw [no] at a
      cases a
    · exact seq_rt ((for_it (fi := iSeq (eVar 2)) (tg := tTup 2 (tsCons (tName 3) (tsCons (tName 4) tsNil))) (g := b2_law_is_paper) (s := st) (s1 := st) (xs := xs.map enRw) (ρ := [some (encL T), some (tI marks), some (.tup (xs.map enRw)), none, none, none, none, none, none]) rfl).trans run)
theorem both_val {r : Rt} {T : Tb} (R : Rest r T) {W : Wt} (hW : IsW T W) {marks : List Int} (h9 : marks.length ≤ 9) {x : D} (hx : Val x) (st : D) :
    ∃ b, F_fits_none [encW W, tI marks, x] st = some (.bl b, st) ∧ F_law_is_paper [encL T, tI marks, x] st = some (.bl b, st) := by
  cases hx with
  | pairs w hw => exact ⟨papB T marks w, fits_none_eq R hW w hw st, law_is_paper_eq R h9 w hw st⟩
  | lst ds =>
    refine ⟨false, fn_out ?_, lp_out ?_⟩
    · unfold g_fits_none
      refine seq_rt ?_
      simp [sIf, bOr, bNot, eB, eIsi, eVar, qTup, bnd, sRet, eC]
    · unfold g_law_is_paper
      refine seq_rt ?_
      simp [sIf, bOr, bNot, eB, eIsi, eVar, qTup, bnd, sRet, eC]
  | bad v1 v2 d hd hl =>
    have hr : ∀ y ∈ v1.map dPr ++ d :: v2.map dPr, rowish y := fun y hy => by
      rcases List.mem_append.mp hy with h | h
      · obtain ⟨q, _, rfl⟩ := List.mem_map.mp h
        exact .inl ⟨_, _, rfl⟩
      · rcases List.mem_cons.mp h with rfl | h
        · exact .inr hd
        · obtain ⟨q, _, rfl⟩ := List.mem_map.mp h
          exact .inl ⟨_, _, rfl⟩
    have ll : (v1.map dPr ++ d :: v2.map dPr).length ≤ lim := by
      rw [List.length_append, List.length_cons, List.length_map, List.length_map, lim_eq]
      omega
    have no : (v1.map dPr ++ d :: v2.map dPr).all two = false := by
      rw [List.all_eq_false]
      exact ⟨d, List.mem_append_right _ List.mem_cons_self, by rw [two_bad hd]; simp⟩
    have f1 := fn_first (W := W) (marks := marks) hr ll st
    have f2 := lp_first (T := T) (marks := marks) hr ll st
    rw [no] at f1 f2
    exact ⟨false, fn_out (seq_rt f1), lp_out (seq_rt f2)⟩
  | odd v1 v2 a b ho hl =>
    have e : v1.map dPr ++ .tup [a, b] :: v2.map dPr = (v1.map Sum.inl ++ .inr (a, b) :: v2.map Sum.inl : List Rw).map enRw := by
      rw [List.map_append, List.map_cons, List.map_map, List.map_map]
      rfl
    rw [e]
    obtain ⟨h1, h2⟩ := both_rows R hW (marks := marks) (v1.map Sum.inl ++ .inr (a, b) :: v2.map Sum.inl) (by rw [List.length_append, List.length_cons, List.length_map, List.length_map]; omega) (fun a' b' hm => by
      rcases List.mem_append.mp hm with h | h
      · obtain ⟨q, _, z⟩ := List.mem_map.mp h
        cases z
      · rcases List.mem_cons.mp h with z | h
        · cases z
          exact ho
        · obtain ⟨q, _, z⟩ := List.mem_map.mp h
          cases z) ⟨(a, b), List.mem_append_right _ List.mem_cons_self⟩ st
    exact ⟨false, h1, h2⟩
theorem is_none_eq {r : Rt} {T : Tb} (R : Rest r T) {marks : List Int} (hm : sortsOk marks) (h9 : marks.length ≤ 9) {x : D} (hx : Val x) (st : D) :
    ∃ b, F_is_none_paper [enR r, tI marks, x] st = some (.bl b, st) ∧ F_law_is_paper [encL T, tI marks, x] st = some (.bl b, st) := by
  obtain ⟨W, hW, w⟩ := walk_table_eq R st
  obtain ⟨b, h1, h2⟩ := both_val R hW h9 hx st
  have n1 := need_routine_eq st R.ok
  have n2 := need_marks_eq st hm h9
  have n3 := need_rest_eq R st
  exact ⟨b, by simp [F_is_none_paper, g_is_none_paper, sSeq, sAsg, sIf, sRet, sNil, sDrop, sPar2, sPar3, sFor, sCellSet, sCellApp, sCellPut, sNever, eVar, eC, eOp, eB, eTup, eLst, aCons, aNil, eIf, eAnd, eOr, eNot, eChain, bAnd, bOr, bNot, bYes, eCB, eCall, eSl, oNone, oSome, eNeg, eIsi, eGet, eOne, eNoP, eBack, eLc, eUpd, eBoth, tName, tTup, tsCons, tsNil, bnd, ret, iSeq, iRng, iEn, iZp, iKey, defF, startD, bodyOut, wipeD, List.getElem?_cons_zero, List.getElem?_cons_succ, List.set_cons_zero, List.set_cons_succ, List.length_cons, List.length_nil, List.map_cons, List.map_nil, List.replicate_succ, List.replicate_zero, List.cons_append, List.nil_append, if_true, if_false, Bool.false_eq_true, reduceIte, Option.map_some, Option.map_none, Nat.reduceAdd, Nat.reduceSub, Nat.reduceEqDiff, n1, n2, n3, w, h1], h2⟩
theorem is_none_pairs {r : Rt} {T : Tb} (R : Rest r T) {marks : List Int} (hm : sortsOk marks) (h9 : marks.length ≤ 9) (v : List Sta) (hv : v.length ≤ 1000) (st : D) :
    F_is_none_paper [enR r, tI marks, .tup (v.map dPr)] st = some (.bl (papB T marks v), st) := by
  obtain ⟨W, hW, w⟩ := walk_table_eq R st
  have h1 := fits_none_eq R hW (marks := marks) v hv st
  have n1 := need_routine_eq st R.ok
  have n2 := need_marks_eq st hm h9
  have n3 := need_rest_eq R st
  simp [F_is_none_paper, g_is_none_paper, sSeq, sAsg, sIf, sRet, sNil, sDrop, sPar2, sPar3, sFor, sCellSet, sCellApp, sCellPut, sNever, eVar, eC, eOp, eB, eTup, eLst, aCons, aNil, eIf, eAnd, eOr, eNot, eChain, bAnd, bOr, bNot, bYes, eCB, eCall, eSl, oNone, oSome, eNeg, eIsi, eGet, eOne, eNoP, eBack, eLc, eUpd, eBoth, tName, tTup, tsCons, tsNil, bnd, ret, iSeq, iRng, iEn, iZp, iKey, defF, startD, bodyOut, wipeD, List.getElem?_cons_zero, List.getElem?_cons_succ, List.set_cons_zero, List.set_cons_succ, List.length_cons, List.length_nil, List.map_cons, List.map_nil, List.replicate_succ, List.replicate_zero, List.cons_append, List.nil_append, if_true, if_false, Bool.false_eq_true, reduceIte, Option.map_some, Option.map_none, Nat.reduceAdd, Nat.reduceSub, Nat.reduceEqDiff, n1, n2, n3, w, h1]
end Pg
set_option Elab.async false
set_option linter.all false
set_option maxRecDepth 100000
set_option maxHeartbeats 4000000
/-! The pure part, r: what is told of a run. -/
namespace Pg
open PySem PySem.Spec PyProof.Rows L2

def enTd : Wk ⊕ (Int × Int × List Int) → D
  | .inl (.done e) => .tup [.str "rest", tI e.marks, tI e.left, .int e.turns]
  | _ => .tup [.str "never"]
theorem loopT {T : Tb} (hT : smE T) {v : List Int} (hb : v.length ≤ 1000) {st : D} : ∀ (ns : List Int) (k : Nat) (here turns : Int) (marks : List Int) (x5 x6 x7 x8 x9 : Option D), marks.length ≤ 1001 →
    ∃ ρ', forGo (tTup 2 (tsCons (tName 5) (tsCons (tName 6) tsNil))) b1_law_told (((ns.map D.int).zipIdx k).map fun p => D.tup [.int p.2, p.1])
      [some (encL T), some (tI v), some (.int here), some (.int turns), some (tI marks), x5, x6, x7, x8, x9] st =
    some (match goW T v ns k here turns marks with
      | .inl w => .rt (enTd (.inl w))
      | .inr _ => .nx ρ', st)
  | [], k, here, turns, marks, x5, x6, x7, x8, x9, _ => ⟨_, rfl⟩
  | n :: ns, k, here, turns, marks, x5, x6, x7, x8, x9, hm => by
    have look := lookup_map leE (here, n) T
    cases h : T.lookup (here, n) with
    | none =>
      rw [h] at look
      refine ⟨[], ?_⟩
      have step : b1_law_told [some (encL T), some (tI v), some (.int here), some (.int turns), some (tI marks), some (.int k), some (.int n), x7, x8, x9] st = some (.rt (.tup [.str "never"]), st) := by
        simp [b1_law_told, sSeq, sAsg, sIf, sRet, sNil, sDrop, sPar2, sPar3, sFor, sCellSet, sCellApp, sCellPut, sNever, eVar, eC, eOp, eB, eTup, eLst, aCons, aNil, eIf, eAnd, eOr, eNot, eChain, bAnd, bOr, bNot, bYes, eCB, eCall, eSl, oNone, oSome, eNeg, eIsi, eGet, eOne, eNoP, eBack, eLc, eUpd, eBoth, tName, tTup, tsCons, tsNil, bnd, ret, iSeq, iRng, iEn, iZp, iKey, defF, startD, bodyOut, wipeD, List.getElem?_cons_zero, List.getElem?_cons_succ, List.set_cons_zero, List.set_cons_succ, List.length_cons, List.length_nil, List.map_cons, List.map_nil, List.replicate_succ, List.replicate_zero, List.cons_append, List.nil_append, if_true, if_false, Bool.false_eq_true, reduceIte, Option.map_some, Option.map_none, Nat.reduceAdd, Nat.reduceSub, Nat.reduceEqDiff, rDNotIn, kinOf, dicOf, encL, look, lim_eq]
      rw [List.map_cons, List.zipIdx_cons, List.map_cons]
      unfold forGo
      show bnd (b1_law_told [some (encL T), some (tI v), some (.int here), some (.int turns), some (tI marks), some (.int k), some (.int n), x7, x8, x9] st) _ = _
      rw [step]
      rw [goW_cons, h]
      rfl
    | some e =>
      rw [h] at look
      have look' : (T.map fun x => (x.1, leE x.2)).lookup (here, n) = some (leE e) := look
      have hpe : leE e = .lst [.int e.to, .int e.turns, tI e.marks, tI e.left] := rfl
      obtain ⟨s1, s2⟩ := hT _ _ h
      have l1 : marks.length + e.marks.length ≤ 100000 := by omega
      have c1 := cut_to ((marks ++ e.marks).map D.int) 1001
      rw [take_int] at c1
      simp only [List.map_append] at c1
      have k2 : ((1001 : Nat) : Int) = 1001 := rfl
      rw [k2] at c1
      by_cases ht : e.to = -1
      · refine ⟨[], ?_⟩
        have step : b1_law_told [some (encL T), some (tI v), some (.int here), some (.int turns), some (tI marks), some (.int k), some (.int n), x7, x8, x9] st =
            some (.rt (.tup [.str "rest", tI ((marks ++ e.marks).take 1001), tI (e.left ++ v.drop (k + 1)), .int (turns + e.turns)]), st) := by
          have l2 : e.left.length + (v.drop (k + 1)).length ≤ 100000 := by rw [List.length_drop]; omega
          have c2 := cut_from (v.map D.int) (k + 1)
          rw [drop_int] at c2
          have k1 : ((k + 1 : Nat) : Int) = (k : Int) + 1 := by omega
          rw [k1] at c2
          simp [b1_law_told, sSeq, sAsg, sIf, sRet, sNil, sDrop, sPar2, sPar3, sFor, sCellSet, sCellApp, sCellPut, sNever, eVar, eC, eOp, eB, eTup, eLst, aCons, aNil, eIf, eAnd, eOr, eNot, eChain, bAnd, bOr, bNot, bYes, eCB, eCall, eSl, oNone, oSome, eNeg, eIsi, eGet, eOne, eNoP, eBack, eLc, eUpd, eBoth, tName, tTup, tsCons, tsNil, bnd, ret, iSeq, iRng, iEn, iZp, iKey, defF, startD, bodyOut, wipeD, List.getElem?_cons_zero, List.getElem?_cons_succ, List.set_cons_zero, List.set_cons_succ, List.length_cons, List.length_nil, List.map_cons, List.map_nil, List.replicate_succ, List.replicate_zero, List.cons_append, List.nil_append, if_true, if_false, Bool.false_eq_true, reduceIte, Option.map_some, Option.map_none, Nat.reduceAdd, Nat.reduceSub, Nat.reduceEqDiff, rDNotIn, rDGet, kinOf, dicOf, encL, look', hpe, lim_eq, rEq, kEq_int, ht, rAdd, tI, l1, c1, c2]
          rw [if_pos (by rw [List.length_drop] at l2; exact l2)]
          simp
        rw [List.map_cons, List.zipIdx_cons, List.map_cons]
        unfold forGo
        show bnd (b1_law_told [some (encL T), some (tI v), some (.int here), some (.int turns), some (tI marks), some (.int k), some (.int n), x7, x8, x9] st) _ = _
        rw [step]
        rw [goW_cons, h]
        simp only [ht, if_true]
        rfl
      · have step : b1_law_told [some (encL T), some (tI v), some (.int here), some (.int turns), some (tI marks), some (.int k), some (.int n), x7, x8, x9] st =
            some (.nx [some (encL T), some (tI v), some (.int e.to), some (.int (turns + e.turns)), some (tI ((marks ++ e.marks).take 1001)), some (.int k), some (.int n), some (.int e.turns), some (tI e.marks), some (tI e.left)], st) := by
          simp [b1_law_told, sSeq, sAsg, sIf, sRet, sNil, sDrop, sPar2, sPar3, sFor, sCellSet, sCellApp, sCellPut, sNever, eVar, eC, eOp, eB, eTup, eLst, aCons, aNil, eIf, eAnd, eOr, eNot, eChain, bAnd, bOr, bNot, bYes, eCB, eCall, eSl, oNone, oSome, eNeg, eIsi, eGet, eOne, eNoP, eBack, eLc, eUpd, eBoth, tName, tTup, tsCons, tsNil, bnd, ret, iSeq, iRng, iEn, iZp, iKey, defF, startD, bodyOut, wipeD, List.getElem?_cons_zero, List.getElem?_cons_succ, List.set_cons_zero, List.set_cons_succ, List.length_cons, List.length_nil, List.map_cons, List.map_nil, List.replicate_succ, List.replicate_zero, List.cons_append, List.nil_append, if_true, if_false, Bool.false_eq_true, reduceIte, Option.map_some, Option.map_none, Nat.reduceAdd, Nat.reduceSub, Nat.reduceEqDiff, rDNotIn, rDGet, kinOf, dicOf, encL, look', hpe, lim_eq, rEq, kEq_int, ht, rAdd, tI, l1, c1]
        obtain ⟨ρ', ih⟩ := loopT hT hb (st := st) ns (k + 1) e.to (turns + e.turns) ((marks ++ e.marks).take 1001) (some (.int k)) (some (.int n)) (some (.int e.turns)) (some (tI e.marks)) (some (tI e.left)) (List.length_take_le _ _)
        refine ⟨ρ', ?_⟩
        rw [List.map_cons, List.zipIdx_cons, List.map_cons]
        unfold forGo
        show bnd (b1_law_told [some (encL T), some (tI v), some (.int here), some (.int turns), some (tI marks), some (.int k), some (.int n), x7, x8, x9] st) _ = _
        rw [step]
        show forGo _ _ _ _ _ = _
        rw [ih]
        rw [goW_cons, h]
        simp only [ht, if_false]
theorem law_told_eq {T : Tb} (hT : smE T) {v : List Int} (hb : v.length ≤ 1000) (st : D) : F_law_told [encL T, tI v] st = some (enTd (goW T v (v ++ [3]) 0 0 0 []), st) := by
  obtain ⟨ρ', run⟩ := loopT hT hb (st := st) (v ++ [3]) 0 0 0 [] none none none none none (Nat.zero_le _)
  have l1 : v.length + 1 ≤ 100000 := by omega
  have s1 : sAsg (eTup (aCons (eC (.int 0)) (aCons (eC (.int 0)) (aCons (eTup aNil) aNil)))) (tTup 3 (tsCons (tName 2) (tsCons (tName 3) (tsCons (tName 4) tsNil)))) [some (encL T), some (tI v), none, none, none, none, none, none, none, none] st = some (.nx [some (encL T), some (tI v), some (.int 0), some (.int 0), some (tI []), none, none, none, none, none], st) := by
    simp [sSeq, sAsg, sIf, sRet, sNil, sDrop, sPar2, sPar3, sFor, sCellSet, sCellApp, sCellPut, sNever, eVar, eC, eOp, eB, eTup, eLst, aCons, aNil, eIf, eAnd, eOr, eNot, eChain, bAnd, bOr, bNot, bYes, eCB, eCall, eSl, oNone, oSome, eNeg, eIsi, eGet, eOne, eNoP, eBack, eLc, eUpd, eBoth, tName, tTup, tsCons, tsNil, bnd, ret, iSeq, iRng, iEn, iZp, iKey, defF, startD, bodyOut, wipeD, List.getElem?_cons_zero, List.getElem?_cons_succ, List.set_cons_zero, List.set_cons_succ, List.length_cons, List.length_nil, List.map_cons, List.map_nil, List.replicate_succ, List.replicate_zero, List.cons_append, List.nil_append, if_true, if_false, Bool.false_eq_true, reduceIte, Option.map_some, Option.map_none, Nat.reduceAdd, Nat.reduceSub, Nat.reduceEqDiff, lim_eq, tI]
  have it : iEn (eOp rAdd (eVar 1) (eTup (aCons (eC (.int 3)) aNil))) [some (encL T), some (tI v), some (.int 0), some (.int 0), some (tI []), none, none, none, none, none] st = some ((((v ++ [3]).map D.int).zipIdx 0).map fun (p : D × Nat) => D.tup [.int p.2, p.1], st) := by
    unfold tI
    rw [List.map_append]
    simp [sSeq, sAsg, sIf, sRet, sNil, sDrop, sPar2, sPar3, sFor, sCellSet, sCellApp, sCellPut, sNever, eVar, eC, eOp, eB, eTup, eLst, aCons, aNil, eIf, eAnd, eOr, eNot, eChain, bAnd, bOr, bNot, bYes, eCB, eCall, eSl, oNone, oSome, eNeg, eIsi, eGet, eOne, eNoP, eBack, eLc, eUpd, eBoth, tName, tTup, tsCons, tsNil, bnd, ret, iSeq, iRng, iEn, iZp, iKey, defF, startD, bodyOut, wipeD, List.getElem?_cons_zero, List.getElem?_cons_succ, List.set_cons_zero, List.set_cons_succ, List.length_cons, List.length_nil, List.map_cons, List.map_nil, List.replicate_succ, List.replicate_zero, List.cons_append, List.nil_append, if_true, if_false, Bool.false_eq_true, reduceIte, Option.map_some, Option.map_none, Nat.reduceAdd, Nat.reduceSub, Nat.reduceEqDiff, lim_eq, rAdd, l1]
  have body : ∃ o, g_law_told [some (encL T), some (tI v), none, none, none, none, none, none, none, none] st = some (o, st) ∧ bodyOut (some (o, st)) = some (enTd (goW T v (v ++ [3]) 0 0 0 []), st) := by
    unfold g_law_told
    rw [seq_nx s1]
    have f := (for_it (g := b1_law_told) (tg := tTup 2 (tsCons (tName 5) (tsCons (tName 6) tsNil))) it).trans run
    cases w : goW T v (v ++ [3]) 0 0 0 [] with
    | inl x =>
      rw [w] at f
      rw [seq_rt f]
      exact ⟨_, rfl, rfl⟩
    | inr x =>
      rw [w] at f
      rw [seq_nx f]
      exact ⟨_, rfl, rfl⟩
  obtain ⟨o, h1, h2⟩ := body
  unfold F_law_told defF
  simp only [List.length_cons, List.length_nil, if_true]
  show bodyOut (g_law_told [some (encL T), some (tI v), none, none, none, none, none, none, none, none] st) = _
  rw [h1, h2]

/-! ### a run comes to rest -/
theorem goW_rest {r : Rt} {T : Tb} (R : Rest r T) (v : List Int) : ∀ (ns : List Int) (k : Nat) (here turns : Int) (marks : List Int), sortsOk ns → here ∈ ledT T → sortsOk marks → ∃ e, goW T v (ns ++ [3]) k here turns marks = .inl (.done e) ∧ sortsOk e.marks
  | [], k, here, turns, marks, _, hh, hm => by
    obtain ⟨e, he⟩ := R.all here hh 3 (by omega)
    have he' : T.lookup (here, 3) = some e := he
    have ft := R.good.foot here e he'
    rw [List.nil_append, goW_cons, he']
    simp only [ft, if_true]
    exact ⟨_, rfl, sorts_take _ (sorts_app hm (R.good.ends R.ok _ _ he').2.1)⟩
  | n :: ns, k, here, turns, marks, hn, hh, hm => by
    have n0 := hn n List.mem_cons_self
    obtain ⟨s, hs, rfl⟩ : ∃ s : Nat, s < 3 ∧ n = (s : Int) := ⟨n.toNat, by omega, by omega⟩
    obtain ⟨e, he⟩ := R.all here hh s (by omega)
    have em := (R.good.ends R.ok _ _ he).2.1
    have cl := led_closed R.ok.one R.ok.six R.inP here hh (s : Int) (by rcases (by omega : s = 0 ∨ s = 1 ∨ s = 2) with rfl | rfl | rfl <;> simp)
    have to' : toOf T here s = e.to := by unfold toOf; rw [he]
    rw [to'] at cl
    rw [List.cons_append, goW_cons, he]
    by_cases ht : e.to = -1
    · simp only [ht, if_true]
      exact ⟨_, rfl, sorts_take _ (sorts_app hm em)⟩
    · simp only [ht, if_false]
      exact goW_rest R v ns _ _ _ _ (fun i hi => hn i (List.mem_cons_of_mem _ hi)) (cl.resolve_left ht) (sorts_take _ (sorts_app hm em))
theorem Reach.ok {r : Rt} {T : Tb} (R : Rest r T) {marks v : List Int} {q : Sta} (h : Reach T marks v q) : okS T marks q := by
  induction h with
  | nil => exact ⟨.inr (led_zero T), Int.le_refl _, by show (0 : Int) ≤ _; omega⟩
  | snoc _ hx ih => exact nxs_ok R ih hx
theorem goW_reach {r : Rt} {T : Tb} (R : Rest r T) {marks : List Int} (h9 : marks.length ≤ 9) (back : List Int) {v : List Int} {q : Sta} (h : Reach T marks v q) : ∀ ns : List Int,
    (q.1 ≠ -1 → ∃ t, goW T back (v ++ ns) 0 0 0 [] = goW T back ns v.length q.1 t (marks.take q.2.toNat)) ∧ (q.1 = -1 → ∃ e, goW T back (v ++ ns) 0 0 0 [] = .inl (.done e) ∧ e.marks = marks.take q.2.toNat) := by
  induction h with
  | nil =>
    intro ns
    refine ⟨fun _ => ⟨0, by simp⟩, fun z => ?_⟩
    exact absurd z (by decide)
  | @snoc v q x hr hx ih =>
    intro ns
    have ok := hr.ok R
    have lo := ok.lo
    have hi := ok.hi
    obtain ⟨s, hs, rfl, sl⟩ := mem_nxs hx
    have assoc : v ++ [((s : Int), ((mw T q.1 s).2, q.2 + ((mw T q.1 s).1.length : Int))).1] ++ ns = v ++ ((s : Int) :: ns) := by simp
    rw [assoc]
    simp only
    have tn : (q.2 + ((mw T q.1 s).1.length : Int)).toNat = q.2.toNat + (mw T q.1 s).1.length := by omega
    rw [tn]
    have tk : marks.take (q.2.toNat + (mw T q.1 s).1.length) = marks.take q.2.toNat ++ (mw T q.1 s).1 := by
      rw [List.take_add, sl]
    rw [tk]
    obtain ⟨ih1, ih2⟩ := ih ((s : Int) :: ns)
    by_cases hq : q.1 = -1
    · obtain ⟨e, he, em⟩ := ih2 hq
      have m1 : mw T q.1 s = ([], -1) := by unfold mw; rw [if_pos hq]
      rw [m1]
      refine ⟨fun z => absurd rfl z, fun _ => ⟨e, he, by rw [em]; simp⟩⟩
    · obtain ⟨t, ht⟩ := ih1 hq
      obtain ⟨e, he⟩ := R.all q.1 (ok.inL.resolve_left hq) s (by omega)
      have m1 : mw T q.1 s = (e.marks, e.to) := by
        unfold mw mkOf toOf
        rw [if_neg hq, he]
      rw [m1] at sl tk ⊢
      simp only at sl tk ⊢
      have l9 : (marks.take q.2.toNat ++ e.marks).take 1001 = marks.take q.2.toNat ++ e.marks := by
        rw [← tk, List.take_take]
        congr 1
        have := congrArg List.length sl
        rw [List.length_take, List.length_drop] at this
        omega
      rw [goW_cons, he] at ht
      by_cases hto : e.to = -1
      · simp only [hto, if_true] at ht
        exact ⟨fun z => absurd hto z, fun _ => ⟨_, ht, l9⟩⟩
      · simp only [hto, if_false] at ht
        rw [l9] at ht
        refine ⟨fun _ => ⟨_, by rw [ht, List.length_append, List.length_singleton]⟩, fun z => absurd z hto⟩
theorem told_marks {r : Rt} {T : Tb} (R : Rest r T) {marks : List Int} (h9 : marks.length ≤ 9) {v : List Int} (h : Told T marks (some v)) : ∃ e, goW T v (v ++ [3]) 0 0 0 [] = .inl (.done e) ∧ e.marks = marks := by
  obtain ⟨q, hr, hh, ok, _⟩ := h
  obtain ⟨h1, h2⟩ := goW_reach R h9 v hr [3]
  have hit : (mw T q.1 3).1 = marks.drop q.2.toNat := of_decide_eq_true hh
  by_cases hq : q.1 = -1
  · obtain ⟨e, he, em⟩ := h2 hq
    have m1 : (mw T q.1 3).1 = [] := by unfold mw; rw [if_pos hq]
    rw [m1] at hit
    refine ⟨e, he, ?_⟩
    have := List.take_append_drop q.2.toNat marks
    rw [← hit, List.append_nil] at this
    rw [em, this]
  · obtain ⟨t, ht⟩ := h1 hq
    obtain ⟨e, he⟩ := R.all q.1 (ok.inL.resolve_left hq) 3 (by omega)
    have he' : T.lookup (q.1, 3) = some e := he
    have m1 : (mw T q.1 3).1 = e.marks := by
      unfold mw mkOf
      rw [if_neg hq, he']
    rw [m1] at hit
    have ft := R.good.foot q.1 e he'
    rw [goW_cons, he'] at ht
    simp only [ft, if_true] at ht
    refine ⟨_, ht, ?_⟩
    show (marks.take q.2.toNat ++ e.marks).take 1001 = marks
    rw [hit, List.take_append_drop, List.take_of_length_le (by omega)]
end Pg
set_option Elab.async false
set_option linter.all false
set_option maxRecDepth 100000
set_option maxHeartbeats 4000000
/-! The pure part, s: rolls. -/
namespace Pg
open PySem PySem.Spec PyProof.Rows L2

abbrev Cup := Int × Int
def cupD (c : Cup) : D := .lst [.int c.1, .int c.2]
structure cOk (c : Cup) : Prop where
  a0 : 0 ≤ c.1
  b0 : 0 ≤ c.2
  b1 : c.2 < 2147483549
theorem set0 (a b x : Int) : ixN [D.int a, D.int b].length 0 = some 0 := rfl
theorem law_roll_eq {c : Cup} (h : cOk c) {m : Int} (h0 : 0 < m) (hm : m < 1073741824) : ∃ (v : Int) (c' : Cup), F_law_roll [.cell, .int m] (cupD c) = some (.int v, cupD c') ∧ 0 ≤ v ∧ v < m ∧ cOk c' := by
  obtain ⟨a, b⟩ := c
  have ha := h.a0
  have hb := h.b0
  have hb1 := h.b1
  simp only at ha hb hb1
  have i0 : ∀ x y : Int, L2.atI [D.int x, D.int y] 0 = some (.int x) := fun _ _ => rfl
  have i1 : ∀ x y : Int, L2.atI [D.int x, D.int y] 1 = some (.int y) := fun _ _ => rfl
  have n0 : ixN 2 0 = some 0 := rfl
  have n1 : ixN 2 1 = some 1 := rfl
  by_cases hp : 0 < a
  · refine ⟨a % m, (a / m, b), ?_, Int.emod_nonneg _ (by omega), Int.emod_lt_of_pos _ h0, Int.ediv_nonneg ha (by omega), hb, hb1⟩
    simp [F_law_roll, g_law_roll, sSeq, sAsg, sIf, sRet, sNil, sDrop, sPar2, sPar3, sFor, sCellSet, sCellApp, sCellPut, sNever, eVar, eC, eOp, eB, eTup, eLst, aCons, aNil, eIf, eAnd, eOr, eNot, eChain, bAnd, bOr, bNot, bYes, eCB, eCall, eSl, oNone, oSome, eNeg, eIsi, eGet, eOne, eNoP, eBack, eLc, eUpd, eBoth, tName, tTup, tsCons, tsNil, bnd, ret, iSeq, iRng, iEn, iZp, iKey, defF, startD, bodyOut, wipeD, List.getElem?_cons_zero, List.getElem?_cons_succ, List.set_cons_zero, List.set_cons_succ, List.length_cons, List.length_nil, List.map_cons, List.map_nil, List.replicate_succ, List.replicate_zero, List.cons_append, List.nil_append, if_true, if_false, Bool.false_eq_true, reduceIte, Option.map_some, Option.map_none, Nat.reduceAdd, Nat.reduceSub, Nat.reduceEqDiff, cupD, rIx, seqOf, i0, i1, rGt, hp, rInt, rMod, h0, n0, n1, rDiv, hm]
  · have e1 : 0 ≤ (b * 30671 + 7919) % 2147483549 := Int.emod_nonneg _ (by omega)
    have e2 : (b * 30671 + 7919) % 2147483549 < 2147483549 := Int.emod_lt_of_pos _ (by omega)
    refine ⟨((b * 30671 + 7919) % 2147483549 * ((b * 30671 + 7919) % 2147483549 + 131)) % 2147483587 / 709 % m, (a, (b * 30671 + 7919) % 2147483549), ?_, Int.emod_nonneg _ (by omega), Int.emod_lt_of_pos _ h0, ha, e1, e2⟩
    generalize hz : (b * 30671 + 7919) % 2147483549 = z at *
    have g1 : -18446744073709551616 < z := by omega
    have g2 : z < 18446744073709551616 := by omega
    simp [F_law_roll, g_law_roll, sSeq, sAsg, sIf, sRet, sNil, sDrop, sPar2, sPar3, sFor, sCellSet, sCellApp, sCellPut, sNever, eVar, eC, eOp, eB, eTup, eLst, aCons, aNil, eIf, eAnd, eOr, eNot, eChain, bAnd, bOr, bNot, bYes, eCB, eCall, eSl, oNone, oSome, eNeg, eIsi, eGet, eOne, eNoP, eBack, eLc, eUpd, eBoth, tName, tTup, tsCons, tsNil, bnd, ret, iSeq, iRng, iEn, iZp, iKey, defF, startD, bodyOut, wipeD, List.getElem?_cons_zero, List.getElem?_cons_succ, List.set_cons_zero, List.set_cons_succ, List.length_cons, List.length_nil, List.map_cons, List.map_nil, List.replicate_succ, List.replicate_zero, List.cons_append, List.nil_append, if_true, if_false, Bool.false_eq_true, reduceIte, Option.map_some, Option.map_none, Nat.reduceAdd, Nat.reduceSub, Nat.reduceEqDiff, cupD, rIx, seqOf, i0, i1, rGt, hp, rInt, rMod, h0, n0, n1, rDiv, hm, rMul, rAdd, hz, g1, g2]
theorem law_some_eq {c : Cup} (h : cOk c) {xs : List D} (h0 : xs ≠ []) (hm : xs.length ≤ 1000) : ∃ (x : D) (c' : Cup), F_law_some [.cell, .lst xs] (cupD c) = some (x, cupD c') ∧ x ∈ xs ∧ cOk c' := by
  have hl : 0 < xs.length := List.length_pos_iff.mpr h0
  obtain ⟨v, c', e, v0, v1, ok⟩ := law_roll_eq h (m := (xs.length : Int)) (by omega) (by omega)
  have hv : v.toNat < xs.length := by omega
  have ix := atI_nat xs v.toNat
  rw [show ((v.toNat : Nat) : Int) = v by omega, List.getElem?_eq_getElem hv] at ix
  refine ⟨xs[v.toNat], c', ?_, List.getElem_mem hv, ok⟩
  simp [F_law_some, g_law_some, sSeq, sAsg, sIf, sRet, sNil, sDrop, sPar2, sPar3, sFor, sCellSet, sCellApp, sCellPut, sNever, eVar, eC, eOp, eB, eTup, eLst, aCons, aNil, eIf, eAnd, eOr, eNot, eChain, bAnd, bOr, bNot, bYes, eCB, eCall, eSl, oNone, oSome, eNeg, eIsi, eGet, eOne, eNoP, eBack, eLc, eUpd, eBoth, tName, tTup, tsCons, tsNil, bnd, ret, iSeq, iRng, iEn, iZp, iKey, defF, startD, bodyOut, wipeD, List.getElem?_cons_zero, List.getElem?_cons_succ, List.set_cons_zero, List.set_cons_succ, List.length_cons, List.length_nil, List.map_cons, List.map_nil, List.replicate_succ, List.replicate_zero, List.cons_append, List.nil_append, if_true, if_false, Bool.false_eq_true, reduceIte, Option.map_some, Option.map_none, Nat.reduceAdd, Nat.reduceSub, Nat.reduceEqDiff, rLen2, e, rIx, seqOf, ix]
/-- comprehensions that roll -/
theorem lc_cup {tg : TD} {te : E} {ρ : Env} (P : D → Prop) (H : ∀ x c, cOk c → ∃ ρ2 y c', tg x ρ = some ρ2 ∧ te ρ2 (cupD c) = some (y, cupD c') ∧ P y ∧ cOk c') : ∀ (xs : List D) (c : Cup), cOk c → ∃ ys c', lcGo tg bYes te ρ xs (cupD c) = some (ys, cupD c') ∧ (∀ y ∈ ys, P y) ∧ ys.length = xs.length ∧ cOk c'
  | [], c, h => ⟨[], c, rfl, (fun _ z => nomatch z), rfl, h⟩
  | x :: xs, c, h => by
    obtain ⟨ρ2, y, c1, h1, h2, h3, h4⟩ := H x c h
    obtain ⟨ys, c2, k1, k2, k3, k4⟩ := lc_cup P H xs c1 h4
    refine ⟨y :: ys, c2, ?_, fun z hz => ?_, by rw [List.length_cons, List.length_cons, k3], k4⟩
    · unfold lcGo
      rw [h1]
      show bnd (te ρ2 (cupD c)) _ = _
      rw [h2]
      show bnd (lcGo tg bYes te ρ xs (cupD c1)) _ = _
      rw [k1]
      rfl
    · rcases List.mem_cons.mp hz with rfl | hz
      · exact h3
      · exact k2 z hz
theorem of_all {α : Type} (f : α → D) (Q : α → Prop) : ∀ {ys : List D}, (∀ y ∈ ys, ∃ i, y = f i ∧ Q i) → ∃ l : List α, ys = l.map f ∧ ∀ i ∈ l, Q i
  | [], _ => ⟨[], rfl, fun _ z => nomatch z⟩
  | y :: ys, H => by
    obtain ⟨i, rfl, hi⟩ := H y List.mem_cons_self
    obtain ⟨l, rfl, hl⟩ := of_all f Q (ys := ys) fun z hz => H z (List.mem_cons_of_mem _ hz)
    exact ⟨i :: l, rfl, fun j hj => (List.mem_cons.mp hj).elim (fun e => by rw [e]; exact hi) (hl j)⟩
theorem law_sorts_eq {c : Cup} (h : cOk c) {many below : Nat} (hm : many ≤ 100) (hb : below ≤ 100) : ∃ (l : List Int) (c' : Cup), F_law_sorts [.cell, .int many, .int below] (cupD c) = some (tI l, cupD c') ∧ l.length ≤ many ∧ (∀ i ∈ l, 0 ≤ i ∧ i < (below : Int)) ∧ cOk c' := by
  by_cases h0 : 0 < below
  · obtain ⟨v, c1, e, v0, v1, ok⟩ := law_roll_eq h (m := (many : Int) + 1) (by omega) (by omega)
    obtain ⟨n, rfl⟩ : ∃ n : Nat, v = (n : Int) := ⟨v.toNat, by omega⟩
    obtain ⟨ys, c2, k1, k2, k3, k4⟩ := lc_cup (tg := tName 3) (te := e1_law_sorts) (ρ := wipeD [some .cell, some (.int many), some (.int below), none] [3]) (fun y => ∃ i : Int, y = .int i ∧ 0 ≤ i ∧ i < (below : Int)) (fun x c hc => by
      obtain ⟨w, c', e, w0, w1, ok⟩ := law_roll_eq hc (m := (below : Int)) (by omega) (by omega)
      exact ⟨_, _, c', rfl, by simp [e1_law_sorts, sSeq, sAsg, sIf, sRet, sNil, sDrop, sPar2, sPar3, sFor, sCellSet, sCellApp, sCellPut, sNever, eVar, eC, eOp, eB, eTup, eLst, aCons, aNil, eIf, eAnd, eOr, eNot, eChain, bAnd, bOr, bNot, bYes, eCB, eCall, eSl, oNone, oSome, eNeg, eIsi, eGet, eOne, eNoP, eBack, eLc, eUpd, eBoth, tName, tTup, tsCons, tsNil, bnd, ret, iSeq, iRng, iEn, iZp, iKey, defF, startD, bodyOut, wipeD, List.getElem?_cons_zero, List.getElem?_cons_succ, List.set_cons_zero, List.set_cons_succ, List.length_cons, List.length_nil, List.map_cons, List.map_nil, List.replicate_succ, List.replicate_zero, List.cons_append, List.nil_append, if_true, if_false, Bool.false_eq_true, reduceIte, Option.map_some, Option.map_none, Nat.reduceAdd, Nat.reduceSub, Nat.reduceEqDiff, wipeD, e], ⟨w, rfl, w0, w1⟩, ok⟩) ((List.range n).map fun (i : Nat) => D.int i) c1 ok
    obtain ⟨l, rfl, hl⟩ := of_all D.int _ k2
    rw [List.length_map, List.length_map, List.length_range] at k3
    refine ⟨l, c2, ?_, by omega, hl, k4⟩
    have it : iRng (eCall 2 F_law_roll (aCons (eVar 0) (aCons (eOp rAdd (eVar 1) (eC (.int 1))) aNil))) [some .cell, some (.int many), some (.int below), none] (cupD c) = some ((List.range n).map fun (i : Nat) => D.int i, cupD c1) := rng_eval (n := n) (by simp [sSeq, sAsg, sIf, sRet, sNil, sDrop, sPar2, sPar3, sFor, sCellSet, sCellApp, sCellPut, sNever, eVar, eC, eOp, eB, eTup, eLst, aCons, aNil, eIf, eAnd, eOr, eNot, eChain, bAnd, bOr, bNot, bYes, eCB, eCall, eSl, oNone, oSome, eNeg, eIsi, eGet, eOne, eNoP, eBack, eLc, eUpd, eBoth, tName, tTup, tsCons, tsNil, bnd, ret, iSeq, iRng, iEn, iZp, iKey, defF, startD, bodyOut, wipeD, List.getElem?_cons_zero, List.getElem?_cons_succ, List.set_cons_zero, List.set_cons_succ, List.length_cons, List.length_nil, List.map_cons, List.map_nil, List.replicate_succ, List.replicate_zero, List.cons_append, List.nil_append, if_true, if_false, Bool.false_eq_true, reduceIte, Option.map_some, Option.map_none, Nat.reduceAdd, Nat.reduceSub, Nat.reduceEqDiff, rAdd, e]) (by omega)
    have l1 : ((List.range n).map fun (i : Nat) => D.int i).length ≤ lim := by rw [List.length_map, List.length_range, lim_eq]; omega
    have lc : eCB rTuple (aCons (eLc (iRng (eCall 2 F_law_roll (aCons (eVar 0) (aCons (eOp rAdd (eVar 1) (eC (.int 1))) aNil)))) (tName 3) bYes e1_law_sorts [3]) aNil) [some .cell, some (.int many), some (.int below), none] (cupD c) = some (tI l, cupD c2) := by
      simp only [eCB, aCons, aNil, eLc, it, bnd_some, l1, if_true, k1, rTuple, ret]
      rfl
    have test : eB (eOp rGt (eVar 2) (eC (.int 0))) [some .cell, some (.int many), some (.int below), none] (cupD c) = some (true, cupD c) := by
      have : (0 : Int) < (below : Int) := by omega
      simp [sSeq, sAsg, sIf, sRet, sNil, sDrop, sPar2, sPar3, sFor, sCellSet, sCellApp, sCellPut, sNever, eVar, eC, eOp, eB, eTup, eLst, aCons, aNil, eIf, eAnd, eOr, eNot, eChain, bAnd, bOr, bNot, bYes, eCB, eCall, eSl, oNone, oSome, eNeg, eIsi, eGet, eOne, eNoP, eBack, eLc, eUpd, eBoth, tName, tTup, tsCons, tsNil, bnd, ret, iSeq, iRng, iEn, iZp, iKey, defF, startD, bodyOut, wipeD, List.getElem?_cons_zero, List.getElem?_cons_succ, List.set_cons_zero, List.set_cons_succ, List.length_cons, List.length_nil, List.map_cons, List.map_nil, List.replicate_succ, List.replicate_zero, List.cons_append, List.nil_append, if_true, if_false, Bool.false_eq_true, reduceIte, Option.map_some, Option.map_none, Nat.reduceAdd, Nat.reduceSub, Nat.reduceEqDiff, rGt, this, h0]
    have body : g_law_sorts [some .cell, some (.int many), some (.int below), none] (cupD c) = some (.rt (tI l), cupD c2) := by
      unfold g_law_sorts sRet eIf
      rw [test]
      simp only [bnd_some, if_true]
      rw [lc]
      rfl
    unfold F_law_sorts defF
    simp only [List.length_cons, List.length_nil, if_true]
    show bodyOut (g_law_sorts [some .cell, some (.int many), some (.int below), none] (cupD c)) = _
    rw [body]
    rfl
  · refine ⟨[], c, ?_, Nat.zero_le _, (fun _ z => nomatch z), h⟩
    have : ¬ (0 : Int) < (below : Int) := by omega
    have z : below = 0 := by omega
    subst z
    simp [F_law_sorts, g_law_sorts, sSeq, sAsg, sIf, sRet, sNil, sDrop, sPar2, sPar3, sFor, sCellSet, sCellApp, sCellPut, sNever, eVar, eC, eOp, eB, eTup, eLst, aCons, aNil, eIf, eAnd, eOr, eNot, eChain, bAnd, bOr, bNot, bYes, eCB, eCall, eSl, oNone, oSome, eNeg, eIsi, eGet, eOne, eNoP, eBack, eLc, eUpd, eBoth, tName, tTup, tsCons, tsNil, bnd, ret, iSeq, iRng, iEn, iZp, iKey, defF, startD, bodyOut, wipeD, List.getElem?_cons_zero, List.getElem?_cons_succ, List.set_cons_zero, List.set_cons_succ, List.length_cons, List.length_nil, List.map_cons, List.map_nil, List.replicate_succ, List.replicate_zero, List.cons_append, List.nil_append, if_true, if_false, Bool.false_eq_true, reduceIte, Option.map_some, Option.map_none, Nat.reduceAdd, Nat.reduceSub, Nat.reduceEqDiff, rGt, lim_eq, tI]
end Pg
set_option Elab.async false
set_option linter.all false
set_option maxRecDepth 100000
set_option maxHeartbeats 4000000
/-! The pure part, t: drawn routines. -/
namespace Pg
open PySem PySem.Spec PyProof.Rows L2

structure postOk (n : Nat) (post : List Mv) : Prop where
  four : post.length = 4
  ok : ∀ m ∈ post, m.ok n
  low : ∀ (i : Nat) (m : Mv), i < 3 → post[i]? = some m → ∀ b ∈ m.back, b < (i : Int)
theorem calm_of {r : Rt} (h1 : 1 ≤ r.length) (h6 : r.length ≤ 6) (h : ∀ post ∈ r, postOk r.length post) : calm r := by
  refine ⟨⟨h1, h6, fun p hp => (h p hp).four, fun p hp => (h p hp).ok⟩, fun p s m hm hs => ?_⟩
  unfold mvAt at hm
  cases e : r[p]? with
  | none => rw [e] at hm; cases hm
  | some post =>
    rw [e] at hm
    exact (h post (List.mem_of_getElem? e)).low s m hs hm
theorem sorts3 {c : Cup} (h : cOk c) {many : Nat} (hm : many ≤ 100) {below : Nat} (hb : below ≤ 3) : ∃ (l : List Int) (c' : Cup), F_law_sorts [.cell, .int many, .int below] (cupD c) = some (tI l, cupD c') ∧ l.length ≤ many ∧ sortsOk l ∧ (∀ i ∈ l, i < (below : Int)) ∧ cOk c' := by
  obtain ⟨l, c', e, h1, h2, h3⟩ := law_sorts_eq h hm (by omega : below ≤ 100)
  exact ⟨l, c', e, h1, fun i hi => by have := h2 i hi; omega, fun i hi => (h2 i hi).2, h3⟩
theorem calm_line {c : Cup} (h : cOk c) {n : Nat} (hn : 1 ≤ n ∧ n ≤ 6) (FD : D) (p : Int) {ms : List Mv} {j : Nat} (hj : j < 3) (hl : ms.length = j) (x6 x7 x8 : Option D) : ∃ (m : Mv) (c' : Cup) (y6 y7 : Option D),
    b1_law_calm [some .cell, some (.int n), some FD, some (.int p), some (.tup (ms.map enMv)), some (.int j), x6, x7, x8] (cupD c) = some (.nx [some .cell, some (.int n), some FD, some (.int p), some (.tup ((ms ++ [m]).map enMv)), some (.int j), y6, y7, x8], cupD c') ∧ m.ok n ∧ (∀ b ∈ m.back, b < (j : Int)) ∧ cOk c' := by
  obtain ⟨bk, c1, e1, b1, b2, b3, k1⟩ := sorts3 h (many := 3) (by omega) (below := j) (by omega)
  obtain ⟨v, c2, e2, v0, v1, k2⟩ := law_roll_eq k1 (m := 12) (by omega) (by omega)
  have e1' : F_law_sorts [.cell, .int 3, .int j] (cupD c) = some (tI bk, cupD c1) := e1
  have lm : ms.length + 1 ≤ 100000 := by omega
  by_cases hv : v = 0
  · obtain ⟨mk, c3, e3, m1, m2, _, k3⟩ := sorts3 k2 (many := 2) (by omega) (below := 3) (by omega)
    have e3' : F_law_sorts [.cell, .int 2, .int 3] (cupD c2) = some (tI mk, cupD c3) := e3
    refine ⟨⟨mk, bk, -1⟩, c3, some (tI bk), some (.int (-1)), ?_, ⟨m1, m2, b1, b2, Int.le_refl _, by show (-1 : Int) < _; omega⟩, b3, k3⟩
    simp [b1_law_calm, sSeq, sAsg, sIf, sRet, sNil, sDrop, sPar2, sPar3, sFor, sCellSet, sCellApp, sCellPut, sNever, eVar, eC, eOp, eB, eTup, eLst, aCons, aNil, eIf, eAnd, eOr, eNot, eChain, bAnd, bOr, bNot, bYes, eCB, eCall, eSl, oNone, oSome, eNeg, eIsi, eGet, eOne, eNoP, eBack, eLc, eUpd, eBoth, tName, tTup, tsCons, tsNil, bnd, ret, iSeq, iRng, iEn, iZp, iKey, defF, startD, bodyOut, wipeD, List.getElem?_cons_zero, List.getElem?_cons_succ, List.set_cons_zero, List.set_cons_succ, List.length_cons, List.length_nil, List.map_cons, List.map_nil, List.replicate_succ, List.replicate_zero, List.cons_append, List.nil_append, if_true, if_false, Bool.false_eq_true, reduceIte, Option.map_some, Option.map_none, Nat.reduceAdd, Nat.reduceSub, Nat.reduceEqDiff, e1', e2, rEq, kEq_int, hv, e3', rAdd, lim_eq, lm, enMv]
  · obtain ⟨w, c3, e3, w0, w1, k3⟩ := law_roll_eq k2 (m := (n : Int)) (by omega) (by omega)
    obtain ⟨mk, c4, e4, m1, m2, _, k4⟩ := sorts3 k3 (many := 2) (by omega) (below := 3) (by omega)
    have e4' : F_law_sorts [.cell, .int 2, .int 3] (cupD c3) = some (tI mk, cupD c4) := e4
    refine ⟨⟨mk, bk, w⟩, c4, some (tI bk), some (.int w), ?_, ⟨m1, m2, b1, b2, by show (-1 : Int) ≤ w; omega, w1⟩, b3, k4⟩
    simp [b1_law_calm, sSeq, sAsg, sIf, sRet, sNil, sDrop, sPar2, sPar3, sFor, sCellSet, sCellApp, sCellPut, sNever, eVar, eC, eOp, eB, eTup, eLst, aCons, aNil, eIf, eAnd, eOr, eNot, eChain, bAnd, bOr, bNot, bYes, eCB, eCall, eSl, oNone, oSome, eNeg, eIsi, eGet, eOne, eNoP, eBack, eLc, eUpd, eBoth, tName, tTup, tsCons, tsNil, bnd, ret, iSeq, iRng, iEn, iZp, iKey, defF, startD, bodyOut, wipeD, List.getElem?_cons_zero, List.getElem?_cons_succ, List.set_cons_zero, List.set_cons_succ, List.length_cons, List.length_nil, List.map_cons, List.map_nil, List.replicate_succ, List.replicate_zero, List.cons_append, List.nil_append, if_true, if_false, Bool.false_eq_true, reduceIte, Option.map_some, Option.map_none, Nat.reduceAdd, Nat.reduceSub, Nat.reduceEqDiff, e1', e2, rEq, kEq_int, hv, e3, e4', rAdd, lim_eq, lm, enMv]
theorem calm_foot {c : Cup} (h : cOk c) {n p : Nat} (hp : p < n) (hn : n ≤ 6) (FD MD : D) (x5 x6 x7 x8 : Option D) : ∃ (f : Int) (c' : Cup),
    sAsg (eIf (bOr (eB (eOp rEq (eOp rAdd (eVar 3) (eC (.int 1))) (eVar 1))) (eB (eOp rEq (eCall 2 F_law_roll (aCons (eVar 0) (aCons (eC (.int 2)) aNil))) (eC (.int 0))))) (eNeg (eC (.int 1))) (eOp rAdd (eOp rAdd (eVar 3) (eC (.int 1))) (eCall 2 F_law_roll (aCons (eVar 0) (aCons (eOp rSub (eOp rSub (eVar 1) (eVar 3)) (eC (.int 1))) aNil))))) (tName 8)
      [some .cell, some (.int n), some FD, some (.int p), some MD, x5, x6, x7, x8] (cupD c) = some (.nx [some .cell, some (.int n), some FD, some (.int p), some MD, x5, x6, x7, some (.int f)], cupD c') ∧ -1 ≤ f ∧ f < n ∧ cOk c' := by
  by_cases h1 : (p : Int) + 1 = n
  · refine ⟨-1, c, ?_, Int.le_refl _, by omega, h⟩
    simp [sSeq, sAsg, sIf, sRet, sNil, sDrop, sPar2, sPar3, sFor, sCellSet, sCellApp, sCellPut, sNever, eVar, eC, eOp, eB, eTup, eLst, aCons, aNil, eIf, eAnd, eOr, eNot, eChain, bAnd, bOr, bNot, bYes, eCB, eCall, eSl, oNone, oSome, eNeg, eIsi, eGet, eOne, eNoP, eBack, eLc, eUpd, eBoth, tName, tTup, tsCons, tsNil, bnd, ret, iSeq, iRng, iEn, iZp, iKey, defF, startD, bodyOut, wipeD, List.getElem?_cons_zero, List.getElem?_cons_succ, List.set_cons_zero, List.set_cons_succ, List.length_cons, List.length_nil, List.map_cons, List.map_nil, List.replicate_succ, List.replicate_zero, List.cons_append, List.nil_append, if_true, if_false, Bool.false_eq_true, reduceIte, Option.map_some, Option.map_none, Nat.reduceAdd, Nat.reduceSub, Nat.reduceEqDiff, rAdd, rEq, kEq_int, h1]
  · obtain ⟨v, c1, e1, v0, v1, k1⟩ := law_roll_eq h (m := 2) (by omega) (by omega)
    by_cases hv : v = 0
    · refine ⟨-1, c1, ?_, Int.le_refl _, by omega, k1⟩
      simp [sSeq, sAsg, sIf, sRet, sNil, sDrop, sPar2, sPar3, sFor, sCellSet, sCellApp, sCellPut, sNever, eVar, eC, eOp, eB, eTup, eLst, aCons, aNil, eIf, eAnd, eOr, eNot, eChain, bAnd, bOr, bNot, bYes, eCB, eCall, eSl, oNone, oSome, eNeg, eIsi, eGet, eOne, eNoP, eBack, eLc, eUpd, eBoth, tName, tTup, tsCons, tsNil, bnd, ret, iSeq, iRng, iEn, iZp, iKey, defF, startD, bodyOut, wipeD, List.getElem?_cons_zero, List.getElem?_cons_succ, List.set_cons_zero, List.set_cons_succ, List.length_cons, List.length_nil, List.map_cons, List.map_nil, List.replicate_succ, List.replicate_zero, List.cons_append, List.nil_append, if_true, if_false, Bool.false_eq_true, reduceIte, Option.map_some, Option.map_none, Nat.reduceAdd, Nat.reduceSub, Nat.reduceEqDiff, rAdd, rEq, kEq_int, h1, e1, hv]
    · obtain ⟨w, c2, e2, w0, w1, k2⟩ := law_roll_eq k1 (m := (n : Int) - p - 1) (by omega) (by omega)
      refine ⟨p + 1 + w, c2, ?_, by omega, by omega, k2⟩
      simp [sSeq, sAsg, sIf, sRet, sNil, sDrop, sPar2, sPar3, sFor, sCellSet, sCellApp, sCellPut, sNever, eVar, eC, eOp, eB, eTup, eLst, aCons, aNil, eIf, eAnd, eOr, eNot, eChain, bAnd, bOr, bNot, bYes, eCB, eCall, eSl, oNone, oSome, eNeg, eIsi, eGet, eOne, eNoP, eBack, eLc, eUpd, eBoth, tName, tTup, tsCons, tsNil, bnd, ret, iSeq, iRng, iEn, iZp, iKey, defF, startD, bodyOut, wipeD, List.getElem?_cons_zero, List.getElem?_cons_succ, List.set_cons_zero, List.set_cons_succ, List.length_cons, List.length_nil, List.map_cons, List.map_nil, List.replicate_succ, List.replicate_zero, List.cons_append, List.nil_append, if_true, if_false, Bool.false_eq_true, reduceIte, Option.map_some, Option.map_none, Nat.reduceAdd, Nat.reduceSub, Nat.reduceEqDiff, rAdd, rEq, kEq_int, h1, e1, hv, rSub, e2]
theorem calm_post {c : Cup} (h : cOk c) {n p : Nat} (hp : p < n) (hn : n ≤ 6) {r : Rt} (hl : r.length = p) (x4 x5 x6 x7 x8 : Option D) : ∃ (post : List Mv) (c' : Cup) (y4 y5 y6 y7 y8 : Option D),
    b2_law_calm [some .cell, some (.int n), some (.tup (r.map enPost)), some (.int p), x4, x5, x6, x7, x8] (cupD c) = some (.nx [some .cell, some (.int n), some (.tup ((r ++ [post]).map enPost)), some (.int p), y4, y5, y6, y7, y8], cupD c') ∧ postOk n post ∧ cOk c' := by
  obtain ⟨ρ', s', run, ms, c1, y5, y6, y7, y8, h1, h2, h3, h4, h5⟩ := for_range (tg := tName 5) (g := b1_law_calm)
    (fun j ρ s => ∃ (ms : List Mv) (c : Cup) (y5 y6 y7 y8 : Option D), ρ = [some .cell, some (.int n), some (.tup (r.map enPost)), some (.int p), some (.tup (ms.map enMv)), y5, y6, y7, y8] ∧ s = cupD c ∧ cOk c ∧ ms.length = j ∧ ∀ (i : Nat) (m : Mv), ms[i]? = some m → m.ok n ∧ ∀ b ∈ m.back, b < (i : Int)) 3 0 [some .cell, some (.int n), some (.tup (r.map enPost)), some (.int p), some (.tup []), x5, x6, x7, x8] (cupD c) (fun j ρ s hj hR => by
      obtain ⟨ms, c, y5, y6, y7, y8, rfl, rfl, hc, hlen, hms⟩ := hR
      obtain ⟨m, c', z6, z7, e, m1, m2, m3⟩ := calm_line hc ⟨by omega, hn⟩ (.tup (r.map enPost)) (p : Int) (by omega : j < 3) hlen y6 y7 y8
      refine ⟨_, _, _, rfl, e, ms ++ [m], c', _, _, _, _, rfl, rfl, m3, by rw [List.length_append, List.length_singleton, hlen], fun i m' hi => ?_⟩
      rcases Nat.lt_or_ge i ms.length with hi' | hi'
      · rw [List.getElem?_append_left hi'] at hi
        exact hms i m' hi
      · rw [List.getElem?_append_right hi'] at hi
        have : i - ms.length = 0 := by
          rcases Nat.eq_zero_or_pos (i - ms.length) with z | z
          · exact z
          · rw [List.getElem?_eq_none (by rw [List.length_singleton]; omega)] at hi
            cases hi
        rw [this] at hi
        cases hi
        have : i = j := by omega
        subst this
        exact ⟨m1, m2⟩) ⟨[], c, x5, x6, x7, x8, rfl, rfl, h, rfl, fun i m z => by simp at z⟩
  rw [h1, h2] at run
  obtain ⟨f, c2, ef, f0, f1, k2⟩ := calm_foot h3 hp hn (.tup (r.map enPost)) (.tup (ms.map enMv)) y5 y6 y7 y8
  obtain ⟨mk, c3, e3, m1, m2, _, k3⟩ := sorts3 k2 (many := 2) (by omega) (below := 3) (by omega)
  obtain ⟨bk, c4, e4, b1, b2, _, k4⟩ := sorts3 k3 (many := 2) (by omega) (below := 3) (by omega)
  have e3' : F_law_sorts [.cell, .int 2, .int 3] (cupD c2) = some (tI mk, cupD c3) := e3
  have e4' : F_law_sorts [.cell, .int 2, .int 3] (cupD c3) = some (tI bk, cupD c4) := e4
  have ok : (Mv.mk mk bk f).ok n := ⟨m1, m2, by show bk.length ≤ 3; omega, b2, f0, f1⟩
  refine ⟨ms ++ [⟨mk, bk, f⟩], c4, some (.tup (ms.map enMv)), y5, y6, y7, some (.int f), ?_, ⟨by rw [List.length_append, List.length_singleton, h4], fun m hm => ?_, fun i m hi hm => ?_⟩, k4⟩
  rotate_left
  · rcases List.mem_append.mp hm with z | z
    · obtain ⟨i, hi⟩ := List.mem_iff_getElem?.mp z
      exact (h5 i m hi).1
    · rw [List.mem_singleton.mp z]
      exact ok
  · rw [List.getElem?_append_left (by omega)] at hm
    exact (h5 i m hm).2
  · have a1 : sAsg (eTup aNil) (tName 4) [some .cell, some (.int n), some (.tup (r.map enPost)), some (.int p), x4, x5, x6, x7, x8] (cupD c) = some (.nx [some .cell, some (.int n), some (.tup (r.map enPost)), some (.int p), some (.tup []), x5, x6, x7, x8], cupD c) := by
      simp [sSeq, sAsg, sIf, sRet, sNil, sDrop, sPar2, sPar3, sFor, sCellSet, sCellApp, sCellPut, sNever, eVar, eC, eOp, eB, eTup, eLst, aCons, aNil, eIf, eAnd, eOr, eNot, eChain, bAnd, bOr, bNot, bYes, eCB, eCall, eSl, oNone, oSome, eNeg, eIsi, eGet, eOne, eNoP, eBack, eLc, eUpd, eBoth, tName, tTup, tsCons, tsNil, bnd, ret, iSeq, iRng, iEn, iZp, iKey, defF, startD, bodyOut, wipeD, List.getElem?_cons_zero, List.getElem?_cons_succ, List.set_cons_zero, List.set_cons_succ, List.length_cons, List.length_nil, List.map_cons, List.map_nil, List.replicate_succ, List.replicate_zero, List.cons_append, List.nil_append, if_true, if_false, Bool.false_eq_true, reduceIte, Option.map_some, Option.map_none, Nat.reduceAdd, Nat.reduceSub, Nat.reduceEqDiff]
    have it : iRng (eC (.int 3)) [some .cell, some (.int n), some (.tup (r.map enPost)), some (.int p), some (.tup []), x5, x6, x7, x8] (cupD c) = some ((List.range' 0 3).map fun (i : Nat) => D.int i, cupD c) := by
      have := rng_eval (fe := eC (.int 3)) (ρ := [some .cell, some (.int n), some (.tup (r.map enPost)), some (.int p), some (.tup []), x5, x6, x7, x8]) (s := cupD c) (s' := cupD c) (n := 3) rfl (by decide)
      rw [this, List.range_eq_range']
    have l1 : ms.length + 1 ≤ 100000 := by omega
    have l2 : r.length + 1 ≤ 100000 := by omega
    unfold b2_law_calm
    rw [seq_nx a1, seq_nx ((for_it it).trans run), seq_nx ef]
    have cat : enPost (ms ++ [⟨mk, bk, f⟩]) = .tup (ms.map enMv ++ [.tup [tI mk, tI bk, .int f]]) := by
      unfold enPost
      rw [List.map_append]
      rfl
    rw [List.map_append, List.map_cons, List.map_nil, cat]
    simp [sSeq, sAsg, sIf, sRet, sNil, sDrop, sPar2, sPar3, sFor, sCellSet, sCellApp, sCellPut, sNever, eVar, eC, eOp, eB, eTup, eLst, aCons, aNil, eIf, eAnd, eOr, eNot, eChain, bAnd, bOr, bNot, bYes, eCB, eCall, eSl, oNone, oSome, eNeg, eIsi, eGet, eOne, eNoP, eBack, eLc, eUpd, eBoth, tName, tTup, tsCons, tsNil, bnd, ret, iSeq, iRng, iEn, iZp, iKey, defF, startD, bodyOut, wipeD, List.getElem?_cons_zero, List.getElem?_cons_succ, List.set_cons_zero, List.set_cons_succ, List.length_cons, List.length_nil, List.map_cons, List.map_nil, List.replicate_succ, List.replicate_zero, List.cons_append, List.nil_append, if_true, if_false, Bool.false_eq_true, reduceIte, Option.map_some, Option.map_none, Nat.reduceAdd, Nat.reduceSub, Nat.reduceEqDiff, e3', e4', rAdd, lim_eq, l1, l2]
theorem law_calm_eq {c : Cup} (h : cOk c) : ∃ (r : Rt) (c' : Cup), F_law_calm [.cell] (cupD c) = some (enR r, cupD c') ∧ calm r ∧ cOk c' := by
  obtain ⟨x, c1, e1, hx, k1⟩ := law_some_eq h (xs := [.int 0, .int 1, .int 1, .int 2, .int 2, .int 3, .int 5]) (by simp) (by simp)
  obtain ⟨n, hn, rfl⟩ : ∃ n : Nat, n ≤ 5 ∧ x = .int (n : Int) := by
    simp only [List.mem_cons, List.not_mem_nil, or_false] at hx
    rcases hx with rfl | rfl | rfl | rfl | rfl | rfl | rfl
    · exact ⟨0, by omega, rfl⟩
    · exact ⟨1, by omega, rfl⟩
    · exact ⟨1, by omega, rfl⟩
    · exact ⟨2, by omega, rfl⟩
    · exact ⟨2, by omega, rfl⟩
    · exact ⟨3, by omega, rfl⟩
    · exact ⟨5, by omega, rfl⟩
  obtain ⟨ρ', s', run, r, c2, y3, y4, y5, y6, y7, y8, h1, h2, h3, h4, h5⟩ := for_range (tg := tName 3) (g := b2_law_calm)
    (fun p ρ s => ∃ (r : Rt) (c : Cup) (y3 y4 y5 y6 y7 y8 : Option D), ρ = [some .cell, some (.int ((n + 1 : Nat) : Int)), some (.tup (r.map enPost)), y3, y4, y5, y6, y7, y8] ∧ s = cupD c ∧ cOk c ∧ r.length = p ∧ ∀ post ∈ r, postOk (n + 1) post) (n + 1) 0 [some .cell, some (.int ((n + 1 : Nat) : Int)), some (.tup []), none, none, none, none, none, none] (cupD c1) (fun p ρ s hp hR => by
      obtain ⟨r, c, y3, y4, y5, y6, y7, y8, rfl, rfl, hc, hlen, hr⟩ := hR
      obtain ⟨post, c', z4, z5, z6, z7, z8, e, p1, p2⟩ := calm_post hc (n := n + 1) (p := p) (by omega) (by omega) hlen y4 y5 y6 y7 y8
      refine ⟨_, _, _, rfl, e, r ++ [post], c', _, _, _, _, _, _, rfl, rfl, p2, by rw [List.length_append, List.length_singleton, hlen], fun q hq => ?_⟩
      rcases List.mem_append.mp hq with z | z
      · exact hr q z
      · rw [List.mem_singleton.mp z]
        exact p1) ⟨[], c1, _, _, _, _, _, _, rfl, rfl, k1, rfl, fun _ z => nomatch z⟩
  rw [h1, h2] at run
  have hl : r.length = n + 1 := by omega
  refine ⟨r, c2, ?_, calm_of (by omega) (by omega) (by rw [hl]; exact h5), h3⟩
  have s1 : sPar2 1 2 (aCons (eOp rAdd (eC (.int 1)) (eCall 2 F_law_some (aCons (eVar 0) (aCons (eLst (aCons (eC (.int 0)) (aCons (eC (.int 1)) (aCons (eC (.int 1)) (aCons (eC (.int 2)) (aCons (eC (.int 2)) (aCons (eC (.int 3)) (aCons (eC (.int 5)) aNil)))))))) aNil)))) (aCons (eTup aNil) aNil)) [some .cell, none, none, none, none, none, none, none, none] (cupD c) = some (.nx [some .cell, some (.int ((n + 1 : Nat) : Int)), some (.tup []), none, none, none, none, none, none], cupD c1) := by
    have : (1 : Int) + (n : Int) = ((n + 1 : Nat) : Int) := by omega
    simp [sSeq, sAsg, sIf, sRet, sNil, sDrop, sPar2, sPar3, sFor, sCellSet, sCellApp, sCellPut, sNever, eVar, eC, eOp, eB, eTup, eLst, aCons, aNil, eIf, eAnd, eOr, eNot, eChain, bAnd, bOr, bNot, bYes, eCB, eCall, eSl, oNone, oSome, eNeg, eIsi, eGet, eOne, eNoP, eBack, eLc, eUpd, eBoth, tName, tTup, tsCons, tsNil, bnd, ret, iSeq, iRng, iEn, iZp, iKey, defF, startD, bodyOut, wipeD, List.getElem?_cons_zero, List.getElem?_cons_succ, List.set_cons_zero, List.set_cons_succ, List.length_cons, List.length_nil, List.map_cons, List.map_nil, List.replicate_succ, List.replicate_zero, List.cons_append, List.nil_append, if_true, if_false, Bool.false_eq_true, reduceIte, Option.map_some, Option.map_none, Nat.reduceAdd, Nat.reduceSub, Nat.reduceEqDiff, lim_eq, e1, rAdd]
    omega
  have it : iRng (eVar 1) [some .cell, some (.int ((n + 1 : Nat) : Int)), some (.tup []), none, none, none, none, none, none] (cupD c1) = some ((List.range' 0 (n + 1)).map fun (i : Nat) => D.int i, cupD c1) := by
    have := rng_eval (fe := eVar 1) (ρ := [some .cell, some (.int ((n + 1 : Nat) : Int)), some (.tup []), none, none, none, none, none, none]) (s := cupD c1) (s' := cupD c1) (n := n + 1) rfl (by omega)
    rw [this, List.range_eq_range']
  have body : g_law_calm [some .cell, none, none, none, none, none, none, none, none] (cupD c) = some (.rt (enR r), cupD c2) := by
    unfold g_law_calm
    rw [seq_nx s1, seq_nx ((for_it it).trans run)]
    rfl
  unfold F_law_calm defF
  simp only [List.length_cons, List.length_nil, if_true]
  show bodyOut (g_law_calm [some .cell, none, none, none, none, none, none, none, none] (cupD c)) = _
  rw [body]
  rfl
end Pg
set_option Elab.async false
set_option linter.all false
set_option maxRecDepth 100000
set_option maxHeartbeats 4000000
/-! The pure part, u: drawn routines that rest. -/
namespace Pg
open PySem PySem.Spec PyProof.Rows L2

def hasAll (T : Tb) (p : Int) : Bool := (List.range 4).all fun (s : Nat) => (T.lookup (p, (s : Int))).isSome
theorem rests_post {T : Tb} (p : Int) (x2 : Option D) (st : D) : b2_law_rests [some (encL T), some (.int p), x2] st = if hasAll T p then some (.nx [some (encL T), some (.int p), x2], st) else some (.rt (.bl false), st) := by
  have c := lc_encF (tg := tName 2) (tt := t1_law_rests) (te := eVar 2) (ρ := wipeD [some (encL T), some (.int p), x2] [2]) (s := st) (fun (s : Nat) => D.int s) (fun (s : Nat) => D.int s) (fun s => (T.lookup (p, (s : Int))).isNone) (xs := List.range 4) fun s _ => ⟨_, rfl, by
    have look := lookup_map leE (p, (s : Int)) T
    cases h : T.lookup (p, (s : Int)) with
    | none =>
      rw [h] at look
      have look' : (T.map fun x => (x.1, leE x.2)).lookup (p, (s : Int)) = none := look
      simp [t1_law_rests, sSeq, sAsg, sIf, sRet, sNil, sDrop, sPar2, sPar3, sFor, sCellSet, sCellApp, sCellPut, sNever, eVar, eC, eOp, eB, eTup, eLst, aCons, aNil, eIf, eAnd, eOr, eNot, eChain, bAnd, bOr, bNot, bYes, eCB, eCall, eSl, oNone, oSome, eNeg, eIsi, eGet, eOne, eNoP, eBack, eLc, eUpd, eBoth, tName, tTup, tsCons, tsNil, bnd, ret, iSeq, iRng, iEn, iZp, iKey, defF, startD, bodyOut, wipeD, List.getElem?_cons_zero, List.getElem?_cons_succ, List.set_cons_zero, List.set_cons_succ, List.length_cons, List.length_nil, List.map_cons, List.map_nil, List.replicate_succ, List.replicate_zero, List.cons_append, List.nil_append, if_true, if_false, Bool.false_eq_true, reduceIte, Option.map_some, Option.map_none, Nat.reduceAdd, Nat.reduceSub, Nat.reduceEqDiff, lim_eq, wipeD, encL, rDNotIn, kinOf, dicOf, look']
    | some e =>
      rw [h] at look
      have look' : (T.map fun x => (x.1, leE x.2)).lookup (p, (s : Int)) = some (leE e) := look
      simp [t1_law_rests, sSeq, sAsg, sIf, sRet, sNil, sDrop, sPar2, sPar3, sFor, sCellSet, sCellApp, sCellPut, sNever, eVar, eC, eOp, eB, eTup, eLst, aCons, aNil, eIf, eAnd, eOr, eNot, eChain, bAnd, bOr, bNot, bYes, eCB, eCall, eSl, oNone, oSome, eNeg, eIsi, eGet, eOne, eNoP, eBack, eLc, eUpd, eBoth, tName, tTup, tsCons, tsNil, bnd, ret, iSeq, iRng, iEn, iZp, iKey, defF, startD, bodyOut, wipeD, List.getElem?_cons_zero, List.getElem?_cons_succ, List.set_cons_zero, List.set_cons_succ, List.length_cons, List.length_nil, List.map_cons, List.map_nil, List.replicate_succ, List.replicate_zero, List.cons_append, List.nil_append, if_true, if_false, Bool.false_eq_true, reduceIte, Option.map_some, Option.map_none, Nat.reduceAdd, Nat.reduceSub, Nat.reduceEqDiff, lim_eq, wipeD, encL, rDNotIn, kinOf, dicOf, look'], fun _ => rfl⟩
  have it : iSeq (eTup (aCons (eC (.int 0)) (aCons (eC (.int 1)) (aCons (eC (.int 2)) (aCons (eC (.int 3)) aNil))))) [some (encL T), some (.int p), x2] st = some ((List.range 4).map fun (i : Nat) => D.int i, st) := rfl
  have l4 : ((List.range 4).map fun (i : Nat) => D.int i).length ≤ lim := by rw [List.length_map, List.length_range, lim_eq]; omega
  have lc : eLc (iSeq (eTup (aCons (eC (.int 0)) (aCons (eC (.int 1)) (aCons (eC (.int 2)) (aCons (eC (.int 3)) aNil)))))) (tName 2) t1_law_rests (eVar 2) [2] [some (encL T), some (.int p), x2] st = some (.lst (((List.range 4).filter fun (s : Nat) => (T.lookup (p, (s : Int))).isNone).map fun (s : Nat) => D.int s), st) := by
    simp only [eLc, it, bnd_some, l4, if_true, c]
  have k := kEq_nilI (((List.range 4).filter fun (s : Nat) => (T.lookup (p, (s : Int))).isNone).map fun (s : Nat) => (s : Int))
  rw [List.map_map] at k
  have k' : kEq (.lst (((List.range 4).filter fun (s : Nat) => (T.lookup (p, (s : Int))).isNone).map fun (s : Nat) => D.int s)) (.lst []) = some (hasAll T p) := by
    refine (show _ = _ from k).trans ?_
    congr 1
    rw [Bool.eq_iff_iff, decide_eq_true_eq, List.map_eq_nil_iff, List.filter_eq_nil_iff]
    unfold hasAll
    rw [List.all_eq_true]
    refine ⟨fun h s hs => ?_, fun h s hs => ?_⟩
    · have := h s hs
      cases e : T.lookup (p, (s : Int)) with
      | none => rw [e] at this; simp at this
      | some x => rfl
    · have := h s hs
      cases e : T.lookup (p, (s : Int)) with
      | none => rw [e] at this; simp at this
      | some x => simp
  unfold b2_law_rests
  simp only [sIf, eB, eOp, lc, bnd_some]
  cases h : hasAll T p with
  | true =>
    rw [h] at k'
    simp [sSeq, sAsg, sIf, sRet, sNil, sDrop, sPar2, sPar3, sFor, sCellSet, sCellApp, sCellPut, sNever, eVar, eC, eOp, eB, eTup, eLst, aCons, aNil, eIf, eAnd, eOr, eNot, eChain, bAnd, bOr, bNot, bYes, eCB, eCall, eSl, oNone, oSome, eNeg, eIsi, eGet, eOne, eNoP, eBack, eLc, eUpd, eBoth, tName, tTup, tsCons, tsNil, bnd, ret, iSeq, iRng, iEn, iZp, iKey, defF, startD, bodyOut, wipeD, List.getElem?_cons_zero, List.getElem?_cons_succ, List.set_cons_zero, List.set_cons_succ, List.length_cons, List.length_nil, List.map_cons, List.map_nil, List.replicate_succ, List.replicate_zero, List.cons_append, List.nil_append, if_true, if_false, Bool.false_eq_true, reduceIte, Option.map_some, Option.map_none, Nat.reduceAdd, Nat.reduceSub, Nat.reduceEqDiff, lim_eq, rNe, k']
  | false =>
    rw [h] at k'
    simp [sSeq, sAsg, sIf, sRet, sNil, sDrop, sPar2, sPar3, sFor, sCellSet, sCellApp, sCellPut, sNever, eVar, eC, eOp, eB, eTup, eLst, aCons, aNil, eIf, eAnd, eOr, eNot, eChain, bAnd, bOr, bNot, bYes, eCB, eCall, eSl, oNone, oSome, eNeg, eIsi, eGet, eOne, eNoP, eBack, eLc, eUpd, eBoth, tName, tTup, tsCons, tsNil, bnd, ret, iSeq, iRng, iEn, iZp, iKey, defF, startD, bodyOut, wipeD, List.getElem?_cons_zero, List.getElem?_cons_succ, List.set_cons_zero, List.set_cons_succ, List.length_cons, List.length_nil, List.map_cons, List.map_nil, List.replicate_succ, List.replicate_zero, List.cons_append, List.nil_append, if_true, if_false, Bool.false_eq_true, reduceIte, Option.map_some, Option.map_none, Nat.reduceAdd, Nat.reduceSub, Nat.reduceEqDiff, lim_eq, rNe, k']
theorem law_rests_eq {n : Nat} (hn : 0 < n) (h6 : n ≤ 6) {T : Tb} (h : inPosts n T) (st : D) : F_law_rests [encL T] st = some (.bl ((ledT T).all (hasAll T)), st) := by
  have led := law_led_eq hn h6 h st
  have it : iSeq (eCall 1 F_law_led (aCons (eVar 0) aNil)) [some (encL T), none, none] st = some ((ledT T).map D.int, st) := by
    simp [sSeq, sAsg, sIf, sRet, sNil, sDrop, sPar2, sPar3, sFor, sCellSet, sCellApp, sCellPut, sNever, eVar, eC, eOp, eB, eTup, eLst, aCons, aNil, eIf, eAnd, eOr, eNot, eChain, bAnd, bOr, bNot, bYes, eCB, eCall, eSl, oNone, oSome, eNeg, eIsi, eGet, eOne, eNoP, eBack, eLc, eUpd, eBoth, tName, tTup, tsCons, tsNil, bnd, ret, iSeq, iRng, iEn, iZp, iKey, defF, startD, bodyOut, wipeD, List.getElem?_cons_zero, List.getElem?_cons_succ, List.set_cons_zero, List.set_cons_succ, List.length_cons, List.length_nil, List.map_cons, List.map_nil, List.replicate_succ, List.replicate_zero, List.cons_append, List.nil_append, if_true, if_false, Bool.false_eq_true, reduceIte, Option.map_some, Option.map_none, Nat.reduceAdd, Nat.reduceSub, Nat.reduceEqDiff, led]
  have fin : ∀ b : Bool, g_law_rests [some (encL T), none, none] st = some (.rt (.bl b), st) → (ledT T).all (hasAll T) = b → F_law_rests [encL T] st = some (.bl ((ledT T).all (hasAll T)), st) := fun b h e => by
    rw [e]
    unfold F_law_rests defF
    simp only [List.length_cons, List.length_nil, if_true]
    show bodyOut (g_law_rests [some (encL T), none, none] st) = _
    rw [h]
    rfl
  rcases for_test (tg := tName 1) (g := b2_law_rests) (s := st) D.int (hasAll T) (fun ρ => ∃ y1 y2, ρ = [some (encL T), y1, y2]) (xs := ledT T) (fun p _ ρ hρ => by
      obtain ⟨y1, y2, rfl⟩ := hρ
      have e := rests_post (T := T) p y2 st
      exact ⟨_, rfl, fun h => ⟨_, by rw [h] at e; exact e, _, _, rfl⟩, fun h => by rw [h] at e; exact e⟩) [some (encL T), none, none] ⟨_, _, rfl⟩ with ⟨a, ρ', run, y1, y2, rfl⟩ | ⟨a, run⟩
  · refine fin true ?_ a
    unfold g_law_rests
    rw [seq_nx ((for_it it).trans run)]
    rfl
  · refine fin false ?_ a
    unfold g_law_rests
    exact seq_rt ((for_it it).trans run)
theorem table_in {r : Rt} (h : rOk r) : inPosts r.length (tableT r) := fun k e z => ((table_good r).ends h k e z).1
theorem rest_of {r : Rt} (c : calm r) (h : ∀ p ∈ ledT (tableT r), ∀ s : Nat, s ≤ 3 → ∃ e, (tableT r).lookup (p, (s : Int)) = some e) : Rest r (tableT r) := ⟨c.ok, table_good r, h, calm_marks c (table_good r)⟩

/-! ### where the feet do not come to rest -/
def fallPost (post : List Mv) : List Mv := post.take 3 ++ match post[3]? with
  | some m => [⟨m.marks, [], -1⟩]
  | none => []
theorem calm_posts {r : Rt} (c : calm r) : ∀ post ∈ r, postOk r.length post := fun post hp => by
  obtain ⟨p, hp'⟩ := List.mem_iff_getElem?.mp hp
  refine ⟨c.ok.four post hp, c.ok.mv post hp, fun i m hi hm => c.low p i m ?_ hi⟩
  unfold mvAt
  rw [hp']
  exact hm
theorem fall_ok {n : Nat} (hn : 1 ≤ n) {post : List Mv} (h : postOk n post) : postOk n (fallPost post) ∧ ∃ m, (fallPost post)[3]? = some m ∧ m.here = -1 := by
  obtain ⟨h4, h1, h2⟩ := h
  match post, h4 with
  | [a, b, c, d], _ =>
    have e : fallPost [a, b, c, d] = [a, b, c, ⟨d.marks, [], -1⟩] := rfl
    rw [e]
    have hd := h1 d (by simp)
    refine ⟨⟨rfl, fun m hm => ?_, fun i m hi hm => ?_⟩, _, rfl, rfl⟩
    · simp only [List.mem_cons, List.not_mem_nil, or_false] at hm
      rcases hm with rfl | rfl | rfl | rfl
      · exact h1 _ (by simp)
      · exact h1 _ (by simp)
      · exact h1 _ (by simp)
      · exact ⟨hd.mk1, hd.mk2, Nat.zero_le _, (fun _ z => nomatch z), Int.le_refl _, by show (-1 : Int) < _; omega⟩
    · refine h2 i m hi ?_
      rcases (by omega : i = 0 ∨ i = 1 ∨ i = 2) with rfl | rfl | rfl <;> exact hm
theorem fall_calm {r : Rt} (c : calm r) : calm (r.map fallPost) := by
  refine calm_of (by rw [List.length_map]; exact c.ok.one) (by rw [List.length_map]; exact c.ok.six) fun post hp => ?_
  obtain ⟨q, hq, rfl⟩ := List.mem_map.mp hp
  rw [List.length_map]
  exact (fall_ok c.ok.one (calm_posts c q hq)).1
theorem fall_rest {r : Rt} (c : calm r) : Rest (r.map fallPost) (tableT (r.map fallPost)) := by
  have c' := fall_calm c
  refine rest_of c' fun p hp s hs => ?_
  have rg := (ledT_ok c'.ok.one (table_in c'.ok)).rg p hp
  obtain ⟨q, rfl⟩ : ∃ q : Nat, p = (q : Int) := ⟨p.toNat, by omega⟩
  have hq : q < (r.map fallPost).length := by omega
  rcases Nat.lt_or_ge s 3 with h | h
  · exact calm_has c' hq h
  · have : s = 3 := by omega
    subst this
    rw [List.length_map] at hq
    obtain ⟨m, hm, hh⟩ := (fall_ok c.ok.one (calm_posts c r[q] (List.getElem_mem hq))).2
    refine rest_has c'.ok (by rw [List.length_map]; exact hq) (by omega) (m := m) ?_ hh
    unfold mvAt
    rw [List.getElem?_map, List.getElem?_eq_getElem hq]
    exact hm
theorem fall_row {n : Nat} {post : List Mv} (h : postOk n post) (x0 x1 : Option D) (st : D) : e1_law_resting [x0, x1, some (enPost post)] st = some (enPost (fallPost post), st) := by
  obtain ⟨h4, _, _⟩ := h
  match post, h4 with
  | [a, b, c, d], _ =>
    have c1 := cut_to [enMv a, enMv b, enMv c, enMv d] 3
    have c1' : cutD [enMv a, enMv b, enMv c, enMv d] none (some 3) = [enMv a, enMv b, enMv c] := c1
    have i3 : L2.atI [enMv a, enMv b, enMv c, enMv d] 3 = some (enMv d) := rfl
    have ed : enMv d = .tup [tI d.marks, tI d.back, .int d.here] := rfl
    have e : fallPost [a, b, c, d] = [a, b, c, ⟨d.marks, [], -1⟩] := rfl
    rw [e]
    unfold enPost
    simp [e1_law_resting, sSeq, sAsg, sIf, sRet, sNil, sDrop, sPar2, sPar3, sFor, sCellSet, sCellApp, sCellPut, sNever, eVar, eC, eOp, eB, eTup, eLst, aCons, aNil, eIf, eAnd, eOr, eNot, eChain, bAnd, bOr, bNot, bYes, eCB, eCall, eSl, oNone, oSome, eNeg, eIsi, eGet, eOne, eNoP, eBack, eLc, eUpd, eBoth, tName, tTup, tsCons, tsNil, bnd, ret, iSeq, iRng, iEn, iZp, iKey, defF, startD, bodyOut, wipeD, List.getElem?_cons_zero, List.getElem?_cons_succ, List.set_cons_zero, List.set_cons_succ, List.length_cons, List.length_nil, List.map_cons, List.map_nil, List.replicate_succ, List.replicate_zero, List.cons_append, List.nil_append, if_true, if_false, Bool.false_eq_true, reduceIte, Option.map_some, Option.map_none, Nat.reduceAdd, Nat.reduceSub, Nat.reduceEqDiff, lim_eq, c1', rIx, seqOf, i3, rAdd]
    rw [ed]
    simp [atI0, enMv, tI]
theorem law_resting_eq {c : Cup} (h : cOk c) : ∃ (r : Rt) (c' : Cup), F_law_resting [.cell] (cupD c) = some (enR r, cupD c') ∧ Rest r (tableT r) ∧ cOk c' := by
  obtain ⟨r, c', e, hc, k⟩ := law_calm_eq h
  have tb := law_table_eq hc.ok (cupD c')
  have rs := law_rests_eq hc.ok.one hc.ok.six (table_in hc.ok) (cupD c')
  have s1 : sAsg (eCall 1 F_law_calm (aCons (eVar 0) aNil)) (tName 1) [some .cell, none, none] (cupD c) = some (.nx [some .cell, some (enR r), none], cupD c') := by
    simp [sSeq, sAsg, sIf, sRet, sNil, sDrop, sPar2, sPar3, sFor, sCellSet, sCellApp, sCellPut, sNever, eVar, eC, eOp, eB, eTup, eLst, aCons, aNil, eIf, eAnd, eOr, eNot, eChain, bAnd, bOr, bNot, bYes, eCB, eCall, eSl, oNone, oSome, eNeg, eIsi, eGet, eOne, eNoP, eBack, eLc, eUpd, eBoth, tName, tTup, tsCons, tsNil, bnd, ret, iSeq, iRng, iEn, iZp, iKey, defF, startD, bodyOut, wipeD, List.getElem?_cons_zero, List.getElem?_cons_succ, List.set_cons_zero, List.set_cons_succ, List.length_cons, List.length_nil, List.map_cons, List.map_nil, List.replicate_succ, List.replicate_zero, List.cons_append, List.nil_append, if_true, if_false, Bool.false_eq_true, reduceIte, Option.map_some, Option.map_none, Nat.reduceAdd, Nat.reduceSub, Nat.reduceEqDiff, e]
  have test : eB (eCall 1 F_law_rests (aCons (eCall 1 F_law_table (aCons (eVar 1) aNil)) aNil)) [some .cell, some (enR r), none] (cupD c') = some ((ledT (tableT r)).all (hasAll (tableT r)), cupD c') := by
    simp [sSeq, sAsg, sIf, sRet, sNil, sDrop, sPar2, sPar3, sFor, sCellSet, sCellApp, sCellPut, sNever, eVar, eC, eOp, eB, eTup, eLst, aCons, aNil, eIf, eAnd, eOr, eNot, eChain, bAnd, bOr, bNot, bYes, eCB, eCall, eSl, oNone, oSome, eNeg, eIsi, eGet, eOne, eNoP, eBack, eLc, eUpd, eBoth, tName, tTup, tsCons, tsNil, bnd, ret, iSeq, iRng, iEn, iZp, iKey, defF, startD, bodyOut, wipeD, List.getElem?_cons_zero, List.getElem?_cons_succ, List.set_cons_zero, List.set_cons_succ, List.length_cons, List.length_nil, List.map_cons, List.map_nil, List.replicate_succ, List.replicate_zero, List.cons_append, List.nil_append, if_true, if_false, Bool.false_eq_true, reduceIte, Option.map_some, Option.map_none, Nat.reduceAdd, Nat.reduceSub, Nat.reduceEqDiff, tb, rs]
  have out : ∀ r', g_law_resting [some .cell, none, none] (cupD c) = some (.rt (enR r'), cupD c') → F_law_resting [.cell] (cupD c) = some (enR r', cupD c') := fun r' h => by
    unfold F_law_resting defF
    simp only [List.length_cons, List.length_nil, if_true]
    show bodyOut (g_law_resting [some .cell, none, none] (cupD c)) = _
    rw [h]
    rfl
  cases hb : (ledT (tableT r)).all (hasAll (tableT r)) with
  | true =>
    rw [hb] at test
    refine ⟨r, c', out r ?_, rest_of hc fun p hp s hs => ?_, k⟩
    · unfold g_law_resting
      rw [seq_nx s1]
      refine seq_rt ?_
      unfold sIf
      rw [test]
      rfl
    · have := List.all_eq_true.mp hb p hp
      unfold hasAll at this
      have := List.all_eq_true.mp this s (List.mem_range.mpr (by omega))
      exact Option.isSome_iff_exists.mp this
  | false =>
    rw [hb] at test
    refine ⟨r.map fallPost, c', out _ ?_, fall_rest hc, k⟩
    have s2 : sIf (eB (eCall 1 F_law_rests (aCons (eCall 1 F_law_table (aCons (eVar 1) aNil)) aNil))) (sRet (eVar 1)) sNil [some .cell, some (enR r), none] (cupD c') = some (.nx [some .cell, some (enR r), none], cupD c') := by
      unfold sIf
      rw [test]
      rfl
    have cc := lc_enc (tg := tName 2) (te := e1_law_resting) (ρ := wipeD [some .cell, some (enR r), none] [2]) (s := cupD c') enPost (fun post => enPost (fallPost post)) (xs := r) fun post hp => ⟨_, rfl, fall_row (calm_posts hc post hp) _ _ _⟩
    have it : iSeq (eVar 1) [some .cell, some (enR r), none] (cupD c') = some (r.map enPost, cupD c') := rfl
    have l1 : (r.map enPost).length ≤ lim := by
      have := hc.ok.six
      rw [List.length_map, lim_eq]
      omega
    have lc : eCB rTuple (aCons (eLc (iSeq (eVar 1)) (tName 2) bYes e1_law_resting [2]) aNil) [some .cell, some (enR r), none] (cupD c') = some (enR (r.map fallPost), cupD c') := by
      simp only [eCB, aCons, aNil, eLc, it, bnd_some, l1, if_true, cc, rTuple, ret]
      unfold enR
      rw [List.map_map]
      rfl
    unfold g_law_resting
    rw [seq_nx s1, seq_nx s2]
    unfold sRet
    rw [lc]
    rfl
end Pg
set_option Elab.async false
set_option linter.all false
set_option maxRecDepth 100000
set_option maxHeartbeats 4000000
/-! The pure part, v: values near a paper. -/
namespace Pg
open PySem PySem.Spec PyProof.Rows L2

theorem if_yes {b : EB} {g h : ES} {ρ : Env} {s s1 : D} (e : b ρ s = some (true, s1)) : sIf b g h ρ s = g ρ s1 := by
  unfold sIf
  rw [e]
  rfl
theorem if_no {b : EB} {g h : ES} {ρ : Env} {s s1 : D} (e : b ρ s = some (false, s1)) : sIf b g h ρ s = h ρ s1 := by
  unfold sIf
  rw [e]
  rfl
theorem near_odd {v1 v2 : List Sta} {n : Nat} {x : D} (hl : v1.length + v2.length ≤ 900) (hx : x ∈ [D.tup [.bl true, .int 0], .tup [.int 0, .bl true], .tup [.int (-2), .int 0], .tup [.int 6, .int 0], .tup [.int 0, .int ((n : Int) + 1)], .tup [.int 0, .int (-1)], .tup [.str "0", .int 0], .lst [.int 0, .int 0]]) : Val (.tup (v1.map dPr ++ x :: v2.map dPr)) := by
  have pr : ∀ a b : Int, Val (.tup (v1.map dPr ++ .tup [.int a, .int b] :: v2.map dPr)) := fun a b => by
    have e : v1.map dPr ++ .tup [.int a, .int b] :: v2.map dPr = (v1 ++ (a, b) :: v2).map dPr := by
      rw [List.map_append, List.map_cons]
      rfl
    rw [e]
    exact .pairs _ (by rw [List.length_append, List.length_cons]; omega)
  simp only [List.mem_cons, List.not_mem_nil, or_false] at hx
  rcases hx with rfl | rfl | rfl | rfl | rfl | rfl | rfl | rfl
  · exact .odd v1 v2 _ _ (.inl ⟨rfl, rfl⟩) (by omega)
  · exact .odd v1 v2 _ _ (.inr (.inl ⟨rfl, rfl⟩)) (by omega)
  · exact pr _ _
  · exact pr _ _
  · exact pr _ _
  · exact pr _ _
  · exact .odd v1 v2 _ _ (.inr (.inr ⟨rfl, rfl⟩)) (by omega)
  · exact .bad v1 v2 _ (.inr (.inr ⟨0, 0, rfl⟩)) (by omega)
theorem law_near_eq {T : Tb} {marks : List Int} (h9 : marks.length ≤ 9) {v : List Sta} (h0 : v ≠ []) (hv : v.length ≤ 70) (hb : v.all inBox = true) {c : Cup} (h : cOk c) : ∃ (x : D) (c' : Cup), F_law_near [.cell, encL T, tI marks, .tup (v.map dPr)] (cupD c) = some (x, cupD c') ∧ Val x ∧ cOk c' := by
  have hl : 0 < v.length := List.length_pos_iff.mpr h0
  obtain ⟨a0, c1, e1, a1, a2, k1⟩ := law_roll_eq h (m := (v.length : Int)) (by omega) (by omega)
  obtain ⟨a, rfl⟩ : ∃ a : Nat, a0 = (a : Int) := ⟨a0.toNat, by omega⟩
  obtain ⟨w, c2, e2, w1, w2, k2⟩ := law_roll_eq k1 (m := 8) (by omega) (by omega)
  have ha : a < v.length := by omega
  have s1 : sPar2 4 5 (aCons (eCall 2 F_law_roll (aCons (eVar 0) (aCons (eCB rLen2 (aCons (eVar 3) aNil)) aNil))) (aCons (eCall 2 F_law_roll (aCons (eVar 0) (aCons (eC (.int 8)) aNil))) aNil)) [some .cell, some (encL T), some (tI marks), some (.tup (v.map dPr)), none, none, none, none, none] (cupD c) =
      some (.nx [some .cell, some (encL T), some (tI marks), some (.tup (v.map dPr)), some (.int a), some (.int w), none, none, none], cupD c2) := by
    simp [sSeq, sAsg, sIf, sRet, sNil, sDrop, sPar2, sPar3, sFor, sCellSet, sCellApp, sCellPut, sNever, eVar, eC, eOp, eB, eTup, eLst, aCons, aNil, eIf, eAnd, eOr, eNot, eChain, bAnd, bOr, bNot, bYes, eCB, eCall, eSl, oNone, oSome, eNeg, eIsi, eGet, eOne, eNoP, eBack, eLc, eUpd, eBoth, tName, tTup, tsCons, tsNil, bnd, ret, iSeq, iRng, iEn, iZp, iKey, defF, startD, bodyOut, wipeD, List.getElem?_cons_zero, List.getElem?_cons_succ, List.set_cons_zero, List.set_cons_succ, List.length_cons, List.length_nil, List.map_cons, List.map_nil, List.replicate_succ, List.replicate_zero, List.cons_append, List.nil_append, if_true, if_false, Bool.false_eq_true, reduceIte, Option.map_some, Option.map_none, Nat.reduceAdd, Nat.reduceSub, Nat.reduceEqDiff, rLen2, e1, e2]
  have tst : ∀ k : Int, eB (eOp rEq (eVar 5) (eC (.int k))) [some .cell, some (encL T), some (tI marks), some (.tup (v.map dPr)), some (.int a), some (.int w), none, none, none] (cupD c2) = some (decide (w = k), cupD c2) := fun k => by
    simp [sSeq, sAsg, sIf, sRet, sNil, sDrop, sPar2, sPar3, sFor, sCellSet, sCellApp, sCellPut, sNever, eVar, eC, eOp, eB, eTup, eLst, aCons, aNil, eIf, eAnd, eOr, eNot, eChain, bAnd, bOr, bNot, bYes, eCB, eCall, eSl, oNone, oSome, eNeg, eIsi, eGet, eOne, eNoP, eBack, eLc, eUpd, eBoth, tName, tTup, tsCons, tsNil, bnd, ret, iSeq, iRng, iEn, iZp, iKey, defF, startD, bodyOut, wipeD, List.getElem?_cons_zero, List.getElem?_cons_succ, List.set_cons_zero, List.set_cons_succ, List.length_cons, List.length_nil, List.map_cons, List.map_nil, List.replicate_succ, List.replicate_zero, List.cons_append, List.nil_append, if_true, if_false, Bool.false_eq_true, reduceIte, Option.map_some, Option.map_none, Nat.reduceAdd, Nat.reduceSub, Nat.reduceEqDiff, rEq, kEq_int]
  have no : ∀ k : Int, w ≠ k → ∀ (g : ES), sIf (eB (eOp rEq (eVar 5) (eC (.int k)))) g sNil [some .cell, some (encL T), some (tI marks), some (.tup (v.map dPr)), some (.int a), some (.int w), none, none, none] (cupD c2) = some (.nx [some .cell, some (encL T), some (tI marks), some (.tup (v.map dPr)), some (.int a), some (.int w), none, none, none], cupD c2) := fun k hk g =>
    (if_no (by rw [tst, decide_eq_false hk])).trans rfl
  have yes : ∀ k : Int, w = k → ∀ (g : ES), sIf (eB (eOp rEq (eVar 5) (eC (.int k)))) g sNil [some .cell, some (encL T), some (tI marks), some (.tup (v.map dPr)), some (.int a), some (.int w), none, none, none] (cupD c2) = g [some .cell, some (encL T), some (tI marks), some (.tup (v.map dPr)), some (.int a), some (.int w), none, none, none] (cupD c2) := fun k hk g =>
    if_yes (by rw [tst, decide_eq_true hk])
  have out : ∀ (x : D) (s : D), g_law_near [some .cell, some (encL T), some (tI marks), some (.tup (v.map dPr)), none, none, none, none, none] (cupD c) = some (.rt x, s) → F_law_near [.cell, encL T, tI marks, .tup (v.map dPr)] (cupD c) = some (x, s) := fun x s h => by
    unfold F_law_near defF
    simp only [List.length_cons, List.length_nil, if_true]
    show bodyOut (g_law_near [some .cell, some (encL T), some (tI marks), some (.tup (v.map dPr)), none, none, none, none, none] (cupD c)) = _
    rw [h]
    rfl
  have cto : cutD (v.map dPr) none (some (a : Int)) = (v.take a).map dPr := (cut_to _ a).trans List.map_take.symm
  have cfrom : cutD (v.map dPr) (some ((a : Int) + 1)) none = (v.drop (a + 1)).map dPr := by
    have := (cut_from (v.map dPr) (a + 1)).trans List.map_drop.symm
    rwa [show ((a + 1 : Nat) : Int) = (a : Int) + 1 by omega] at this
  have cone : cutD (v.map dPr) (some (a : Int)) (some ((a : Int) + 1)) = ((v.drop a).take 1).map dPr := by
    have := cut_both (v.map dPr) a (a + 1) (by omega)
    rw [show ((a + 1 : Nat) : Int) = (a : Int) + 1 by omega, show a + 1 - a = 1 by omega] at this
    rw [this, List.map_take, List.map_drop]
  have lt : (v.take a).length ≤ 70 := Nat.le_trans (List.length_take_le _ _) (by omega)
  have lt' : (v.take a).length = a := by rw [List.length_take]; omega
  have ld : (v.drop (a + 1)).length = v.length - (a + 1) := List.length_drop
  by_cases q0 : w = 0
  · refine ⟨.tup ((v.take a ++ v.drop (a + 1)).map dPr), c2, out _ _ ?_, .pairs _ (by rw [List.length_append]; omega), k2⟩
    unfold g_law_near
    rw [seq_nx s1]
    refine seq_rt ((yes 0 q0 _).trans ?_)
    have l1 : ((v.take a).map dPr).length + ((v.drop (a + 1)).map dPr).length ≤ 100000 := by
      rw [List.length_map, List.length_map]
      omega
    simp only [sSeq, sAsg, sIf, sRet, sNil, sDrop, sPar2, sPar3, sFor, sCellSet, sCellApp, sCellPut, sNever, eVar, eC, eOp, eB, eTup, eLst, aCons, aNil, eIf, eAnd, eOr, eNot, eChain, bAnd, bOr, bNot, bYes, eCB, eCall, eSl, oNone, oSome, eNeg, eIsi, eGet, eOne, eNoP, eBack, eLc, eUpd, eBoth, tName, tTup, tsCons, tsNil, bnd, ret, iSeq, iRng, iEn, iZp, iKey, defF, startD, bodyOut, wipeD, List.getElem?_cons_zero, List.getElem?_cons_succ, List.set_cons_zero, List.set_cons_succ, List.length_cons, List.length_nil, List.map_cons, List.map_nil, List.replicate_succ, List.replicate_zero, List.cons_append, List.nil_append, if_true, if_false, Bool.false_eq_true, reduceIte, Option.map_some, Option.map_none, Nat.reduceAdd, Nat.reduceSub, Nat.reduceEqDiff, rAdd, cto, cfrom, lim_eq, l1, List.map_append]
  by_cases q1 : w = 1
  · refine ⟨.tup ((v ++ (v.drop a).take 1).map dPr), c2, out _ _ ?_, .pairs _ (by rw [List.length_append, List.length_take]; omega), k2⟩
    unfold g_law_near
    rw [seq_nx s1, seq_nx (no 0 q0 _)]
    refine seq_rt ((yes 1 q1 _).trans ?_)
    have l1 : (v.map dPr).length + (((v.drop a).take 1).map dPr).length ≤ 100000 := by
      rw [List.length_map, List.length_map, List.length_take]
      omega
    simp only [sSeq, sAsg, sIf, sRet, sNil, sDrop, sPar2, sPar3, sFor, sCellSet, sCellApp, sCellPut, sNever, eVar, eC, eOp, eB, eTup, eLst, aCons, aNil, eIf, eAnd, eOr, eNot, eChain, bAnd, bOr, bNot, bYes, eCB, eCall, eSl, oNone, oSome, eNeg, eIsi, eGet, eOne, eNoP, eBack, eLc, eUpd, eBoth, tName, tTup, tsCons, tsNil, bnd, ret, iSeq, iRng, iEn, iZp, iKey, defF, startD, bodyOut, wipeD, List.getElem?_cons_zero, List.getElem?_cons_succ, List.set_cons_zero, List.set_cons_succ, List.length_cons, List.length_nil, List.map_cons, List.map_nil, List.replicate_succ, List.replicate_zero, List.cons_append, List.nil_append, if_true, if_false, Bool.false_eq_true, reduceIte, Option.map_some, Option.map_none, Nat.reduceAdd, Nat.reduceSub, Nat.reduceEqDiff, rAdd, cone, lim_eq, l1, List.map_append]
  by_cases q2 : w = 2
  · obtain ⟨x, c3, e3, hx, k3⟩ := law_some_eq k2 (xs := [.tup ((v.map dPr).reverse), .lst (v.map dPr), .tup (v.map dPr ++ [.non]), .tup ((v.take a).map dPr ++ (.tup [.int (v[a]).1, .int (v[a]).2, .int 0] :: (v.drop (a + 1)).map dPr))]) (by simp) (by simp)
    refine ⟨x, c3, out _ _ ?_, ?_, k3⟩
    · unfold g_law_near
      rw [seq_nx s1, seq_nx (no 0 q0 _), seq_nx (no 1 q1 _)]
      refine seq_rt ((yes 2 q2 _).trans ?_)
      have ix := atI_nat (v.map dPr) a
      rw [List.getElem?_map, List.getElem?_eq_getElem ha, Option.map_some] at ix
      have ix' : L2.atI (v.map dPr) (a : Int) = some (.tup [.int (v[a]).1, .int (v[a]).2]) := ix
      have l1 : v.length ≤ 99999 := by omega
      have m1 : ((v.take a).map dPr).length ≤ 99999 := by rw [List.length_map]; omega
      have m2 : ((v.take a).map dPr).length + 1 + ((v.drop (a + 1)).map dPr).length ≤ 100000 := by rw [List.length_map, List.length_map]; omega
      generalize hA : (v.take a).map dPr = A at *
      generalize hB : (v.drop (a + 1)).map dPr = B at *
      simp [sSeq, sAsg, sIf, sRet, sNil, sDrop, sPar2, sPar3, sFor, sCellSet, sCellApp, sCellPut, sNever, eVar, eC, eOp, eB, eTup, eLst, aCons, aNil, eIf, eAnd, eOr, eNot, eChain, bAnd, bOr, bNot, bYes, eCB, eCall, eSl, oNone, oSome, eNeg, eIsi, eGet, eOne, eNoP, eBack, eLc, eUpd, eBoth, tName, tTup, tsCons, tsNil, bnd, ret, iSeq, iRng, iEn, iZp, iKey, defF, startD, bodyOut, wipeD, List.getElem?_cons_zero, List.getElem?_cons_succ, List.set_cons_zero, List.set_cons_succ, List.length_cons, List.length_nil, List.map_cons, List.map_nil, List.replicate_succ, List.replicate_zero, List.cons_append, List.nil_append, if_true, if_false, Bool.false_eq_true, reduceIte, Option.map_some, Option.map_none, Nat.reduceAdd, Nat.reduceSub, Nat.reduceEqDiff, rList, rAdd, lim_eq, l1, rIx, seqOf, ix', cto, cfrom, m1, m2, e3]
    · simp only [List.mem_cons, List.not_mem_nil, or_false] at hx
      rcases hx with rfl | rfl | rfl | rfl
      · rw [← List.map_reverse]
        exact .pairs _ (by rw [List.length_reverse]; omega)
      · exact .lst _
      · exact .bad v [] _ (.inl rfl) (by simp; omega)
      · exact .bad _ _ _ (.inr (.inl ⟨_, _, _, rfl⟩)) (by omega)
  by_cases q3 : w = 3
  · obtain ⟨x, c3, e3, hx, k3⟩ := law_some_eq k2 (xs := [D.tup [.bl true, .int 0], .tup [.int 0, .bl true], .tup [.int (-2), .int 0], .tup [.int 6, .int 0], .tup [.int 0, .int ((marks.length : Int) + 1)], .tup [.int 0, .int (-1)], .tup [.str "0", .int 0], .lst [.int 0, .int 0]]) (by simp) (by simp)
    refine ⟨.tup ((v.take a).map dPr ++ x :: (v.drop (a + 1)).map dPr), c3, out _ _ ?_, near_odd (by omega) hx, k3⟩
    unfold g_law_near
    rw [seq_nx s1, seq_nx (no 0 q0 _), seq_nx (no 1 q1 _), seq_nx (no 2 q2 _)]
    refine seq_rt ((yes 3 q3 _).trans ?_)
    have m1 : ((v.take a).map dPr).length ≤ 99999 := by rw [List.length_map]; omega
    have m2 : ((v.take a).map dPr).length + 1 + ((v.drop (a + 1)).map dPr).length ≤ 100000 := by rw [List.length_map, List.length_map]; omega
    generalize hA : (v.take a).map dPr = A at *
    generalize hB : (v.drop (a + 1)).map dPr = B at *
    unfold tI
    simp [sSeq, sAsg, sIf, sRet, sNil, sDrop, sPar2, sPar3, sFor, sCellSet, sCellApp, sCellPut, sNever, eVar, eC, eOp, eB, eTup, eLst, aCons, aNil, eIf, eAnd, eOr, eNot, eChain, bAnd, bOr, bNot, bYes, eCB, eCall, eSl, oNone, oSome, eNeg, eIsi, eGet, eOne, eNoP, eBack, eLc, eUpd, eBoth, tName, tTup, tsCons, tsNil, bnd, ret, iSeq, iRng, iEn, iZp, iKey, defF, startD, bodyOut, wipeD, List.getElem?_cons_zero, List.getElem?_cons_succ, List.set_cons_zero, List.set_cons_succ, List.length_cons, List.length_nil, List.map_cons, List.map_nil, List.replicate_succ, List.replicate_zero, List.cons_append, List.nil_append, if_true, if_false, Bool.false_eq_true, reduceIte, Option.map_some, Option.map_none, Nat.reduceAdd, Nat.reduceSub, Nat.reduceEqDiff, rLen2, rAdd, lim_eq, e3, cto, cfrom, m1, m2]
  · obtain ⟨u, c3, e3, u0, u1, k3⟩ := law_roll_eq k2 (m := 2) (by omega) (by omega)
    obtain ⟨n, rfl⟩ : ∃ n : Nat, u = (n : Int) := ⟨u.toNat, by omega⟩
    obtain ⟨ys, c4, p1, p2, p3, p4⟩ := lc_cup (tg := tName 8) (te := e1_law_near) (ρ := wipeD [some .cell, some (encL T), some (tI marks), some (.tup (v.map dPr)), some (.int a), some (.int w), none, none, none] [8]) (fun y => ∃ q : Sta, y = dPr q ∧ inBox q = true) (fun x c hc => by
      obtain ⟨y, c5, f1, hy, g1⟩ := law_some_eq hc (xs := [.int (-1), .int 0, .int 1, .int 2]) (by simp) (by simp)
      obtain ⟨z, c6, f2, z0, z1, g2⟩ := law_roll_eq g1 (m := (marks.length : Int) + 1) (by omega) (by omega)
      obtain ⟨i, rfl, i0, i1⟩ : ∃ i : Int, y = .int i ∧ -1 ≤ i ∧ i ≤ 2 := by
        simp only [List.mem_cons, List.not_mem_nil, or_false] at hy
        rcases hy with rfl | rfl | rfl | rfl
        · exact ⟨-1, rfl, by omega, by omega⟩
        · exact ⟨0, rfl, by omega, by omega⟩
        · exact ⟨1, rfl, by omega, by omega⟩
        · exact ⟨2, rfl, by omega, by omega⟩
      refine ⟨_, dPr (i, z), c6, rfl, ?_, ⟨(i, z), rfl, ?_⟩, g2⟩
      · unfold tI
        simp [e1_law_near, sSeq, sAsg, sIf, sRet, sNil, sDrop, sPar2, sPar3, sFor, sCellSet, sCellApp, sCellPut, sNever, eVar, eC, eOp, eB, eTup, eLst, aCons, aNil, eIf, eAnd, eOr, eNot, eChain, bAnd, bOr, bNot, bYes, eCB, eCall, eSl, oNone, oSome, eNeg, eIsi, eGet, eOne, eNoP, eBack, eLc, eUpd, eBoth, tName, tTup, tsCons, tsNil, bnd, ret, iSeq, iRng, iEn, iZp, iKey, defF, startD, bodyOut, wipeD, List.getElem?_cons_zero, List.getElem?_cons_succ, List.set_cons_zero, List.set_cons_succ, List.length_cons, List.length_nil, List.map_cons, List.map_nil, List.replicate_succ, List.replicate_zero, List.cons_append, List.nil_append, if_true, if_false, Bool.false_eq_true, reduceIte, Option.map_some, Option.map_none, Nat.reduceAdd, Nat.reduceSub, Nat.reduceEqDiff, lim_eq, wipeD, f1, rLen2, rAdd, f2, dPr]
      · unfold inBox
        simp only [Bool.and_eq_true, decide_eq_true_eq]
        omega) ((List.range (1 + n)).map fun (i : Nat) => D.int i) c3 k3
    obtain ⟨l, rfl, hl2⟩ := of_all dPr _ p2
    rw [List.length_map, List.length_map, List.length_range] at p3
    have n1 : n ≤ 1 := by omega
    have ll : ∀ m : List Sta, (onceP m).length ≤ m.length := by
      intro m
      induction m with
      | nil => exact Nat.le_refl _
      | cons x m ih =>
        unfold onceP
        split
        · rw [List.length_cons]
          omega
        · rw [List.length_cons, List.length_cons]
          omega
    refine ⟨.tup ((sortOnce (v ++ l)).map dPr), c4, out _ _ ?_, .pairs _ ?_, p4⟩
    · unfold g_law_near
      rw [seq_nx s1, seq_nx (no 0 q0 _), seq_nx (no 1 q1 _), seq_nx (no 2 q2 _), seq_nx (no 3 q3 _)]
      have it : iRng (eOp rAdd (eC (.int 1)) (eCall 2 F_law_roll (aCons (eVar 0) (aCons (eC (.int 2)) aNil)))) [some .cell, some (encL T), some (tI marks), some (.tup (v.map dPr)), some (.int a), some (.int w), none, none, none] (cupD c2) = some ((List.range (1 + n)).map fun (i : Nat) => D.int i, cupD c3) := rng_eval (n := 1 + n) (by
        have : (1 : Int) + (n : Int) = ((1 + n : Nat) : Int) := by omega
        simp [sSeq, sAsg, sIf, sRet, sNil, sDrop, sPar2, sPar3, sFor, sCellSet, sCellApp, sCellPut, sNever, eVar, eC, eOp, eB, eTup, eLst, aCons, aNil, eIf, eAnd, eOr, eNot, eChain, bAnd, bOr, bNot, bYes, eCB, eCall, eSl, oNone, oSome, eNeg, eIsi, eGet, eOne, eNoP, eBack, eLc, eUpd, eBoth, tName, tTup, tsCons, tsNil, bnd, ret, iSeq, iRng, iEn, iZp, iKey, defF, startD, bodyOut, wipeD, List.getElem?_cons_zero, List.getElem?_cons_succ, List.set_cons_zero, List.set_cons_succ, List.length_cons, List.length_nil, List.map_cons, List.map_nil, List.replicate_succ, List.replicate_zero, List.cons_append, List.nil_append, if_true, if_false, Bool.false_eq_true, reduceIte, Option.map_some, Option.map_none, Nat.reduceAdd, Nat.reduceSub, Nat.reduceEqDiff, e3, rAdd]) (by omega)
      have l1 : ((List.range (1 + n)).map fun (i : Nat) => D.int i).length ≤ lim := by
        rw [List.length_map, List.length_range, lim_eq]
        omega
      have t1 : sAsg (eLc (iRng (eOp rAdd (eC (.int 1)) (eCall 2 F_law_roll (aCons (eVar 0) (aCons (eC (.int 2)) aNil))))) (tName 8) bYes e1_law_near [8]) (tName 7) [some .cell, some (encL T), some (tI marks), some (.tup (v.map dPr)), some (.int a), some (.int w), none, none, none] (cupD c2) =
          some (.nx [some .cell, some (encL T), some (tI marks), some (.tup (v.map dPr)), some (.int a), some (.int w), none, some (.lst (l.map dPr)), none], cupD c4) := by
        simp only [sAsg, eLc, it, bnd_some, l1, if_true, p1]
        rfl
      rw [seq_nx t1]
      have al : (v ++ l).all inBox = true := by
        rw [List.all_append, hb, Bool.true_and, List.all_eq_true]
        exact hl2
      have pi : prI? (v.map dPr ++ l.map dPr) = some (v ++ l) := by
        rw [← List.map_append]
        exact prI?_map (v ++ l)
      have l2 : (v.map dPr).length + (l.map dPr).length ≤ lim := by
        rw [List.length_map, List.length_map, lim_eq]
        omega
      simp only [sRet, eCB, aCons, aNil, eSS, eOp, eVar, List.getElem?_cons_zero, List.getElem?_cons_succ, bnd_some, rList, ret, rAdd, l2, if_true, pi, al, rTuple]
      rfl
    · unfold sortOnce
      rw [(srtP_perm _).length_eq]
      have := ll (v ++ l)
      rw [List.length_append] at this
      omega
end Pg
set_option Elab.async false
set_option linter.all false
set_option maxRecDepth 100000
set_option maxHeartbeats 4000000
/-! The pure part, w: one question of the law. -/
namespace Pg
open PySem PySem.Spec PyProof.Rows L2

theorem kEq_bl (a b : Bool) : kEq (.bl a) (.bl b) = some (a == b) := rfl
theorem not_paper {T : Tb} {marks : List Int} {v : List Int} (h : Told T marks (some v)) : papB T marks [(0, 0)] = false := by
  cases e : papB T marks [(0, 0)] with
  | false => rfl
  | true =>
    exfalso
    have P := papB_iff.mp e
    obtain ⟨q, hr, hh, _⟩ := h
    have key : ∀ {w : List Int} {q : Sta}, Reach T marks w q → q ∈ [((0, 0) : Sta)] := by
      intro w q h
      induction h with
      | nil => exact P.zero
      | snoc _ hx ih => exact P.closed _ ih _ hx
    have := P.nohit q (key hr)
    rw [hh] at this
    cases this
theorem law_right_eq {r : Rt} (R : Rest r (tableT r)) {marks : List Int} (hm : sortsOk marks) (h9 : marks.length ≤ 9) {c : Cup} (h : cOk c) : ∃ c' : Cup, F_law_right [.cell, enR r, tI marks] (cupD c) = some (.bl true, cupD c') ∧ cOk c' := by
  have tb := law_table_eq R.ok (cupD c)
  obtain ⟨o, ho, hs⟩ := handing_stack_eq R hm h9 (cupD c)
  have out : ∀ (s : D), g_law_right [some .cell, some (enR r), some (tI marks), none, none, none, none, none, none] (cupD c) = some (.rt (.bl true), s) → F_law_right [.cell, enR r, tI marks] (cupD c) = some (.bl true, s) := fun s h => by
    unfold F_law_right defF
    simp only [List.length_cons, List.length_nil, if_true]
    show bodyOut (g_law_right [some .cell, some (enR r), some (tI marks), none, none, none, none, none, none] (cupD c)) = _
    rw [h]
    rfl
  have s1 : ∀ x y : D, F_none_paper [enR r, tI marks] (cupD c) = some (x, cupD c) → F_handing_stack [enR r, tI marks] (cupD c) = some (y, cupD c) → sPar3 3 4 5 (aCons (eCall 1 F_law_table (aCons (eVar 1) aNil)) (aCons (eCall 2 F_none_paper (aCons (eVar 1) (aCons (eVar 2) aNil))) (aCons (eCall 2 F_handing_stack (aCons (eVar 1) (aCons (eVar 2) aNil))) aNil))) [some .cell, some (enR r), some (tI marks), none, none, none, none, none, none] (cupD c) =
      some (.nx [some .cell, some (enR r), some (tI marks), some (encL (tableT r)), some x, some y, none, none, none], cupD c) := fun x y h1 h2 => by
    simp [sSeq, sAsg, sIf, sRet, sNil, sDrop, sPar2, sPar3, sFor, sCellSet, sCellApp, sCellPut, sNever, eVar, eC, eOp, eB, eTup, eLst, aCons, aNil, eIf, eAnd, eOr, eNot, eChain, bAnd, bOr, bNot, bYes, eCB, eCall, eSl, oNone, oSome, eNeg, eIsi, eGet, eOne, eNoP, eBack, eLc, eUpd, eBoth, tName, tTup, tsCons, tsNil, bnd, ret, iSeq, iRng, iEn, iZp, iKey, defF, startD, bodyOut, wipeD, List.getElem?_cons_zero, List.getElem?_cons_succ, List.set_cons_zero, List.set_cons_succ, List.length_cons, List.length_nil, List.map_cons, List.map_nil, List.replicate_succ, List.replicate_zero, List.cons_append, List.nil_append, if_true, if_false, Bool.false_eq_true, reduceIte, Option.map_some, Option.map_none, Nat.reduceAdd, Nat.reduceSub, Nat.reduceEqDiff, tb, h1, h2]
  rcases none_paper_eq R hm h9 (cupD c) with ⟨v2, hv2, np⟩ | ⟨v, hn, P, hv, hne, np⟩
  · cases o with
    | none =>
      exfalso
      obtain ⟨q, hr, hh, _⟩ := hv2
      have := ho _ _ hr
      rw [hh] at this
      cases this
    | some w =>
      have wl : w.length ≤ 70 := by
        obtain ⟨q, _, _, _, hl⟩ := ho
        exact hl
      refine ⟨c, out _ ?_, h⟩
      have isn := is_none_pairs R hm h9 [(0, 0)] (by simp) (cupD c)
      rw [not_paper ho] at isn
      have isn' : F_is_none_paper [enR r, tI marks, .tup [.tup [.int 0, .int 0]]] (cupD c) = some (.bl false, cupD c) := isn
      have td := law_told_eq ((table_good r).small R.ok) (v := w) (by omega) (cupD c)
      obtain ⟨e, he, em⟩ := told_marks R h9 ho
      rw [he] at td
      have td' : F_law_told [encL (tableT r), tI w] (cupD c) = some (.tup [.str "rest", tI e.marks, tI e.left, .int e.turns], cupD c) := td
      have i1 : L2.atI [D.str "rest", tI e.marks, tI e.left, D.int e.turns] 1 = some (tI e.marks) := rfl
      have ke := kEq_tI e.marks marks
      rw [decide_eq_true em] at ke
      unfold g_law_right
      rw [seq_nx (s1 _ _ np hs)]
      refine seq_rt ((if_yes (s1 := cupD c) ?_).trans ?_)
      · show eB (eOp rNotN (eVar 5) (eC .non)) [some .cell, some (enR r), some (tI marks), some (encL (tableT r)), some .non, some (tI w), none, none, none] (cupD c) = _
        unfold tI
        simp [sSeq, sAsg, sIf, sRet, sNil, sDrop, sPar2, sPar3, sFor, sCellSet, sCellApp, sCellPut, sNever, eVar, eC, eOp, eB, eTup, eLst, aCons, aNil, eIf, eAnd, eOr, eNot, eChain, bAnd, bOr, bNot, bYes, eCB, eCall, eSl, oNone, oSome, eNeg, eIsi, eGet, eOne, eNoP, eBack, eLc, eUpd, eBoth, tName, tTup, tsCons, tsNil, bnd, ret, iSeq, iRng, iEn, iZp, iKey, defF, startD, bodyOut, wipeD, List.getElem?_cons_zero, List.getElem?_cons_succ, List.set_cons_zero, List.set_cons_succ, List.length_cons, List.length_nil, List.map_cons, List.map_nil, List.replicate_succ, List.replicate_zero, List.cons_append, List.nil_append, if_true, if_false, Bool.false_eq_true, reduceIte, Option.map_some, Option.map_none, Nat.reduceAdd, Nat.reduceSub, Nat.reduceEqDiff, rNotN]
      · show sRet _ [some .cell, some (enR r), some (tI marks), some (encL (tableT r)), some .non, some (tI w), none, none, none] (cupD c) = _
        simp [sSeq, sAsg, sIf, sRet, sNil, sDrop, sPar2, sPar3, sFor, sCellSet, sCellApp, sCellPut, sNever, eVar, eC, eOp, eB, eTup, eLst, aCons, aNil, eIf, eAnd, eOr, eNot, eChain, bAnd, bOr, bNot, bYes, eCB, eCall, eSl, oNone, oSome, eNeg, eIsi, eGet, eOne, eNoP, eBack, eLc, eUpd, eBoth, tName, tTup, tsCons, tsNil, bnd, ret, iSeq, iRng, iEn, iZp, iKey, defF, startD, bodyOut, wipeD, List.getElem?_cons_zero, List.getElem?_cons_succ, List.set_cons_zero, List.set_cons_succ, List.length_cons, List.length_nil, List.map_cons, List.map_nil, List.replicate_succ, List.replicate_zero, List.cons_append, List.nil_append, if_true, if_false, Bool.false_eq_true, reduceIte, Option.map_some, Option.map_none, Nat.reduceAdd, Nat.reduceSub, Nat.reduceEqDiff, lim_eq, rIsN, isn', rIsB, td', rIx, seqOf, i1, rEq, ke]
  · cases o with
    | some w =>
      exfalso
      obtain ⟨q, hr, hh, _⟩ := ho
      have := hn _ _ hr
      rw [hh] at this
      cases this
    | none =>
      have hs' : F_handing_stack [enR r, tI marks] (cupD c) = some (.non, cupD c) := hs
      have pb := papB_iff.mpr P
      have isn := is_none_pairs R hm h9 v (by omega) (cupD c)
      have isp := law_is_paper_eq R h9 v (by omega) (cupD c)
      rw [pb] at isn isp
      have bx : v.all inBox = true := List.all_eq_true.mpr fun q hq => (P.ok q hq).box R h9
      have s2 : sIf (eB (eOp rNotN (eVar 5) (eC .non))) (sRet (eAnd (eOp rIsN (eVar 4) (eC .non)) (eAnd (eOp rIsB (eCall 3 F_is_none_paper (aCons (eVar 1) (aCons (eVar 2) (aCons (eTup (aCons (eTup (aCons (eC (.int 0)) (aCons (eC (.int 0)) aNil))) aNil)) aNil)))) (eC (.bl false))) (eOp rEq (eOp rIx (eCall 2 F_law_told (aCons (eVar 3) (aCons (eVar 5) aNil))) (eC (.int 1))) (eVar 2))))) sNil
          [some .cell, some (enR r), some (tI marks), some (encL (tableT r)), some (.tup (v.map dPr)), some .non, none, none, none] (cupD c) = some (.nx [some .cell, some (enR r), some (tI marks), some (encL (tableT r)), some (.tup (v.map dPr)), some .non, none, none, none], cupD c) := by
        refine (if_no (s1 := cupD c) ?_).trans rfl
        simp [sSeq, sAsg, sIf, sRet, sNil, sDrop, sPar2, sPar3, sFor, sCellSet, sCellApp, sCellPut, sNever, eVar, eC, eOp, eB, eTup, eLst, aCons, aNil, eIf, eAnd, eOr, eNot, eChain, bAnd, bOr, bNot, bYes, eCB, eCall, eSl, oNone, oSome, eNeg, eIsi, eGet, eOne, eNoP, eBack, eLc, eUpd, eBoth, tName, tTup, tsCons, tsNil, bnd, ret, iSeq, iRng, iEn, iZp, iKey, defF, startD, bodyOut, wipeD, List.getElem?_cons_zero, List.getElem?_cons_succ, List.set_cons_zero, List.set_cons_succ, List.length_cons, List.length_nil, List.map_cons, List.map_nil, List.replicate_succ, List.replicate_zero, List.cons_append, List.nil_append, if_true, if_false, Bool.false_eq_true, reduceIte, Option.map_some, Option.map_none, Nat.reduceAdd, Nat.reduceSub, Nat.reduceEqDiff, rNotN]
      have s3 : sIf (bOr (bNot (eB (eCall 3 F_law_is_paper (aCons (eVar 3) (aCons (eVar 2) (aCons (eVar 4) aNil)))))) (eB (eOp rNotB (eCall 3 F_is_none_paper (aCons (eVar 1) (aCons (eVar 2) (aCons (eVar 4) aNil)))) (eC (.bl true))))) (sRet (eC (.bl false))) sNil
          [some .cell, some (enR r), some (tI marks), some (encL (tableT r)), some (.tup (v.map dPr)), some .non, none, none, none] (cupD c) = some (.nx [some .cell, some (enR r), some (tI marks), some (encL (tableT r)), some (.tup (v.map dPr)), some .non, none, none, none], cupD c) := by
        simp [sSeq, sAsg, sIf, sRet, sNil, sDrop, sPar2, sPar3, sFor, sCellSet, sCellApp, sCellPut, sNever, eVar, eC, eOp, eB, eTup, eLst, aCons, aNil, eIf, eAnd, eOr, eNot, eChain, bAnd, bOr, bNot, bYes, eCB, eCall, eSl, oNone, oSome, eNeg, eIsi, eGet, eOne, eNoP, eBack, eLc, eUpd, eBoth, tName, tTup, tsCons, tsNil, bnd, ret, iSeq, iRng, iEn, iZp, iKey, defF, startD, bodyOut, wipeD, List.getElem?_cons_zero, List.getElem?_cons_succ, List.set_cons_zero, List.set_cons_succ, List.length_cons, List.length_nil, List.map_cons, List.map_nil, List.replicate_succ, List.replicate_zero, List.cons_append, List.nil_append, if_true, if_false, Bool.false_eq_true, reduceIte, Option.map_some, Option.map_none, Nat.reduceAdd, Nat.reduceSub, Nat.reduceEqDiff, isp, isn, rNotB]
      obtain ⟨ρ', s', run, c', y6, y7, y8, h1, h2, h3⟩ := for_range (tg := tName 6) (g := b1_law_right)
        (fun _ ρ s => ∃ (c : Cup) (y6 y7 y8 : Option D), ρ = [some .cell, some (enR r), some (tI marks), some (encL (tableT r)), some (.tup (v.map dPr)), some .non, y6, y7, y8] ∧ s = cupD c ∧ cOk c) 3 0 [some .cell, some (enR r), some (tI marks), some (encL (tableT r)), some (.tup (v.map dPr)), some .non, none, none, none] (cupD c) (fun j ρ s hj hR => by
          obtain ⟨c, y6, y7, y8, rfl, rfl, hc⟩ := hR
          obtain ⟨x, c', e, hx, k⟩ := law_near_eq (T := tableT r) h9 hne hv bx hc
          obtain ⟨b, q1, q2⟩ := is_none_eq R hm h9 hx (cupD c')
          refine ⟨_, [some .cell, some (enR r), some (tI marks), some (encL (tableT r)), some (.tup (v.map dPr)), some .non, some (.int j), some x, some (.bl b)], cupD c', rfl, ?_, c', _, _, _, rfl, rfl, k⟩
          simp [b1_law_right, sSeq, sAsg, sIf, sRet, sNil, sDrop, sPar2, sPar3, sFor, sCellSet, sCellApp, sCellPut, sNever, eVar, eC, eOp, eB, eTup, eLst, aCons, aNil, eIf, eAnd, eOr, eNot, eChain, bAnd, bOr, bNot, bYes, eCB, eCall, eSl, oNone, oSome, eNeg, eIsi, eGet, eOne, eNoP, eBack, eLc, eUpd, eBoth, tName, tTup, tsCons, tsNil, bnd, ret, iSeq, iRng, iEn, iZp, iKey, defF, startD, bodyOut, wipeD, List.getElem?_cons_zero, List.getElem?_cons_succ, List.set_cons_zero, List.set_cons_succ, List.length_cons, List.length_nil, List.map_cons, List.map_nil, List.replicate_succ, List.replicate_zero, List.cons_append, List.nil_append, if_true, if_false, Bool.false_eq_true, reduceIte, Option.map_some, Option.map_none, Nat.reduceAdd, Nat.reduceSub, Nat.reduceEqDiff, e, q1, q2, qBool, rNe, kEq_bl]) ⟨c, _, _, _, rfl, rfl, h⟩
      rw [h1, h2] at run
      have it : iRng (eC (.int 3)) [some .cell, some (enR r), some (tI marks), some (encL (tableT r)), some (.tup (v.map dPr)), some .non, none, none, none] (cupD c) = some ((List.range' 0 3).map fun (i : Nat) => D.int i, cupD c) := by
        have := rng_eval (fe := eC (.int 3)) (ρ := [some .cell, some (enR r), some (tI marks), some (encL (tableT r)), some (.tup (v.map dPr)), some .non, none, none, none]) (s := cupD c) (s' := cupD c) (n := 3) rfl (by decide)
        rw [this, List.range_eq_range']
      refine ⟨c', out _ ?_, h3⟩
      unfold g_law_right
      rw [seq_nx (s1 _ _ np hs'), seq_nx s2, seq_nx s3, seq_nx ((for_it it).trans run)]
      rfl
end Pg
set_option Elab.async false
set_option linter.all false
set_option maxRecDepth 100000
set_option maxHeartbeats 4000000
/-! The pure part, x: the two given routines; the law. -/
namespace Pg
open PySem PySem.Spec PyProof.Rows L2

/-! ### routines by looking -/
def sortsB (l : List Int) : Bool := l.all fun i => decide (0 ≤ i) && decide (i ≤ 2)
def mvB (n : Nat) (m : Mv) : Bool := decide (m.marks.length ≤ 2) && sortsB m.marks && decide (m.back.length ≤ 3) && sortsB m.back && decide (-1 ≤ m.here) && decide (m.here < n)
theorem sortsB_iff {l : List Int} : sortsB l = true → sortsOk l := fun h i hi => by
  have := List.all_eq_true.mp h i hi
  simpa using this
theorem mvB_ok {n : Nat} {m : Mv} (h : mvB n m = true) : m.ok n := by
  unfold mvB at h
  simp only [Bool.and_eq_true, decide_eq_true_eq] at h
  obtain ⟨⟨⟨⟨⟨h1, h2⟩, h3⟩, h4⟩, h5⟩, h6⟩ := h
  exact ⟨h1, sortsB_iff h2, h3, sortsB_iff h4, h5, h6⟩
def rtB (r : Rt) : Bool := decide (1 ≤ r.length) && decide (r.length ≤ 6) && r.all fun p => decide (p.length = 4) && p.all (mvB r.length)
theorem rtB_ok {r : Rt} (h : rtB r = true) : rOk r := by
  unfold rtB at h
  simp only [Bool.and_eq_true, decide_eq_true_eq] at h
  obtain ⟨⟨h1, h2⟩, h3⟩ := h
  rw [List.all_eq_true] at h3
  refine ⟨h1, h2, fun p hp => ?_, fun p hp m hm => ?_⟩
  · have := h3 p hp
    simp only [Bool.and_eq_true, decide_eq_true_eq] at this
    exact this.1
  · have := h3 p hp
    simp only [Bool.and_eq_true, decide_eq_true_eq] at this
    exact mvB_ok (List.all_eq_true.mp this.2 m hm)
theorem look_mem {T : Tb} {k : Int × Int} {e : En} (h : T.lookup k = some e) : ∃ j, (j, e) ∈ T := by
  induction T with
  | nil => cases h
  | cons x T ih =>
    obtain ⟨j, a⟩ := x
    rw [List.lookup_cons] at h
    cases q : k == j with
    | true =>
      rw [q] at h
      exact ⟨j, by rw [← Option.some.inj h]; exact List.mem_cons_self⟩
    | false =>
      rw [q] at h
      obtain ⟨i, hi⟩ := ih h
      exact ⟨i, List.mem_cons_of_mem _ hi⟩
theorem rest_by {r : Rt} (h : rtB r = true) (h1 : (ledT (tableT r)).all (hasAll (tableT r)) = true) (h2 : ((tableT r).all fun x => decide (x.2.marks.length ≤ 1000)) = true) : Rest r (tableT r) := by
  refine ⟨rtB_ok h, table_good r, fun p hp s hs => ?_, fun k e he => ?_⟩
  · have := List.all_eq_true.mp h1 p hp
    unfold hasAll at this
    have := List.all_eq_true.mp this s (List.mem_range.mpr (by omega))
    exact Option.isSome_iff_exists.mp this
  · obtain ⟨j, hj⟩ := look_mem he
    have := List.all_eq_true.mp h2 _ hj
    exact of_decide_eq_true this
def rR : Rt := [[⟨[0], [], 0⟩, ⟨[1], [0], 1⟩, ⟨[], [1, 1], 0⟩, ⟨[2], [], -1⟩], [⟨[], [], 0⟩, ⟨[], [], -1⟩, ⟨[2], [2], 0⟩, ⟨[], [0], 0⟩]]
def rV : Rt := [[⟨[], [], 0⟩, ⟨[0, 0], [], 0⟩, ⟨[], [2], 1⟩, ⟨[1], [], -1⟩], [⟨[], [], 1⟩, ⟨[], [], 1⟩, ⟨[], [], -1⟩, ⟨[], [], -1⟩]]
theorem restR : Rest rR (tableT rR) := rest_by (by decide +kernel) (by decide +kernel) (by decide +kernel)
theorem restV : Rest rV (tableT rV) := rest_by (by decide +kernel) (by decide +kernel) (by decide +kernel)
theorem law_r_eq (st : D) : F_law_r [] st = some (enR rR, st) := by
  simp [F_law_r, g_law_r, sSeq, sAsg, sIf, sRet, sNil, sDrop, sPar2, sPar3, sFor, sCellSet, sCellApp, sCellPut, sNever, eVar, eC, eOp, eB, eTup, eLst, aCons, aNil, eIf, eAnd, eOr, eNot, eChain, bAnd, bOr, bNot, bYes, eCB, eCall, eSl, oNone, oSome, eNeg, eIsi, eGet, eOne, eNoP, eBack, eLc, eUpd, eBoth, tName, tTup, tsCons, tsNil, bnd, ret, iSeq, iRng, iEn, iZp, iKey, defF, startD, bodyOut, wipeD, List.getElem?_cons_zero, List.getElem?_cons_succ, List.set_cons_zero, List.set_cons_succ, List.length_cons, List.length_nil, List.map_cons, List.map_nil, List.replicate_succ, List.replicate_zero, List.cons_append, List.nil_append, if_true, if_false, Bool.false_eq_true, reduceIte, Option.map_some, Option.map_none, Nat.reduceAdd, Nat.reduceSub, Nat.reduceEqDiff, lim_eq, enR, rR, enPost, enMv, tI]
theorem law_v_eq (st : D) : F_law_v [] st = some (enR rV, st) := by
  simp [F_law_v, g_law_v, sSeq, sAsg, sIf, sRet, sNil, sDrop, sPar2, sPar3, sFor, sCellSet, sCellApp, sCellPut, sNever, eVar, eC, eOp, eB, eTup, eLst, aCons, aNil, eIf, eAnd, eOr, eNot, eChain, bAnd, bOr, bNot, bYes, eCB, eCall, eSl, oNone, oSome, eNeg, eIsi, eGet, eOne, eNoP, eBack, eLc, eUpd, eBoth, tName, tTup, tsCons, tsNil, bnd, ret, iSeq, iRng, iEn, iZp, iKey, defF, startD, bodyOut, wipeD, List.getElem?_cons_zero, List.getElem?_cons_succ, List.set_cons_zero, List.set_cons_succ, List.length_cons, List.length_nil, List.map_cons, List.map_nil, List.replicate_succ, List.replicate_zero, List.cons_append, List.nil_append, if_true, if_false, Bool.false_eq_true, reduceIte, Option.map_some, Option.map_none, Nat.reduceAdd, Nat.reduceSub, Nat.reduceEqDiff, lim_eq, enR, rV, enPost, enMv, tI]
theorem ask {r : Rt} (R : Rest r (tableT r)) (marks : List Int) (v : List Sta) (b : Bool) (hm : sortsB marks = true) (h9 : marks.length ≤ 9) (hv : v.length ≤ 1000) (h : papB (tableT r) marks v = b) (st : D) : F_is_none_paper [enR r, tI marks, .tup (v.map dPr)] st = some (.bl b, st) := by
  rw [← h]
  exact is_none_pairs R (sortsB_iff hm) h9 v hv st
theorem none_R (st : D) : F_none_paper [enR rR, tI [2]] st = some (.non, st) := by
  rcases none_paper_eq restR (marks := [2]) (sortsB_iff (by decide)) (by decide) st with ⟨o, _, e⟩ | ⟨v, hn, _⟩
  · exact e
  · exfalso
    have := hn [] (0, 0) .nil
    have h2 : hitB (tableT rR) [2] (0, 0) = true := by decide +kernel
    rw [h2] at this
    cases this

/-! ### the law's rounds -/
theorem cut_minus (m : List Int) : ∃ m' : List Int, cutD (m.map D.int) none (some (-1)) = m'.map D.int ∧ (∀ i ∈ m', i ∈ m) ∧ m'.length ≤ m.length := by
  rcases List.eq_nil_or_concat m with rfl | ⟨l, x, rfl⟩
  · exact ⟨[], rfl, (fun _ z => nomatch z), Nat.le_refl _⟩
  · refine ⟨l, ?_, fun i hi => ?_, ?_⟩
    · rw [List.concat_eq_append, List.map_append, List.map_cons, List.map_nil]
      exact cut_last _ _
    · rw [List.concat_eq_append]
      exact List.mem_append_left _ hi
    · rw [List.concat_eq_append, List.length_append]
      omega
theorem call_of {n : Nat} {F : Fn} {fs : EA} {ρ : Env} {s s1 : D} {xs : List D} (h : fs ρ s = some (xs, s1)) (hl : xs.length = n) : eCall n F fs ρ s = F xs s1 := by
  unfold eCall
  rw [h]
  simp only [bnd_some, hl, if_true]
theorem acons_of {fa : E} {fs : EA} {ρ : Env} {s s1 s2 : D} {x : D} {xs : List D} (h1 : fa ρ s = some (x, s1)) (h2 : fs ρ s1 = some (xs, s2)) : aCons fa fs ρ s = some (x :: xs, s2) := by
  unfold aCons
  rw [h1]
  simp only [bnd_some, h2]
abbrev lwS (x2 x3 x4 x5 x6 x9 : Option D) : Env := [none, some .cell, x2, x3, x4, x5, x6, none, none, x9]
theorem law_round {c : Cup} (h : cOk c) (x2 x3 x4 x5 x6 x9 : Option D) : ∃ (c' : Cup) (y3 y4 y5 y6 : Option D), b3_law (lwS x2 x3 x4 x5 x6 x9) (cupD c) = some (.nx (lwS x2 y3 y4 y5 y6 x9), cupD c') ∧ cOk c' := by
  obtain ⟨r, c1, e1, R, k1⟩ := law_resting_eq h
  obtain ⟨u, c2, e2, u0, u1, k2⟩ := law_roll_eq k1 (m := 4) (by omega) (by omega)
  obtain ⟨n, rfl⟩ : ∃ n : Nat, u = (n : Int) := ⟨u.toNat, by omega⟩
  obtain ⟨ys, c3, p1, p2, p3, k3⟩ := lc_cup (tg := tName 9) (te := e1_law) (ρ := wipeD (lwS x2 (some (enR r)) x4 x5 x6 x9) [9]) (fun y => ∃ i : Int, y = .int i ∧ 0 ≤ i ∧ i ≤ 2) (fun x c hc => by
    obtain ⟨z, c6, f2, z0, z1, g2⟩ := law_roll_eq hc (m := 3) (by omega) (by omega)
    exact ⟨_, .int z, c6, rfl, by simp [e1_law, sSeq, sAsg, sIf, sRet, sNil, sDrop, sPar2, sPar3, sFor, sCellSet, sCellApp, sCellPut, sNever, eVar, eC, eOp, eB, eTup, eLst, aCons, aNil, eIf, eAnd, eOr, eNot, eChain, bAnd, bOr, bNot, bYes, eCB, eCall, eSl, oNone, oSome, eNeg, eIsi, eGet, eOne, eNoP, eBack, eLc, eUpd, eBoth, tName, tTup, tsCons, tsNil, bnd, ret, iSeq, iRng, iEn, iZp, iKey, defF, startD, bodyOut, wipeD, List.getElem?_cons_zero, List.getElem?_cons_succ, List.set_cons_zero, List.set_cons_succ, List.length_cons, List.length_nil, List.map_cons, List.map_nil, List.replicate_succ, List.replicate_zero, List.cons_append, List.nil_append, if_true, if_false, Bool.false_eq_true, reduceIte, Option.map_some, Option.map_none, Nat.reduceAdd, Nat.reduceSub, Nat.reduceEqDiff, wipeD, f2], ⟨z, rfl, z0, by omega⟩, g2⟩) ((List.range n).map fun (i : Nat) => D.int i) c2 k2
  obtain ⟨l, rfl, hl⟩ := of_all D.int _ p2
  rw [List.length_map, List.length_map, List.length_range] at p3
  have sl : sortsOk l := hl
  obtain ⟨e, he, em⟩ := goW_rest R l l 0 0 0 [] sl (led_zero _) (fun _ z => nomatch z)
  have td := law_told_eq ((table_good r).small R.ok) (v := l) (by omega) (cupD c3)
  rw [he] at td
  have td' : F_law_told [encL (tableT r), tI l] (cupD c3) = some (.tup [.str "rest", tI e.marks, tI e.left, .int e.turns], cupD c3) := td
  have tb := law_table_eq R.ok (cupD c1)
  obtain ⟨o, c4, e4, o0, o1, k4⟩ := law_roll_eq k3 (m := 3) (by omega) (by omega)
  have s1 : sAsg (eCall 1 F_law_resting (aCons (eVar 1) aNil)) (tName 3) (lwS x2 x3 x4 x5 x6 x9) (cupD c) = some (.nx (lwS x2 (some (enR r)) x4 x5 x6 x9), cupD c1) := by
    simp [sSeq, sAsg, sIf, sRet, sNil, sDrop, sPar2, sPar3, sFor, sCellSet, sCellApp, sCellPut, sNever, eVar, eC, eOp, eB, eTup, eLst, aCons, aNil, eIf, eAnd, eOr, eNot, eChain, bAnd, bOr, bNot, bYes, eCB, eCall, eSl, oNone, oSome, eNeg, eIsi, eGet, eOne, eNoP, eBack, eLc, eUpd, eBoth, tName, tTup, tsCons, tsNil, bnd, ret, iSeq, iRng, iEn, iZp, iKey, defF, startD, bodyOut, wipeD, List.getElem?_cons_zero, List.getElem?_cons_succ, List.set_cons_zero, List.set_cons_succ, List.length_cons, List.length_nil, List.map_cons, List.map_nil, List.replicate_succ, List.replicate_zero, List.cons_append, List.nil_append, if_true, if_false, Bool.false_eq_true, reduceIte, Option.map_some, Option.map_none, Nat.reduceAdd, Nat.reduceSub, Nat.reduceEqDiff, e1]
  have it : iRng (eCall 2 F_law_roll (aCons (eVar 1) (aCons (eC (.int 4)) aNil))) (lwS x2 (some (enR r)) x4 x5 x6 x9) (cupD c1) = some ((List.range n).map fun (i : Nat) => D.int i, cupD c2) := rng_eval (n := n) (by simp [sSeq, sAsg, sIf, sRet, sNil, sDrop, sPar2, sPar3, sFor, sCellSet, sCellApp, sCellPut, sNever, eVar, eC, eOp, eB, eTup, eLst, aCons, aNil, eIf, eAnd, eOr, eNot, eChain, bAnd, bOr, bNot, bYes, eCB, eCall, eSl, oNone, oSome, eNeg, eIsi, eGet, eOne, eNoP, eBack, eLc, eUpd, eBoth, tName, tTup, tsCons, tsNil, bnd, ret, iSeq, iRng, iEn, iZp, iKey, defF, startD, bodyOut, wipeD, List.getElem?_cons_zero, List.getElem?_cons_succ, List.set_cons_zero, List.set_cons_succ, List.length_cons, List.length_nil, List.map_cons, List.map_nil, List.replicate_succ, List.replicate_zero, List.cons_append, List.nil_append, if_true, if_false, Bool.false_eq_true, reduceIte, Option.map_some, Option.map_none, Nat.reduceAdd, Nat.reduceSub, Nat.reduceEqDiff, e2]) (by omega)
  have l1 : ((List.range n).map fun (i : Nat) => D.int i).length ≤ lim := by
    rw [List.length_map, List.length_range, lim_eq]
    omega
  have stk : eCB rTuple (aCons (eLc (iRng (eCall 2 F_law_roll (aCons (eVar 1) (aCons (eC (.int 4)) aNil)))) (tName 9) bYes e1_law [9]) aNil) (lwS x2 (some (enR r)) x4 x5 x6 x9) (cupD c1) = some (tI l, cupD c3) := by
    simp only [eCB, aCons, aNil, eLc, it, bnd_some, l1, if_true, p1, rTuple, ret]
    rfl
  have i1 : L2.atI [D.str "rest", tI e.marks, tI e.left, D.int e.turns] 1 = some (tI e.marks) := rfl
  have c8 : cutD (e.marks.map D.int) none (some 8) = (e.marks.take 8).map D.int := (cut_to (e.marks.map D.int) 8).trans List.map_take.symm
  have s2 : sAsg (eSl (eOp rIx (eCall 2 F_law_told (aCons (eCall 1 F_law_table (aCons (eVar 3) aNil)) (aCons (eCB rTuple (aCons (eLc (iRng (eCall 2 F_law_roll (aCons (eVar 1) (aCons (eC (.int 4)) aNil)))) (tName 9) bYes e1_law [9]) aNil)) aNil))) (eC (.int 1))) oNone (oSome (eC (.int 8)))) (tName 4) (lwS x2 (some (enR r)) x4 x5 x6 x9) (cupD c1) =
      some (.nx (lwS x2 (some (enR r)) (some (tI (e.marks.take 8))) x5 x6 x9), cupD c3) := by
    have tb' : eCall 1 F_law_table (aCons (eVar 3) aNil) (lwS x2 (some (enR r)) x4 x5 x6 x9) (cupD c1) = some (encL (tableT r), cupD c1) := by
      simp [sSeq, sAsg, sIf, sRet, sNil, sDrop, sPar2, sPar3, sFor, sCellSet, sCellApp, sCellPut, sNever, eVar, eC, eOp, eB, eTup, eLst, aCons, aNil, eIf, eAnd, eOr, eNot, eChain, bAnd, bOr, bNot, bYes, eCB, eCall, eSl, oNone, oSome, eNeg, eIsi, eGet, eOne, eNoP, eBack, eLc, eUpd, eBoth, tName, tTup, tsCons, tsNil, bnd, ret, iSeq, iRng, iEn, iZp, iKey, defF, startD, bodyOut, wipeD, List.getElem?_cons_zero, List.getElem?_cons_succ, List.set_cons_zero, List.set_cons_succ, List.length_cons, List.length_nil, List.map_cons, List.map_nil, List.replicate_succ, List.replicate_zero, List.cons_append, List.nil_append, if_true, if_false, Bool.false_eq_true, reduceIte, Option.map_some, Option.map_none, Nat.reduceAdd, Nat.reduceSub, Nat.reduceEqDiff, tb]
    have v1 : eCall 2 F_law_told (aCons (eCall 1 F_law_table (aCons (eVar 3) aNil)) (aCons (eCB rTuple (aCons (eLc (iRng (eCall 2 F_law_roll (aCons (eVar 1) (aCons (eC (.int 4)) aNil)))) (tName 9) bYes e1_law [9]) aNil)) aNil)) (lwS x2 (some (enR r)) x4 x5 x6 x9) (cupD c1) = some (.tup [.str "rest", tI e.marks, tI e.left, .int e.turns], cupD c3) :=
      (call_of (acons_of tb' (acons_of stk (rfl : aNil _ (cupD c3) = some ([], cupD c3)))) rfl).trans td'
    have v2 : eOp rIx (eCall 2 F_law_told (aCons (eCall 1 F_law_table (aCons (eVar 3) aNil)) (aCons (eCB rTuple (aCons (eLc (iRng (eCall 2 F_law_roll (aCons (eVar 1) (aCons (eC (.int 4)) aNil)))) (tName 9) bYes e1_law [9]) aNil)) aNil))) (eC (.int 1)) (lwS x2 (some (enR r)) x4 x5 x6 x9) (cupD c1) = some (tI e.marks, cupD c3) := by
      simp only [eOp, v1, bnd_some, eC, rIx, seqOf, i1, ret]
    have tm : tI e.marks = .tup (e.marks.map .int) := rfl
    rw [tm] at v2
    simp only [sAsg, eSl, v2, bnd_some, eC, oNone, oSome, c8]
    rfl
  have s3 : sAsg (eCall 2 F_law_roll (aCons (eVar 1) (aCons (eC (.int 3)) aNil))) (tName 5) (lwS x2 (some (enR r)) (some (tI (e.marks.take 8))) x5 x6 x9) (cupD c3) = some (.nx (lwS x2 (some (enR r)) (some (tI (e.marks.take 8))) (some (.int o)) x6 x9), cupD c4) := by
    simp [sSeq, sAsg, sIf, sRet, sNil, sDrop, sPar2, sPar3, sFor, sCellSet, sCellApp, sCellPut, sNever, eVar, eC, eOp, eB, eTup, eLst, aCons, aNil, eIf, eAnd, eOr, eNot, eChain, bAnd, bOr, bNot, bYes, eCB, eCall, eSl, oNone, oSome, eNeg, eIsi, eGet, eOne, eNoP, eBack, eLc, eUpd, eBoth, tName, tTup, tsCons, tsNil, bnd, ret, iSeq, iRng, iEn, iZp, iKey, defF, startD, bodyOut, wipeD, List.getElem?_cons_zero, List.getElem?_cons_succ, List.set_cons_zero, List.set_cons_succ, List.length_cons, List.length_nil, List.map_cons, List.map_nil, List.replicate_succ, List.replicate_zero, List.cons_append, List.nil_append, if_true, if_false, Bool.false_eq_true, reduceIte, Option.map_some, Option.map_none, Nat.reduceAdd, Nat.reduceSub, Nat.reduceEqDiff, e4]
  generalize hM : e.marks.take 8 = m at *
  have m8 : m.length ≤ 8 := by rw [← hM]; exact List.length_take_le _ _
  have ms : sortsOk m := by rw [← hM]; exact sorts_take _ em
  obtain ⟨m', cm, hm', lm'⟩ := cut_minus m
  have oo : sortsOk [o] := fun i hi => by rw [List.mem_singleton.mp hi]; omega
  have it3 : iSeq (eTup (aCons (eSl (eVar 4) oNone (oSome (eNeg (eC (.int 1))))) (aCons (eOp rAdd (eVar 4) (eTup (aCons (eVar 5) aNil))) (aCons (eOp rAdd (eOp rAdd (eSl (eVar 4) oNone (oSome (eC (.int 2)))) (eTup (aCons (eVar 5) aNil))) (eSl (eVar 4) (oSome (eC (.int 2))) oNone)) aNil)))) (lwS x2 (some (enR r)) (some (tI m)) (some (.int o)) x6 x9) (cupD c4) = some ([m', m ++ [o], m.take 2 ++ [o] ++ m.drop 2].map tI, cupD c4) := by
    have c2' : cutD (m.map D.int) none (some 2) = (m.take 2).map D.int := (cut_to (m.map D.int) 2).trans List.map_take.symm
    have c2'' : cutD (m.map D.int) (some 2) none = (m.drop 2).map D.int := (cut_from (m.map D.int) 2).trans List.map_drop.symm
    have a1 : (m.map D.int).length ≤ 99999 := by rw [List.length_map]; omega
    have a2 : ((m.take 2).map D.int).length ≤ 99999 := by rw [List.length_map, List.length_take]; omega
    have a3 : ((m.take 2).map D.int).length + 1 + ((m.drop 2).map D.int).length ≤ 100000 := by rw [List.length_map, List.length_map, List.length_take, List.length_drop]; omega
    have t1 : tI (m ++ [o]) = .tup (m.map D.int ++ [.int o]) := by unfold tI; rw [List.map_append]; rfl
    have t2 : tI (m.take 2 ++ [o] ++ m.drop 2) = .tup ((m.take 2).map D.int ++ [.int o] ++ (m.drop 2).map D.int) := by unfold tI; rw [List.map_append, List.map_append]; rfl
    rw [List.map_cons, List.map_cons, List.map_cons, List.map_nil, t1, t2]
    unfold tI
    generalize hA : (m.take 2).map D.int = A at *
    generalize hB : (m.drop 2).map D.int = B at *
    generalize hC : m.map D.int = C at *
    simp [sSeq, sAsg, sIf, sRet, sNil, sDrop, sPar2, sPar3, sFor, sCellSet, sCellApp, sCellPut, sNever, eVar, eC, eOp, eB, eTup, eLst, aCons, aNil, eIf, eAnd, eOr, eNot, eChain, bAnd, bOr, bNot, bYes, eCB, eCall, eSl, oNone, oSome, eNeg, eIsi, eGet, eOne, eNoP, eBack, eLc, eUpd, eBoth, tName, tTup, tsCons, tsNil, bnd, ret, iSeq, iRng, iEn, iZp, iKey, defF, startD, bodyOut, wipeD, List.getElem?_cons_zero, List.getElem?_cons_succ, List.set_cons_zero, List.set_cons_succ, List.length_cons, List.length_nil, List.map_cons, List.map_nil, List.replicate_succ, List.replicate_zero, List.cons_append, List.nil_append, if_true, if_false, Bool.false_eq_true, reduceIte, Option.map_some, Option.map_none, Nat.reduceAdd, Nat.reduceSub, Nat.reduceEqDiff, rAdd, lim_eq, cm, c2', c2'', a1, a2, a3]
  obtain ⟨ρ', s', run, c5, y6, h1, h2, h3⟩ := for_fold (tg := tName 6) (g := b2_law) tI (fun (_ : Unit) (_ : List Int) => ()) (fun _ ρ s => ∃ (c : Cup) (y6 : Option D), ρ = lwS x2 (some (enR r)) (some (tI m)) (some (.int o)) y6 x9 ∧ s = cupD c ∧ cOk c) [m', m ++ [o], m.take 2 ++ [o] ++ m.drop 2] () (lwS x2 (some (enR r)) (some (tI m)) (some (.int o)) x6 x9) (cupD c4) (fun _ one ρ s hone hR => by
    obtain ⟨c, y6, rfl, rfl, hc⟩ := hR
    have ok : sortsOk one ∧ one.length ≤ 9 := by
      simp only [List.mem_cons, List.not_mem_nil, or_false] at hone
      rcases hone with rfl | rfl | rfl
      · exact ⟨fun i hi => ms i (hm' i hi), by omega⟩
      · exact ⟨sorts_app ms oo, by rw [List.length_append, List.length_singleton]; omega⟩
      · refine ⟨sorts_app (sorts_app (sorts_take _ ms) oo) (sorts_drop _ ms), ?_⟩
        rw [List.length_append, List.length_append, List.length_singleton, List.length_take, List.length_drop]
        omega
    obtain ⟨c', e, k⟩ := law_right_eq R ok.1 ok.2 hc
    exact ⟨_, _, _, rfl, by
      show b2_law (lwS x2 (some (enR r)) (some (tI m)) (some (.int o)) (some (tI one)) x9) (cupD c) = some (.nx (lwS x2 (some (enR r)) (some (tI m)) (some (.int o)) (some (tI one)) x9), cupD c')
      simp [b2_law, sSeq, sAsg, sIf, sRet, sNil, sDrop, sPar2, sPar3, sFor, sCellSet, sCellApp, sCellPut, sNever, eVar, eC, eOp, eB, eTup, eLst, aCons, aNil, eIf, eAnd, eOr, eNot, eChain, bAnd, bOr, bNot, bYes, eCB, eCall, eSl, oNone, oSome, eNeg, eIsi, eGet, eOne, eNoP, eBack, eLc, eUpd, eBoth, tName, tTup, tsCons, tsNil, bnd, ret, iSeq, iRng, iEn, iZp, iKey, defF, startD, bodyOut, wipeD, List.getElem?_cons_zero, List.getElem?_cons_succ, List.set_cons_zero, List.set_cons_succ, List.length_cons, List.length_nil, List.map_cons, List.map_nil, List.replicate_succ, List.replicate_zero, List.cons_append, List.nil_append, if_true, if_false, Bool.false_eq_true, reduceIte, Option.map_some, Option.map_none, Nat.reduceAdd, Nat.reduceSub, Nat.reduceEqDiff, e], c', _, rfl, rfl, k⟩) ⟨c4, x6, rfl, rfl, k4⟩
  rw [h1, h2] at run
  refine ⟨c5, some (enR r), some (tI m), some (.int o), y6, ?_, h3⟩
  unfold b3_law
  rw [seq_nx s1, seq_nx s2, seq_nx s3, for_it it3]
  exact run
theorem seed_nonneg (ns : List Int) : 0 ≤ seed ns := by
  unfold seed
  split <;> omega
theorem good (ns : List Int) : ∃ s', g_law [none, some .cell, none, none, none, none, none, none, none, none] (.lst [.int (cup0 (seed ns)), .int (cup1 (seed ns))]) = some (.rt (.bl true), s') := by
  have h0 := seed_nonneg ns
  have ok : cOk (cup0 (seed ns), cup1 (seed ns)) := by
    refine ⟨?_, ?_, ?_⟩
    · show 0 ≤ cup0 (seed ns)
      unfold cup0
      split
      · exact Int.ediv_nonneg h0 (by omega)
      · omega
    · show 0 ≤ cup1 (seed ns)
      unfold cup1
      have := Int.emod_nonneg (seed ns * 193 + 1201) (b := 2077504273) (by omega)
      omega
    · show cup1 (seed ns) < _
      unfold cup1
      have := Int.emod_lt_of_pos (seed ns * 193 + 1201) (b := 2077504273) (by omega)
      omega
  generalize hc : ((cup0 (seed ns), cup1 (seed ns)) : Cup) = c at ok
  have hd : D.lst [.int (cup0 (seed ns)), .int (cup1 (seed ns))] = cupD c := by
    rw [← hc]
    rfl
  rw [hd]
  obtain ⟨ρ', s', run, c', y2, y3, y4, y5, y6, h1, h2, h3⟩ := for_range (tg := tName 2) (g := b3_law)
    (fun _ ρ s => ∃ (c : Cup) (y2 y3 y4 y5 y6 : Option D), ρ = lwS y2 y3 y4 y5 y6 none ∧ s = cupD c ∧ cOk c) 4 0 (lwS none none none none none none) (cupD c) (fun j ρ s hj hR => by
      obtain ⟨c, y2, y3, y4, y5, y6, rfl, rfl, hc⟩ := hR
      obtain ⟨c', z3, z4, z5, z6, e, k⟩ := law_round hc (some (.int j)) y3 y4 y5 y6 none
      exact ⟨_, _, _, rfl, e, c', _, _, _, _, _, rfl, rfl, k⟩) ⟨c, _, _, _, _, _, rfl, rfl, ok⟩
  rw [h1, h2] at run
  have it : iRng (eC (.int 4)) (lwS none none none none none none) (cupD c) = some ((List.range' 0 4).map fun (i : Nat) => D.int i, cupD c) := by
    have := rng_eval (fe := eC (.int 4)) (ρ := lwS none none none none none none) (s := cupD c) (s' := cupD c) (n := 4) rfl (by decide)
    rw [this, List.range_eq_range']
  refine ⟨cupD c', ?_⟩
  unfold g_law
  rw [seq_nx ((for_it it).trans run)]
  have a1 := ask restR [1] [(0, 0), (0, 1)] true (by decide) (by decide) (by decide) (by decide +kernel) (cupD c')
  have a2 := ask restR [1] [(0, 0)] false (by decide) (by decide) (by decide) (by decide +kernel) (cupD c')
  have a3 := none_R (cupD c')
  have a4 := ask restR [0, 0] [(0, 0), (0, 1), (0, 2)] true (by decide) (by decide) (by decide) (by decide +kernel) (cupD c')
  have a5 := ask restR [0, 0] [(0, 0), (0, 2)] false (by decide) (by decide) (by decide) (by decide +kernel) (cupD c')
  have a6 := ask restV [0] [(-1, 0), (0, 0)] true (by decide) (by decide) (by decide) (by decide +kernel) (cupD c')
  have a7 := ask restV [0] [(0, 0)] false (by decide) (by decide) (by decide) (by decide +kernel) (cupD c')
  have a8 := ask restV [0] [(-1, 0), (-1, 1), (0, 0)] false (by decide) (by decide) (by decide) (by decide +kernel) (cupD c')
  have a9 := ask restV [0] [(-1, 0), (0, 0), (1, 0)] false (by decide) (by decide) (by decide) (by decide +kernel) (cupD c')
  have a10 := ask restV [0, 0] [(-1, 0), (0, 0), (0, 2)] false (by decide) (by decide) (by decide) (by decide +kernel) (cupD c')
  simp only [tI, List.map_cons, List.map_nil, dPr] at a1 a2 a3 a4 a5 a6 a7 a8 a9 a10
  have r1 := law_r_eq (cupD c')
  have r2 := law_v_eq (cupD c')
  simp [sSeq, sAsg, sIf, sRet, sNil, sDrop, sPar2, sPar3, sFor, sCellSet, sCellApp, sCellPut, sNever, eVar, eC, eOp, eB, eTup, eLst, aCons, aNil, eIf, eAnd, eOr, eNot, eChain, bAnd, bOr, bNot, bYes, eCB, eCall, eSl, oNone, oSome, eNeg, eIsi, eGet, eOne, eNoP, eBack, eLc, eUpd, eBoth, tName, tTup, tsCons, tsNil, bnd, ret, iSeq, iRng, iEn, iZp, iKey, defF, startD, bodyOut, wipeD, List.getElem?_cons_zero, List.getElem?_cons_succ, List.set_cons_zero, List.set_cons_succ, List.length_cons, List.length_nil, List.map_cons, List.map_nil, List.replicate_succ, List.replicate_zero, List.cons_append, List.nil_append, if_true, if_false, Bool.false_eq_true, reduceIte, Option.map_some, Option.map_none, Nat.reduceAdd, Nat.reduceSub, Nat.reduceEqDiff, lim_eq, r1, r2, a1, a2, a3, a4, a5, a6, a7, a8, a9, a10, rNotB, rNotN, rIsB]
end Pg
set_option Elab.async false
set_option linter.all false
set_option maxRecDepth 100000
set_option maxHeartbeats 0
namespace Pg
open PySem PySem.Spec PyProof.Rows L2
theorem facts {P : Program} {w : World} {K : PySem.W.Frag} {h : Heap} {mg : Str → Option Value} {f : Addr} (X : K.In h) (G : h.Ns mainGlobals mg) (hfa : mg ("law" : Str) = some (.ref f)) (c : He.SaysD SPH.fa SPH.fn K) :
    ∃ fd : FuncData, (∀ (s : Shared) (v : Value), BindsTo s fd ⟨[v], []⟩ [("_law_script", v)]) ∧ ∀ base : Heap, K.In base → base.Ns mainGlobals mg → FnOk P w K mg base CX0 8 f fd ["_law_script"] (spLaw K) := by
  obtain ⟨fd_is_whole, D_is_whole⟩ := c.def_ 0 (d := SPH.dd "is_whole" 15) rfl
  obtain ⟨fd_fits_sorts, D_fits_sorts⟩ := c.def_ 1 (d := SPH.dd "fits_sorts" 16) rfl
  obtain ⟨fd_fits_move, D_fits_move⟩ := c.def_ 2 (d := SPH.dd "fits_move" 17) rfl
  obtain ⟨fd_fits_routine, D_fits_routine⟩ := c.def_ 3 (d := SPH.dd "fits_routine" 18) rfl
  obtain ⟨fd_need_routine, D_need_routine⟩ := c.def_ 4 (d := SPH.dd "need_routine" 19) rfl
  obtain ⟨fd_next_need, D_next_need⟩ := c.def_ 5 (d := SPH.dd "next_need" 20) rfl
  obtain ⟨fd_with_ends, D_with_ends⟩ := c.def_ 6 (d := SPH.dd "with_ends" 21) rfl
  obtain ⟨fd_need_few, D_need_few⟩ := c.def_ 7 (d := SPH.dd "need_few" 22) rfl
  obtain ⟨fd_led_posts, D_led_posts⟩ := c.def_ 8 (d := SPH.dd "led_posts" 23) rfl
  obtain ⟨fd_least_endless, D_least_endless⟩ := c.def_ 9 (d := SPH.dd "least_endless" 24) rfl
  obtain ⟨fd_need_rest, D_need_rest⟩ := c.def_ 10 (d := SPH.dd "need_rest" 25) rfl
  obtain ⟨fd_need_marks, D_need_marks⟩ := c.def_ 11 (d := SPH.dd "need_marks" 28) rfl
  obtain ⟨fd_walk_rows, D_walk_rows⟩ := c.def_ 12 (d := SPH.dd "walk_rows" 29) rfl
  obtain ⟨fd_walk_table, D_walk_table⟩ := c.def_ 13 (d := SPH.dd "walk_table" 30) rfl
  obtain ⟨fd_nexts_of, D_nexts_of⟩ := c.def_ 14 (d := SPH.dd "nexts_of" 31) rfl
  obtain ⟨fd_is_hit, D_is_hit⟩ := c.def_ 15 (d := SPH.dd "is_hit" 32) rfl
  obtain ⟨fd_reached_with, D_reached_with⟩ := c.def_ 16 (d := SPH.dd "reached_with" 33) rfl
  obtain ⟨fd_least_handing, D_least_handing⟩ := c.def_ 17 (d := SPH.dd "least_handing" 34) rfl
  obtain ⟨fd_fits_none, D_fits_none⟩ := c.def_ 18 (d := SPH.dd "fits_none" 35) rfl
  obtain ⟨fd_handing_stack, D_handing_stack⟩ := c.def_ 19 (d := SPH.dd "handing_stack" 36) rfl
  obtain ⟨fd_is_none_paper, D_is_none_paper⟩ := c.def_ 20 (d := SPH.dd "is_none_paper" 37) rfl
  obtain ⟨fd_none_paper, D_none_paper⟩ := c.def_ 21 (d := SPH.dd "none_paper" 38) rfl
  obtain ⟨fd_law_cup, D_law_cup⟩ := c.def_ 22 (d := SPH.dd "_law_cup" 40) rfl
  obtain ⟨fd_law_roll, D_law_roll⟩ := c.def_ 23 (d := SPH.dd "_law_roll" 41) rfl
  obtain ⟨fd_law_some, D_law_some⟩ := c.def_ 24 (d := SPH.dd "_law_some" 42) rfl
  obtain ⟨fd_law_sorts, D_law_sorts⟩ := c.def_ 25 (d := SPH.dd "_law_sorts" 43) rfl
  obtain ⟨fd_law_calm, D_law_calm⟩ := c.def_ 26 (d := SPH.dd "_law_calm" 44) rfl
  obtain ⟨fd_law_pair, D_law_pair⟩ := c.def_ 27 (d := SPH.dd "_law_pair" 46) rfl
  obtain ⟨fd_law_table, D_law_table⟩ := c.def_ 28 (d := SPH.dd "_law_table" 47) rfl
  obtain ⟨fd_law_told, D_law_told⟩ := c.def_ 29 (d := SPH.dd "_law_told" 48) rfl
  obtain ⟨fd_law_led, D_law_led⟩ := c.def_ 30 (d := SPH.dd "_law_led" 49) rfl
  obtain ⟨fd_law_rests, D_law_rests⟩ := c.def_ 31 (d := SPH.dd "_law_rests" 50) rfl
  obtain ⟨fd_law_resting, D_law_resting⟩ := c.def_ 32 (d := SPH.dd "_law_resting" 52) rfl
  obtain ⟨fd_law_r, D_law_r⟩ := c.def_ 33 (d := SPH.dd "_law_r" 53) rfl
  obtain ⟨fd_law_v, D_law_v⟩ := c.def_ 34 (d := SPH.dd "_law_v" 55) rfl
  obtain ⟨fd_law_moved, D_law_moved⟩ := c.def_ 35 (d := SPH.dd "_law_moved" 56) rfl
  obtain ⟨fd_law_is_paper, D_law_is_paper⟩ := c.def_ 36 (d := SPH.dd "_law_is_paper" 57) rfl
  obtain ⟨fd_law_near, D_law_near⟩ := c.def_ 37 (d := SPH.dd "_law_near" 58) rfl
  obtain ⟨fd_law_right, D_law_right⟩ := c.def_ 38 (d := SPH.dd "_law_right" 59) rfl
  obtain ⟨fd_law, D_law⟩ := c.def_ 39 (d := SPH.dd "law" 60) rfl
  have fx : Fx mg := {
    b_abs := He.free_ok X G (c.fact 40 (f := .free "abs") rfl)
    b_all := He.free_ok X G (c.fact 41 (f := .free "all") rfl)
    b_any := He.free_ok X G (c.fact 42 (f := .free "any") rfl)
    b_bool := He.free_ok X G (c.fact 43 (f := .free "bool") rfl)
    b_dict := He.free_ok X G (c.fact 44 (f := .free "dict") rfl)
    b_enumerate := He.free_ok X G (c.fact 45 (f := .free "enumerate") rfl)
    b_int := He.free_ok X G (c.fact 46 (f := .free "int") rfl)
    b_isinstance := He.free_ok X G (c.fact 47 (f := .free "isinstance") rfl)
    b_len := He.free_ok X G (c.fact 48 (f := .free "len") rfl)
    b_list := He.free_ok X G (c.fact 49 (f := .free "list") rfl)
    b_range := He.free_ok X G (c.fact 50 (f := .free "range") rfl)
    b_set := He.free_ok X G (c.fact 51 (f := .free "set") rfl)
    b_sorted := He.free_ok X G (c.fact 52 (f := .free "sorted") rfl)
    b_tuple := He.free_ok X G (c.fact 53 (f := .free "tuple") rfl)
    b_zip := He.free_ok X G (c.fact 54 (f := .free "zip") rfl)
    g_POSTS := He.int_ok X G (c.fact 55 (f := .int "POSTS" (6)) rfl)
    g_SORTS := He.int_ok X G (c.fact 56 (f := .int "SORTS" (3)) rfl)
    g_MARKS := He.int_ok X G (c.fact 57 (f := .int "MARKS" (2)) rfl)
    g_BACK := He.int_ok X G (c.fact 58 (f := .int "BACK" (3)) rfl)
    g_GREATEST := He.int_ok X G (c.fact 59 (f := .int "GREATEST" (1000)) rfl)
    g_REST := He.int_ok X G (c.fact 60 (f := .int "REST" (-1)) rfl)
    g_MANY := He.int_ok X G (c.fact 61 (f := .int "MANY" (9)) rfl)
    g_NEVER := He.str_ok X G (c.fact 62 (f := .str "NEVER" "never") rfl) }
  have G_is_whole := He.glo_ok X G (c.fact 0 (f := .glo "is_whole") rfl)
  have G_fits_sorts := He.glo_ok X G (c.fact 1 (f := .glo "fits_sorts") rfl)
  have G_fits_move := He.glo_ok X G (c.fact 2 (f := .glo "fits_move") rfl)
  have G_fits_routine := He.glo_ok X G (c.fact 3 (f := .glo "fits_routine") rfl)
  have G_need_routine := He.glo_ok X G (c.fact 4 (f := .glo "need_routine") rfl)
  have G_next_need := He.glo_ok X G (c.fact 5 (f := .glo "next_need") rfl)
  have G_with_ends := He.glo_ok X G (c.fact 6 (f := .glo "with_ends") rfl)
  have G_need_few := He.glo_ok X G (c.fact 7 (f := .glo "need_few") rfl)
  have G_led_posts := He.glo_ok X G (c.fact 8 (f := .glo "led_posts") rfl)
  have G_least_endless := He.glo_ok X G (c.fact 9 (f := .glo "least_endless") rfl)
  have G_need_rest := He.glo_ok X G (c.fact 10 (f := .glo "need_rest") rfl)
  have G_need_marks := He.glo_ok X G (c.fact 11 (f := .glo "need_marks") rfl)
  have G_walk_rows := He.glo_ok X G (c.fact 12 (f := .glo "walk_rows") rfl)
  have G_walk_table := He.glo_ok X G (c.fact 13 (f := .glo "walk_table") rfl)
  have G_nexts_of := He.glo_ok X G (c.fact 14 (f := .glo "nexts_of") rfl)
  have G_is_hit := He.glo_ok X G (c.fact 15 (f := .glo "is_hit") rfl)
  have G_reached_with := He.glo_ok X G (c.fact 16 (f := .glo "reached_with") rfl)
  have G_least_handing := He.glo_ok X G (c.fact 17 (f := .glo "least_handing") rfl)
  have G_fits_none := He.glo_ok X G (c.fact 18 (f := .glo "fits_none") rfl)
  have G_handing_stack := He.glo_ok X G (c.fact 19 (f := .glo "handing_stack") rfl)
  have G_is_none_paper := He.glo_ok X G (c.fact 20 (f := .glo "is_none_paper") rfl)
  have G_none_paper := He.glo_ok X G (c.fact 21 (f := .glo "none_paper") rfl)
  have G_law_cup := He.glo_ok X G (c.fact 22 (f := .glo "_law_cup") rfl)
  have G_law_roll := He.glo_ok X G (c.fact 23 (f := .glo "_law_roll") rfl)
  have G_law_some := He.glo_ok X G (c.fact 24 (f := .glo "_law_some") rfl)
  have G_law_sorts := He.glo_ok X G (c.fact 25 (f := .glo "_law_sorts") rfl)
  have G_law_calm := He.glo_ok X G (c.fact 26 (f := .glo "_law_calm") rfl)
  have G_law_pair := He.glo_ok X G (c.fact 27 (f := .glo "_law_pair") rfl)
  have G_law_table := He.glo_ok X G (c.fact 28 (f := .glo "_law_table") rfl)
  have G_law_told := He.glo_ok X G (c.fact 29 (f := .glo "_law_told") rfl)
  have G_law_led := He.glo_ok X G (c.fact 30 (f := .glo "_law_led") rfl)
  have G_law_rests := He.glo_ok X G (c.fact 31 (f := .glo "_law_rests") rfl)
  have G_law_resting := He.glo_ok X G (c.fact 32 (f := .glo "_law_resting") rfl)
  have G_law_r := He.glo_ok X G (c.fact 33 (f := .glo "_law_r") rfl)
  have G_law_v := He.glo_ok X G (c.fact 34 (f := .glo "_law_v") rfl)
  have G_law_moved := He.glo_ok X G (c.fact 35 (f := .glo "_law_moved") rfl)
  have G_law_is_paper := He.glo_ok X G (c.fact 36 (f := .glo "_law_is_paper") rfl)
  have G_law_near := He.glo_ok X G (c.fact 37 (f := .glo "_law_near") rfl)
  have G_law_right := He.glo_ok X G (c.fact 38 (f := .glo "_law_right") rfl)
  have G_law := He.glo_ok X G (c.fact 39 (f := .glo "law") rfl)
  have e := hfa.symm.trans G_law
  cases e
  refine ⟨fd_law, fun s v => FunD.bindsA (ps := ["_law_script"]) D_law (fun _ _ _ _ _ _ us hl => match us, hl with | [_], _ => rfl) s [v] rfl, fun base _ _ => ?_⟩
  have c_is_whole : DefOk P w K mg base "is_whole" 1 3 F_is_whole := w_is_whole fx D_is_whole G_is_whole 
  have c_fits_sorts : DefOk P w K mg base "fits_sorts" 2 2 F_fits_sorts := w_fits_sorts fx D_fits_sorts G_fits_sorts c_is_whole
  have c_fits_move : DefOk P w K mg base "fits_move" 3 2 F_fits_move := w_fits_move fx D_fits_move G_fits_move c_is_whole c_fits_sorts
  have c_fits_routine : DefOk P w K mg base "fits_routine" 4 1 F_fits_routine := w_fits_routine fx D_fits_routine G_fits_routine c_fits_move
  have c_need_routine : DefOk P w K mg base "need_routine" 5 1 F_need_routine := w_need_routine fx D_need_routine G_need_routine c_fits_routine
  have c_next_need : DefOk P w K mg base "next_need" 1 3 F_next_need := w_next_need fx D_next_need G_next_need 
  have c_with_ends : DefOk P w K mg base "with_ends" 2 3 F_with_ends := w_with_ends fx D_with_ends G_with_ends c_next_need
  have c_need_few : DefOk P w K mg base "need_few" 1 1 F_need_few := w_need_few fx D_need_few G_need_few 
  have c_led_posts : DefOk P w K mg base "led_posts" 3 1 F_led_posts := w_led_posts fx D_led_posts G_led_posts c_with_ends
  have c_least_endless : DefOk P w K mg base "least_endless" 4 1 F_least_endless := w_least_endless fx D_least_endless G_least_endless c_led_posts
  have c_need_rest : DefOk P w K mg base "need_rest" 5 1 F_need_rest := w_need_rest fx D_need_rest G_need_rest c_least_endless
  have c_need_marks : DefOk P w K mg base "need_marks" 3 1 F_need_marks := w_need_marks fx D_need_marks G_need_marks c_fits_sorts
  have c_walk_rows : DefOk P w K mg base "walk_rows" 4 1 F_walk_rows := w_walk_rows fx D_walk_rows G_walk_rows c_need_few c_led_posts
  have c_walk_table : DefOk P w K mg base "walk_table" 5 1 F_walk_table := w_walk_table fx D_walk_table G_walk_table c_walk_rows
  have c_nexts_of : DefOk P w K mg base "nexts_of" 1 3 F_nexts_of := w_nexts_of fx D_nexts_of G_nexts_of 
  have c_is_hit : DefOk P w K mg base "is_hit" 1 3 F_is_hit := w_is_hit fx D_is_hit G_is_hit 
  have c_reached_with : DefOk P w K mg base "reached_with" 2 2 F_reached_with := w_reached_with fx D_reached_with G_reached_with c_nexts_of
  have c_least_handing : DefOk P w K mg base "least_handing" 3 2 F_least_handing := w_least_handing fx D_least_handing G_least_handing c_is_hit c_reached_with
  have c_fits_none : DefOk P w K mg base "fits_none" 2 3 F_fits_none := w_fits_none fx D_fits_none G_fits_none c_is_whole c_nexts_of c_is_hit
  have c_handing_stack : DefOk P w K mg base "handing_stack" 6 2 F_handing_stack := w_handing_stack fx D_handing_stack G_handing_stack c_need_routine c_need_rest c_need_marks c_walk_table c_least_handing
  have c_is_none_paper : DefOk P w K mg base "is_none_paper" 6 3 F_is_none_paper := w_is_none_paper fx D_is_none_paper G_is_none_paper c_need_routine c_need_rest c_need_marks c_walk_table c_fits_none
  have c_none_paper : DefOk P w K mg base "none_paper" 6 2 F_none_paper := w_none_paper fx D_none_paper G_none_paper c_need_routine c_need_rest c_need_marks c_walk_table c_reached_with c_least_handing
  have c_law_roll : DefOk P w K mg base "_law_roll" 1 2 F_law_roll := w_law_roll fx D_law_roll G_law_roll 
  have c_law_some : DefOk P w K mg base "_law_some" 2 2 F_law_some := w_law_some fx D_law_some G_law_some c_law_roll
  have c_law_sorts : DefOk P w K mg base "_law_sorts" 2 3 F_law_sorts := w_law_sorts fx D_law_sorts G_law_sorts c_law_roll
  have c_law_calm : DefOk P w K mg base "_law_calm" 3 1 F_law_calm := w_law_calm fx D_law_calm G_law_calm c_law_roll c_law_some c_law_sorts
  have c_law_pair : DefOk P w K mg base "_law_pair" 1 3 F_law_pair := w_law_pair fx D_law_pair G_law_pair 
  have c_law_table : DefOk P w K mg base "_law_table" 2 1 F_law_table := w_law_table fx D_law_table G_law_table c_law_pair
  have c_law_told : DefOk P w K mg base "_law_told" 1 2 F_law_told := w_law_told fx D_law_told G_law_told 
  have c_law_led : DefOk P w K mg base "_law_led" 1 1 F_law_led := w_law_led fx D_law_led G_law_led 
  have c_law_rests : DefOk P w K mg base "_law_rests" 2 1 F_law_rests := w_law_rests fx D_law_rests G_law_rests c_law_led
  have c_law_resting : DefOk P w K mg base "_law_resting" 4 1 F_law_resting := w_law_resting fx D_law_resting G_law_resting c_law_calm c_law_table c_law_rests
  have c_law_r : DefOk P w K mg base "_law_r" 1 0 F_law_r := w_law_r fx D_law_r G_law_r 
  have c_law_v : DefOk P w K mg base "_law_v" 1 0 F_law_v := w_law_v fx D_law_v G_law_v 
  have c_law_moved : DefOk P w K mg base "_law_moved" 1 3 F_law_moved := w_law_moved fx D_law_moved G_law_moved 
  have c_law_is_paper : DefOk P w K mg base "_law_is_paper" 2 3 F_law_is_paper := w_law_is_paper fx D_law_is_paper G_law_is_paper c_law_led c_law_moved
  have c_law_near : DefOk P w K mg base "_law_near" 3 4 F_law_near := w_law_near fx D_law_near G_law_near c_law_roll c_law_some
  have c_law_right : DefOk P w K mg base "_law_right" 7 3 F_law_right := w_law_right fx D_law_right G_law_right c_handing_stack c_is_none_paper c_none_paper c_law_table c_law_told c_law_is_paper c_law_near
  exact w_law fx D_law D_law_cup G_law_cup c_is_none_paper c_none_paper c_law_roll c_law_table c_law_told c_law_resting c_law_r c_law_v c_law_right good
end Pg
open PySem PySem.W PySem.Calls PyProof.Rows
theorem PySem.Challenge.cw_settlepages_k49_whole_none_papers_holds : PySem.Challenge.rw_settlepages_k49_whole_none_papers.Holds := by
  w_on; o_law
  refine HandSHeadRun.head_any (r := OpenLaw.row PySem.Challenge.rw_settlepages_k49_whole_none_papers) (q := view (OpenLaw.row PySem.Challenge.rw_settlepages_k49_whole_none_papers).prog [60]) (H := SPH.hk) (ob := SPH.ob) (M := 3000) (loose := SPH.nm) (d := HandSHeadRun.topDef (OpenLaw.row PySem.Challenge.rw_settlepages_k49_whole_none_papers).prog 60) (kwd := []) SPH.ob_eq
    (by kernel_rfl) (fun s => by kernel_rfl) SPH.run (by kernel_rfl) (by kernel_rfl) (by kernel_rfl) (by rfl) (by first | assumption | decide +kernel) (by decide +kernel) ⟨rfl, rfl, rfl, rfl, rfl, by decide +kernel⟩ ?hw ?hc
  case hw => w_witness2
  case hc =>
    refine L2.walk_ofE (l := PySem.Challenge.rw_settlepages_k49_whole_none_papers) (n := 63) (k := 8) (x := "_law_script") (CX := L2.CX0) rfl (by decide) (by kernel_rfl) ⟨rfl, by decide, by decide⟩ ?F (fun _ _ _ _ z => z)
    intro w mg fa h Y G hmg0
    obtain ⟨K, KX, c⟩ := Y
    have hmg : mg ("law" : PySem.Str) = some (.ref fa) := by
      have e : (HandSHeadRun.topDef (OpenLaw.row PySem.Challenge.rw_settlepages_k49_whole_none_papers).prog 60).name = ("law" : PySem.Str) := by kernel_rfl
      rw [← e]
      exact hmg0
    obtain ⟨fd, hb, hF⟩ := Pg.facts (P := (PySem.Challenge.rw_settlepages_k49_whole_none_papers).prog) (w := w) KX G hmg c
    exact ⟨K, fd, Pg.spLaw K, KX, hb, fun H a ns hl _ hS => ⟨a, ns, rfl, hS, Nat.le_trans hl (by decide), fun _ => rfl⟩, hF⟩
