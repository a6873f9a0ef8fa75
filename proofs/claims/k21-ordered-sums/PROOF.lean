import PyProof.Rows.All
import Wide.All
import OpenK.AllK
import Wide.FinOn
import HandS.ForMost
import HandS.Exc
import HandS.Wide
import HandS.CallSlots
import HandS.TupAny
import HandS.TupMul
import HandS.Style
import HandS.Zip
import HandS.Rev
import HandS.RevRange
import HandS.IsInst
import HandS.Deep
import HandS.Text
import HandS.ExcOwn
import HandS.Defaults
import HandS.Head0
import HandS.Head1
import HandS.Head2
import HandS.HeadEnd
import HandS.HeadHook1
import HandS.HeadHook2
import PySem.Challenge.RW_keptnumbers_k21_ordered_sums
set_option Elab.async false
set_option linter.all false
set_option maxRecDepth 100000
set_option maxHeartbeats 0
namespace PK
open PySem PySem.Spec PyProof.Rows L2

/-! ### values of the evaluator: what never changes is a value; what may change is a cell of the store -/
inductive D where
  | non | bl (b : Bool) | int (i : Int) | str (x : Str)
  | tup (xs : List D) | lst (xs : List D) | dct (kvs : List (D × D))
  | ins (c : Nat) (fs : List (Nat × D)) | ref (r : Nat) | scr (ns : List Int)
inductive DO where
  | gone | lst (xs : List D) | dct (kvs : List (D × D)) | ins (c : Nat) (fs : List (Nat × D))
inductive Res (α : Type) where
  | ok (a : α) (S : List DO)
  | exc (c : Nat) (fs : List (Nat × D)) (S : List DO)
  | stuck
abbrev EM (α : Type) := List DO → Res α
@[inline] def EM.pure {α : Type} (a : α) : EM α := fun S => .ok a S
@[inline] def EM.bind {α β : Type} (m : EM α) (k : α → EM β) : EM β := fun S => match m S with
  | .ok a S' => k a S'
  | .exc c fs S' => .exc c fs S'
  | .stuck => .stuck
def EM.fail {α : Type} : EM α := fun _ => .stuck

/-- the class table: addresses and the names of fields -/
structure Cls where
  addr : Nat → Addr
  fld : Nat → Str

/-- a list that is known, or one of the written part -/
def FzL (K : PySem.W.Frag) (H : Hp) (a : Addr) (us : List V) : Prop := (∃ o, H a = some (.frz o (.lst us))) ∨
  ∃ (o : Obj) (its : Array Value) (n : Nat), K.lookup a = some o ∧ o.cls = .type "list" ∧ o.dict = none ∧ o.data = .seq its n ∧ its.size ≤ sizeLine ∧ Vals us its.toList
theorem FzL.sq {K : PySem.W.Frag} {H : Hp} {a : Addr} {us : List V} (h : FzL K H a us) : SqL K H a us := by
  rcases h with ⟨o, h⟩ | h
  · exact .inl (.inr ⟨o, h⟩)
  · exact .inr h
mutual
/-- v is the value d in the heap H; ρ: where the cells are -/
inductive RepV (K : PySem.W.Frag) (G : Cls) (ρ : List (Option Addr)) (H : Hp) : D → V → Prop
  | non : RepV K G ρ H .non .non
  | bl (b : Bool) : RepV K G ρ H (.bl b) (.bl b)
  | int (i : Int) : RepV K G ρ H (.int i) (.int i)
  | str (x : Str) : RepV K G ρ H (.str x) (.str x)
  | tup {xs : List D} {a : Addr} {us : List V} (h : SqT K H a us) (r : RepVs K G ρ H xs us) : RepV K G ρ H (.tup xs) (.ref a)
  | lst {xs : List D} {a : Addr} {us : List V} {o : Obj} (h : H a = some (.frz o (.lst us))) (r : RepVs K G ρ H xs us) : RepV K G ρ H (.lst xs) (.ref a)
  | dct {kvs : List (D × D)} {a : Addr} {u : HO} {o : Obj} (h : H a = some (.frz o u)) (r : RepD K G ρ H kvs u) : RepV K G ρ H (.dct kvs) (.ref a)
  | ins {c : Nat} {fs : List (Nat × D)} {a dx : Addr} {us : List (Str × V)} {o : Obj} (h : H a = some (.frz o (.ins (G.addr c) dx us))) (r : RepF K G ρ H fs us) : RepV K G ρ H (.ins c fs) (.ref a)
  | scr {ns : List Int} {a : Addr} (h : FzL K H a (ns.map V.int)) : RepV K G ρ H (.scr ns) (.ref a)
  | ref {r : Nat} {a : Addr} {x : Option Addr} (h : ρ[r]? = some x) (q : x = none ∨ x = some a) : RepV K G ρ H (.ref r) (.ref a)
inductive RepVs (K : PySem.W.Frag) (G : Cls) (ρ : List (Option Addr)) (H : Hp) : List D → List V → Prop
  | nil : RepVs K G ρ H [] []
  | cons {d : D} {v : V} {ds : List D} {vs : List V} (h : RepV K G ρ H d v) (r : RepVs K G ρ H ds vs) : RepVs K G ρ H (d :: ds) (v :: vs)
/-- the pairs of a dict -/
inductive RepD (K : PySem.W.Frag) (G : Cls) (ρ : List (Option Addr)) (H : Hp) : List (D × D) → HO → Prop
  | k {kvs : List (D × D)} {us : List (Key × V)} (r : RepK K G ρ H kvs us) : RepD K G ρ H kvs (.dK us)
inductive RepK (K : PySem.W.Frag) (G : Cls) (ρ : List (Option Addr)) (H : Hp) : List (D × D) → List (Key × V) → Prop
  | nil : RepK K G ρ H [] []
  | int {i : Int} {d : D} {v : V} {kvs : List (D × D)} {us : List (Key × V)} (h : RepV K G ρ H d v) (r : RepK K G ρ H kvs us) : RepK K G ρ H ((.int i, d) :: kvs) ((Sum.inl i, v) :: us)
  | str {x : Str} {d : D} {v : V} {kvs : List (D × D)} {us : List (Key × V)} (h : RepV K G ρ H d v) (r : RepK K G ρ H kvs us) : RepK K G ρ H ((.str x, d) :: kvs) ((Sum.inr x, v) :: us)
inductive RepF (K : PySem.W.Frag) (G : Cls) (ρ : List (Option Addr)) (H : Hp) : List (Nat × D) → List (Str × V) → Prop
  | nil : RepF K G ρ H [] []
  | cons {f : Nat} {d : D} {v : V} {fs : List (Nat × D)} {us : List (Str × V)} (h : RepV K G ρ H d v) (r : RepF K G ρ H fs us) : RepF K G ρ H ((f, d) :: fs) ((G.fld f, v) :: us)
end

/-- from (ρ, H) to (ρ', H'): all that is no cell stands; a cell may be gone; new cells are new objects -/
structure Ext (ρ : List (Option Addr)) (H : Hp) (ρ' : List (Option Addr)) (H' : Hp) : Prop where
  keep : ∀ b o, H b = some o → (∀ i : Nat, ρ[i]? ≠ some (some b)) → H' b = some o
  tups : ∀ b us, H b = some (.tup us) → H' b = some (.tup us)
  frzs : ∀ b o u, H b = some (.frz o u) → H' b = some (.frz o u)
  dom : ∀ b, H' b = none → H b = none
  len : ρ.length ≤ ρ'.length
  old : ∀ (i : Nat), i < ρ.length → ρ'[i]? = ρ[i]? ∨ ρ'[i]? = some none
  new : ∀ (i : Nat) a, ρ.length ≤ i → ρ'[i]? = some (some a) → H a = none
theorem Ext.refl (ρ : List (Option Addr)) (H : Hp) : Ext ρ H ρ H :=
  ⟨fun _ _ h _ => h, fun _ _ h => h, fun _ _ _ h => h, fun _ h => h, Nat.le_refl _, fun _ _ => .inl rfl, fun i a h e => by
    rw [List.getElem?_eq_none_iff.mpr h] at e; cases e⟩
theorem Ext.trans {ρ ρ1 ρ2 : List (Option Addr)} {H H1 H2 : Hp} (a : Ext ρ H ρ1 H1) (b : Ext ρ1 H1 ρ2 H2) : Ext ρ H ρ2 H2 where
  keep := fun x o h n => by
    refine b.keep x o (a.keep x o h n) fun i e => ?_
    by_cases hi : i < ρ.length
    · rcases a.old i hi with q | q
      · exact n i (q.symm.trans e)
      · rw [q] at e; cases e
    · have := a.new i x (Nat.le_of_not_lt hi) e
      rw [h] at this; cases this
  tups := fun x us h => b.tups x us (a.tups x us h)
  frzs := fun x o u h => b.frzs x o u (a.frzs x o u h)
  dom := fun x h => a.dom x (b.dom x h)
  len := Nat.le_trans a.len b.len
  old := fun i hi => by
    rcases b.old i (Nat.lt_of_lt_of_le hi a.len) with q | q
    · rcases a.old i hi with p | p
      · exact .inl (q.trans p)
      · exact .inr (q.trans p)
    · exact .inr q
  new := fun i x hi e => by
    by_cases h1 : i < ρ1.length
    · rcases b.old i h1 with q | q
      · exact a.new i x hi (q.symm.trans e)
      · rw [q] at e; cases e
    · exact a.dom x (b.new i x (Nat.le_of_not_lt h1) e)

theorem SqT.ext {K : PySem.W.Frag} {ρ ρ' : List (Option Addr)} {H H' : Hp} {a : Addr} {us : List V} (x : Ext ρ H ρ' H') (h : SqT K H a us) : SqT K H' a us := by
  rcases h with (h | ⟨o, h⟩) | h
  · exact .inl (.inl (x.tups _ _ h))
  · exact .inl (.inr ⟨o, x.frzs _ _ _ h⟩)
  · exact .inr h

theorem FzL.ext {K : PySem.W.Frag} {ρ ρ' : List (Option Addr)} {H H' : Hp} {a : Addr} {us : List V} (x : Ext ρ H ρ' H') (h : FzL K H a us) : FzL K H' a us := by
  rcases h with ⟨o, h⟩ | h
  · exact .inl ⟨o, x.frzs _ _ _ h⟩
  · exact .inr h

section
variable {K : PySem.W.Frag} {G : Cls} {ρ ρ' : List (Option Addr)} {H H' : Hp}
mutual
theorem RepV.ext (x : Ext ρ H ρ' H') : ∀ {d : D} {v : V}, RepV K G ρ H d v → RepV K G ρ' H' d v
  | _, _, .non => .non
  | _, _, .bl b => .bl b
  | _, _, .int i => .int i
  | _, _, .str z => .str z
  | _, _, .tup h r => .tup (SqT.ext x h) (RepVs.ext x r)
  | _, _, .lst h r => .lst (x.frzs _ _ _ h) (RepVs.ext x r)
  | _, _, .dct h r => .dct (x.frzs _ _ _ h) (RepD.ext x r)
  | _, _, .ins h r => .ins (x.frzs _ _ _ h) (RepF.ext x r)
  | _, _, .scr h => .scr (FzL.ext x h)
  | _, _, .ref (r := r) (a := a) (x := y) h q => by
    have hi : r < ρ.length := (List.getElem?_eq_some_iff.mp h).1
    rcases x.old r hi with e | e
    · exact .ref (e.trans h) q
    · exact .ref e (.inl rfl)
theorem RepVs.ext (x : Ext ρ H ρ' H') : ∀ {ds : List D} {vs : List V}, RepVs K G ρ H ds vs → RepVs K G ρ' H' ds vs
  | _, _, .nil => .nil
  | _, _, .cons h r => .cons (RepV.ext x h) (RepVs.ext x r)
theorem RepD.ext (x : Ext ρ H ρ' H') : ∀ {kvs : List (D × D)} {u : HO}, RepD K G ρ H kvs u → RepD K G ρ' H' kvs u
  | _, _, .k r => .k (RepK.ext x r)
theorem RepK.ext (x : Ext ρ H ρ' H') : ∀ {kvs : List (D × D)} {us : List (Key × V)}, RepK K G ρ H kvs us → RepK K G ρ' H' kvs us
  | _, _, .nil => .nil
  | _, _, .int h r => .int (RepV.ext x h) (RepK.ext x r)
  | _, _, .str h r => .str (RepV.ext x h) (RepK.ext x r)
theorem RepF.ext (x : Ext ρ H ρ' H') : ∀ {fs : List (Nat × D)} {us : List (Str × V)}, RepF K G ρ H fs us → RepF K G ρ' H' fs us
  | _, _, .nil => .nil
  | _, _, .cons h r => .cons (RepV.ext x h) (RepF.ext x r)
end
end
end PK
namespace PK
open PySem PySem.Spec PyProof.Rows L2

/-- the object u holds what o says -/
def RepC (K : PySem.W.Frag) (G : Cls) (ρ : List (Option Addr)) (H : Hp) : DO → HO → Prop
  | .gone, _ => False
  | .lst xs, u => ∃ us, u = .lst us ∧ RepVs K G ρ H xs us
  | .dct kvs, u => RepD K G ρ H kvs u
  | .ins c fs, u => ∃ dx us, u = .ins (G.addr c) dx us ∧ RepF K G ρ H fs us
/-- the cell i of the store -/
def RepO (K : PySem.W.Frag) (G : Cls) (ρ : List (Option Addr)) (H : Hp) (i : Nat) (o : DO) : Prop :=
  o = .gone ∨ ∃ a u, ρ[i]? = some (some a) ∧ H a = some u ∧ RepC K G ρ H o u
structure Rep (K : PySem.W.Frag) (G : Cls) (ρ : List (Option Addr)) (S : List DO) (H : Hp) : Prop where
  len : ρ.length = S.length
  inj : ∀ (i j : Nat) a, ρ[i]? = some (some a) → ρ[j]? = some (some a) → i = j
  obj : ∀ (i : Nat) o, S[i]? = some o → RepO K G ρ H i o
  trk : ∀ (i : Nat) a, ρ[i]? = some (some a) → ∃ o, H a = some o ∧ Mut (some o)

/-- the slots -/
abbrev Env := List (Option D)
def RepE (K : PySem.W.Frag) (G : Cls) (ρ : List (Option Addr)) (H : Hp) (E : Env) (σ : L2.St) : Prop :=
  E.length = σ.length ∧ ∀ (i : Nat) d, E[i]? = some (some d) → ∃ v, σ[i]? = some (some v) ∧ RepV K G ρ H d v

section
variable {K : PySem.W.Frag} {G : Cls} {ρ ρ' : List (Option Addr)} {S : List DO} {H H' : Hp} {E : Env} {σ : L2.St}
theorem RepE.ext (x : Ext ρ H ρ' H') (r : RepE K G ρ H E σ) : RepE K G ρ' H' E σ :=
  ⟨r.1, fun i d e => let ⟨v, h, q⟩ := r.2 i d e; ⟨v, h, RepV.ext x q⟩⟩
theorem RepE.set {i : Nat} {d : D} {v : V} (r : RepE K G ρ H E σ) (h : RepV K G ρ H d v) : RepE K G ρ H (E.set i (some d)) (σ.set i (some v)) := by
  refine ⟨by simp [r.1], fun j d' e => ?_⟩
  by_cases hj : i = j
  · subst hj
    by_cases hi : i < E.length
    · rw [List.getElem?_set_self hi] at e
      cases e
      exact ⟨v, List.getElem?_set_self (by rw [← r.1]; exact hi), h⟩
    · rw [List.getElem?_eq_none (by simpa using hi)] at e; cases e
  · rw [List.getElem?_set_ne hj] at e
    rw [List.getElem?_set_ne hj]
    exact r.2 j d' e
theorem RepE.wipe {vs : List Nat} (r : RepE K G ρ H E σ) : ∀ vs : List Nat, RepE K G ρ H (vs.foldr (fun v E => E.set v none) E) (L2.wipe σ vs)
  | [] => r
  | v :: vs => by
    have ih := RepE.wipe (vs := vs) r vs
    refine ⟨by simp [List.foldr, L2.wipe, ih.1], fun j d e => ?_⟩
    simp only [List.foldr] at e
    unfold L2.wipe
    by_cases hj : v = j
    · subst hj
      by_cases hv : v < (List.foldr (fun v E => List.set E v none) E vs).length
      · rw [List.getElem?_set_self hv] at e; cases e
      · rw [List.getElem?_eq_none (by simpa using hv)] at e; cases e
    · rw [List.getElem?_set_ne hj] at e
      rw [List.getElem?_set_ne hj]
      exact ih.2 j d e

theorem RepC.ext {o : DO} {u : HO} (x : Ext ρ H ρ' H') (r : RepC K G ρ H o u) : RepC K G ρ' H' o u := by
  cases o with
  | gone => exact r
  | lst xs => obtain ⟨us, h1, h2⟩ := r; exact ⟨us, h1, RepVs.ext x h2⟩
  | dct kvs => exact RepD.ext x r
  | ins c fs => obtain ⟨dx, us, h1, h2⟩ := r; exact ⟨dx, us, h1, RepF.ext x h2⟩
theorem RepO.ext {i : Nat} {o : DO} (x : Ext ρ H ρ' H') (hi : i < ρ.length) (hr : ρ'[i]? = ρ[i]?) (hs : ∀ a, ρ[i]? = some (some a) → H' a = H a) (r : RepO K G ρ H i o) : RepO K G ρ' H' i o := by
  rcases r with r | ⟨a, u, h1, h2, h3⟩
  · exact .inl r
  · exact .inr ⟨a, u, hr.trans h1, (hs a h1).trans h2, RepC.ext x h3⟩
/-- the same cells, their objects as they were -/
theorem Rep.same (r : Rep K G ρ S H) (x : Ext ρ H ρ H') (hs : ∀ (i : Nat) a, ρ[i]? = some (some a) → H' a = H a) : Rep K G ρ S H' where
  len := r.len
  inj := r.inj
  obj := fun i o e => (r.obj i o e).ext x (by rw [r.len]; exact (List.getElem?_eq_some_iff.mp e).1) rfl fun a h => hs i a h
  trk := fun i a e => by
    obtain ⟨o, h, m⟩ := r.trk i a e
    exact ⟨o, (hs i a e).trans h, m⟩
theorem Rep.notNew (r : Rep K G ρ S H) {p : Addr} (hp : H p = none) (i : Nat) : ρ[i]? ≠ some (some p) := fun e => by
  obtain ⟨o, h, _⟩ := r.trk i p e
  rw [hp] at h; cases h
/-- a new object that is no cell -/
theorem Ext.laid {p : Addr} {o : HO} (hp : H p = none) : Ext ρ H ρ (upd H p o) where
  keep := fun b u h _ => by rw [upd_ne (ne_of_none h hp)]; exact h
  tups := fun b u h => by rw [upd_ne (ne_of_none h hp)]; exact h
  frzs := fun b u v h => by rw [upd_ne (ne_of_none h hp)]; exact h
  dom := fun b h => by
    by_cases e : b = p
    · rw [e]; exact hp
    · rw [upd_ne e] at h; exact h
  len := Nat.le_refl _
  old := fun _ _ => .inl rfl
  new := fun i a h e => by rw [List.getElem?_eq_none_iff.mpr h] at e; cases e
theorem Rep.laid (r : Rep K G ρ S H) {p : Addr} {o : HO} (hp : H p = none) : Rep K G ρ S (upd H p o) :=
  r.same (Ext.laid hp) fun i a e => upd_ne fun z => r.notNew hp i (z ▸ e)
/-- two in a row at one place -/
theorem Ext.laid2 {p : Addr} {o u : HO} (hp : H p = none) : Ext ρ H ρ (upd (upd H p o) p u) := by
  rw [upd_upd]; exact Ext.laid hp
theorem Rep.laid2 (r : Rep K G ρ S H) {p : Addr} {o u : HO} (hp : H p = none) : Rep K G ρ S (upd (upd H p o) p u) := by
  rw [upd_upd]; exact r.laid hp

/-- a new cell -/
theorem Ext.cell {p : Addr} {o : HO} (hp : H p = none) : Ext ρ H (ρ ++ [some p]) (upd H p o) where
  keep := fun b u h _ => by rw [upd_ne (ne_of_none h hp)]; exact h
  tups := fun b u h => by rw [upd_ne (ne_of_none h hp)]; exact h
  frzs := fun b u v h => by rw [upd_ne (ne_of_none h hp)]; exact h
  dom := fun b h => by
    by_cases e : b = p
    · rw [e]; exact hp
    · rw [upd_ne e] at h; exact h
  len := by simp
  old := fun i hi => .inl (List.getElem?_append_left hi)
  new := fun i a h e => by
    rw [List.getElem?_append_right h] at e
    cases hk : i - ρ.length with
    | zero => rw [hk] at e; simp at e; rw [← e]; exact hp
    | succ n => rw [hk] at e; simp at e
theorem Rep.cell (r : Rep K G ρ S H) {p : Addr} {o : HO} {d : DO} (hp : H p = none) (m : Mut (some o)) (ro : RepO K G (ρ ++ [some p]) (upd H p o) ρ.length d) : Rep K G (ρ ++ [some p]) (S ++ [d]) (upd H p o) where
  len := by simp [r.len]
  inj := fun i j a h1 h2 => by
    have old : ∀ (k : Nat), (ρ ++ [some p])[k]? = some (some a) → (k < ρ.length ∧ ρ[k]? = some (some a)) ∨ (k = ρ.length ∧ a = p) := fun k e => by
      by_cases hk : k < ρ.length
      · rw [List.getElem?_append_left hk] at e; exact .inl ⟨hk, e⟩
      · have hk' := Nat.le_of_not_lt hk
        rw [List.getElem?_append_right hk'] at e
        cases q : k - ρ.length with
        | zero => rw [q] at e; simp at e; exact .inr ⟨by omega, e.symm⟩
        | succ n => rw [q] at e; simp at e
    rcases old i h1 with ⟨_, e1⟩ | ⟨e1, q1⟩
    · rcases old j h2 with ⟨_, e2⟩ | ⟨e2, q2⟩
      · exact r.inj i j a e1 e2
      · rw [q2] at e1; exact absurd e1 (r.notNew hp i)
    · rcases old j h2 with ⟨_, e2⟩ | ⟨e2, q2⟩
      · rw [q1] at e2; exact absurd e2 (r.notNew hp j)
      · rw [e1, e2]
  obj := fun i o' e => by
    by_cases hi : i < S.length
    · rw [List.getElem?_append_left hi] at e
      have hi' : i < ρ.length := by rw [r.len]; exact hi
      exact (r.obj i o' e).ext (Ext.cell hp) hi' (List.getElem?_append_left hi') fun a h => upd_ne fun z => r.notNew hp i (z ▸ h)
    · have hi' := Nat.le_of_not_lt hi
      rw [List.getElem?_append_right hi'] at e
      cases q : i - S.length with
      | zero =>
        rw [q] at e; simp at e
        have : i = ρ.length := by rw [r.len]; omega
        rw [← e, this]; exact ro
      | succ n => rw [q] at e; simp at e
  trk := fun i a e => by
    by_cases hi : i < ρ.length
    · rw [List.getElem?_append_left hi] at e
      obtain ⟨u, h, m'⟩ := r.trk i a e
      exact ⟨u, by rw [upd_ne (ne_of_none h hp)]; exact h, m'⟩
    · rw [List.getElem?_append_right (Nat.le_of_not_lt hi)] at e
      cases q : i - ρ.length with
      | zero => rw [q] at e; simp at e; rw [← e]; exact ⟨o, upd_same, m⟩
      | succ n => rw [q] at e; simp at e
/-- a cell is written -/
theorem Ext.wrote {i : Nat} {a : Addr} {o u : HO} (ha : ρ[i]? = some (some a)) (h0 : H a = some u) (m : Mut (some u)) : Ext ρ H ρ (upd H a o) where
  keep := fun b v h n => by rw [upd_ne (show b ≠ a from fun z => n i (by rw [z]; exact ha))]; exact h
  tups := fun b us h => by
    rw [upd_ne (fun z => ?_)]
    · exact h
    · subst z; rw [h0] at h; cases h; exact m
  frzs := fun b v us h => by
    rw [upd_ne (fun z => ?_)]
    · exact h
    · subst z; rw [h0] at h; cases h; exact m
  dom := fun b h => by
    by_cases e : b = a
    · rw [e, upd_same] at h; cases h
    · rw [upd_ne e] at h; exact h
  len := Nat.le_refl _
  old := fun _ _ => .inl rfl
  new := fun j b h e => by rw [List.getElem?_eq_none_iff.mpr h] at e; cases e
theorem Rep.wrote (r : Rep K G ρ S H) {i : Nat} {a : Addr} {o u : HO} {d : DO} (ha : ρ[i]? = some (some a)) (h0 : H a = some u) (m0 : Mut (some u)) (m : Mut (some o)) (ro : RepO K G ρ (upd H a o) i d) : Rep K G ρ (S.set i d) (upd H a o) where
  len := by simp [r.len]
  inj := r.inj
  obj := fun j o' e => by
    have hx : Ext ρ H ρ (upd H a o) := Ext.wrote ha h0 m0
    by_cases hj : i = j
    · subst hj
      by_cases hi : i < S.length
      · rw [List.getElem?_set_self hi] at e; cases e; exact ro
      · rw [List.getElem?_eq_none (by simpa using hi)] at e; cases e
    · rw [List.getElem?_set_ne hj] at e
      exact (r.obj j o' e).ext hx (by rw [r.len]; exact (List.getElem?_eq_some_iff.mp e).1) rfl fun b h => upd_ne fun z => hj (r.inj i j a ha (z ▸ h))
  trk := fun j b e => by
    by_cases hb : b = a
    · rw [hb]; exact ⟨o, upd_same, m⟩
    · rw [upd_ne hb]; exact r.trk j b e
/-- a cell is given up: its object is known from now on -/
theorem Ext.froze {i : Nat} {a : Addr} {o u : HO} (ha : ρ[i]? = some (some a)) (h0 : H a = some u) (m : Mut (some u)) : Ext ρ H (ρ.set i none) (upd H a o) where
  keep := fun b v h n => by rw [upd_ne (show b ≠ a from fun z => n i (by rw [z]; exact ha))]; exact h
  tups := fun b us h => by
    rw [upd_ne (fun z => ?_)]
    · exact h
    · subst z; rw [h0] at h; cases h; exact m
  frzs := fun b v us h => by
    rw [upd_ne (fun z => ?_)]
    · exact h
    · subst z; rw [h0] at h; cases h; exact m
  dom := fun b h => by
    by_cases e : b = a
    · rw [e, upd_same] at h; cases h
    · rw [upd_ne e] at h; exact h
  len := by simp
  old := fun j hj => by
    by_cases e : i = j
    · subst e; exact .inr (List.getElem?_set_self hj)
    · exact .inl (List.getElem?_set_ne e)
  new := fun j b h e => by rw [List.getElem?_eq_none_iff.mpr (by simpa using h)] at e; cases e
theorem Rep.froze (r : Rep K G ρ S H) {i : Nat} {a : Addr} {o u : HO} (ha : ρ[i]? = some (some a)) (h0 : H a = some u) (m0 : Mut (some u)) : Rep K G (ρ.set i none) (S.set i .gone) (upd H a o) where
  len := by simp [r.len]
  inj := fun j k b h1 h2 => by
    have f : ∀ (l : Nat), (ρ.set i none)[l]? = some (some b) → ρ[l]? = some (some b) := fun l e => by
      by_cases hl : i = l
      · subst hl
        by_cases hi : i < ρ.length
        · rw [List.getElem?_set_self hi] at e; cases e
        · rw [List.getElem?_eq_none (by simpa using hi)] at e; cases e
      · rwa [List.getElem?_set_ne hl] at e
    exact r.inj j k b (f j h1) (f k h2)
  obj := fun j o' e => by
    by_cases hj : i = j
    · subst hj
      by_cases hi : i < S.length
      · rw [List.getElem?_set_self hi] at e; cases e; exact .inl rfl
      · rw [List.getElem?_eq_none (by simpa using hi)] at e; cases e
    · rw [List.getElem?_set_ne hj] at e
      exact (r.obj j o' e).ext (Ext.froze ha h0 m0) (by rw [r.len]; exact (List.getElem?_eq_some_iff.mp e).1) (List.getElem?_set_ne hj) fun b h => upd_ne fun z => hj (r.inj i j a ha (z ▸ h))
  trk := fun j b e => by
    by_cases hj : i = j
    · subst hj
      by_cases hi : i < ρ.length
      · rw [List.getElem?_set_self hi] at e; cases e
      · rw [List.getElem?_eq_none (by simpa using hi)] at e; cases e
    · rw [List.getElem?_set_ne hj] at e
      rw [upd_ne (show b ≠ a from fun z => hj (r.inj i j a ha (by rw [← z]; exact e)))]
      exact r.trk j b e
end

/-! ### freezing in the machine's state -/
section
variable {X : Cx} {pins : List (Addr × Obj)} {σ : L2.St} {H : Hp} {s : Shared}
theorem freeze {a : Addr} {u : HO} (I : Inv X pins σ H s) (h : H a = some u) (mu : Mut (some u)) : ∃ ob, Inv X pins σ (upd H a (.frz ob u)) s := I.lock h mu
end
end PK
namespace PK
open PySem PySem.Spec PyProof.Rows L2

/-- an exception's fields -/
def RepX (K : PySem.W.Frag) (G : Cls) (ρ : List (Option Addr)) (H : Hp) (fs : List (Nat × D)) (od : Option Addr) : Prop :=
  (fs = [] ∧ od = none) ∨ ∃ dx us, od = some dx ∧ H dx = some (.xd us) ∧ RepF K G ρ H fs us

/-- what a run of the evaluator gives, told to the machine -/
def Go (K : PySem.W.Frag) (G : Cls) {α β : Type} (R : List (Option Addr) → Hp → α → β → Prop) (W : L2.WX) (σ : L2.St) (ρ : List (Option Addr)) (H : Hp) (r : Res α) (Q : β → Hp → Prop) : Prop :=
  match r with
  | .ok a S' => ∀ ρ' b H', Ext ρ H ρ' H' → Rep K G ρ' S' H' → R ρ' H' a b → Q b H'
  | .exc c fs S' => ∀ ρ' H' od, Ext ρ H ρ' H' → Rep K G ρ' S' H' → RepX K G ρ' H' fs od → W (.ref (G.addr c)) od σ H'
  | .stuck => False
def tG (K : PySem.W.Frag) (G : Cls) {α β : Type} (R : List (Option Addr) → Hp → α → β → Prop) (W : L2.WX) (m : Env → EM α) : L2.St → Hp → (β → Hp → Prop) → Prop :=
  fun σ H Q => ∃ ρ S E, Rep K G ρ S H ∧ RepE K G ρ H E σ ∧ Go K G R W σ ρ H (m E S) Q
abbrev RD (K : PySem.W.Frag) (G : Cls) : List (Option Addr) → Hp → D → V → Prop := fun ρ H d v => RepV K G ρ H d v
abbrev RDs (K : PySem.W.Frag) (G : Cls) : List (Option Addr) → Hp → List D → List V → Prop := fun ρ H d v => RepVs K G ρ H d v
abbrev RB : List (Option Addr) → Hp → Bool → Bool → Prop := fun _ _ a b => a = b
abbrev tM (K : PySem.W.Frag) (G : Cls) (W : L2.WX) (m : Env → EM D) : TE := tG K G (RD K G) W m
abbrev tA (K : PySem.W.Frag) (G : Cls) (W : L2.WX) (m : Env → EM (List D)) : TA := tG K G (RDs K G) W m
abbrev tT (K : PySem.W.Frag) (G : Cls) (W : L2.WX) (m : Env → EM Bool) : TT := tG K G RB W m

section
variable {K : PySem.W.Frag} {G : Cls} {α β α' β' : Type} {R : List (Option Addr) → Hp → α → β → Prop} {R' : List (Option Addr) → Hp → α' → β' → Prop} {W : L2.WX} {σ : L2.St} {ρ ρ' : List (Option Addr)} {S : List DO} {H H' : Hp} {E : Env}
theorem Go.ext {r : Res α} {Q : β → Hp → Prop} (x : Ext ρ H ρ' H') (h : Go K G R W σ ρ H r Q) : Go K G R W σ ρ' H' r Q := by
  cases r with
  | ok a S' => exact fun ρ1 b H1 x1 r1 q => h ρ1 b H1 (x.trans x1) r1 q
  | exc c fs S' => exact fun ρ1 H1 od x1 r1 q => h ρ1 H1 od (x.trans x1) r1 q
  | stuck => exact h
theorem Go.mono {r : Res α} {Q Q' : β → Hp → Prop} (h : Go K G R W σ ρ H r Q) (i : ∀ b H', Q b H' → Q' b H') : Go K G R W σ ρ H r Q' := by
  cases r with
  | ok a S' => exact fun ρ1 b H1 x1 r1 q => i _ _ (h ρ1 b H1 x1 r1 q)
  | exc c fs S' => exact h
  | stuck => exact h
theorem Go.bind {m : EM α} {k : α → EM α'} {Q : β' → Hp → Prop} (h : Go K G R' W σ ρ H (EM.bind m k S) Q) :
    Go K G R W σ ρ H (m S) fun b H1 => ∃ ρ1 S1 a, Ext ρ H ρ1 H1 ∧ Rep K G ρ1 S1 H1 ∧ R ρ1 H1 a b ∧ Go K G R' W σ ρ1 H1 (k a S1) Q := by
  unfold EM.bind at h
  cases e : m S with
  | ok a S' =>
    rw [e] at h
    exact fun ρ1 b H1 x1 r1 q => ⟨ρ1, S', a, x1, r1, q, Go.ext x1 h⟩
  | exc c fs S' => rw [e] at h; exact h
  | stuck => rw [e] at h; exact h
/-- the first of two runs -/
theorem tG_bind {m : Env → EM α} {k : Env → α → EM α'} {Q : β' → Hp → Prop} (h : tG K G R' W (fun E => EM.bind (m E) (k E)) σ H Q) :
    tG K G R W m σ H fun b H1 => ∃ ρ1 S1 E a, Rep K G ρ1 S1 H1 ∧ RepE K G ρ1 H1 E σ ∧ R ρ1 H1 a b ∧ Go K G R' W σ ρ1 H1 (k E a S1) Q := by
  obtain ⟨ρ, S, E, r, re, g⟩ := h
  refine ⟨ρ, S, E, r, re, Go.mono (Go.bind g) ?_⟩
  rintro b H1 ⟨ρ1, S1, a, x1, r1, q, g1⟩
  exact ⟨ρ1, S1, E, a, r1, RepE.ext x1 re, q, g1⟩
theorem _root_.L2.PE.weak {X : Cx} {e : Expr} {t t' : TE} (h : PE X e t) (i : ∀ σ H Q, t' σ H Q → t σ H Q) : PE X e t' := ⟨fun pins s σ H Q I q => h.run pins s σ H Q I (i σ H Q q)⟩
theorem _root_.L2.PT.weak {X : Cx} {e : Expr} {t t' : TT} (h : PT X e t) (i : ∀ σ H Q, t' σ H Q → t σ H Q) : PT X e t' := ⟨fun pins s σ H Q I q => h.run pins s σ H Q I (i σ H Q q)⟩
theorem _root_.L2.PW.weak {X : Cx} {e : Expr} {t t' : TT} (h : PW X e t) (i : ∀ σ H Q, t' σ H Q → t σ H Q) : PW X e t' := ⟨fun wh pins s σ H Q I q => h.run wh pins s σ H Q I (i σ H Q q)⟩
theorem _root_.L2.PA.weak {X : Cx} {e : List Expr} {t t' : TA} (h : PA X e t) (i : ∀ σ H Q, t' σ H Q → t σ H Q) : PA X e t' := ⟨fun p pins s σ H Q I q => h.run p pins s σ H Q I (i σ H Q q)⟩
/-- the end of a run whose value stands: nothing else has changed -/
theorem Go.here {d : α} {v : β} {Q : β → Hp → Prop} (g : Go K G R W σ ρ H (EM.pure d S) Q) (r : Rep K G ρ S H) (q : R ρ H d v) : Q v H := g ρ v H (Ext.refl _ _) r q
def EM.ofO {α : Type} : Option α → EM α
  | some a => EM.pure a
  | none => EM.fail
theorem Go.ofO {o : Option α} {Q : β → Hp → Prop} (g : Go K G R W σ ρ H (EM.ofO o S) Q) (r : Rep K G ρ S H) : ∃ d, o = some d ∧ ∀ ρ' b H', Ext ρ H ρ' H' → Rep K G ρ' S H' → R ρ' H' d b → Q b H' := by
  cases o with
  | none => exact g.elim
  | some d => exact ⟨d, rfl, g⟩
end

/-! ### expressions -/
section
variable {X : Cx} {G : Cls} {W : L2.WX} {a b c : Expr} {pos : Pos} {ma mb mc : Env → EM D}
def eVar (i : Nat) : Env → EM D := fun E => match E[i]? with
  | some (some d) => EM.pure d
  | _ => EM.fail
theorem pm_var {i : Nat} {x : Str} (hN : X.N[i]? = some x) (hv : Vis X.env.scope x) (hd : (x == ("__debug__" : Str)) = false) (hcd : (x == ("__classdict__" : Str)) = false) : PE X (.Name x pos) (tM X.K G W (eVar i)) :=
  (pe_var hN hv hd hcd).weak fun σ H Q ⟨ρ, S, E, r, re, g⟩ => by
    unfold eVar at g
    cases e : E[i]? with
    | none => rw [e] at g; exact g.elim
    | some o =>
      cases o with
      | none => rw [e] at g; exact g.elim
      | some d =>
        rw [e] at g
        obtain ⟨v, h1, h2⟩ := re.2 i d e
        exact ⟨v, h1, g.here r h2⟩
theorem pm_c {d : D} {v : V} (h : PE X a (tC v)) (q : ∀ ρ H, RepV X.K G ρ H d v) : PE X a (tM X.K G W fun _ => EM.pure d) :=
  h.weak fun σ H Q ⟨ρ, S, E, r, re, g⟩ => g.here r (q ρ H)
theorem pm_int {i j} : PE X (.Constant (.int i) j pos) (tM X.K G W fun _ => EM.pure (.int i)) := pm_c pe_int fun _ _ => .int i
theorem pm_bl {i j} : PE X (.Constant (.bool i) j pos) (tM X.K G W fun _ => EM.pure (.bl i)) := pm_c pe_bl fun _ _ => .bl i
theorem pm_non {j} : PE X (.Constant .none j pos) (tM X.K G W fun _ => EM.pure .non) := pm_c pe_non fun _ _ => .non
theorem pm_str {i j} : PE X (.Constant (.str i) j pos) (tM X.K G W fun _ => EM.pure (.str i)) := pm_c pe_str fun _ _ => .str i

/-- nothing is raised -/
abbrev W0 : L2.WX := fun _ _ _ _ => False
/-- operations by values: a two-place one, a call's -/
def r2M (K : PySem.W.Frag) (G : Cls) (m : D → D → EM D) : R2 := fun vx vy H Q => ∃ ρ S x y, Rep K G ρ S H ∧ RepV K G ρ H x vx ∧ RepV K G ρ H y vy ∧ Go K G (RD K G) W0 [] ρ H (m x y S) Q
def r1M (K : PySem.W.Frag) (G : Cls) (m : D → EM D) : V → Hp → VK → Prop := fun vx H Q => ∃ ρ S x, Rep K G ρ S H ∧ RepV K G ρ H x vx ∧ Go K G (RD K G) W0 [] ρ H (m x S) Q
def rsM (K : PySem.W.Frag) (G : Cls) (m : List D → EM D) : List V → Hp → VK → Prop := fun vs H Q => ∃ ρ S xs, Rep K G ρ S H ∧ RepVs K G ρ H xs vs ∧ Go K G (RD K G) W0 [] ρ H (m xs S) Q
def rmM (K : PySem.W.Frag) (G : Cls) (m : D → List D → EM D) : V → List V → Hp → VK → Prop := fun vx vs H Q => ∃ ρ S x xs, Rep K G ρ S H ∧ RepV K G ρ H x vx ∧ RepVs K G ρ H xs vs ∧ Go K G (RD K G) W0 [] ρ H (m x xs S) Q
/-- an evaluator's step that raises nothing -/
def NoExc {α : Type} (m : EM α) : Prop := ∀ S c fs S', m S ≠ .exc c fs S'
theorem Go.w0 {α β : Type} {K : PySem.W.Frag} {R : List (Option Addr) → Hp → α → β → Prop} {σ : L2.St} {ρ : List (Option Addr)} {S : List DO} {H : Hp} {m : EM α} {Q : β → Hp → Prop} (n : NoExc m) (g : Go K G R W σ ρ H (m S) Q) : Go K G R W0 [] ρ H (m S) Q := by
  cases e : m S with
  | ok a S' => rw [e] at g; exact g
  | exc c fs S' => exact (n S c fs S' e).elim
  | stuck => rw [e] at g; exact g
def e2 (f : D → D → EM D) (ma mb : Env → EM D) : Env → EM D := fun E => EM.bind (ma E) fun x => EM.bind (mb E) fun y => f x y
def e1 (f : D → EM D) (ma : Env → EM D) : Env → EM D := fun E => EM.bind (ma E) f
def es (f : List D → EM D) (ma : Env → EM (List D)) : Env → EM D := fun E => EM.bind (ma E) f
theorem tM_2 {f : D → D → EM D} (n : ∀ x y, NoExc (f x y)) {σ : L2.St} {H : Hp} {Q : VK} (h : tM X.K G W (e2 f ma mb) σ H Q) : tOp (r2M X.K G f) (tM X.K G W ma) (tM X.K G W mb) σ H Q := by
  obtain ⟨ρ, S, E, rp, re, g⟩ := h
  refine ⟨ρ, S, E, rp, re, Go.mono (Go.bind g) ?_⟩
  rintro v1 H1 ⟨ρ1, S1, x, x1, r1, q1, g1⟩
  refine ⟨ρ1, S1, E, r1, RepE.ext x1 re, Go.mono (Go.bind g1) ?_⟩
  rintro v2 H2 ⟨ρ2, S2, y, x2, r2, q2, g2⟩
  exact ⟨ρ2, S2, x, y, r2, RepV.ext x2 q1, q2, g2.w0 (n x y)⟩
theorem pm_op {op : Operator} {m : D → D → EM D} (ho : OpR X (binaryOp op) (r2M X.K G m)) (n : ∀ x y, NoExc (m x y)) (ha : PE X a (tM X.K G W ma)) (hb : PE X b (tM X.K G W mb)) : PE X (.BinOp a op b pos) (tM X.K G W (e2 m ma mb)) :=
  (pe_op ho ha hb).weak fun σ H Q q => tM_2 n q
theorem pm_cmp {op : CmpOp} {m : D → D → EM D} (ho : OpR X (compareOp op) (r2M X.K G m)) (n : ∀ x y, NoExc (m x y)) (ha : PE X a (tM X.K G W ma)) (hb : PE X b (tM X.K G W mb)) (hm : behindInMarks op b = false) : PE X (.Compare a [op] [b] pos) (tM X.K G W (e2 m ma mb)) :=
  (pe_cmpR ho ha hb hm).weak fun σ H Q q => tM_2 n q
theorem pm_ix {m : D → D → EM D} (ho : IxR X (r2M X.K G m)) (n : ∀ x y, NoExc (m x y)) (ha : PE X a (tM X.K G W ma)) (hb : PE X b (tM X.K G W mb)) (hs : PlainIx b) : PE X (.Subscript a b pos) (tM X.K G W (e2 m ma mb)) :=
  (pe_ix ho ha hb hs).weak fun σ H Q q => tM_2 n q
theorem pm_un {op : UnaryOp} {m : D → EM D} (ho : UnR X (unaryOp op) (r1M X.K G m)) (n : ∀ x, NoExc (m x)) (ha : PE X a (tM X.K G W ma)) : PE X (.UnaryOp op a pos) (tM X.K G W (e1 m ma)) :=
  (pe_un ho ha).weak fun σ H Q ⟨ρ, S, E, rp, re, g⟩ => ⟨ρ, S, E, rp, re, Go.mono (Go.bind g) fun v1 H1 ⟨ρ1, S1, x, x1, r1, q1, g1⟩ => ⟨ρ1, S1, x, r1, q1, g1.w0 (n x)⟩⟩
def asB : D → Option Bool
  | .bl b => some b
  | _ => none
def eTest (m : Env → EM D) : Env → EM Bool := fun E => EM.bind (m E) fun d => EM.ofO (asB d)
theorem RepV.bl_inv {K : PySem.W.Frag} {ρ : List (Option Addr)} {H : Hp} {d : D} {v : V} {k : Bool} (h : RepV K G ρ H d v) (e : asB d = some k) : v = .bl k := by
  cases h <;> simp [asB] at e
  rw [e]
theorem tTest_of {m : Env → EM D} {t : TE} {σ : L2.St} {H : Hp} {Q : Bool → Hp → Prop} (i : ∀ Q', tM X.K G W m σ H Q' → t σ H Q') (h : tT X.K G W (eTest m) σ H Q) : tTest t σ H Q := by
  refine i _ ?_
  obtain ⟨ρ, S, E, rp, re, g⟩ := h
  refine ⟨ρ, S, E, rp, re, Go.mono (Go.bind g) ?_⟩
  rintro v H1 ⟨ρ1, S1, d, x1, r1, q1, g1⟩
  obtain ⟨k, e, kk⟩ := g1.ofO r1
  exact ⟨k, q1.bl_inv e, kk ρ1 k H1 (Ext.refl _ _) r1 rfl⟩
theorem pt_cmpM {op : CmpOp} {m : D → D → EM D} (ho : OpR X (compareOp op) (r2M X.K G m)) (n : ∀ x y, NoExc (m x y)) (ha : PE X a (tM X.K G W ma)) (hb : PE X b (tM X.K G W mb)) (hm : behindInMarks op b = false) : PT X (.Compare a [op] [b] pos) (tT X.K G W (eTest (e2 m ma mb))) :=
  (pt_cmpR ho ha hb hm).weak fun σ H Q q => tTest_of (fun Q' q' => tM_2 n q') q
theorem pt_valM {m : Env → EM D} (h : PE X a (tM X.K G W m)) (he : ∀ whole, isTrue a X.env whole = (do let v ← whole; standAt a.pos; holding [v] (truthy v))) : PT X a (tT X.K G W (eTest m)) :=
  (pt_val h he).weak fun σ H Q q => tTest_of (fun _ q' => q') q

/-! ### arguments -/
def eNil : Env → EM (List D) := fun _ => EM.pure []
def eCons (m : Env → EM D) (ms : Env → EM (List D)) : Env → EM (List D) := fun E => EM.bind (m E) fun x => EM.bind (ms E) fun xs => EM.pure (x :: xs)
theorem pa_nilM : PA X [] (tA X.K G W eNil) := pa_nil.weak fun σ H Q ⟨ρ, S, E, r, re, g⟩ => g.here r .nil
theorem pa_consM {e : Expr} {es : List Expr} {m : Env → EM D} {ms : Env → EM (List D)} (he : PE X e (tM X.K G W m)) (hr : PA X es (tA X.K G W ms)) (hs : starEach (e :: es) X.env = (false, eval e X.env) :: starEach es X.env) : PA X (e :: es) (tA X.K G W (eCons m ms)) :=
  (pa_cons he hr hs).weak fun σ H Q ⟨ρ, S, E, rp, re, g⟩ => by
    refine ⟨ρ, S, E, rp, re, Go.mono (Go.bind g) ?_⟩
    rintro v1 H1 ⟨ρ1, S1, x, x1, r1, q1, g1⟩
    refine ⟨ρ1, S1, E, r1, RepE.ext x1 re, Go.mono (Go.bind g1) ?_⟩
    rintro v2 H2 ⟨ρ2, S2, xs, x2, r2, q2, g2⟩
    exact g2.here r2 (.cons (RepV.ext x2 q1) q2)
/-! ### tuples -/
def mTup (xs : List D) : EM D := if xs.length ≤ 1000 then EM.pure (.tup xs) else EM.fail
theorem RepVs.length {K : PySem.W.Frag} {ρ : List (Option Addr)} {H : Hp} : ∀ {ds : List D} {vs : List V}, RepVs K G ρ H ds vs → ds.length = vs.length
  | _, _, .nil => rfl
  | _, _, .cons _ r => congrArg Nat.succ r.length
theorem line1000 {n : Nat} (h : n ≤ 1000) : n ≤ sizeLine := Nat.le_trans h (by rw [sizeLine_eq]; decide)
theorem pm_tup {es : List Expr} {ms : Env → EM (List D)} {x1} (h : PA X es (tA X.K G W ms)) : PE X (.Tuple es x1 pos) (tM X.K G W (PK.es mTup ms)) :=
  (pe_tup h).weak fun σ H Q ⟨ρ, S, E, rp, re, g⟩ => by
    refine ⟨ρ, S, E, rp, re, Go.mono (Go.bind g) ?_⟩
    rintro vs H1 ⟨ρ1, S1, xs, x1, r1, q1, g1⟩
    unfold mTup at g1
    by_cases hl : xs.length ≤ 1000
    · rw [if_pos hl] at g1
      refine ⟨by rw [← q1.length]; exact line1000 hl, fun p hp => ?_⟩
      exact g1 ρ1 (.ref p) _ (Ext.laid hp) (r1.laid hp) (.tup (SqT.of upd_same) (RepVs.ext (Ext.laid hp) q1))
    · rw [if_neg hl] at g1; exact g1.elim
/-! ### and, or, not, if else -/
def eAnd (m n : Env → EM Bool) : Env → EM Bool := fun E => EM.bind (m E) fun b => if b = true then n E else EM.pure false
def eOr (m n : Env → EM Bool) : Env → EM Bool := fun E => EM.bind (m E) fun b => if b = true then EM.pure true else n E
def eNot (m : Env → EM Bool) : Env → EM Bool := fun E => EM.bind (m E) fun b => EM.pure (!b)
def eIf {α : Type} (c : Env → EM Bool) (m n : Env → EM α) : Env → EM α := fun E => EM.bind (c E) fun b => if b = true then m E else n E
variable {rest : List Expr} {na nb nc : Env → EM Bool}
theorem pw_and1M (ha : PT X a (tT X.K G W na)) : PW X (.BoolOp .And [a] pos) (tT X.K G W na) := pw_and1 ha
theorem pw_or1M (ha : PT X a (tT X.K G W na)) : PW X (.BoolOp .Or [a] pos) (tT X.K G W na) := pw_or1 ha
theorem pw_andM (ha : PT X a (tT X.K G W na)) (hb : PW X (.BoolOp .And (b :: rest) pos) (tT X.K G W nb)) : PW X (.BoolOp .And (a :: b :: rest) pos) (tT X.K G W (eAnd na nb)) :=
  (pw_and ha hb).weak fun σ H Q ⟨ρ, S, E, rp, re, g⟩ => by
    refine ⟨ρ, S, E, rp, re, Go.mono (Go.bind g) ?_⟩
    rintro c H1 ⟨ρ1, S1, k, x1, r1, q1, g1⟩
    cases q1
    cases c with
    | true => rw [if_pos rfl] at g1 ⊢; exact ⟨ρ1, S1, E, r1, RepE.ext x1 re, g1⟩
    | false => rw [if_neg Bool.false_ne_true] at g1 ⊢; exact g1.here r1 rfl
theorem pw_orM (ha : PT X a (tT X.K G W na)) (hb : PW X (.BoolOp .Or (b :: rest) pos) (tT X.K G W nb)) : PW X (.BoolOp .Or (a :: b :: rest) pos) (tT X.K G W (eOr na nb)) :=
  (pw_or ha hb).weak fun σ H Q ⟨ρ, S, E, rp, re, g⟩ => by
    refine ⟨ρ, S, E, rp, re, Go.mono (Go.bind g) ?_⟩
    rintro c H1 ⟨ρ1, S1, k, x1, r1, q1, g1⟩
    cases q1
    cases c with
    | true => rw [if_pos rfl] at g1 ⊢; exact g1.here r1 rfl
    | false => rw [if_neg Bool.false_ne_true] at g1 ⊢; exact ⟨ρ1, S1, E, r1, RepE.ext x1 re, g1⟩
theorem pt_notM (ha : PT X a (tT X.K G W na)) : PT X (.UnaryOp .Not a pos) (tT X.K G W (eNot na)) :=
  (pt_not ha).weak fun σ H Q ⟨ρ, S, E, rp, re, g⟩ => by
    refine ⟨ρ, S, E, rp, re, Go.mono (Go.bind g) ?_⟩
    rintro c H1 ⟨ρ1, S1, k, x1, r1, q1, g1⟩
    cases q1
    exact g1.here r1 rfl
theorem pm_ife (hc : PT X c (tT X.K G W nc)) (ha : PE X a (tM X.K G W ma)) (hb : PE X b (tM X.K G W mb)) : PE X (.IfExp c a b pos) (tM X.K G W (eIf nc ma mb)) :=
  (pe_ifExp hc ha hb).weak fun σ H Q ⟨ρ, S, E, rp, re, g⟩ => by
    refine ⟨ρ, S, E, rp, re, Go.mono (Go.bind g) ?_⟩
    rintro k H1 ⟨ρ1, S1, k', x1, r1, q1, g1⟩
    cases q1
    cases k with
    | true => rw [if_pos rfl] at g1 ⊢; exact ⟨ρ1, S1, E, r1, RepE.ext x1 re, g1⟩
    | false => rw [if_neg Bool.false_ne_true] at g1 ⊢; exact ⟨ρ1, S1, E, r1, RepE.ext x1 re, g1⟩
/-- and, or of truth values, as a value -/
def eB (m : Env → EM Bool) : Env → EM D := fun E => EM.bind (m E) fun b => EM.pure (.bl b)
end
end PK
namespace PK
open PySem PySem.Spec PyProof.Rows L2

/-! ### looking at values -/
section
variable {K : PySem.W.Frag} {G : Cls} {ρ : List (Option Addr)} {S : List DO} {H : Hp}
theorem RepV.int_inv {i : Int} {v : V} (h : RepV K G ρ H (.int i) v) : v = .int i := by cases h; rfl
theorem RepV.str_inv {x : Str} {v : V} (h : RepV K G ρ H (.str x) v) : v = .str x := by cases h; rfl
theorem RepV.bl_inv' {b : Bool} {v : V} (h : RepV K G ρ H (.bl b) v) : v = .bl b := by cases h; rfl
theorem RepV.tup_inv {xs : List D} {v : V} (h : RepV K G ρ H (.tup xs) v) : ∃ a us, v = .ref a ∧ SqT K H a us ∧ RepVs K G ρ H xs us := by
  cases h with
  | tup h r => exact ⟨_, _, rfl, h, r⟩
theorem RepV.lst_inv {xs : List D} {v : V} (h : RepV K G ρ H (.lst xs) v) : ∃ a us o, v = .ref a ∧ H a = some (.frz o (.lst us)) ∧ RepVs K G ρ H xs us := by
  cases h with
  | lst h r => exact ⟨_, _, _, rfl, h, r⟩
theorem RepV.dct_inv {kvs : List (D × D)} {v : V} (h : RepV K G ρ H (.dct kvs) v) : ∃ a o u, v = .ref a ∧ H a = some (.frz o u) ∧ RepD K G ρ H kvs u := by
  cases h with
  | dct h r => exact ⟨_, _, _, rfl, h, r⟩
theorem RepV.ins_inv {c : Nat} {fs : List (Nat × D)} {v : V} (h : RepV K G ρ H (.ins c fs) v) : ∃ a dx us o, v = .ref a ∧ H a = some (.frz o (.ins (G.addr c) dx us)) ∧ RepF K G ρ H fs us := by
  cases h with
  | ins h r => exact ⟨_, _, _, _, rfl, h, r⟩
theorem RepV.scr_inv {ns : List Int} {v : V} (h : RepV K G ρ H (.scr ns) v) : ∃ a, v = .ref a ∧ FzL K H a (ns.map V.int) := by
  cases h with
  | scr h => exact ⟨_, rfl, h⟩
theorem RepVs.ofInts : ∀ ns : List Int, RepVs K G ρ H (ns.map .int) (ns.map V.int)
  | [] => .nil
  | n :: ns => .cons (.int n) (RepVs.ofInts ns)
theorem RepV.ref_inv {r : Nat} {v : V} (h : RepV K G ρ H (.ref r) v) : ∃ a x, v = .ref a ∧ ρ[r]? = some x ∧ (x = none ∨ x = some a) := by
  cases h with
  | ref h q => exact ⟨_, _, rfl, h, q⟩
/-- a cell that is asked -/
theorem Rep.at {r : Nat} {v : V} {o : DO} (rp : Rep K G ρ S H) (h : RepV K G ρ H (.ref r) v) (e : S[r]? = some o) (n : o ≠ .gone) : ∃ a u, v = .ref a ∧ ρ[r]? = some (some a) ∧ H a = some u ∧ Mut (some u) ∧ RepC K G ρ H o u := by
  obtain ⟨a, x, rfl, h1, q⟩ := h.ref_inv
  rcases rp.obj r o e with z | ⟨a', u, h2, h3, h4⟩
  · exact absurd z n
  · rw [h1] at h2
    rcases q with q | q
    · rw [q] at h2; cases h2
    · rw [q] at h2; cases h2
      obtain ⟨u', h5, m⟩ := rp.trk r _ (h1.trans (by rw [q]))
      rw [h3] at h5; cases h5
      exact ⟨_, _, rfl, h1.trans (by rw [q]), h3, m, h4⟩
def viewL (S : List DO) : D → Option (List D)
  | .lst xs => some xs
  | .ref r => match S[r]? with
    | some (.lst xs) => some xs
    | _ => none
  | _ => none
theorem viewL_ok {d : D} {v : V} {xs : List D} (rp : Rep K G ρ S H) (h : RepV K G ρ H d v) (e : viewL S d = some xs) : ∃ a us, v = .ref a ∧ Rd H a (.lst us) ∧ RepVs K G ρ H xs us := by
  unfold viewL at e
  split at e
  · cases e
    obtain ⟨a, us, o, rfl, h1, h2⟩ := h.lst_inv
    exact ⟨a, us, rfl, .inr ⟨o, h1⟩, h2⟩
  · split at e
    · rename_i hs
      cases e
      obtain ⟨a, u, rfl, _, h1, _, us, rfl, h2⟩ := rp.at h hs (by intro z; cases z)
      exact ⟨a, us, rfl, .inl h1, h2⟩
    · cases e
  · cases e
def viewT : D → Option (List D)
  | .tup xs => some xs
  | _ => none
theorem viewT_ok {d : D} {v : V} {xs : List D} (h : RepV K G ρ H d v) (e : viewT d = some xs) : ∃ a us, v = .ref a ∧ SqT K H a us ∧ RepVs K G ρ H xs us := by
  unfold viewT at e
  split at e
  · cases e; exact h.tup_inv
  · cases e
theorem RepVs.get : ∀ {xs : List D} {us : List V} {i : Nat} {d : D}, RepVs K G ρ H xs us → xs[i]? = some d → ∃ v, us[i]? = some v ∧ RepV K G ρ H d v
  | _, _, 0, _, .cons h _, e => by simp at e; subst e; exact ⟨_, rfl, h⟩
  | _, _, i + 1, d, .cons _ r, e => by
    obtain ⟨v, h1, h2⟩ := RepVs.get (i := i) (d := d) r (by simpa using e)
    exact ⟨v, by simpa using h1, h2⟩
  | _, _, _, _, .nil, e => by simp at e
theorem RepVs.append : ∀ {xs ys : List D} {us vs : List V}, RepVs K G ρ H xs us → RepVs K G ρ H ys vs → RepVs K G ρ H (xs ++ ys) (us ++ vs)
  | _, _, _, _, .nil, s => s
  | _, _, _, _, .cons h r, s => .cons h (RepVs.append r s)
theorem RepVs.set {d : D} {v : V} (h : RepV K G ρ H d v) : ∀ {xs : List D} {us : List V} (i : Nat), RepVs K G ρ H xs us → RepVs K G ρ H (xs.set i d) (us.set i v)
  | _, _, _, .nil => .nil
  | _, _, 0, .cons _ r => .cons h r
  | _, _, i + 1, .cons q r => .cons q (RepVs.set h i r)
theorem RepVs.take : ∀ {xs : List D} {us : List V} (n : Nat), RepVs K G ρ H xs us → RepVs K G ρ H (xs.take n) (us.take n)
  | _, _, 0, _ => .nil
  | _, _, _ + 1, .nil => .nil
  | _, _, n + 1, .cons h r => .cons h (RepVs.take n r)
theorem RepVs.drop : ∀ {xs : List D} {us : List V} (n : Nat), RepVs K G ρ H xs us → RepVs K G ρ H (xs.drop n) (us.drop n)
  | _, _, 0, r => r
  | _, _, _ + 1, .nil => .nil
  | _, _, n + 1, .cons _ r => RepVs.drop n r
theorem RepVs.reverse {xs : List D} {us : List V} (h : RepVs K G ρ H xs us) : RepVs K G ρ H xs.reverse us.reverse := by
  induction xs generalizing us with
  | nil => cases h; exact .nil
  | cons x xs ih =>
    cases h with
    | cons h r => rw [List.reverse_cons, List.reverse_cons]; exact (ih r).append (.cons h .nil)
theorem RepVs.rep {xs : List D} {us : List V} (h : RepVs K G ρ H xs us) : ∀ n : Nat, RepVs K G ρ H (List.replicate n xs).flatten (List.replicate n us).flatten
  | 0 => .nil
  | n + 1 => by rw [List.replicate_succ, List.replicate_succ, List.flatten_cons, List.flatten_cons]; exact h.append (RepVs.rep h n)
theorem RepVs.ints : ∀ {ns : List Int} {us : List V}, RepVs K G ρ H (ns.map .int) us → us = ns.map V.int
  | [], _, .nil => rfl
  | n :: ns, _, .cons h r => by rw [h.int_inv, RepVs.ints r]; rfl
theorem RepVs.strs : ∀ {ns : List Str} {us : List V}, RepVs K G ρ H (ns.map .str) us → us = ns.map V.str
  | [], _, .nil => rfl
  | n :: ns, _, .cons h r => by rw [h.str_inv, RepVs.strs r]; rfl
theorem RepVs.bls : ∀ {ns : List Bool} {us : List V}, RepVs K G ρ H (ns.map .bl) us → us = ns.map V.bl
  | [], _, .nil => rfl
  | n :: ns, _, .cons h r => by rw [h.bl_inv', RepVs.bls r]; rfl
end

/-! ### operators on numbers -/
section
variable {X : Cx} {G : Cls}
theorem noExc_pure {α : Type} {a : α} : NoExc (EM.pure a) := fun _ _ _ _ h => by cases h
theorem noExc_fail {α : Type} : NoExc (EM.fail : EM α) := fun _ _ _ _ h => by cases h
theorem noExc_ofO {α : Type} {o : Option α} : NoExc (EM.ofO o) := by cases o <;> first | exact noExc_pure | exact noExc_fail
theorem noExc_ite {α : Type} {c : Prop} [Decidable c] {m n : EM α} (h : NoExc m) (h' : NoExc n) : NoExc (if c then m else n) := by by_cases e : c <;> simp [e, h, h']
/-- a step that answers without looking at the store -/
def mulOk (i j : Int) : Prop := i.natAbs.log2 + j.natAbs.log2 ≤ 900000
instance (i j : Int) : Decidable (mulOk i j) := inferInstanceAs (Decidable (_ ≤ _))
def addO : D → D → Option D
  | .int i, .int j => some (.int (i + j))
  | .str a, .str b => if a.length + b.length ≤ 16777216 then some (.str (a ++ b)) else none
  | .tup xs, .tup ys => if xs.length + ys.length ≤ 16777216 then some (.tup (xs ++ ys)) else none
  | _, _ => none
def subO : D → D → Option D
  | .int i, .int j => some (.int (i - j))
  | _, _ => none
def mulO : D → D → Option D
  | .int i, .int j => if mulOk i j then some (.int (i * j)) else none
  | .tup xs, .int k => if 2 ≤ k ∧ k ≤ 1000 ∧ xs.length ≤ 1000 ∧ 0 < xs.length then some (.tup (List.replicate k.toNat xs).flatten) else none
  | _, _ => none
def fdivO : D → D → Option D
  | .int i, .int j => if j ≠ 0 ∧ j.natAbs.log2 < 9000 then some (.int (i.fdiv j)) else none
  | _, _ => none
def modO : D → D → Option D
  | .int i, .int j => if j ≠ 0 then some (.int (i.fmod j)) else none
  | _, _ => none
def powO : D → D → Option D
  | .int i, .int j => if 0 ≤ j ∧ j ≤ 1000000 ∧ i.natAbs < 2 ^ 64 then some (.int (i ^ j.toNat)) else none
  | _, _ => none
theorem line_eq {n : Nat} (h : n ≤ 16777216) : n ≤ sizeLine := by rw [sizeLine_eq]; exact h
/-- an operator on two ints -/
theorem opInt {f : Value → Value → Sem Value} {m : D → D → Option D} (C : Int → Int → Prop) (g : Int → Int → V) (hr : OpR X f (rI C g))
    (hm : ∀ x y d, m x y = some d → ∃ i j, x = .int i ∧ y = .int j ∧ C i j ∧ ∀ ρ H, RepV X.K G ρ H d (g i j)) : OpR X f (r2M X.K G fun x y => EM.ofO (m x y)) := by
  intro pins s σ H vx vy v u Q I r1 r2 ⟨ρ, S, x, y, rp, q1, q2, g0⟩
  obtain ⟨d, e, k⟩ := g0.ofO rp
  obtain ⟨i, j, rfl, rfl, c, z⟩ := hm x y d e
  rw [q1.int_inv] at r1
  rw [q2.int_inv] at r2
  exact hr pins s σ H _ _ v u Q I r1 r2 ⟨i, j, rfl, rfl, c, k ρ _ H (Ext.refl _ _) rp (z ρ H)⟩
theorem op_fdivM0 : OpR X (binaryOp .FloorDiv) (rI (fun _ j => j ≠ 0 ∧ j.natAbs.log2 < 9000) fun i j => .int (i.fdiv j)) := opI fun _ _ _ _ _ _ _ hc q => floordiv_int hc.1 q (.inl (PyProof.noPylong_of_log2 hc.2))
theorem op_mulM0 : OpR X (binaryOp .Mult) (rI mulOk fun i j => .int (i * j)) := fun pins s σ H x y v u Q I r1 r2 ⟨i, j, e1, e2, c, q⟩ =>
  op_mulW pins s σ H x y v u Q I r1 r2 ⟨i, j, e1, e2, by unfold CMulW; unfold mulOk at c; omega, q⟩
theorem op_subM : OpR X (binaryOp .Sub) (r2M X.K G fun x y => EM.ofO (subO x y)) := opInt (fun _ _ => True) (fun i j => .int (i - j)) (fun pins s σ H x y v u Q I r1 r2 ⟨i, j, e1, e2, _, q⟩ => op_sub pins s σ H x y v u Q I r1 r2 ⟨i, j, e1, e2, q⟩) fun x y d e => by
  unfold subO at e
  split at e
  · cases e; exact ⟨_, _, rfl, rfl, trivial, fun _ _ => .int _⟩
  · cases e
theorem op_fdivM : OpR X (binaryOp .FloorDiv) (r2M X.K G fun x y => EM.ofO (fdivO x y)) := opInt _ (fun i j => .int (i.fdiv j)) op_fdivM0 fun x y d e => by
  unfold fdivO at e
  split at e
  · split at e
    · rename_i h; cases e; exact ⟨_, _, rfl, rfl, h, fun _ _ => .int _⟩
    · cases e
  · cases e
theorem op_modM : OpR X (binaryOp .Mod) (r2M X.K G fun x y => EM.ofO (modO x y)) := opInt _ (fun i j => .int (i.fmod j)) op_modN fun x y d e => by
  unfold modO at e
  split at e
  · split at e
    · rename_i h; cases e; exact ⟨_, _, rfl, rfl, h, fun _ _ => .int _⟩
    · cases e
  · cases e
theorem op_powM : OpR X (binaryOp .Pow) (r2M X.K G fun x y => EM.ofO (powO x y)) := opInt _ (fun i j => .int (i ^ j.toNat)) op_pow fun x y d e => by
  unfold powO at e
  split at e
  · split at e
    · rename_i h; cases e; exact ⟨_, _, rfl, rfl, h, fun _ _ => .int _⟩
    · cases e
  · cases e
theorem op_addM : OpR X (binaryOp .Add) (r2M X.K G fun x y => EM.ofO (addO x y)) := by
  intro pins s σ H vx vy v u Q I r1 r2 ⟨ρ, S, x, y, rp, q1, q2, g0⟩
  obtain ⟨d, e, k⟩ := g0.ofO rp
  unfold addO at e
  split at e
  · cases e
    rw [q1.int_inv] at r1; rw [q2.int_inv] at r2
    exact op_add pins s σ H _ _ v u Q I r1 r2 ⟨_, _, rfl, rfl, k ρ _ H (Ext.refl _ _) rp (.int _)⟩
  · split at e
    · rename_i hl
      cases e
      rw [q1.str_inv] at r1; rw [q2.str_inv] at r2
      exact op_add_str pins s σ H _ _ v u Q I r1 r2 ⟨_, _, rfl, rfl, line_eq hl, k ρ _ H (Ext.refl _ _) rp (.str _)⟩
    · cases e
  · split at e
    · rename_i hl
      cases e
      obtain ⟨a, us, rfl, t1, s1⟩ := q1.tup_inv
      obtain ⟨b, ws, rfl, t2, s2⟩ := q2.tup_inv
      refine op_catA pins s σ H _ _ v u Q I r1 r2 ⟨a, b, us, ws, rfl, rfl, t1, t2, by rw [← s1.length, ← s2.length]; exact line_eq hl, ?_⟩
      have sh : RepVs X.K G ρ H (_ ++ _) (us ++ ws) := s1.append s2
      have fin : ∀ p, H p = none → Q (.ref p) (upd H p (.tup (us ++ ws))) := fun p hp => k ρ (.ref p) _ (Ext.laid hp) (rp.laid hp) (.tup (SqT.of upd_same) (sh.ext (Ext.laid hp)))
      refine ⟨fun z => ?_, fun _ z => ?_, fun _ _ => fin⟩
      · subst z
        cases s1
        exact k ρ (.ref b) H (Ext.refl _ _) rp (.tup t2 s2)
      · subst z
        cases s2
        rw [List.append_nil] at k
        exact k ρ (.ref a) H (Ext.refl _ _) rp (.tup t1 s1)
    · cases e
  · cases e
theorem op_mulM : OpR X (binaryOp .Mult) (r2M X.K G fun x y => EM.ofO (mulO x y)) := by
  intro pins s σ H vx vy v u Q I r1 r2 ⟨ρ, S, x, y, rp, q1, q2, g0⟩
  obtain ⟨d, e, k⟩ := g0.ofO rp
  unfold mulO at e
  split at e
  · split at e
    · rename_i hl
      cases e
      rw [q1.int_inv] at r1; rw [q2.int_inv] at r2
      exact op_mulM0 pins s σ H _ _ v u Q I r1 r2 ⟨_, _, rfl, rfl, hl, k ρ _ H (Ext.refl _ _) rp (.int _)⟩
    · cases e
  · split at e
    · rename_i hl
      cases e
      obtain ⟨a, us, rfl, t1, s1⟩ := q1.tup_inv
      rw [q2.int_inv] at r2
      refine op_repT pins s σ H _ _ v u Q I r1 r2 ⟨a, _, us, rfl, rfl, t1, ?_, hl.1, hl.2.1, by rw [← s1.length]; exact hl.2.2.1, fun p hp => k ρ (.ref p) _ (Ext.laid hp) (rp.laid hp) (.tup (SqT.of upd_same) ((s1.rep _).ext (Ext.laid hp)))⟩
      intro z
      have := s1.length
      rw [z] at this
      simp at this
      have h2 := hl.2.2.2
      rw [this] at h2
      exact absurd h2 (by decide)
    · cases e
  · cases e
end
end PK
namespace PK
open PySem PySem.Spec PyProof.Rows L2

/-! ### equality -/
mutual
def toPy : D → PyData
  | .non => .none
  | .bl b => .bool b
  | .int i => .int i
  | .str x => .str x
  | .tup xs => .tuple (toPys xs)
  | .lst xs => .list (toPys xs)
  | .dct _ => .dict []
  | .ins _ _ => .dict []
  | .ref _ => .dict []
  | .scr ns => .list (ns.map .int)
def toPys : List D → List PyData
  | [] => []
  | x :: xs => toPy x :: toPys xs
end
mutual
/-- data: None, bools, ints, texts, tuples, lists; no cell, no dict, no object -/
def D.plain : D → Bool
  | .non | .bl _ | .int _ => true
  | .str x => PyData.strOk x
  | .tup xs => D.plains xs
  | .lst xs => D.plains xs
  | .dct _ | .ins _ _ | .ref _ => false
  | .scr _ => true
def D.plains : List D → Bool
  | [] => true
  | x :: xs => D.plain x && D.plains xs
end
mutual
def D.depth : D → Nat
  | .tup xs => D.depths xs + 1
  | .lst xs => D.depths xs + 1
  | .scr _ => 1
  | _ => 0
def D.depths : List D → Nat
  | [] => 0
  | x :: xs => max (D.depth x) (D.depths xs)
end
theorem depth_ints : ∀ ns : List Int, PyData.depthAll (ns.map .int) = 0
  | [] => rfl
  | n :: ns => by simp [PyData.depthAll, PyData.depth, depth_ints ns]
theorem canLay_ints : ∀ ns : List Int, PyData.canLayAll0 (ns.map .int) = true
  | [] => by simp [PyData.canLayAll0]
  | n :: ns => by simp [PyData.canLayAll0, PyData.canLay0, canLay_ints ns]
mutual
theorem depth_toPy : ∀ d : D, d.plain = true → (toPy d).depth = d.depth
  | .non, _ => rfl
  | .bl _, _ => rfl
  | .int _, _ => rfl
  | .str _, _ => rfl
  | .tup xs, h => by simp only [toPy, PyData.depth, D.depth]; rw [depths_toPy xs (by simpa [D.plain] using h)]
  | .lst xs, h => by simp only [toPy, PyData.depth, D.depth]; rw [depths_toPy xs (by simpa [D.plain] using h)]
  | .dct _, h => by simp [D.plain] at h
  | .ins _ _, h => by simp [D.plain] at h
  | .ref _, h => by simp [D.plain] at h
  | .scr ns, _ => by simp [toPy, PyData.depth, D.depth, depth_ints]
theorem depths_toPy : ∀ ds : List D, D.plains ds = true → PyData.depthAll (toPys ds) = D.depths ds
  | [], _ => rfl
  | d :: ds, h => by
    simp only [D.plains, Bool.and_eq_true] at h
    simp only [toPys, PyData.depthAll, D.depths]
    rw [depth_toPy d h.1, depths_toPy ds h.2]
end
mutual
theorem canLay_toPy : ∀ d : D, d.plain = true → (toPy d).canLay0 = true
  | .non, _ => by simp [toPy, PyData.canLay0]
  | .bl _, _ => by simp [toPy, PyData.canLay0]
  | .int _, _ => by simp [toPy, PyData.canLay0]
  | .str _, h => by simpa [toPy, PyData.canLay0, D.plain] using h
  | .tup xs, h => by simp only [toPy, PyData.canLay0]; exact canLays_toPy xs (by simpa [D.plain] using h)
  | .lst xs, h => by simp only [toPy, PyData.canLay0]; exact canLays_toPy xs (by simpa [D.plain] using h)
  | .dct _, h => by simp [D.plain] at h
  | .ins _ _, h => by simp [D.plain] at h
  | .ref _, h => by simp [D.plain] at h
  | .scr ns, _ => by simp only [toPy, PyData.canLay0]; exact canLay_ints ns
theorem canLays_toPy : ∀ ds : List D, D.plains ds = true → PyData.canLayAll0 (toPys ds) = true
  | [], _ => by simp [toPys, PyData.canLayAll0]
  | d :: ds, h => by
    simp only [D.plains, Bool.and_eq_true] at h
    simp only [toPys, PyData.canLayAll0, canLay_toPy d h.1, canLays_toPy ds h.2, Bool.and_self]
end
theorem shaped_toPy {d : D} (h : d.plain = true) (hd : d.depth ≤ 64) : SeqAt.shaped (toPy d) = true := by
  unfold SeqAt.shaped
  rw [canLay_toPy d h, depth_toPy d h]
  simp [hd]
section
variable {K : PySem.W.Frag} {G : Cls} {ρ : List (Option Addr)} {S : List DO} {H : Hp}
theorem DpAll.ints : ∀ ns : List Int, DpAll K H (ns.map V.int) (ns.map .int)
  | [] => .nil
  | n :: ns => .cons (.int n) (DpAll.ints ns)
mutual
theorem Dp.of : ∀ {d : D} {v : V}, RepV K G ρ H d v → d.plain = true → Dp K H v (toPy d)
  | _, _, .non, _ => .non
  | _, _, .bl b, _ => .bl b
  | _, _, .int i, _ => .int i
  | _, _, .str z, _ => .str z
  | _, _, .tup h r, p => .tup h (DpAll.of r (by simpa [D.plain] using p))
  | _, _, .lst h r, p => .lst (.inl (.inr ⟨_, h⟩)) (DpAll.of r (by simpa [D.plain] using p))
  | _, _, .dct _ _, p => by simp [D.plain] at p
  | _, _, .ins _ _, p => by simp [D.plain] at p
  | _, _, .ref _ _, p => by simp [D.plain] at p
  | _, _, .scr h, _ => .lst h.sq (DpAll.ints _)
theorem DpAll.of : ∀ {ds : List D} {vs : List V}, RepVs K G ρ H ds vs → D.plains ds = true → DpAll K H vs (toPys ds)
  | _, _, .nil, _ => .nil
  | _, _, .cons h r, p => by
    simp only [D.plains, Bool.and_eq_true] at p
    exact .cons (Dp.of h p.1) (DpAll.of r p.2)
end
end
/-- a list that is a cell is read for the comparison -/
def derefL (S : List DO) : D → D
  | .ref r => match S[r]? with
    | some (.lst xs) => .lst xs
    | _ => .ref r
  | d => d
def eqOk (x y : D) : Bool := x.plain && y.plain && decide (x.depth ≤ 64) && decide (y.depth ≤ 64)
def eqM (x y : D) : EM D := fun S => if eqOk (derefL S x) (derefL S y) = true then .ok (.bl (PyData.eqv (toPy (derefL S x)) (toPy (derefL S y)))) S else .stuck
def neM (x y : D) : EM D := fun S => if eqOk (derefL S x) (derefL S y) = true then .ok (.bl (!PyData.eqv (toPy (derefL S x)) (toPy (derefL S y)))) S else .stuck
section
variable {X : Cx} {G : Cls}
theorem noExc_eq {x y : D} : NoExc (eqM x y) := fun S c fs S' h => by unfold eqM at h; split at h <;> cases h
theorem noExc_ne {x y : D} : NoExc (neM x y) := fun S c fs S' h => by unfold neM at h; split at h <;> cases h
theorem derefL_ok {K : PySem.W.Frag} {ρ : List (Option Addr)} {S : List DO} {H : Hp} {d : D} {v : V} (rp : Rep K G ρ S H) (h : RepV K G ρ H d v) (p : (derefL S d).plain = true) : Dp K H v (toPy (derefL S d)) := by
  unfold derefL at p ⊢
  split at p
  · split at p
    · rename_i e
      obtain ⟨a, u, rfl, _, h1, _, us, rfl, h2⟩ := rp.at h e (by intro z; cases z)
      exact .lst (SqL.of h1) (DpAll.of h2 (by simpa [D.plain] using p))
    · simp [D.plain] at p
  · exact Dp.of h p
theorem op_eqM (hu : X.A.units + 64 < cLine) : OpR X (compareOp .Eq) (r2M X.K G eqM) := by
  intro pins s σ H vx vy v u Q I r1 r2 ⟨ρ, S, x, y, rp, q1, q2, g⟩
  unfold eqM at g
  by_cases e : eqOk (derefL S x) (derefL S y) = true
  · rw [if_pos e] at g
    simp only [eqOk, Bool.and_eq_true, decide_eq_true_eq] at e
    exact op_eqD hu pins s σ H vx vy v u Q I r1 r2 ⟨_, _, derefL_ok rp q1 e.1.1.1, derefL_ok rp q2 e.1.1.2, shaped_toPy e.1.1.1 e.1.2, shaped_toPy e.1.1.2 e.2, g ρ _ H (Ext.refl _ _) rp (.bl _)⟩
  · rw [if_neg e] at g; exact g.elim
theorem op_neM (hu : X.A.units + 64 < cLine) : OpR X (compareOp .NotEq) (r2M X.K G neM) := by
  intro pins s σ H vx vy v u Q I r1 r2 ⟨ρ, S, x, y, rp, q1, q2, g⟩
  unfold neM at g
  by_cases e : eqOk (derefL S x) (derefL S y) = true
  · rw [if_pos e] at g
    simp only [eqOk, Bool.and_eq_true, decide_eq_true_eq] at e
    exact op_neD hu pins s σ H vx vy v u Q I r1 r2 ⟨_, _, derefL_ok rp q1 e.1.1.1, derefL_ok rp q2 e.1.1.2, shaped_toPy e.1.1.1 e.1.2, shaped_toPy e.1.1.2 e.2, g ρ _ H (Ext.refl _ _) rp (.bl _)⟩
  · rw [if_neg e] at g; exact g.elim
/-! ### order of ints, None -/
def cmpO (p : Int → Int → Bool) : D → D → Option D
  | .int i, .int j => some (.bl (p i j))
  | _, _ => none
theorem opCmp {f : Value → Value → Sem Value} {p : Int → Int → Bool} (hr : OpR X f (rI0 fun i j => .bl (p i j))) : OpR X f (r2M X.K G fun x y => EM.ofO (cmpO p x y)) :=
  opInt (fun _ _ => True) (fun i j => .bl (p i j)) (fun pins s σ H x y v u Q I r1 r2 ⟨i, j, e1, e2, _, q⟩ => hr pins s σ H x y v u Q I r1 r2 ⟨i, j, e1, e2, q⟩) fun x y d e => by
    unfold cmpO at e
    split at e
    · cases e; exact ⟨_, _, rfl, rfl, trivial, fun _ _ => .bl _⟩
    · cases e
abbrev ltO := cmpO fun i j => decide (i < j)
abbrev leO := cmpO fun i j => decide (i ≤ j)
abbrev gtO := cmpO fun i j => decide (j < i)
abbrev geO := cmpO fun i j => decide (j ≤ i)
theorem op_ltM : OpR X (compareOp .Lt) (r2M X.K G fun x y => EM.ofO (ltO x y)) := opCmp op_lt
theorem op_leM : OpR X (compareOp .LtE) (r2M X.K G fun x y => EM.ofO (leO x y)) := opCmp op_le
theorem op_gtM : OpR X (compareOp .Gt) (r2M X.K G fun x y => EM.ofO (gtO x y)) := opCmp op_gt
theorem op_geM : OpR X (compareOp .GtE) (r2M X.K G fun x y => EM.ofO (geO x y)) := opCmp op_ge
def isNon : D → Bool
  | .non => true
  | _ => false
def isO : D → D → Option D
  | x, .non => some (.bl (isNon x))
  | _, _ => none
def isNotO : D → D → Option D
  | x, .non => some (.bl (!isNon x))
  | _, _ => none
theorem isNon_of {K : PySem.W.Frag} {ρ : List (Option Addr)} {H : Hp} {d : D} {v : V} (h : RepV K G ρ H d v) : decide (v = .non) = isNon d := by
  cases h <;> simp [isNon]
theorem op_isM : OpR X (compareOp .Is) (r2M X.K G fun x y => EM.ofO (isO x y)) := by
  intro pins s σ H vx vy v u Q I r1 r2 ⟨ρ, S, x, y, rp, q1, q2, g⟩
  obtain ⟨d, e, k⟩ := g.ofO rp
  unfold isO at e
  split at e
  · cases e
    cases q2
    refine op_isN pins s σ H _ _ v u Q I r1 r2 ⟨rfl, ?_⟩
    rw [isNon_of q1]
    exact k ρ _ H (Ext.refl _ _) rp (.bl _)
  · cases e
theorem op_isNotM : OpR X (compareOp .IsNot) (r2M X.K G fun x y => EM.ofO (isNotO x y)) := by
  intro pins s σ H vx vy v u Q I r1 r2 ⟨ρ, S, x, y, rp, q1, q2, g⟩
  obtain ⟨d, e, k⟩ := g.ofO rp
  unfold isNotO at e
  split at e
  · cases e
    cases q2
    refine op_notN pins s σ H _ _ v u Q I r1 r2 ⟨rfl, ?_⟩
    rw [isNon_of q1]
    exact k ρ _ H (Ext.refl _ _) rp (.bl _)
  · cases e
/-! ### minus -/
def negO : D → Option D
  | .int i => some (.int (-i))
  | _ => none
theorem un_negM : UnR X (unaryOp .USub) (r1M X.K G fun x => EM.ofO (negO x)) := by
  intro pins s σ H vx v Q I r1 ⟨ρ, S, x, rp, q1, g⟩
  obtain ⟨d, e, k⟩ := g.ofO rp
  unfold negO at e
  split at e
  · cases e
    rw [q1.int_inv] at r1
    exact un_neg pins s σ H _ v Q I r1 ⟨_, rfl, k ρ _ H (Ext.refl _ _) rp (.int _)⟩
  · cases e
/-! ### x[i] of a list, a tuple, a text -/
def idxM (x y : D) : EM D := fun S => match x, y with
  | .str z, .int i => match atI z.cps.toList i with
    | some c => if z.length ≤ 16777216 then .ok (.str ⟨#[c]⟩) S else .stuck
    | none => .stuck
  | .tup xs, .int i => match atI xs i with
    | some d => .ok d S
    | none => .stuck
  | .scr ns, .int i => match atI ns i with
    | some n => .ok (.int n) S
    | none => .stuck
  | x, .int i => match viewL S x with
    | some xs => match atI xs i with
      | some d => .ok d S
      | none => .stuck
    | none => .stuck
  | _, _ => .stuck
theorem noExc_idx {x y : D} : NoExc (idxM x y) := fun S c fs S' h => by
  unfold idxM at h
  split at h
  · split at h
    · split at h <;> cases h
    · cases h
  · split at h <;> cases h
  · split at h <;> cases h
  · split at h
    · split at h <;> cases h
    · cases h
  · cases h
theorem RepVs.atI {K : PySem.W.Frag} {ρ : List (Option Addr)} {H : Hp} {xs : List D} {us : List V} {i : Int} {d : D} (r : RepVs K G ρ H xs us) (e : L2.atI xs i = some d) : ∃ v, L2.atI us i = some v ∧ RepV K G ρ H d v := by
  unfold L2.atI at e ⊢
  rw [r.length] at e
  cases h : ixN us.length i with
  | none => rw [h] at e; cases e
  | some j =>
    rw [h] at e
    exact r.get e
theorem ix_M : IxR X (r2M X.K G idxM) := by
  intro value slice pins s σ H vx vy v u Q I r1 r2 ⟨ρ, S, x, y, rp, q1, q2, g⟩ hs
  unfold idxM at g
  split at g
  · split at g
    · rename_i c e
      split at g
      · rename_i hl
        rw [q1.str_inv] at r1; rw [q2.int_inv] at r2
        exact ix_str value slice pins s σ H _ _ v u Q I r1 r2 ⟨_, _, _, rfl, rfl, line_eq hl, e, g ρ _ H (Ext.refl _ _) rp (.str _)⟩ hs
      · exact g.elim
    · exact g.elim
  · split at g
    · rename_i d e
      obtain ⟨a, us, rfl, t1, s1⟩ := q1.tup_inv
      rw [q2.int_inv] at r2
      obtain ⟨w, e', rw'⟩ := s1.atI e
      exact ix_tup value slice pins s σ H _ _ v u Q I r1 r2 ⟨_, _, _, _, rfl, rfl, t1, e', g ρ _ H (Ext.refl _ _) rp rw'⟩ hs
    · exact g.elim
  · rename_i ns i
    split at g
    · rename_i d e
      obtain ⟨a, rfl, t1⟩ := q1.scr_inv
      rw [q2.int_inv] at r2
      refine ix_list value slice pins s σ H _ _ v u Q I r1 r2 ⟨_, _, _, _, rfl, rfl, t1.sq, ?_, g ρ _ H (Ext.refl _ _) rp (.int d)⟩ hs
      unfold L2.atI at e ⊢
      rw [List.length_map]
      cases h : ixN ns.length i with
      | none => rw [h] at e; cases e
      | some j => rw [h] at e; rw [Option.bind_some] at e ⊢; rw [List.getElem?_map, e]; rfl
    · exact g.elim
  · split at g
    · rename_i xs hv
      split at g
      · rename_i d e
        obtain ⟨a, us, rfl, t1, s1⟩ := viewL_ok rp q1 hv
        rw [q2.int_inv] at r2
        obtain ⟨w, e', rw'⟩ := s1.atI e
        exact ix_list value slice pins s σ H _ _ v u Q I r1 r2 ⟨_, _, _, _, rfl, rfl, .inl t1, e', g ρ _ H (Ext.refl _ _) rp rw'⟩ hs
      · exact g.elim
    · exact g.elim
  · exact g.elim
end
end PK
namespace PK
open PySem PySem.Spec PyProof.Rows L2

section
variable {X : Cx} {G : Cls} {W : L2.WX} {pos : Pos} {e : Expr} {es : List Expr} {ms : Env → EM (List D)}
theorem es_weak {m : List D → EM D} (n : ∀ xs, NoExc (m xs)) {σ : L2.St} {H : Hp} {Q : VK} (h : tM X.K G W (PK.es m ms) σ H Q) : tA X.K G W ms σ H fun vs H1 => rsM X.K G m vs H1 Q := by
  obtain ⟨ρ, S, E, rp, re, g⟩ := h
  refine ⟨ρ, S, E, rp, re, Go.mono (Go.bind g) ?_⟩
  rintro vs H1 ⟨ρ1, S1, xs, x1, r1, q1, g1⟩
  exact ⟨ρ1, S1, xs, r1, q1, g1.w0 (n xs)⟩
theorem pm_callB {x : Str} {bid : String} {p : Pos} {m : List D → EM D} (hc : CallR X (.builtin bid) (rsM X.K G m)) (n : ∀ xs, NoExc (m xs)) (hg : Gl X x) (hm : X.mg x = none) (hv : bootBuiltins x = some (.builtin bid)) (ha : PA X (e :: es) (tA X.K G W ms)) (hn : x ≠ "__name__") (hdb : (x == ("__debug__" : Str)) = false)
    (he : starEach (e :: es) X.env = (false, eval e X.env) :: starEach es X.env) (hpl : (backTo pos (starEach es X.env)).any (·.1) = false) : PE X (.Call (.Name x p) (e :: es) [] pos) (tM X.K G W (PK.es m ms)) :=
  (pe_callB hc hg hm hv ha hn hdb he hpl).weak fun σ H Q q => es_weak n q
theorem pm_callTy {x : Str} {T : String} {p : Pos} {m : List D → EM D} (hc : CallR X (.type T) (rsM X.K G m)) (n : ∀ xs, NoExc (m xs)) (hg : Gl X x) (hm : X.mg x = none) (hv : bootBuiltins x = some (.type T)) (ha : PA X (e :: es) (tA X.K G W ms)) (hn : x ≠ "__name__") (hdb : (x == ("__debug__" : Str)) = false)
    (he : starEach (e :: es) X.env = (false, eval e X.env) :: starEach es X.env) (hpl : (backTo pos (starEach es X.env)).any (·.1) = false) : PE X (.Call (.Name x p) (e :: es) [] pos) (tM X.K G W (PK.es m ms)) :=
  (pe_callTy hc hg hm hv ha hn hdb he hpl).weak fun σ H Q q => es_weak n q
end

/-! ### built-ins by values -/
def viewS (S : List DO) : D → Option (List D)
  | .tup xs => some xs
  | d => viewL S d
def lenM (xs : List D) : EM D := fun S => match xs with
  | [.str z] => if z.length ≤ 16777216 then .ok (.int z.length) S else .stuck
  | [.scr ns] => .ok (.int ns.length) S
  | [d] => match viewS S d with
    | some ys => .ok (.int ys.length) S
    | none => .stuck
  | _ => .stuck
def absO : List D → Option D
  | [.int i] => some (.int (if i < 0 then -i else i))
  | _ => none
def minO : List D → Option D
  | [.int i, .int j] => some (.int (if j < i then j else i))
  | _ => none
def maxO : List D → Option D
  | [.int i, .int j] => some (.int (if j > i then j else i))
  | _ => none
def intO : List D → Option D
  | [.int i] => some (.int i)
  | [.bl k] => some (.int (if k then 1 else 0))
  | [.str x] => match PySem.intText? x with
    | some n => if x.length ≤ 640 then some (.int n) else none
    | none => none
  | _ => none
def strO : List D → Option D
  | [.int i] => if i.natAbs.log2 < 1920 then some (.str (toString i)) else none
  | _ => none
/-- tuple(x) of a list or a tuple -/
def tupM (xs : List D) : EM D := fun S => match xs with
  | [d] => match viewS S d with
    | some ys => .ok (.tup ys) S
    | none => .stuck
  | _ => .stuck
/-- isinstance(x, int), .. -/
inductive Ty0 where | int | bool | str | list | tuple | dict
  deriving DecidableEq
def isTy (S : List DO) : Ty0 → D → Option Bool
  | t, .non => some false
  | t, .bl _ => some (decide (t = .bool ∨ t = .int))
  | t, .int _ => some (decide (t = .int))
  | t, .str _ => some (decide (t = .str))
  | t, .tup _ => some (decide (t = .tuple))
  | t, .lst _ => some (decide (t = .list))
  | t, .ref r => match S[r]? with
    | some (.lst _) => some (decide (t = .list))
    | _ => none
  | _, _ => none
def isTyM (t : Ty0) (x : D) : EM D := fun S => match isTy S t x with
  | some b => .ok (.bl b) S
  | none => .stuck
section
variable {X : Cx} {G : Cls}
theorem noExc_len {xs : List D} : NoExc (lenM xs) := fun S c fs S' h => by
  unfold lenM at h
  split at h
  · split at h <;> cases h
  · cases h
  · split at h <;> cases h
  · cases h
theorem noExc_tup {xs : List D} : NoExc (tupM xs) := fun S c fs S' h => by
  unfold tupM at h
  split at h
  · split at h <;> cases h
  · cases h
theorem noExc_isTy {t : Ty0} {x : D} : NoExc (isTyM t x) := fun S c fs S' h => by
  unfold isTyM at h
  split at h <;> cases h
theorem viewS_ok {K : PySem.W.Frag} {ρ : List (Option Addr)} {S : List DO} {H : Hp} {d : D} {v : V} {xs : List D} (rp : Rep K G ρ S H) (h : RepV K G ρ H d v) (e : viewS S d = some xs) : ∃ a us, v = .ref a ∧ (SqL K H a us ∨ SqT K H a us) ∧ RepVs K G ρ H xs us := by
  unfold viewS at e
  split at e
  · cases e
    obtain ⟨a, us, rfl, h1, h2⟩ := h.tup_inv
    exact ⟨a, us, rfl, .inr h1, h2⟩
  · obtain ⟨a, us, rfl, h1, h2⟩ := viewL_ok rp h e
    exact ⟨a, us, rfl, .inl (.inl h1), h2⟩
theorem RepVs.one {K : PySem.W.Frag} {ρ : List (Option Addr)} {H : Hp} {d : D} {vs : List V} (h : RepVs K G ρ H [d] vs) : ∃ v, vs = [v] ∧ RepV K G ρ H d v := by
  cases h with
  | cons h r => cases r; exact ⟨_, rfl, h⟩
theorem RepVs.two {K : PySem.W.Frag} {ρ : List (Option Addr)} {H : Hp} {d d' : D} {vs : List V} (h : RepVs K G ρ H [d, d'] vs) : ∃ v v', vs = [v, v'] ∧ RepV K G ρ H d v ∧ RepV K G ρ H d' v' := by
  cases h with
  | cons h r => cases r with
    | cons h' r => cases r; exact ⟨_, _, rfl, h, h'⟩
theorem cr_len : CallR X (.builtin "len") (rsM X.K G lenM) := by
  intro pins s σ H vs us Q I r ⟨ρ, S, xs, rp, q, g⟩
  unfold lenM at g
  split at g
  · obtain ⟨v, rfl, q1⟩ := q.one
    split at g
    · rename_i hl
      rw [q1.str_inv] at r
      exact call_len_str pins s σ H _ us Q I r ⟨_, rfl, line_eq hl, g ρ _ H (Ext.refl _ _) rp (.int _)⟩
    · exact g.elim
  · obtain ⟨v, rfl, q1⟩ := q.one
    obtain ⟨a, rfl, t1⟩ := q1.scr_inv
    refine call_len_seq pins s σ H _ us Q I r ⟨a, _, rfl, .inl t1.sq, ?_⟩
    rw [List.length_map]
    exact g ρ _ H (Ext.refl _ _) rp (.int _)
  · obtain ⟨v, rfl, q1⟩ := q.one
    split at g
    · rename_i ys hv
      obtain ⟨a, ws, rfl, h1, h2⟩ := viewS_ok rp q1 hv
      refine call_len_seq pins s σ H _ us Q I r ⟨a, ws, rfl, h1, ?_⟩
      rw [← h2.length]
      exact g ρ _ H (Ext.refl _ _) rp (.int _)
    · exact g.elim
  · exact g.elim
theorem cr_abs : CallR X (.builtin "abs") (rsM X.K G fun xs => EM.ofO (absO xs)) := by
  intro pins s σ H vs us Q I r ⟨ρ, S, xs, rp, q, g⟩
  obtain ⟨d, e, k⟩ := g.ofO rp
  unfold absO at e
  split at e
  · cases e
    obtain ⟨v, rfl, q1⟩ := q.one
    rw [q1.int_inv] at r
    exact call_abs pins s σ H _ us Q I r ⟨_, rfl, k ρ _ H (Ext.refl _ _) rp (.int _)⟩
  · cases e
theorem cr_minM (hc : X.calm = true) : CallR X (.builtin "min") (rsM X.K G fun xs => EM.ofO (minO xs)) := by
  intro pins s σ H vs us Q I r ⟨ρ, S, xs, rp, q, g⟩
  obtain ⟨d, e, k⟩ := g.ofO rp
  unfold minO at e
  split at e
  · cases e
    obtain ⟨v, v', rfl, q1, q2⟩ := q.two
    rw [q1.int_inv, q2.int_inv] at r
    exact call_min2 hc pins s σ H _ us Q I r ⟨_, _, rfl, k ρ _ H (Ext.refl _ _) rp (.int _)⟩
  · cases e
theorem cr_maxM (hc : X.calm = true) : CallR X (.builtin "max") (rsM X.K G fun xs => EM.ofO (maxO xs)) := by
  intro pins s σ H vs us Q I r ⟨ρ, S, xs, rp, q, g⟩
  obtain ⟨d, e, k⟩ := g.ofO rp
  unfold maxO at e
  split at e
  · cases e
    obtain ⟨v, v', rfl, q1, q2⟩ := q.two
    rw [q1.int_inv, q2.int_inv] at r
    exact call_max2 hc pins s σ H _ us Q I r ⟨_, _, rfl, k ρ _ H (Ext.refl _ _) rp (.int _)⟩
  · cases e
theorem cr_int : CallR X (.type "int") (rsM X.K G fun xs => EM.ofO (intO xs)) := by
  intro pins s σ H vs us Q I r ⟨ρ, S, xs, rp, q, g⟩
  obtain ⟨d, e, k⟩ := g.ofO rp
  unfold intO at e
  split at e
  · cases e
    obtain ⟨v, rfl, q1⟩ := q.one
    rw [q1.int_inv] at r
    exact call_int1 pins s σ H _ us Q I r (.inl ⟨_, rfl, k ρ _ H (Ext.refl _ _) rp (.int _)⟩)
  · cases e
    obtain ⟨v, rfl, q1⟩ := q.one
    rw [q1.bl_inv'] at r
    exact call_int1 pins s σ H _ us Q I r (.inr ⟨_, rfl, k ρ _ H (Ext.refl _ _) rp (.int _)⟩)
  · split at e
    · split at e
      · rename_i hn hl
        cases e
        obtain ⟨v, rfl, q1⟩ := q.one
        rw [q1.str_inv] at r
        exact call_int_str pins s σ H _ us Q I r ⟨_, _, rfl, hn, hl, k ρ _ H (Ext.refl _ _) rp (.int _)⟩
      · cases e
    · cases e
  · cases e
theorem cr_str : CallR X (.type "str") (rsM X.K G fun xs => EM.ofO (strO xs)) := by
  intro pins s σ H vs us Q I r ⟨ρ, S, xs, rp, q, g⟩
  obtain ⟨d, e, k⟩ := g.ofO rp
  unfold strO at e
  split at e
  · split at e
    · rename_i hl
      cases e
      obtain ⟨v, rfl, q1⟩ := q.one
      rw [q1.int_inv] at r
      exact call_str_int pins s σ H _ us Q I r ⟨_, rfl, hl, k ρ _ H (Ext.refl _ _) rp (.str _)⟩
    · cases e
  · cases e
theorem cr_tup : CallR X (.type "tuple") (rsM X.K G tupM) := by
  intro pins s σ H vs us Q I r ⟨ρ, S, xs, rp, q, g⟩
  unfold tupM at g
  split at g
  · obtain ⟨v, rfl, q1⟩ := q.one
    split at g
    · rename_i ys hv
      obtain ⟨a, ws, rfl, h1, h2⟩ := viewS_ok rp q1 hv
      rcases h1 with h1 | h1
      · exact call_tuple_of pins s σ H _ us Q I r ⟨a, ws, rfl, .inl ⟨h1, fun l hl => g ρ (.ref l) _ (Ext.laid hl) (rp.laid hl) (.tup (SqT.of upd_same) (h2.ext (Ext.laid hl)))⟩⟩
      · exact call_tuple_of pins s σ H _ us Q I r ⟨a, ws, rfl, .inr ⟨h1, g ρ (.ref a) H (Ext.refl _ _) rp (.tup h1 h2)⟩⟩
    · exact g.elim
  · exact g.elim
end
/-! ### new objects -/
section
variable {K : PySem.W.Frag} {G : Cls}
/-- an expression gives a new object, no cell -/
def GoF (K : PySem.W.Frag) (G : Cls) (W : L2.WX) (σ : L2.St) (ρ : List (Option Addr)) (H : Hp) (r : Res DO) (Q : VK) : Prop :=
  match r with
  | .ok o S' => ∀ ρ' p u H', Ext ρ H ρ' H' → Rep K G ρ' S' H' → H p = none → (∀ i : Nat, ρ'[i]? ≠ some (some p)) → H' p = some u → Mut (some u) → RepC K G ρ' H' o u → Q (.ref p) H'
  | .exc c fs S' => ∀ ρ' H' od, Ext ρ H ρ' H' → Rep K G ρ' S' H' → RepX K G ρ' H' fs od → W (.ref (G.addr c)) od σ H'
  | .stuck => False
def tF (K : PySem.W.Frag) (G : Cls) (W : L2.WX) (m : Env → EM DO) : TE := fun σ H Q => ∃ ρ S E, Rep K G ρ S H ∧ RepE K G ρ H E σ ∧ GoF K G W σ ρ H (m E S) Q
def valOf : DO → Option D
  | .lst xs => some (.lst xs)
  | .dct kvs => some (.dct kvs)
  | .ins c fs => some (.ins c fs)
  | .gone => none
def eNew (m : Env → EM DO) : Env → EM D := fun E => EM.bind (m E) fun o => EM.ofO (valOf o)
def eBox (m : Env → EM DO) : Env → EM D := fun E S => match m E S with
  | .ok o S' => .ok (.ref S'.length) (S' ++ [o])
  | .exc c fs S' => .exc c fs S'
  | .stuck => .stuck
theorem RepV.ofC {ρ : List (Option Addr)} {H : Hp} {o : DO} {d : D} {a : Addr} {u : HO} {ob : Obj} (e : valOf o = some d) (h : H a = some (.frz ob u)) (r : RepC K G ρ H o u) : RepV K G ρ H d (.ref a) := by
  cases o with
  | gone => cases e
  | lst xs => cases e; obtain ⟨us, rfl, r⟩ := r; exact .lst h r
  | dct kvs => cases e; exact .dct h r
  | ins c fs => cases e; obtain ⟨dx, us, rfl, r⟩ := r; exact .ins h r
theorem pe_frz {X : Cx} {e : Expr} {t : TE} (h : PE X e t) : PE X e fun σ H Q => t σ H fun v H1 => ∃ a u, v = .ref a ∧ H1 a = some u ∧ Mut (some u) ∧ ∀ ob, Q v (upd H1 a (.frz ob u)) := by
  refine ⟨fun pins s σ H Q I q => thn (h.run pins s σ H _ I q) ?_⟩
  rintro w s1 ⟨v, H1, I1, r1, a, u, rfl, h1, m, k⟩
  obtain ⟨ob, I2⟩ := freeze I1 h1 m
  exact ⟨_, _, I2, r1, k ob⟩
/-- a new object is known from now on -/
theorem Ext.known {ρ ρ' : List (Option Addr)} {H H' : Hp} {p : Addr} {u o : HO} (x : Ext ρ H ρ' H') (hp : H p = none) (n : ∀ i : Nat, ρ'[i]? ≠ some (some p)) (h : H' p = some u) (m : Mut (some u)) : Ext ρ H ρ' (upd H' p o) where
  keep := fun b v hb nb => by rw [upd_ne (ne_of_none hb hp)]; exact x.keep b v hb nb
  tups := fun b v hb => by rw [upd_ne (ne_of_none hb hp)]; exact x.tups b v hb
  frzs := fun b v w hb => by rw [upd_ne (ne_of_none hb hp)]; exact x.frzs b v w hb
  dom := fun b hb => by
    by_cases e : b = p
    · rw [e]; exact hp
    · rw [upd_ne e] at hb; exact x.dom b hb
  len := x.len
  old := x.old
  new := x.new
theorem Ext.knows {ρ : List (Option Addr)} {H : Hp} {p : Addr} {u o : HO} (n : ∀ i : Nat, ρ[i]? ≠ some (some p)) (h : H p = some u) (m : Mut (some u)) {K : PySem.W.Frag} {ds : List D} : ∀ b v, H b = some v → b ≠ p → (upd H p o) b = some v := fun b v hb nb => by rw [upd_ne nb]; exact hb
/-- values lean on no object that may be written, but their own cells -/
theorem mut_tup {us : List V} : ¬ Mut (some (.tup us)) := fun h => h
theorem mut_frz {o : Obj} {u : HO} : ¬ Mut (some (.frz o u)) := fun h => h
end
section
variable {K : PySem.W.Frag} {G : Cls} {ρ : List (Option Addr)} {H : Hp} {p : Addr} {u o : HO}
theorem SqT.turn (m : Mut (H p)) {a : Addr} {us : List V} (h : SqT K H a us) : SqT K (upd H p o) a us := by
  rcases h with (h | ⟨ob, h⟩) | h
  · exact .inl (.inl (by rw [upd_ne (fun z => by subst z; rw [h] at m; exact m)]; exact h))
  · exact .inl (.inr ⟨ob, by rw [upd_ne (fun z => by subst z; rw [h] at m; exact m)]; exact h⟩)
  · exact .inr h
theorem frz_turn (m : Mut (H p)) {a : Addr} {ob : Obj} {v : HO} (h : H a = some (.frz ob v)) : upd H p o a = some (.frz ob v) := by
  rw [upd_ne (fun z => by subst z; rw [h] at m; exact m)]; exact h
mutual
theorem RepV.turn (m : Mut (H p)) : ∀ {d : D} {v : V}, RepV K G ρ H d v → RepV K G ρ (upd H p o) d v
  | _, _, .non => .non
  | _, _, .bl b => .bl b
  | _, _, .int i => .int i
  | _, _, .str z => .str z
  | _, _, .tup h r => .tup (SqT.turn m h) (RepVs.turn m r)
  | _, _, .lst h r => .lst (frz_turn m h) (RepVs.turn m r)
  | _, _, .dct h r => .dct (frz_turn m h) (RepD.turn m r)
  | _, _, .ins h r => .ins (frz_turn m h) (RepF.turn m r)
  | _, _, .scr h => .scr (h.elim (fun ⟨o, h⟩ => .inl ⟨o, frz_turn m h⟩) .inr)
  | _, _, .ref h q => .ref h q
theorem RepVs.turn (m : Mut (H p)) : ∀ {ds : List D} {vs : List V}, RepVs K G ρ H ds vs → RepVs K G ρ (upd H p o) ds vs
  | _, _, .nil => .nil
  | _, _, .cons h r => .cons (RepV.turn m h) (RepVs.turn m r)
theorem RepD.turn (m : Mut (H p)) : ∀ {kvs : List (D × D)} {u : HO}, RepD K G ρ H kvs u → RepD K G ρ (upd H p o) kvs u
  | _, _, .k r => .k (RepK.turn m r)
theorem RepK.turn (m : Mut (H p)) : ∀ {kvs : List (D × D)} {us : List (Key × V)}, RepK K G ρ H kvs us → RepK K G ρ (upd H p o) kvs us
  | _, _, .nil => .nil
  | _, _, .int h r => .int (RepV.turn m h) (RepK.turn m r)
  | _, _, .str h r => .str (RepV.turn m h) (RepK.turn m r)
theorem RepF.turn (m : Mut (H p)) : ∀ {fs : List (Nat × D)} {us : List (Str × V)}, RepF K G ρ H fs us → RepF K G ρ (upd H p o) fs us
  | _, _, .nil => .nil
  | _, _, .cons h r => .cons (RepV.turn m h) (RepF.turn m r)
end
theorem RepC.turn (m : Mut (H p)) {d : DO} {v : HO} (r : RepC K G ρ H d v) : RepC K G ρ (upd H p o) d v := by
  cases d with
  | gone => exact r
  | lst xs => obtain ⟨us, e, r⟩ := r; exact ⟨us, e, RepVs.turn m r⟩
  | dct kvs => exact RepD.turn m r
  | ins c fs => obtain ⟨dx, us, e, r⟩ := r; exact ⟨dx, us, e, RepF.turn m r⟩
/-- an object that is no cell changes: the cells stand -/
theorem Rep.turn {S : List DO} (r : Rep K G ρ S H) (m : Mut (H p)) (n : ∀ i : Nat, ρ[i]? ≠ some (some p)) : Rep K G ρ S (upd H p o) where
  len := r.len
  inj := r.inj
  obj := fun i d e => by
    rcases r.obj i d e with z | ⟨a, v, h1, h2, h3⟩
    · exact .inl z
    · exact .inr ⟨a, v, h1, by rw [upd_ne (show a ≠ p from fun z => n i (by rw [← z]; exact h1))]; exact h2, RepC.turn m h3⟩
  trk := fun i a e => by
    rw [upd_ne (show a ≠ p from fun z => n i (by rw [← z]; exact e))]
    exact r.trk i a e
end
section
variable {X : Cx} {G : Cls} {W : L2.WX} {e : Expr} {m : Env → EM DO}
theorem pm_new (h : PE X e (tF X.K G W m)) : PE X e (tM X.K G W (eNew m)) :=
  (pe_frz h).weak fun σ H Q ⟨ρ, S, E, rp, re, g⟩ => by
    refine ⟨ρ, S, E, rp, re, ?_⟩
    unfold eNew EM.bind at g
    cases hm : m E S with
    | stuck => rw [hm] at g; exact g
    | exc c fs S' => rw [hm] at g; exact g
    | ok o S' =>
      rw [hm] at g
      intro ρ' p u H' x' r' hp n h' mu rc
      have g' : Go X.K G (RD X.K G) W σ ρ H (EM.ofO (valOf o) S') Q := g
      cases hv : valOf o with
      | none => rw [hv] at g'; exact g'.elim
      | some d =>
        rw [hv] at g'
        refine ⟨p, u, rfl, h', mu, fun ob => ?_⟩
        have mu' : Mut (H' p) := by rw [h']; exact mu
        exact g' ρ' (.ref p) _ (x'.known hp n h' mu) (r'.turn mu' n) (RepV.ofC hv upd_same (RepC.turn mu' rc))
theorem Ext.taken {ρ ρ' : List (Option Addr)} {H H' : Hp} {p : Addr} (x : Ext ρ H ρ' H') (hp : H p = none) : Ext ρ H (ρ' ++ [some p]) H' where
  keep := x.keep
  tups := x.tups
  frzs := x.frzs
  dom := x.dom
  len := by have := x.len; simp; omega
  old := fun i hi => by
    rw [List.getElem?_append_left (Nat.lt_of_lt_of_le hi x.len)]
    exact x.old i hi
  new := fun i a hi e => by
    by_cases h1 : i < ρ'.length
    · rw [List.getElem?_append_left h1] at e
      exact x.new i a hi e
    · rw [List.getElem?_append_right (Nat.le_of_not_lt h1)] at e
      cases q : i - ρ'.length with
      | zero => rw [q] at e; simp at e; rw [← e]; exact hp
      | succ n => rw [q] at e; simp at e
end
section
variable {K : PySem.W.Frag} {G : Cls} {ρ : List (Option Addr)} {H : Hp} {q : Option Addr}
mutual
theorem RepV.app : ∀ {d : D} {v : V}, RepV K G ρ H d v → RepV K G (ρ ++ [q]) H d v
  | _, _, .non => .non
  | _, _, .bl b => .bl b
  | _, _, .int i => .int i
  | _, _, .str z => .str z
  | _, _, .tup h r => .tup h (RepVs.app r)
  | _, _, .lst h r => .lst h (RepVs.app r)
  | _, _, .dct h r => .dct h (RepD.app r)
  | _, _, .ins h r => .ins h (RepF.app r)
  | _, _, .scr h => .scr h
  | _, _, .ref h q => .ref (by rw [List.getElem?_append_left (List.getElem?_eq_some_iff.mp h).1]; exact h) q
theorem RepVs.app : ∀ {ds : List D} {vs : List V}, RepVs K G ρ H ds vs → RepVs K G (ρ ++ [q]) H ds vs
  | _, _, .nil => .nil
  | _, _, .cons h r => .cons (RepV.app h) (RepVs.app r)
theorem RepD.app : ∀ {kvs : List (D × D)} {u : HO}, RepD K G ρ H kvs u → RepD K G (ρ ++ [q]) H kvs u
  | _, _, .k r => .k (RepK.app r)
theorem RepK.app : ∀ {kvs : List (D × D)} {us : List (Key × V)}, RepK K G ρ H kvs us → RepK K G (ρ ++ [q]) H kvs us
  | _, _, .nil => .nil
  | _, _, .int h r => .int (RepV.app h) (RepK.app r)
  | _, _, .str h r => .str (RepV.app h) (RepK.app r)
theorem RepF.app : ∀ {fs : List (Nat × D)} {us : List (Str × V)}, RepF K G ρ H fs us → RepF K G (ρ ++ [q]) H fs us
  | _, _, .nil => .nil
  | _, _, .cons h r => .cons (RepV.app h) (RepF.app r)
end
theorem RepC.app {d : DO} {v : HO} (r : RepC K G ρ H d v) : RepC K G (ρ ++ [q]) H d v := by
  cases d with
  | gone => exact r
  | lst xs => obtain ⟨us, e, r⟩ := r; exact ⟨us, e, RepVs.app r⟩
  | dct kvs => exact RepD.app r
  | ins c fs => obtain ⟨dx, us, e, r⟩ := r; exact ⟨dx, us, e, RepF.app r⟩
/-- a new object becomes a cell -/
theorem Rep.take {S : List DO} {d : DO} {p : Addr} {u : HO} (r : Rep K G ρ S H) (n : ∀ i : Nat, ρ[i]? ≠ some (some p)) (h : H p = some u) (m : Mut (some u)) (rc : RepC K G ρ H d u) : Rep K G (ρ ++ [some p]) (S ++ [d]) H where
  len := by simp [r.len]
  inj := fun i j a h1 h2 => by
    have old : ∀ (k : Nat), (ρ ++ [some p])[k]? = some (some a) → (k < ρ.length ∧ ρ[k]? = some (some a)) ∨ (k = ρ.length ∧ a = p) := fun k e => by
      by_cases hk : k < ρ.length
      · rw [List.getElem?_append_left hk] at e; exact .inl ⟨hk, e⟩
      · have hk' := Nat.le_of_not_lt hk
        rw [List.getElem?_append_right hk'] at e
        cases q : k - ρ.length with
        | zero => rw [q] at e; simp at e; exact .inr ⟨by omega, e.symm⟩
        | succ n => rw [q] at e; simp at e
    rcases old i h1 with ⟨_, e1⟩ | ⟨e1, q1⟩
    · rcases old j h2 with ⟨_, e2⟩ | ⟨e2, q2⟩
      · exact r.inj i j a e1 e2
      · rw [q2] at e1; exact absurd e1 (n i)
    · rcases old j h2 with ⟨_, e2⟩ | ⟨e2, q2⟩
      · rw [q1] at e2; exact absurd e2 (n j)
      · rw [e1, e2]
  obj := fun i o' e => by
    by_cases hi : i < S.length
    · rw [List.getElem?_append_left hi] at e
      have hi' : i < ρ.length := by rw [r.len]; exact hi
      rcases r.obj i o' e with z | ⟨a, v, h1, h2, h3⟩
      · exact .inl z
      · exact .inr ⟨a, v, by rw [List.getElem?_append_left hi']; exact h1, h2, RepC.app h3⟩
    · have hi' := Nat.le_of_not_lt hi
      rw [List.getElem?_append_right hi'] at e
      cases q : i - S.length with
      | zero =>
        rw [q] at e; simp at e
        have : i = ρ.length := by rw [r.len]; omega
        rw [← e, this]
        exact .inr ⟨p, u, by simp, h, RepC.app rc⟩
      | succ n => rw [q] at e; simp at e
  trk := fun i a e => by
    by_cases hi : i < ρ.length
    · rw [List.getElem?_append_left hi] at e
      exact r.trk i a e
    · rw [List.getElem?_append_right (Nat.le_of_not_lt hi)] at e
      cases q : i - ρ.length with
      | zero => rw [q] at e; simp at e; rw [← e]; exact ⟨u, h, m⟩
      | succ n => rw [q] at e; simp at e
end
section
variable {X : Cx} {G : Cls} {W : L2.WX} {e : Expr} {m : Env → EM DO}
theorem pm_box (h : PE X e (tF X.K G W m)) : PE X e (tM X.K G W (eBox m)) :=
  h.weak fun σ H Q ⟨ρ, S, E, rp, re, g⟩ => by
    refine ⟨ρ, S, E, rp, re, ?_⟩
    unfold eBox at g
    cases hm : m E S with
    | stuck => rw [hm] at g; exact g
    | exc c fs S' => rw [hm] at g; exact g
    | ok o S' =>
      rw [hm] at g
      intro ρ' p u H' x' r' hp n h' mu rc
      exact g (ρ' ++ [some p]) (.ref p) H' (x'.taken hp) (r'.take n h' mu rc) (.ref (x := some p) (by rw [← r'.len]; simp) (.inr rfl))
end
end PK
namespace PK
open PySem PySem.Spec PyProof.Rows L2

/-! ### list + list, list * int of lists that are known too -/
section
variable {X : Cx}
def rCatR : R2 := fun x y H Q => ∃ l b xs zs, x = .ref l ∧ y = .ref b ∧ Rd H l (.lst xs) ∧ Rd H b (.lst zs) ∧ xs.length + zs.length ≤ sizeLine ∧ ∀ p, H p = none → Q (.ref p) (upd H p (.lst (xs ++ zs)))
theorem op_catR : OpR X (binaryOp .Add) rCatR := fun pins s σ H x y v u Q I rx ry h => by
  rcases h with ⟨p, q, us, ws, ex, ey, hp, hq, hs, k⟩
  subst ex ey
  have ev : v = .ref p := rx
  have eu : u = .ref q := ry
  subst ev eu
  have ⟨_, l1, n1, v1, g1⟩ := hp.ok I.hok
  have ⟨_, l2, n2, v2, g2⟩ := hq.ok I.hok
  have hv : Vals (us ++ ws) (l1 ++ l2) := v1.append v2
  have hn : (us ++ ws).length ≤ sizeLine := List.length_append ▸ hs
  have J := I.lnew (t' := s.toks) hv hn
  have hz : l1.toArray.size + l2.toArray.size ≤ sizeLine := by
    have h1 := v1.length
    have h2 := v2.length
    simp only [List.size_toArray]
    omega
  have em : l1.toArray ++ l2.toArray = (l1 ++ l2).toArray := List.append_toArray _ _
  apply PySem.P.add_list (hsz := hz) g1 g2
  exact em ▸ ⟨V.ref s.heap.objs.size, _, J, rfl, k _ I.fresh⟩
end

/-! ### steps that give a new object, by values -/
section
variable {X : Cx} {G : Cls} {W : L2.WX} {a b e : Expr} {es : List Expr} {pos : Pos} {ma mb : Env → EM D} {ms : Env → EM (List D)}
theorem GoF.mono {K : PySem.W.Frag} {σ : L2.St} {ρ : List (Option Addr)} {H : Hp} {r : Res DO} {Q Q' : VK} (h : GoF K G W σ ρ H r Q) (i : ∀ v H', Q v H' → Q' v H') : GoF K G W σ ρ H r Q' := by
  cases r with
  | ok o S' => exact fun ρ' p u H' x r n1 n2 h' m c => i _ _ (h ρ' p u H' x r n1 n2 h' m c)
  | exc c fs S' => exact h
  | stuck => exact h
theorem GoF.bind {α β : Type} {K : PySem.W.Frag} {R : List (Option Addr) → Hp → α → β → Prop} {σ : L2.St} {ρ : List (Option Addr)} {S : List DO} {H : Hp} {m : EM α} {k : α → EM DO} {Q : VK} (h : GoF K G W σ ρ H (EM.bind m k S) Q) :
    Go K G R W σ ρ H (m S) fun b H1 => ∃ ρ1 S1 a, Ext ρ H ρ1 H1 ∧ Rep K G ρ1 S1 H1 ∧ R ρ1 H1 a b ∧ GoF K G W σ ρ1 H1 (k a S1) Q := by
  unfold EM.bind at h
  cases e : m S with
  | ok a S' =>
    rw [e] at h
    refine fun ρ1 b H1 x1 r1 q => ⟨ρ1, S', a, x1, r1, q, ?_⟩
    have h' : GoF K G W σ ρ H (k a S') Q := h
    cases e2 : k a S' with
    | ok o S2 => rw [e2] at h'; exact fun ρ' p u H' x r n1 n2 hh m c => h' ρ' p u H' (x1.trans x) r (x1.dom p n1) n2 hh m c
    | exc c fs S2 => rw [e2] at h'; exact fun ρ' H' od x r q => h' ρ' H' od (x1.trans x) r q
    | stuck => rw [e2] at h'; exact h'
  | exc c fs S' => rw [e] at h; exact h
  | stuck => rw [e] at h; exact h
/-- a new list of the values xs is laid at p -/
theorem GoF.list {K : PySem.W.Frag} {σ : L2.St} {ρ : List (Option Addr)} {S : List DO} {H : Hp} {xs : List D} {us : List V} {Q : VK} (g : GoF K G W σ ρ H (.ok (.lst xs) S) Q) (rp : Rep K G ρ S H) (r : RepVs K G ρ H xs us) {p : Addr} (hp : H p = none) : Q (.ref p) (upd H p (.lst us)) :=
  g ρ p _ _ (Ext.laid hp) (rp.laid hp) hp (rp.notNew hp) upd_same trivial ⟨us, rfl, r.ext (Ext.laid hp)⟩
def f2 (f : D → D → EM DO) (ma mb : Env → EM D) : Env → EM DO := fun E => EM.bind (ma E) fun x => EM.bind (mb E) fun y => f x y
def fs (f : List D → EM DO) (ms : Env → EM (List D)) : Env → EM DO := fun E => EM.bind (ms E) f
def r2F (K : PySem.W.Frag) (G : Cls) (m : D → D → EM DO) : R2 := fun vx vy H Q => ∃ ρ S x y, Rep K G ρ S H ∧ RepV K G ρ H x vx ∧ RepV K G ρ H y vy ∧ GoF K G W0 [] ρ H (m x y S) Q
def rsF (K : PySem.W.Frag) (G : Cls) (m : List D → EM DO) : List V → Hp → VK → Prop := fun vs H Q => ∃ ρ S xs, Rep K G ρ S H ∧ RepVs K G ρ H xs vs ∧ GoF K G W0 [] ρ H (m xs S) Q
theorem GoF.w0 {K : PySem.W.Frag} {σ : L2.St} {ρ : List (Option Addr)} {S : List DO} {H : Hp} {m : EM DO} {Q : VK} (n : NoExc m) (g : GoF K G W σ ρ H (m S) Q) : GoF K G W0 [] ρ H (m S) Q := by
  cases e : m S with
  | ok a S' => rw [e] at g; exact g
  | exc c fs S' => exact (n S c fs S' e).elim
  | stuck => rw [e] at g; exact g
theorem tF_2 {f : D → D → EM DO} (n : ∀ x y, NoExc (f x y)) {σ : L2.St} {H : Hp} {Q : VK} (h : tF X.K G W (f2 f ma mb) σ H Q) : tOp (r2F X.K G f) (tM X.K G W ma) (tM X.K G W mb) σ H Q := by
  obtain ⟨ρ, S, E, rp, re, g⟩ := h
  refine ⟨ρ, S, E, rp, re, Go.mono (GoF.bind g) ?_⟩
  rintro v1 H1 ⟨ρ1, S1, x, x1, r1, q1, g1⟩
  refine ⟨ρ1, S1, E, r1, RepE.ext x1 re, Go.mono (GoF.bind g1) ?_⟩
  rintro v2 H2 ⟨ρ2, S2, y, x2, r2, q2, g2⟩
  exact ⟨ρ2, S2, x, y, r2, RepV.ext x2 q1, q2, g2.w0 (n x y)⟩
theorem tF_s {f : List D → EM DO} (n : ∀ x, NoExc (f x)) {σ : L2.St} {H : Hp} {Q : VK} (h : tF X.K G W (PK.fs f ms) σ H Q) : tA X.K G W ms σ H fun vs H1 => rsF X.K G f vs H1 Q := by
  obtain ⟨ρ, S, E, rp, re, g⟩ := h
  refine ⟨ρ, S, E, rp, re, Go.mono (GoF.bind g) ?_⟩
  rintro v1 H1 ⟨ρ1, S1, x, x1, r1, q1, g1⟩
  exact ⟨ρ1, S1, x, r1, q1, g1.w0 (n x)⟩
/-! ### a list written out -/
def mLst (xs : List D) : EM DO := if xs.length ≤ 1000 then EM.pure (.lst xs) else EM.fail
theorem pf_lst (h : PA X es (tA X.K G W ms)) : PE X (.List es pos) (tF X.K G W (PK.fs mLst ms)) :=
  (pe_lst h).weak fun σ H Q ⟨ρ, S, E, rp, re, g⟩ => by
    refine ⟨ρ, S, E, rp, re, Go.mono (GoF.bind g) ?_⟩
    rintro vs H1 ⟨ρ1, S1, xs, x1, r1, q1, g1⟩
    unfold mLst at g1
    by_cases hl : xs.length ≤ 1000
    · rw [if_pos hl] at g1
      exact ⟨by rw [← q1.length]; exact line1000 hl, fun p hp => GoF.list g1 r1 q1 hp⟩
    · rw [if_neg hl] at g1; exact g1.elim
/-! ### list + list, list * int -/
def catM (x y : D) : EM DO := fun S => match viewL S x, viewL S y with
  | some xs, some ys => if xs.length + ys.length ≤ 16777216 then .ok (.lst (xs ++ ys)) S else .stuck
  | _, _ => .stuck
theorem noExc_cat {x y : D} : NoExc (catM x y) := fun S c fs S' h => by
  unfold catM at h
  split at h
  · split at h <;> cases h
  · cases h
theorem op_catF : OpR X (binaryOp .Add) (r2F X.K G catM) := by
  intro pins s σ H vx vy v u Q I r1 r2 ⟨ρ, S, x, y, rp, q1, q2, g⟩
  unfold catM at g
  split at g
  · rename_i xs ys h1 h2
    split at g
    · rename_i hl
      obtain ⟨a, us, rfl, t1, s1⟩ := viewL_ok rp q1 h1
      obtain ⟨b, ws, rfl, t2, s2⟩ := viewL_ok rp q2 h2
      exact op_catR pins s σ H _ _ v u Q I r1 r2 ⟨a, b, us, ws, rfl, rfl, t1, t2, by rw [← s1.length, ← s2.length]; exact line_eq hl, fun p hp => GoF.list g rp (s1.append s2) hp⟩
    · exact g.elim
  · exact g.elim
theorem pf_op {op : Operator} {m : D → D → EM DO} (ho : OpR X (binaryOp op) (r2F X.K G m)) (n : ∀ x y, NoExc (m x y)) (ha : PE X a (tM X.K G W ma)) (hb : PE X b (tM X.K G W mb)) : PE X (.BinOp a op b pos) (tF X.K G W (f2 m ma mb)) :=
  (pe_op ho ha hb).weak fun σ H Q q => tF_2 n q
def timesO : DO → D → Option DO
  | .lst xs, .int k => if -(2 ^ 63) ≤ k ∧ k < 2 ^ 63 ∧ xs.length * k.toNat ≤ 16777216 then some (.lst (List.replicate k.toNat xs).flatten) else none
  | _, _ => none
def repF (mc : Env → EM DO) (mb : Env → EM D) : Env → EM DO := fun E => EM.bind (mc E) fun o => EM.bind (mb E) fun y => EM.ofO (timesO o y)
theorem stays {K : PySem.W.Frag} {ρ ρ' : List (Option Addr)} {H H' : Hp} {p : Addr} {o : HO} (x : Ext ρ H ρ' H') (h : H p = some o) (n : ∀ i : Nat, ρ[i]? ≠ some (some p)) : H' p = some o := x.keep p o h n
theorem pf_rep {mc : Env → EM DO} (hc : PE X a (tF X.K G W mc)) (hb : PE X b (tM X.K G W mb)) : PE X (.BinOp a .Mult b pos) (tF X.K G W (repF mc mb)) :=
  (pe_op op_rep hc hb).weak fun σ H Q ⟨ρ, S, E, rp, re, g⟩ => by
    refine ⟨ρ, S, E, rp, re, ?_⟩
    unfold repF EM.bind at g
    cases hm : mc E S with
    | stuck => rw [hm] at g; exact g
    | exc c fs S1 => rw [hm] at g; exact g
    | ok o S1 =>
      rw [hm] at g
      intro ρ1 p u H1 x1 r1 hp n1 h1 mu rc
      refine ⟨ρ1, S1, E, r1, RepE.ext x1 re, ?_⟩
      dsimp only at g
      cases hb' : mb E S1 with
      | stuck => rw [hb'] at g; exact g.elim
      | exc c fs S2 => rw [hb'] at g; exact fun ρ2 H2 od x2 r2 z => g ρ2 H2 od (x1.trans x2) r2 z
      | ok y S2 =>
        rw [hb'] at g
        intro ρ2 w H2 x2 r2 q2
        dsimp only at g
        cases ho : timesO o y with
        | none => rw [ho] at g; exact g.elim
        | some o' =>
          rw [ho] at g
          unfold timesO at ho
          split at ho
          · rename_i xs k
            split at ho
            · rename_i hl
              cases ho
              obtain ⟨us, rfl, rs⟩ := rc
              refine ⟨p, k, us, rfl, q2.int_inv, x2.keep p _ h1 n1, hl.1, hl.2.1, by rw [← rs.length]; exact line_eq hl.2.2, fun p' hp' => ?_⟩
              have x3 := x1.trans x2
              exact g ρ2 p' _ _ (x3.trans (Ext.laid hp')) (r2.laid hp') (x3.dom _ hp') (r2.notNew hp') upd_same trivial ⟨_, rfl, (((rs.ext x2).rep k.toNat).ext (Ext.laid hp'))⟩
            · cases ho
          · cases ho
/-- list(x) of a list or a tuple -/
def listM (xs : List D) : EM DO := fun S => match xs with
  | [d] => match viewS S d with
    | some ys => .ok (.lst ys) S
    | none => .stuck
  | _ => .stuck
theorem noExc_list {xs : List D} : NoExc (listM xs) := fun S c fs S' h => by
  unfold listM at h
  split at h
  · split at h <;> cases h
  · cases h
theorem cr_listF : CallR X (.type "list") (rsF X.K G listM) := by
  intro pins s σ H vs us Q I r ⟨ρ, S, xs, rp, q, g⟩
  unfold listM at g
  split at g
  · obtain ⟨v, rfl, q1⟩ := q.one
    split at g
    · rename_i ys hv
      obtain ⟨a, ws, rfl, h1, h2⟩ := viewS_ok rp q1 hv
      exact call_list_of pins s σ H _ us Q I r ⟨a, ws, rfl, h1, fun l hl => GoF.list g rp h2 hl⟩
    · exact g.elim
  · exact g.elim
theorem pf_callTy {x : Str} {T : String} {p : Pos} {m : List D → EM DO} (hc : CallR X (.type T) (rsF X.K G m)) (n : ∀ xs, NoExc (m xs)) (hg : Gl X x) (hm : X.mg x = none) (hv : bootBuiltins x = some (.type T)) (ha : PA X (e :: es) (tA X.K G W ms)) (hn : x ≠ "__name__") (hdb : (x == ("__debug__" : Str)) = false)
    (he : starEach (e :: es) X.env = (false, eval e X.env) :: starEach es X.env) (hpl : (backTo pos (starEach es X.env)).any (·.1) = false) : PE X (.Call (.Name x p) (e :: es) [] pos) (tF X.K G W (PK.fs m ms)) :=
  (pe_callTy hc hg hm hv ha hn hdb he hpl).weak fun σ H Q q => tF_s n q
/-! ### slices -/
abbrev RO : List (Option Addr) → Hp → Option Int → Option Int → Prop := fun _ _ a b => a = b
abbrev tO (K : PySem.W.Frag) (G : Cls) (W : L2.WX) (m : Env → EM (Option Int)) : TO := tG K G RO W m
def eNoPart : Env → EM (Option Int) := fun _ => EM.pure none
def asI : D → Option (Option Int)
  | .int i => some (some i)
  | _ => none
def ePart (m : Env → EM D) : Env → EM (Option Int) := fun E => EM.bind (m E) fun d => EM.ofO (asI d)
theorem PO.weak {e : Option Expr} {t t' : TO} (h : PO X e t) (i : ∀ σ H Q, t' σ H Q → t σ H Q) : PO X e t' := ⟨fun pins s σ H Q I q => h.run pins s σ H Q I (i σ H Q q)⟩
theorem po_noneM : PO X none (tO X.K G W eNoPart) := PO.weak po_none fun σ H Q ⟨ρ, S, E, rp, re, g⟩ => g.here rp rfl
theorem po_someM (h : PE X e (tM X.K G W ma)) : PO X (some e) (tO X.K G W (ePart ma)) := PO.weak (po_some h) fun σ H Q ⟨ρ, S, E, rp, re, g⟩ => by
  refine ⟨ρ, S, E, rp, re, Go.mono (Go.bind g) ?_⟩
  rintro v1 H1 ⟨ρ1, S1, x, x1, r1, q1, g1⟩
  obtain ⟨d, e', k⟩ := g1.ofO r1
  unfold asI at e'
  split at e'
  · cases e'
    exact ⟨_, q1.int_inv, k ρ1 _ H1 (Ext.refl _ _) r1 rfl⟩
  · cases e'
def cutL {α : Type} (xs : List α) (lo hi : Option Int) : List α := (xs.drop (HT.sIx xs.length 0 lo)).take (HT.sIx xs.length xs.length hi - HT.sIx xs.length 0 lo)
theorem RepVs.cut {K : PySem.W.Frag} {ρ : List (Option Addr)} {H : Hp} {xs : List D} {us : List V} (r : RepVs K G ρ H xs us) (lo hi : Option Int) : RepVs K G ρ H (cutL xs lo hi) (cutV us lo hi) := by
  unfold cutL cutV
  rw [r.length]
  exact (r.drop _).take _
/-- t[lo:hi] of a tuple, a text -/
def cutO : D → Option Int → Option Int → Option D
  | .tup xs, lo, hi => some (.tup (cutL xs lo hi))
  | .str z, lo, hi => if z.length ≤ 16777216 then some (.str (cutS z lo hi)) else none
  | _, _, _ => none
def eCut (m : Env → EM D) (l h : Env → EM (Option Int)) : Env → EM D := fun E => EM.bind (m E) fun x => EM.bind (l E) fun lo => EM.bind (h E) fun hi => EM.ofO (cutO x lo hi)
def fCut (m : Env → EM D) (l h : Env → EM (Option Int)) : Env → EM DO := fun E => EM.bind (m E) fun x => EM.bind (l E) fun lo => EM.bind (h E) fun hi => fun S => match viewL S x with
  | some xs => .ok (.lst (cutL xs lo hi)) S
  | none => .stuck
variable {lo hi : Option Expr} {ml mh : Env → EM (Option Int)} {p2 : Pos}
theorem pm_cut (he : PE X e (tM X.K G W ma)) (hl : PO X lo (tO X.K G W ml)) (hh : PO X hi (tO X.K G W mh)) : PE X (.Subscript e (.Slice lo hi none p2) pos) (tM X.K G W (eCut ma ml mh)) :=
  (pe_slice (SlR.or sl_tupA sl_str) he hl hh).weak fun σ H Q ⟨ρ, S, E, rp, re, g⟩ => by
    refine ⟨ρ, S, E, rp, re, Go.mono (Go.bind g) ?_⟩
    rintro v1 H1 ⟨ρ1, S1, x, x1, r1, q1, g1⟩
    refine ⟨ρ1, S1, E, r1, RepE.ext x1 re, Go.mono (Go.bind g1) ?_⟩
    rintro o2 H2 ⟨ρ2, S2, l, x2, r2, q2, g2⟩
    cases q2
    refine ⟨ρ2, S2, E, r2, RepE.ext x2 (RepE.ext x1 re), Go.mono (Go.bind g2) ?_⟩
    rintro o3 H3 ⟨ρ3, S3, h, x3, r3, q3, g3⟩
    cases q3
    obtain ⟨d, e', k⟩ := g3.ofO r3
    have q1' := (q1.ext x2).ext x3
    unfold cutO at e'
    split at e'
    · cases e'
      obtain ⟨a, us, rfl, t1, s1⟩ := q1'.tup_inv
      refine .inl ⟨a, us, rfl, t1, fun z => ?_, fun _ p hp => k ρ3 (.ref p) _ (Ext.laid hp) (r3.laid hp) (.tup (SqT.of upd_same) ((s1.cut _ _).ext (Ext.laid hp)))⟩
      refine k ρ3 (.ref a) H3 (Ext.refl _ _) r3 (.tup t1 ?_)
      have c := s1.cut o2 o3
      unfold cutV at c
      rw [z.1, z.2] at c
      simpa using c
    · split at e'
      · rename_i hz
        cases e'
        rw [q1'.str_inv]
        exact .inr ⟨_, rfl, line_eq hz, k ρ3 _ H3 (Ext.refl _ _) r3 (.str _)⟩
      · cases e'
    · cases e'
theorem pf_cut (he : PE X e (tM X.K G W ma)) (hl : PO X lo (tO X.K G W ml)) (hh : PO X hi (tO X.K G W mh)) : PE X (.Subscript e (.Slice lo hi none p2) pos) (tF X.K G W (fCut ma ml mh)) :=
  (pe_slice sl_list he hl hh).weak fun σ H Q ⟨ρ, S, E, rp, re, g⟩ => by
    refine ⟨ρ, S, E, rp, re, Go.mono (GoF.bind g) ?_⟩
    rintro v1 H1 ⟨ρ1, S1, x, x1, r1, q1, g1⟩
    refine ⟨ρ1, S1, E, r1, RepE.ext x1 re, Go.mono (GoF.bind g1) ?_⟩
    rintro o2 H2 ⟨ρ2, S2, l, x2, r2, q2, g2⟩
    cases q2
    refine ⟨ρ2, S2, E, r2, RepE.ext x2 (RepE.ext x1 re), Go.mono (GoF.bind g2) ?_⟩
    rintro o3 H3 ⟨ρ3, S3, h, x3, r3, q3, g3⟩
    cases q3
    have q1' := (q1.ext x2).ext x3
    cases hv : viewL S3 x with
    | none => simp only [hv] at g3; exact g3.elim
    | some xs =>
      simp only [hv] at g3
      obtain ⟨a, us, rfl, t1, s1⟩ := viewL_ok r3 q1' hv
      exact ⟨a, us, rfl, .inl t1, fun p hp => GoF.list g3 r3 (s1.cut _ _) hp⟩
end
end PK
namespace PK
open PySem PySem.Spec PyProof.Rows L2

/-! ### what is walked -/
/-- J walks the values ds, whatever comes about -/
structure Walks (K : PySem.W.Frag) (G : Cls) (J : It) (ds : List D) (ρ : List (Option Addr)) (H : Hp) : Prop where
  stop : ∀ ρ' H', Ext ρ H ρ' H' → J.stop ds.length H'
  go : ∀ (i : Nat) d ρ' H', ds[i]? = some d → Ext ρ H ρ' H' → J.go i H' ∧ ∀ S x H2, Rep K G ρ' S H' → J.yld i H' x H2 → Ext ρ' H' ρ' H2 ∧ Rep K G ρ' S H2 ∧ RepV K G ρ' H2 d x
def tI (K : PySem.W.Frag) (G : Cls) (W : L2.WX) (m : Env → EM (List D)) : TI := fun σ H R => ∃ ρ S E, Rep K G ρ S H ∧ RepE K G ρ H E σ ∧ match m E S with
  | .ok ds S' => ∀ ρ' J H', Ext ρ H ρ' H' → Rep K G ρ' S' H' → Walks K G J ds ρ' H' → R J H'
  | .exc c fs S' => ∀ ρ' H' od, Ext ρ H ρ' H' → Rep K G ρ' S' H' → RepX K G ρ' H' fs od → W (.ref (G.addr c)) od σ H'
  | .stuck => False
theorem PI.weak {X : Cx} {tg e : Expr} {t t' : TI} (h : PI X tg e t) (i : ∀ σ H Q, t' σ H Q → t σ H Q) : PI X tg e t' := ⟨fun pins s σ H Q I q => h.run pins s σ H Q I (i σ H Q q)⟩
theorem PI.or {X : Cx} {tg e : Expr} {t t' : TI} (h : PI X tg e t) (h' : PI X tg e t') : PI X tg e fun σ H R => t σ H R ∨ t' σ H R := ⟨fun pins s σ H Q I q => q.elim (h.run pins s σ H Q I) (h'.run pins s σ H Q I)⟩
section
variable {K : PySem.W.Frag} {G : Cls} {ρ ρ' : List (Option Addr)} {S : List DO} {H H' : Hp} {W : L2.WX} {σ : L2.St}
/-- the walk's end: from values that a run gives -/
theorem tI_bind {α β : Type} {R' : List (Option Addr) → Hp → α → β → Prop} {m : Env → EM α} {k : Env → α → EM (List D)} {R : It → Hp → Prop} {E : Env} (rp : Rep K G ρ S H) (re : RepE K G ρ H E σ)
    (h : match EM.bind (m E) (k E) S with
      | .ok ds S' => ∀ ρ' J H', Ext ρ H ρ' H' → Rep K G ρ' S' H' → Walks K G J ds ρ' H' → R J H'
      | .exc c fs S' => ∀ ρ' H' od, Ext ρ H ρ' H' → Rep K G ρ' S' H' → RepX K G ρ' H' fs od → W (.ref (G.addr c)) od σ H'
      | .stuck => False) :
    tG K G R' W m σ H fun b H1 => ∃ ρ1 S1 a, Ext ρ H ρ1 H1 ∧ Rep K G ρ1 S1 H1 ∧ R' ρ1 H1 a b ∧ match k E a S1 with
      | .ok ds S' => ∀ ρ' J H', Ext ρ1 H1 ρ' H' → Rep K G ρ' S' H' → Walks K G J ds ρ' H' → R J H'
      | .exc c fs S' => ∀ ρ' H' od, Ext ρ1 H1 ρ' H' → Rep K G ρ' S' H' → RepX K G ρ' H' fs od → W (.ref (G.addr c)) od σ H'
      | .stuck => False := by
  refine ⟨ρ, S, E, rp, re, ?_⟩
  unfold EM.bind at h
  cases e : m E S with
  | ok a S' =>
    rw [e] at h
    refine fun ρ1 b H1 x1 r1 q => ⟨ρ1, S', a, x1, r1, q, ?_⟩
    have h' : (match k E a S' with
      | .ok ds S' => ∀ ρ' J H', Ext ρ H ρ' H' → Rep K G ρ' S' H' → Walks K G J ds ρ' H' → R J H'
      | .exc c fs S' => ∀ ρ' H' od, Ext ρ H ρ' H' → Rep K G ρ' S' H' → RepX K G ρ' H' fs od → W (.ref (G.addr c)) od σ H'
      | .stuck => False) := h
    cases e2 : k E a S' with
    | ok ds S2 => rw [e2] at h'; exact fun ρ' J H' x r w => h' ρ' J H' (x1.trans x) r w
    | exc c fs S2 => rw [e2] at h'; exact fun ρ' H' od x r w => h' ρ' H' od (x1.trans x) r w
    | stuck => rw [e2] at h'; exact h'
  | exc c fs S' => rw [e] at h; exact h
  | stuck => rw [e] at h; exact h
/-- a list, a tuple that stands -/
def StL (K : PySem.W.Frag) (ρ : List (Option Addr)) (H : Hp) (a : Addr) (us : List V) : Prop := ∀ ρ' H', Ext ρ H ρ' H' → SqL K H' a us
theorem StL.of {a : Addr} {us : List V} {o : Obj} (h : H a = some (.frz o (.lst us))) : StL K ρ H a us := fun ρ' H' x => .inl (.inr ⟨o, x.frzs _ _ _ h⟩)
theorem walks_list {a : Addr} {us : List V} {ds : List D} (h : StL K ρ H a us) (r : RepVs K G ρ H ds us) : Walks K G (Itl K a) ds ρ H where
  stop := fun ρ' H' x => ⟨us, h ρ' H' x, by rw [r.length]; exact Nat.le_refl _⟩
  go := fun i d ρ' H' e x => by
    obtain ⟨v, e', r'⟩ := r.get e
    refine ⟨⟨us, v, h ρ' H' x, e'⟩, fun S y H2 rp q => ?_⟩
    obtain ⟨rfl, q⟩ := q
    have := q us (h ρ' H2 x)
    rw [e'] at this; cases this
    exact ⟨Ext.refl _ _, rp, RepV.ext x r'⟩
theorem walks_tup {a : Addr} {us : List V} {ds : List D} (h : SqT K H a us) (r : RepVs K G ρ H ds us) : Walks K G (Itt K a) ds ρ H where
  stop := fun ρ' H' x => ⟨us, SqT.ext x h, by rw [r.length]; exact Nat.le_refl _⟩
  go := fun i d ρ' H' e x => by
    obtain ⟨v, e', r'⟩ := r.get e
    refine ⟨⟨us, v, SqT.ext x h, e'⟩, fun S y H2 rp q => ?_⟩
    obtain ⟨rfl, q⟩ := q
    have := q us (SqT.ext x h)
    rw [e'] at this; cases this
    exact ⟨Ext.refl _ _, rp, RepV.ext x r'⟩
def rangeD (lo : Int) (n : Nat) : List D := (List.range n).map fun i => .int (lo + (i : Nat))
theorem rangeD_get {lo : Int} {n i : Nat} {d : D} (e : (rangeD lo n)[i]? = some d) : i < n ∧ d = .int (lo + (i : Nat)) := by
  unfold rangeD at e
  rw [List.getElem?_map, Option.map_eq_some_iff] at e
  obtain ⟨j, e1, e2⟩ := e
  by_cases hi : i < n
  · rw [List.getElem?_range hi] at e1
    cases e1; exact ⟨hi, e2.symm⟩
  · rw [List.getElem?_eq_none (by simpa using Nat.le_of_not_lt hi)] at e1; cases e1
theorem walks_range (lo : Int) (n : Nat) : Walks K G (Itr lo n) (rangeD lo n) ρ H where
  stop := fun ρ' H' x => by simp [rangeD, Itr]
  go := fun i d ρ' H' e x => by
    obtain ⟨h1, rfl⟩ := rangeD_get e
    refine ⟨h1, fun S y H2 rp q => ?_⟩
    obtain ⟨rfl, rfl⟩ := q
    exact ⟨Ext.refl _ _, rp, .int _⟩
def rangeC (lo c : Int) (n : Nat) : List D := (List.range n).map fun i => .int (lo + (i : Nat) * c)
theorem rangeC_get {lo c : Int} {n i : Nat} {d : D} (e : (rangeC lo c n)[i]? = some d) : i < n ∧ d = .int (lo + (i : Nat) * c) := by
  unfold rangeC at e
  rw [List.getElem?_map, Option.map_eq_some_iff] at e
  obtain ⟨j, e1, e2⟩ := e
  by_cases hi : i < n
  · rw [List.getElem?_range hi] at e1
    cases e1; exact ⟨hi, e2.symm⟩
  · rw [List.getElem?_eq_none (by simpa using Nat.le_of_not_lt hi)] at e1; cases e1
theorem walks_rangeC (lo c : Int) (n : Nat) : Walks K G (Itc lo c n) (rangeC lo c n) ρ H where
  stop := fun ρ' H' x => by simp [rangeC, Itc]
  go := fun i d ρ' H' e x => by
    obtain ⟨h1, rfl⟩ := rangeC_get e
    refine ⟨h1, fun S y H2 rp q => ?_⟩
    obtain ⟨rfl, rfl⟩ := q
    exact ⟨Ext.refl _ _, rp, .int _⟩
theorem rev_get {us : List V} {ds : List D} (r : RepVs K G ρ H ds us) {i : Nat} {d : D} (e : ds.reverse[i]? = some d) : i < us.length ∧ ∃ v, us[us.length - 1 - i]? = some v ∧ RepV K G ρ H d v := by
  obtain ⟨v, e', r'⟩ := r.reverse.get e
  have hi : i < us.length := by
    have := (List.getElem?_eq_some_iff.mp e').1
    simpa using this
  rw [List.getElem?_reverse hi] at e'
  exact ⟨hi, v, e', r'⟩
theorem walks_revL {a : Addr} {us : List V} {ds : List D} (h : StL K ρ H a us) (r : RepVs K G ρ H ds us) : Walks K G (Itv K a us.length) ds.reverse ρ H where
  stop := fun ρ' H' x => by
    have := r.length
    simp [Itv, this]
  go := fun i d ρ' H' e x => by
    obtain ⟨hi, v, e', r'⟩ := rev_get r e
    refine ⟨⟨hi, us, v, h ρ' H' x, e'⟩, fun S y H2 rp q => ?_⟩
    obtain ⟨rfl, q⟩ := q
    have := q us (h ρ' H2 x)
    rw [e'] at this; cases this
    exact ⟨Ext.refl _ _, rp, RepV.ext x r'⟩
theorem walks_revT {a : Addr} {us : List V} {ds : List D} (h : SqT K H a us) (r : RepVs K G ρ H ds us) : Walks K G (RT.ItvT K a us.length) ds.reverse ρ H where
  stop := fun ρ' H' x => by
    have := r.length
    simp [RT.ItvT, this]
  go := fun i d ρ' H' e x => by
    obtain ⟨hi, v, e', r'⟩ := rev_get r e
    refine ⟨⟨hi, us, v, SqT.ext x h, e'⟩, fun S y H2 rp q => ?_⟩
    obtain ⟨rfl, q⟩ := q
    have := q us (SqT.ext x h)
    rw [e'] at this; cases this
    exact ⟨Ext.refl _ _, rp, RepV.ext x r'⟩
def pairD (x y : D) : D := .tup [x, y]
theorem zip_get {us vs : List V} {xs ys : List D} (r : RepVs K G ρ H xs us) (r' : RepVs K G ρ H ys vs) {i : Nat} {d : D} (e : (List.zipWith pairD xs ys)[i]? = some d) :
    ∃ x y u v, d = .tup [x, y] ∧ us[i]? = some u ∧ vs[i]? = some v ∧ RepV K G ρ H x u ∧ RepV K G ρ H y v := by
  rw [List.getElem?_zipWith] at e
  cases h1 : xs[i]? with
  | none => rw [h1] at e; cases e
  | some x =>
    cases h2 : ys[i]? with
    | none => rw [h1, h2] at e; cases e
    | some y =>
      rw [h1, h2] at e
      cases e
      obtain ⟨u, e1, q1⟩ := r.get h1
      obtain ⟨v, e2, q2⟩ := r'.get h2
      exact ⟨x, y, u, v, rfl, e1, e2, q1, q2⟩
theorem walks_zipL {a b : Addr} {us vs : List V} {xs ys : List D} (h : StL K ρ H a us) (h' : StL K ρ H b vs) (r : RepVs K G ρ H xs us) (r' : RepVs K G ρ H ys vs) : Walks K G (Itz K a b) (List.zipWith pairD xs ys) ρ H where
  stop := fun ρ' H' x => ⟨us, vs, h ρ' H' x, h' ρ' H' x, by have := r.length; have := r'.length; simp; omega⟩
  go := fun i d ρ' H' e x => by
    obtain ⟨p, q, u, v, rfl, e1, e2, q1, q2⟩ := zip_get r r' e
    refine ⟨⟨us, vs, u, v, h ρ' H' x, h' ρ' H' x, e1, e2⟩, fun S y H2 rp q => ?_⟩
    obtain ⟨T, u', v', rfl, hT, rfl, k1, k2⟩ := q
    have z1 := k1 us (h ρ' H' x)
    have z2 := k2 vs (h' ρ' H' x)
    rw [e1] at z1; cases z1
    rw [e2] at z2; cases z2
    exact ⟨Ext.laid hT, rp.laid hT, .tup (SqT.of upd_same) (.cons (RepV.ext (Ext.laid hT) (RepV.ext x q1)) (.cons (RepV.ext (Ext.laid hT) (RepV.ext x q2)) .nil))⟩
theorem walks_zipT {a b : Addr} {us vs : List V} {xs ys : List D} (h : SqT K H a us) (h' : SqT K H b vs) (r : RepVs K G ρ H xs us) (r' : RepVs K G ρ H ys vs) : Walks K G (RZ.ItzT K a b) (List.zipWith pairD xs ys) ρ H where
  stop := fun ρ' H' x => ⟨us, vs, SqT.ext x h, SqT.ext x h', by have := r.length; have := r'.length; simp; omega⟩
  go := fun i d ρ' H' e x => by
    obtain ⟨p, q, u, v, rfl, e1, e2, q1, q2⟩ := zip_get r r' e
    refine ⟨⟨us, vs, u, v, SqT.ext x h, SqT.ext x h', e1, e2⟩, fun S y H2 rp q => ?_⟩
    obtain ⟨T, u', v', rfl, hT, rfl, k1, k2⟩ := q
    have z1 := k1 us (SqT.ext x h)
    have z2 := k2 vs (SqT.ext x h')
    rw [e1] at z1; cases z1
    rw [e2] at z2; cases z2
    exact ⟨Ext.laid hT, rp.laid hT, .tup (SqT.of upd_same) (.cons (RepV.ext (Ext.laid hT) (RepV.ext x q1)) (.cons (RepV.ext (Ext.laid hT) (RepV.ext x q2)) .nil))⟩
def enumD (lo : Nat) : List D → List D
  | [] => []
  | x :: xs => .tup [.int (lo : Nat), x] :: enumD (lo + 1) xs
theorem enumD_length : ∀ (xs : List D) (lo : Nat), (enumD lo xs).length = xs.length
  | [], _ => rfl
  | x :: xs, lo => by simp [enumD, enumD_length xs]
theorem enumD_get : ∀ {xs : List D} {lo i : Nat} {d : D}, (enumD lo xs)[i]? = some d → ∃ x, xs[i]? = some x ∧ d = .tup [.int ((lo + i : Nat) : Int), x]
  | [], _, _, _, e => by simp [enumD] at e
  | x :: xs, lo, 0, d, e => by simp [enumD] at e; exact ⟨x, rfl, e.symm⟩
  | x :: xs, lo, i + 1, d, e => by
    simp [enumD] at e
    obtain ⟨y, h1, h2⟩ := enumD_get (xs := xs) (lo := lo + 1) (i := i) e
    refine ⟨y, by simpa using h1, ?_⟩
    rw [h2, show lo + 1 + i = lo + (i + 1) by omega]
theorem walks_enum {a : Addr} {us : List V} {ds : List D} (h : StL K ρ H a us) (r : RepVs K G ρ H ds us) : Walks K G (Ite K a) (enumD 0 ds) ρ H where
  stop := fun ρ' H' x => ⟨us, h ρ' H' x, by rw [enumD_length, r.length]; exact Nat.le_refl _⟩
  go := fun i d ρ' H' e x => by
    obtain ⟨y, e1, rfl⟩ := enumD_get e
    obtain ⟨v, e', r'⟩ := r.get e1
    refine ⟨⟨us, v, h ρ' H' x, e'⟩, fun S y H2 rp q => ?_⟩
    obtain ⟨T, u', rfl, hT, rfl, k1⟩ := q
    have z1 := k1 us (h ρ' H' x)
    rw [e'] at z1; cases z1
    refine ⟨Ext.laid hT, rp.laid hT, .tup (SqT.of upd_same) (.cons ?_ (.cons (RepV.ext (Ext.laid hT) (RepV.ext x r')) .nil))⟩
    rw [Nat.zero_add]
    exact .int _
end
/-! ### the walks of the text -/
def seqO : D → Option (List D)
  | .lst xs => some xs
  | .tup xs => some xs
  | _ => none
def eSeq (m : Env → EM D) : Env → EM (List D) := fun E => EM.bind (m E) fun d => EM.ofO (seqO d)
def eRev (m : Env → EM D) : Env → EM (List D) := fun E => EM.bind (m E) fun d => EM.ofO ((seqO d).map List.reverse)
def small62 (i : Int) : Bool := decide (-(2 ^ 62) ≤ i) && decide (i < 2 ^ 62)
def rng1O : List D → Option (List D)
  | [.int j] => if small62 j = true then some (rangeD 0 j.toNat) else none
  | _ => none
def rng2O : List D → Option (List D)
  | [.int i, .int j] => if small62 i = true ∧ small62 j = true then some (rangeD i (j - i).toNat) else none
  | _ => none
def revR (a b : Int) : List D := rangeC (a + (((b - a).toNat : Nat) : Int) - 1) (-1) (b - a).toNat
def rev1O : D → Option (List D)
  | .int j => if small62 j = true then some (revR 0 j) else none
  | _ => none
def zipO : List D → Option (List D)
  | [.lst xs, .lst ys] => some (List.zipWith pairD xs ys)
  | [.tup xs, .tup ys] => some (List.zipWith pairD xs ys)
  | _ => none
def enumO : List D → Option (List D)
  | [.lst xs] => some (enumD 0 xs)
  | _ => none
def eOf {α : Type} (f : α → Option (List D)) (m : Env → EM α) : Env → EM (List D) := fun E => EM.bind (m E) fun d => EM.ofO (f d)
section
variable {X : Cx} {G : Cls} {W : L2.WX} {tg e : Expr} {me : Env → EM D} {ms : Env → EM (List D)} {p pos : Pos}
theorem small62_iff {i : Int} (h : small62 i = true) : -(2 ^ 62) ≤ i ∧ i < 2 ^ 62 := by
  unfold small62 at h
  simpa using h
/-- from values by a partial function -/
theorem tI_of {α β : Type} {R' : List (Option Addr) → Hp → α → β → Prop} {f : α → Option (List D)} {m : Env → EM α} {σ : L2.St} {H : Hp} {R : It → Hp → Prop} {Q : β → Hp → Prop}
    (hf : ∀ (ρ : List (Option Addr)) (S : List DO) (H : Hp) (a : α) (b : β) (ds : List D), Rep X.K G ρ S H → R' ρ H a b → f a = some ds → (∀ J, Walks X.K G J ds ρ H → R J H) → Q b H) (h : tI X.K G W (eOf f m) σ H R) : tG X.K G R' W m σ H Q := by
  obtain ⟨ρ, S, E, rp, re, g⟩ := h
  obtain ⟨ρ, S, E, rp, re, g⟩ := tI_bind (R' := R') (m := m) (k := fun _ d => EM.ofO (f d)) rp re g
  refine ⟨ρ, S, E, rp, re, Go.mono g ?_⟩
  rintro b H1 ⟨ρ1, S1, a, x1, r1, q1, g1⟩
  cases hd : f a with
  | none => rw [hd] at g1; exact g1.elim
  | some ds =>
    rw [hd] at g1
    exact hf ρ1 S1 H1 a b ds r1 q1 hd fun J w => g1 ρ1 J H1 (Ext.refl _ _) r1 w
theorem pi_seqM (he : PE X e (tM X.K G W me)) : PI X tg e (tI X.K G W (eOf seqO me)) :=
  PI.weak (PI.or (pi_list he) (pi_tup he)) fun σ H R h => by
    -- which of the two is told by the value
    obtain ⟨ρ, S, E, rp, re, g⟩ := id h
    unfold eOf EM.bind at g
    cases hm : me E S with
    | stuck => rw [hm] at g; exact g.elim
    | exc c fs S' =>
      refine .inl ⟨ρ, S, E, rp, re, ?_⟩
      rw [hm] at g ⊢; exact g
    | ok d S' =>
      rw [hm] at g
      cases d with
      | lst xs =>
        refine .inl ⟨ρ, S, E, rp, re, ?_⟩
        rw [hm]
        intro ρ1 v H1 x1 r1 q1
        obtain ⟨a, us, o, rfl, h1, h2⟩ := q1.lst_inv
        exact ⟨a, rfl, ⟨us, .inl (.inr ⟨o, h1⟩)⟩, g ρ1 _ H1 x1 r1 (walks_list (StL.of h1) h2)⟩
      | tup xs =>
        refine .inr ⟨ρ, S, E, rp, re, ?_⟩
        rw [hm]
        intro ρ1 v H1 x1 r1 q1
        obtain ⟨a, us, rfl, h1, h2⟩ := q1.tup_inv
        exact ⟨a, rfl, ⟨us, h1⟩, g ρ1 _ H1 x1 r1 (walks_tup h1 h2)⟩
      | _ => exact g.elim
theorem pi_rng1M {a : Expr} (hg : Gl X "range") (hm : X.mg "range" = none) (ha : PA X [a] (tA X.K G W ms)) (hs : starEach [a] X.env = [(false, eval a X.env)]) : PI X tg (.Call (.Name "range" p) [a] [] pos) (tI X.K G W (eOf rng1O ms)) :=
  PI.weak (pi_range1 hg hm ha hs) fun σ H R h => tI_of (R' := RDs X.K G) (fun ρ S H1 xs vs ds rp q e k => by
    unfold rng1O at e
    split at e
    · split at e
      · rename_i hb
        cases e
        obtain ⟨v, rfl, q1⟩ := q.one
        have b := small62_iff hb
        exact ⟨_, by rw [q1.int_inv], b.1, b.2, k _ (walks_range 0 _)⟩
      · cases e
    · cases e) h
theorem pi_rng2M {a b : Expr} (hg : Gl X "range") (hm : X.mg "range" = none) (ha : PA X [a, b] (tA X.K G W ms)) (hs : starEach [a, b] X.env = [(false, eval a X.env), (false, eval b X.env)]) (hs2 : starEach [b] X.env = [(false, eval b X.env)]) : PI X tg (.Call (.Name "range" p) [a, b] [] pos) (tI X.K G W (eOf rng2O ms)) :=
  PI.weak (pi_range2 hg hm ha hs hs2) fun σ H R h => tI_of (R' := RDs X.K G) (fun ρ S H1 xs vs ds rp q e k => by
    unfold rng2O at e
    split at e
    · split at e
      · rename_i hb
        cases e
        obtain ⟨v, v', rfl, q1, q2⟩ := q.two
        have b1 := small62_iff hb.1
        have b2 := small62_iff hb.2
        exact ⟨_, _, by rw [q1.int_inv, q2.int_inv], ⟨b1.1, b1.2, b2.1, b2.2⟩, k _ (walks_range _ _)⟩
      · cases e
    · cases e) h
/-- reversed(range(n)) -/
theorem pi_revRM {a : Expr} {p2 pos2 : Pos} (hg : Gl X "reversed") (hm : X.mg "reversed" = none) (hg2 : Gl X "range") (hm2 : X.mg "range" = none) (ha : PE X a (tM X.K G W me)) (na : starEach [a] X.env = (false, eval a X.env) :: starEach [] X.env) : PI X tg (.Call (.Name "reversed" p) [.Call (.Name "range" p2) [a] [] pos2] [] pos) (tI X.K G W (eOf rev1O me)) :=
  PI.weak (pi_revR hg hm (prg_1 hg2 hm2 ha na) rfl) fun σ H R h => tI_of (R' := RD X.K G) (fun ρ S H1 x v ds rp q e k => by
    unfold rev1O at e
    split at e
    · split at e
      · rename_i j hb
        cases e
        have b := small62_iff hb
        exact ⟨j, q.int_inv, by decide, by decide, b.1, b.2, k _ (walks_rangeC _ _ _)⟩
      · cases e
    · cases e) h
theorem pi_revM (hg : Gl X "reversed") (hm : X.mg "reversed" = none) (he : PE X e (tM X.K G W me)) (hs : starEach [e] X.env = (false, eval e X.env) :: starEach [] X.env) : PI X tg (.Call (.Name "reversed" p) [e] [] pos) (tI X.K G W (eOf (fun d => (seqO d).map List.reverse) me)) :=
  PI.weak (RT.pi_revA hg hm he hs) fun σ H R h => tI_of (R' := RD X.K G) (fun ρ S H1 x v ds rp q e k => by
    cases x with
    | lst xs =>
      cases e
      obtain ⟨a, us, o, rfl, h1, h2⟩ := q.lst_inv
      exact ⟨a, us, rfl, .inl ⟨.inl (.inr ⟨o, h1⟩), k _ (walks_revL (StL.of h1) h2)⟩⟩
    | tup xs =>
      cases e
      obtain ⟨a, us, rfl, h1, h2⟩ := q.tup_inv
      exact ⟨a, us, rfl, .inr ⟨h1, k _ (walks_revT h1 h2)⟩⟩
    | _ => cases e) h
theorem pi_zipM {e e2 : Expr} {elts : List Expr} {kk : Nat} {tpos : Pos} (hg : Gl X "zip") (hm : X.mg "zip" = none) (ha : PA X [e, e2] (tA X.K G W ms)) (hs : starEach [e, e2] X.env = (false, eval e X.env) :: starEach [e2] X.env) (hpl : (backTo pos (starEach [e2] X.env)).any (·.1) = false) :
    PI X (.Tuple elts kk tpos) (.Call (.Name "zip" p) [e, e2] [] pos) (tI X.K G W (eOf zipO ms)) :=
  PI.weak (RZ.pi_zipA hg hm ha hs hpl) fun σ H R h => tI_of (R' := RDs X.K G) (fun ρ S H1 xs vs ds rp q e k => by
    unfold zipO at e
    split at e
    · cases e
      obtain ⟨v, v', rfl, q1, q2⟩ := q.two
      obtain ⟨a, us, o, rfl, h1, h2⟩ := q1.lst_inv
      obtain ⟨b, ws, o', rfl, h3, h4⟩ := q2.lst_inv
      exact ⟨a, b, us, ws, rfl, .inl ⟨.inl (.inr ⟨o, h1⟩), .inl (.inr ⟨o', h3⟩), k _ (walks_zipL (StL.of h1) (StL.of h3) h2 h4)⟩⟩
    · cases e
      obtain ⟨v, v', rfl, q1, q2⟩ := q.two
      obtain ⟨a, us, rfl, h1, h2⟩ := q1.tup_inv
      obtain ⟨b, ws, rfl, h3, h4⟩ := q2.tup_inv
      exact ⟨a, b, us, ws, rfl, .inr ⟨h1, h3, k _ (walks_zipT h1 h3 h2 h4)⟩⟩
    · cases e) h
theorem pi_enumM {e : Expr} {elts : List Expr} {kk : Nat} {tpos : Pos} (hg : Gl X "enumerate") (hm : X.mg "enumerate" = none) (ha : PA X [e] (tA X.K G W ms)) (hs : starEach [e] X.env = [(false, eval e X.env)]) :
    PI X (.Tuple elts kk tpos) (.Call (.Name "enumerate" p) [e] [] pos) (tI X.K G W (eOf enumO ms)) :=
  PI.weak (pi_enum hg hm ha hs) fun σ H R h => tI_of (R' := RDs X.K G) (fun ρ S H1 xs vs ds rp q e k => by
    unfold enumO at e
    split at e
    · cases e
      obtain ⟨v, rfl, q1⟩ := q.one
      obtain ⟨a, us, o, rfl, h1, h2⟩ := q1.lst_inv
      exact ⟨a, us, rfl, .inl (.inr ⟨o, h1⟩), k _ (walks_enum (StL.of h1) h2)⟩
    · cases e) h
end
end PK
namespace PK
open PySem PySem.Spec PyProof.Rows L2

/-! ### targets -/
abbrev RE (K : PySem.W.Frag) (G : Cls) : List (Option Addr) → Hp → Env → L2.St → Prop := fun ρ H E σ => RepE K G ρ H E σ
def tTG (K : PySem.W.Frag) (G : Cls) (W : L2.WX) (m : D → Env → EM Env) : TG := fun v σ H Q => ∃ ρ S E d, Rep K G ρ S H ∧ RepE K G ρ H E σ ∧ RepV K G ρ H d v ∧ Go K G (RE K G) W σ ρ H (m d E S) Q
def tTGs (K : PySem.W.Frag) (G : Cls) (W : L2.WX) (m : List D → Env → EM Env) : TGs := fun v σ H Q => ∃ ρ S E d, Rep K G ρ S H ∧ RepE K G ρ H E σ ∧ RepVs K G ρ H d v ∧ Go K G (RE K G) W σ ρ H (m d E S) Q
theorem PG.weak {X : Cx} {e : Expr} {t t' : TG} (h : PG X e t) (i : ∀ v σ H Q, t' v σ H Q → t v σ H Q) : PG X e t' := ⟨fun pins s σ H v u Q I r q => h.run pins s σ H v u Q I r (i v σ H Q q)⟩
theorem PGs.weak {X : Cx} {e : List Expr} {t t' : TGs} (h : PGs X e t) (i : ∀ v σ H Q, t' v σ H Q → t v σ H Q) : PGs X e t' := ⟨fun pins s σ H v u Q I r q => h.run pins s σ H v u Q I r (i v σ H Q q)⟩
theorem PS.weak {X : Cx} {e : Stmt} {t t' : TS} (h : PS X e t) (i : ∀ D σ H, t' D σ H → t D σ H) : PS X e t' := ⟨fun pins s σ H Q I q => h.run pins s σ H Q I (i Q σ H q)⟩
theorem PSs.weak {X : Cx} {e : List Stmt} {t t' : TS} (h : PSs X e t) (i : ∀ D σ H, t' D σ H → t D σ H) : PSs X e t' := ⟨fun pins s σ H Q I q => h.run pins s σ H Q I (i Q σ H q)⟩
def mName (i : Nat) : D → Env → EM Env := fun d E => EM.pure (E.set i (some d))
/-! names, tuples of names -/
mutual
inductive Tgt where
  | name (i : Nat) | tup (ts : Tgts)
inductive Tgts where
  | nil | cons (t : Tgt) (ts : Tgts)
end
def Tgts.len : Tgts → Nat
  | .nil => 0
  | .cons _ ts => ts.len + 1
mutual
def Tgt.slots : Tgt → List Nat
  | .name i => [i]
  | .tup ts => ts.slots
def Tgts.slots : Tgts → List Nat
  | .nil => []
  | .cons t ts => t.slots ++ ts.slots
end
mutual
def Tgt.put : Tgt → D → Env → Option Env
  | .name i, d, E => some (E.set i (some d))
  | .tup ts, .tup xs, E => if xs.length = ts.len then ts.put xs E else none
  | .tup _, _, _ => none
def Tgts.put : Tgts → List D → Env → Option Env
  | .nil, [], E => some E
  | .cons t ts, d :: ds, E => match t.put d E with
    | some E' => ts.put ds E'
    | none => none
  | _, _, _ => none
end
mutual
def Tgt.tg (K : PySem.W.Frag) : Tgt → TG
  | .name i => gName i
  | .tup ts => gTup K ts.len (ts.tg K)
def Tgts.tg (K : PySem.W.Frag) : Tgts → TGs
  | .nil => gNil
  | .cons t ts => gCons (t.tg K) (ts.tg K)
end
theorem set_none_comm {α : Type} : ∀ (l : List (Option α)) (i j : Nat) (v : Option α), i ≠ j → (l.set i v).set j none = (l.set j none).set i v := fun l i j v h => List.set_comm v none h
theorem wipe_set {σ : L2.St} {i : Nat} {v : Option V} : ∀ {vs : List Nat}, i ∈ vs → L2.wipe (σ.set i v) vs = L2.wipe σ vs := by
  have skip : ∀ (vs : List Nat) (u : Option V), i ∉ vs → L2.wipe (σ.set i u) vs = (L2.wipe σ vs).set i u := by
    intro vs u
    induction vs with
    | nil => intro _; rfl
    | cons w vs ih =>
      intro h
      simp only [List.mem_cons, not_or] at h
      show (L2.wipe (σ.set i u) vs).set w none = ((L2.wipe σ vs).set w none).set i u
      rw [ih h.2, set_none_comm _ _ _ _ h.1]
  intro vs
  induction vs with
  | nil => intro h; cases h
  | cons w vs ih =>
    intro h
    show (L2.wipe (σ.set i v) vs).set w none = (L2.wipe σ vs).set w none
    by_cases hv : i ∈ vs
    · rw [ih hv]
    · have : i = w := by
        rcases List.mem_cons.mp h with e | e
        · exact e
        · exact absurd e hv
      subst this
      rw [skip vs v hv, List.set_set]
section
variable {K : PySem.W.Frag} {G : Cls} {ρ : List (Option Addr)} {H : Hp}
mutual
theorem Tgt.ok : ∀ (t : Tgt) {d : D} {v : V} {E E' : Env} {σ : L2.St}, RepE K G ρ H E σ → RepV K G ρ H d v → t.put d E = some E' →
    ∃ σ', (∀ Q : L2.St → Hp → Prop, Q σ' H → t.tg K v σ H Q) ∧ RepE K G ρ H E' σ' ∧ ∀ vs, (∀ i ∈ t.slots, i ∈ vs) → L2.wipe σ' vs = L2.wipe σ vs
  | .name i, d, v, E, E', σ, re, q, e => by
    unfold Tgt.put at e
    cases e
    exact ⟨σ.set i (some v), fun Q h => by unfold Tgt.tg; exact h, re.set q, fun vs hv => wipe_set (hv i (by simp [Tgt.slots]))⟩
  | .tup ts, d, v, E, E', σ, re, q, e => by
    cases d with
    | tup xs =>
      unfold Tgt.put at e
      split at e
      · rename_i hl
        obtain ⟨a, us, rfl, h1, h2⟩ := q.tup_inv
        obtain ⟨σ', h3, h4, h5⟩ := Tgts.ok ts re h2 e
        exact ⟨σ', fun Q h => by unfold Tgt.tg; exact ⟨a, us, rfl, h1, by rw [← h2.length]; exact hl, h3 Q h⟩, h4, fun vs hv => h5 vs (by simpa [Tgt.slots] using hv)⟩
      · cases e
    | _ => simp [Tgt.put] at e
theorem Tgts.ok : ∀ (t : Tgts) {d : List D} {v : List V} {E E' : Env} {σ : L2.St}, RepE K G ρ H E σ → RepVs K G ρ H d v → t.put d E = some E' →
    ∃ σ', (∀ Q : L2.St → Hp → Prop, Q σ' H → t.tg K v σ H Q) ∧ RepE K G ρ H E' σ' ∧ ∀ vs, (∀ i ∈ t.slots, i ∈ vs) → L2.wipe σ' vs = L2.wipe σ vs
  | .nil, d, v, E, E', σ, re, q, e => by
    cases d with
    | nil => simp [Tgts.put] at e; subst e; cases q; exact ⟨σ, fun Q h => by unfold Tgts.tg; exact ⟨rfl, h⟩, re, fun _ _ => rfl⟩
    | cons _ _ => simp [Tgts.put] at e
  | .cons t ts, d, v, E, E', σ, re, q, e => by
    cases d with
    | nil => simp [Tgts.put] at e
    | cons d0 ds0 =>
      unfold Tgts.put at e
      cases q with
      | cons q qs =>
        cases h1 : t.put d0 E with
        | none => rw [h1] at e; cases e
        | some E1 =>
          rw [h1] at e
          obtain ⟨σ1, a1, a2, a3⟩ := Tgt.ok t re q h1
          obtain ⟨σ2, b1, b2, b3⟩ := Tgts.ok ts a2 qs e
          refine ⟨σ2, fun Q h => ?_, b2, fun vs hv => ?_⟩
          · unfold Tgts.tg
            exact ⟨_, _, rfl, a1 _ (b1 Q h)⟩
          · rw [b3 vs (fun i hi => hv i (by simp [Tgts.slots, hi])), a3 vs (fun i hi => hv i (by simp [Tgts.slots, hi]))]
end
end
def mTgt (t : Tgt) : D → Env → EM Env := fun d E => EM.ofO (t.put d E)
/-- o[i] = v -/
def setM (o i v : D) : EM Unit := fun S => match o, i with
  | .ref r, .int k => match S[r]? with
    | some (.lst xs) => match ixN xs.length k with
      | some j => .ok () (S.set r (.lst (xs.set j v)))
      | none => .stuck
    | _ => .stuck
  | _, _ => .stuck
def mSub (mo mi : Env → EM D) : D → Env → EM Env := fun d E => EM.bind (mo E) fun o => EM.bind (mi E) fun i => EM.bind (setM o i d) fun _ => EM.pure E
def rSet (K : PySem.W.Frag) (G : Cls) : V → V → V → Hp → (Hp → Prop) → Prop := fun vo vi vv H Q => ∃ ρ S o i d, Rep K G ρ S H ∧ RepV K G ρ H o vo ∧ RepV K G ρ H i vi ∧ RepV K G ρ H d vv ∧ match setM o i d S with
  | .ok _ S' => ∀ ρ' H', Ext ρ H ρ' H' → Rep K G ρ' S' H' → Q H'
  | _ => False
section
variable {X : Cx} {G : Cls} {W : L2.WX} {pos : Pos}
theorem pg_nameM {i : Nat} {x : Str} (hN : X.N.Nodup) (hi : X.N[i]? = some x) (hx : Loc X.env.scope x) (hf : X.fn x = true ∨ X.env.scope.names.lookup x = some .local) : PG X (.Name x pos) (tTG X.K G W (mName i)) :=
  PG.weak (pg_name hN hi hx hf) fun v σ H Q ⟨ρ, S, E, d, rp, re, q, g⟩ => g.here rp (re.set q)
theorem pg_tgt {tg : Expr} {t : Tgt} (h : PG X tg (t.tg X.K)) : PG X tg (tTG X.K G W (mTgt t)) :=
  PG.weak h fun v σ H Q ⟨ρ, S, E, d, rp, re, q, g⟩ => by
    obtain ⟨E', e, k⟩ := g.ofO rp
    obtain ⟨σ', h1, h2, _⟩ := t.ok re q e
    exact h1 Q (k ρ σ' H (Ext.refl _ _) rp h2)
theorem pset_M : PSet X (rSet X.K G) := by
  intro pins s σ H vo vi vv ov iv u Q I ro ri rv ⟨ρ, S, o, i, d, rp, qo, qi, qd, g⟩
  unfold setM at g
  split at g
  · rename_i r e
    split at e
    · rename_i rr k
      split at e
      · rename_i xs hS
        split at e
        · rename_i j hj
          cases e
          obtain ⟨a, uu, rfl, ha, h1, m, us, rfl, h2⟩ := rp.at qo hS (by intro z; cases z)
          rw [qi.int_inv] at ri
          refine set_list pins s σ H _ _ vv ov iv u Q I ro ri rv ⟨a, us, k, j, rfl, rfl, h1, by rw [← h2.length]; exact hj, ?_⟩
          have x : Ext ρ H ρ (upd H a (.lst (us.set j vv))) := Ext.wrote ha h1 m
          exact g ρ _ x (rp.wrote ha h1 m trivial (.inr ⟨a, _, ha, upd_same, _, rfl, (h2.set qd j).ext x⟩))
        · cases e
      · cases e
    · cases e
  · exact g.elim
theorem noExc_set {o i v : D} : NoExc (setM o i v) := fun S c fs S' h => by
  unfold setM at h
  split at h
  · split at h
    · split at h <;> cases h
    · cases h
  · cases h
theorem pg_subM {o i : Expr} {mo mi : Env → EM D} (ho : PE X o (tM X.K G W mo)) (hi : PE X i (tM X.K G W mi))
    (ha : ∀ v, assign (.Subscript o i pos) X.env v = (do
      let ov ← holding [v] (eval o X.env)
      let iv ← holding [v, ov] (eval i X.env)
      standAt pos
      holding [v, ov, iv] (setItem ov iv v)
      release [v, ov, iv] [])) : PG X (.Subscript o i pos) (tTG X.K G W (mSub mo mi)) :=
  PG.weak (pg_sub ho hi (pset_M (G := G)) ha) fun v σ H Q ⟨ρ, S, E, d, rp, re, q, g⟩ => by
    refine ⟨ρ, S, E, rp, re, Go.mono (Go.bind g) ?_⟩
    rintro v1 H1 ⟨ρ1, S1, o, x1, r1, q1, g1⟩
    refine ⟨ρ1, S1, E, r1, RepE.ext x1 re, Go.mono (Go.bind g1) ?_⟩
    rintro v2 H2 ⟨ρ2, S2, i, x2, r2, q2, g2⟩
    refine ⟨ρ2, S2, o, i, d, r2, RepV.ext x2 q1, q2, RepV.ext x2 (RepV.ext x1 q), ?_⟩
    unfold EM.bind at g2
    cases hs : setM o i d S2 with
    | ok a S3 =>
      rw [hs] at g2
      intro ρ3 H3 x3 r3
      exact g2 ρ3 σ H3 x3 r3 (RepE.ext x3 (RepE.ext x2 (RepE.ext x1 re)))
    | exc c fs S3 => exact (noExc_set _ _ _ _ hs).elim
    | stuck => rw [hs] at g2; exact g2
end

/-! ### statements -/
inductive SR where
  | nx (E : Env) (S : List DO) | rt (d : D) (S : List DO) | brk (E : Env) (S : List DO) | ct (E : Env) (S : List DO)
  | exc (c : Nat) (fs : List (Nat × D)) (E : Env) (S : List DO) | stuck
abbrev SM := Env → List DO → SR
def GoS (K : PySem.W.Frag) (G : Cls) (W : L2.WX) (ρ : List (Option Addr)) (H : Hp) (r : SR) (D : Ends) : Prop :=
  match r with
  | .nx E' S' => ∀ ρ' σ' H', Ext ρ H ρ' H' → Rep K G ρ' S' H' → RepE K G ρ' H' E' σ' → D.nx σ' H'
  | .rt d S' => ∀ ρ' v H', Ext ρ H ρ' H' → Rep K G ρ' S' H' → RepV K G ρ' H' d v → D.rt v H'
  | .brk E' S' => ∀ ρ' σ' H', Ext ρ H ρ' H' → Rep K G ρ' S' H' → RepE K G ρ' H' E' σ' → D.bk σ' H'
  | .ct E' S' => ∀ ρ' σ' H', Ext ρ H ρ' H' → Rep K G ρ' S' H' → RepE K G ρ' H' E' σ' → D.ct σ' H'
  | .exc c fs E' S' => ∀ ρ' σ' H' od, Ext ρ H ρ' H' → Rep K G ρ' S' H' → RepE K G ρ' H' E' σ' → RepX K G ρ' H' fs od → W (.ref (G.addr c)) od σ' H'
  | .stuck => False
def tS (K : PySem.W.Frag) (G : Cls) (W : L2.WX) (m : SM) : TS := fun D σ H => ∃ ρ S E, Rep K G ρ S H ∧ RepE K G ρ H E σ ∧ GoS K G W ρ H (m E S) D
section
variable {K : PySem.W.Frag} {G : Cls} {W : L2.WX} {ρ ρ' : List (Option Addr)} {S : List DO} {H H' : Hp} {E : Env} {σ : L2.St}
theorem GoS.ext {r : SR} {D : Ends} (x : Ext ρ H ρ' H') (h : GoS K G W ρ H r D) : GoS K G W ρ' H' r D := by
  cases r with
  | nx E' S' => exact fun ρ1 b H1 x1 r1 q => h ρ1 b H1 (x.trans x1) r1 q
  | rt E' S' => exact fun ρ1 b H1 x1 r1 q => h ρ1 b H1 (x.trans x1) r1 q
  | brk E' S' => exact fun ρ1 b H1 x1 r1 q => h ρ1 b H1 (x.trans x1) r1 q
  | ct E' S' => exact fun ρ1 b H1 x1 r1 q => h ρ1 b H1 (x.trans x1) r1 q
  | exc c fs E' S' => exact fun ρ1 σ' H1 od x1 r1 q z => h ρ1 σ' H1 od (x.trans x1) r1 q z
  | stuck => exact h
/-- a statement from an expression's run -/
def sOf {α : Type} (m : Env → EM α) (k : α → SM) : SM := fun E S => match m E S with
  | .ok a S' => k a E S'
  | .exc c fs S' => .exc c fs E S'
  | .stuck => .stuck
theorem GoS.of {α β : Type} {R : List (Option Addr) → Hp → α → β → Prop} {m : Env → EM α} {k : α → SM} {D : Ends} (re : RepE K G ρ H E σ) (h : GoS K G W ρ H (sOf m k E S) D) :
    Go K G R W σ ρ H (m E S) fun b H1 => ∃ ρ1 S1 a, Ext ρ H ρ1 H1 ∧ Rep K G ρ1 S1 H1 ∧ R ρ1 H1 a b ∧ RepE K G ρ1 H1 E σ ∧ GoS K G W ρ1 H1 (k a E S1) D := by
  unfold sOf at h
  cases e : m E S with
  | ok a S' => rw [e] at h; exact fun ρ1 b H1 x1 r1 q => ⟨ρ1, S', a, x1, r1, q, RepE.ext x1 re, GoS.ext x1 h⟩
  | exc c fs S' => rw [e] at h; exact fun ρ1 H1 od x1 r1 q => h ρ1 σ H1 od x1 r1 (RepE.ext x1 re) q
  | stuck => rw [e] at h; exact h
end
section
variable {X : Cx} {G : Cls} {W : L2.WX} {e c : Expr} {pos : Pos} {me : Env → EM D} {mc : Env → EM Bool} {ma mb : SM} {st : Stmt} {sts sa sb rest : List Stmt}
def sNext : SM := fun E S => .nx E S
def sSeq (m n : SM) : SM := fun E S => match m E S with
  | .nx E' S' => n E' S'
  | r => r
def sRet (m : Env → EM D) : SM := sOf m fun d _ S => .rt d S
def sRetN : SM := fun _ S => .rt .non S
def sExpr (m : Env → EM D) : SM := sOf m fun _ E S => .nx E S
def sIf (c : Env → EM Bool) (m n : SM) : SM := sOf c fun b E S => if b = true then m E S else n E S
def sAsg (m : Env → EM D) (g : D → Env → EM Env) : SM := sOf m fun d E S => match g d E S with
  | .ok E' S' => .nx E' S'
  | .exc c fs S' => .exc c fs E S'
  | .stuck => .stuck
theorem pss_nilM : PSs X [] (tS X.K G W sNext) := PSs.weak pss_nil fun D σ H ⟨ρ, S, E, rp, re, g⟩ => g ρ σ H (Ext.refl _ _) rp re
theorem pss_consM (h1 : PS X st (tS X.K G W ma)) (h2 : PSs X rest (tS X.K G W mb)) : PSs X (st :: rest) (tS X.K G W (sSeq ma mb)) :=
  PSs.weak (pss_cons h1 h2) fun D σ H ⟨ρ, S, E, rp, re, g⟩ => by
    refine ⟨ρ, S, E, rp, re, ?_⟩
    unfold sSeq at g
    cases hm : ma E S with
    | nx E' S' => rw [hm] at g; exact fun ρ1 σ1 H1 x1 r1 q1 => ⟨ρ1, S', E', r1, q1, GoS.ext x1 g⟩
    | rt d S' => rw [hm] at g; exact g
    | brk E' S' => rw [hm] at g; exact g
    | ct E' S' => rw [hm] at g; exact g
    | exc c fs E' S' => rw [hm] at g; exact g
    | stuck => rw [hm] at g; exact g
theorem ps_passM : PS X (.Pass pos) (tS X.K G W sNext) := PS.weak ps_pass fun D σ H ⟨ρ, S, E, rp, re, g⟩ => g ρ σ H (Ext.refl _ _) rp re
theorem ps_docM {x j pos'} : PS X (.Expr (.Constant (.str x) j pos) pos') (tS X.K G W sNext) := PS.weak ps_doc fun D σ H ⟨ρ, S, E, rp, re, g⟩ => g ρ σ H (Ext.refl _ _) rp re
def sBreak : SM := fun E S => .brk E S
def sCont : SM := fun E S => .ct E S
theorem ps_breakM : PS X (.Break pos) (tS X.K G W sBreak) := PS.weak ps_break fun D σ H ⟨ρ, S, E, rp, re, g⟩ => g ρ σ H (Ext.refl _ _) rp re
theorem ps_contM : PS X (.Continue pos) (tS X.K G W sCont) := PS.weak ps_continue fun D σ H ⟨ρ, S, E, rp, re, g⟩ => g ρ σ H (Ext.refl _ _) rp re
theorem ps_retM (he : PE X e (tM X.K G W me)) : PS X (.Return (some e) pos) (tS X.K G W (sRet me)) := PS.weak (ps_ret he) fun D σ H ⟨ρ, S, E, rp, re, g⟩ => by
  refine ⟨ρ, S, E, rp, re, Go.mono (GoS.of re g) ?_⟩
  rintro v H1 ⟨ρ1, S1, d, x1, r1, q1, _, g1⟩
  exact g1 ρ1 v H1 (Ext.refl _ _) r1 q1
theorem ps_retNM : PS X (.Return none pos) (tS X.K G W sRetN) := PS.weak ps_retN fun D σ H ⟨ρ, S, E, rp, re, g⟩ => g ρ .non H (Ext.refl _ _) rp .non
theorem ps_exprM (he : PE X e (tM X.K G W me)) (hs : swapsWith e none pos.line X.env = pure false) : PS X (.Expr e pos) (tS X.K G W (sExpr me)) := PS.weak (ps_expr he hs) fun D σ H ⟨ρ, S, E, rp, re, g⟩ => by
  refine ⟨ρ, S, E, rp, re, Go.mono (GoS.of re g) ?_⟩
  rintro v H1 ⟨ρ1, S1, d, x1, r1, q1, re1, g1⟩
  exact g1 ρ1 σ H1 (Ext.refl _ _) r1 re1
theorem ps_ifM (hc : PT X c (tT X.K G W mc)) (ha : PSs X sa (tS X.K G W ma)) (hb : PSs X sb (tS X.K G W mb)) : PS X (.If c sa sb pos) (tS X.K G W (sIf mc ma mb)) := PS.weak (ps_if hc ha hb) fun D σ H ⟨ρ, S, E, rp, re, g⟩ => by
  refine ⟨ρ, S, E, rp, re, Go.mono (GoS.of (R := RB) re g) ?_⟩
  rintro k H1 ⟨ρ1, S1, k', x1, r1, q1, re1, g1⟩
  cases q1
  cases k with
  | true => rw [if_pos rfl] at g1 ⊢; exact ⟨ρ1, S1, E, r1, re1, g1⟩
  | false => rw [if_neg Bool.false_ne_true] at g1 ⊢; exact ⟨ρ1, S1, E, r1, re1, g1⟩
theorem sAsg_of {m : Env → EM D} {g : D → Env → EM Env} {D : Ends} {σ : L2.St} {H : Hp} (h : tS X.K G W (sAsg m g) D σ H) : tAsg (tM X.K G W m) (tTG X.K G W g) D σ H := by
  obtain ⟨ρ, S, E, rp, re, g0⟩ := h
  refine ⟨ρ, S, E, rp, re, Go.mono (GoS.of re g0) ?_⟩
  rintro v H1 ⟨ρ1, S1, d, x1, r1, q1, re1, g1⟩
  refine ⟨ρ1, S1, E, d, r1, re1, q1, ?_⟩
  cases hg : g d E S1 with
  | ok E' S' => rw [hg] at g1; exact g1
  | exc c fs S' => rw [hg] at g1; exact fun ρ2 H2 od x2 r2 z => g1 ρ2 σ H2 od x2 r2 (RepE.ext x2 re1) z
  | stuck => rw [hg] at g1; exact g1
theorem ps_asgM {tg : Expr} {g : D → Env → EM Env} (he : PE X e (tM X.K G W me)) (hg : PG X tg (tTG X.K G W g)) (hs : swapsWithSole [tg] e pos.line X.env = pure false) (hw : swappedStores [tg] e X.env = pure none) (h1 : (assignEach [tg] X.env).map (·.2) = [assign tg X.env]) : PS X (.Assign [tg] e pos) (tS X.K G W (sAsg me g)) :=
  PS.weak (ps_asg he hg hs hw h1) fun D σ H h => sAsg_of h
theorem ps_setM {i : Nat} {x : Str} {pos' : Pos} (hN : X.N.Nodup) (hi : X.N[i]? = some x) (hx : Loc X.env.scope x) (he : PE X e (tM X.K G W me)) (hs : swapsWith e (some (.Name x pos')) pos.line X.env = pure false) (hf : X.fn x = true ∨ X.env.scope.names.lookup x = some .local) : PS X (.Assign [.Name x pos'] e pos) (tS X.K G W (sAsg me (mName i))) :=
  PS.weak (ps_set hN hi hx he hs hf) fun D σ H ⟨ρ, S, E, rp, re, g⟩ => by
    refine ⟨ρ, S, E, rp, re, Go.mono (GoS.of re g) ?_⟩
    rintro v H1 ⟨ρ1, S1, d, x1, r1, q1, re1, g1⟩
    exact g1 ρ1 _ H1 (Ext.refl _ _) r1 (re1.set q1)
/-! ### for -/
def sLoop (g : D → Env → EM Env) (body : SM) : List D → SM
  | [], E, S => .nx E S
  | d :: ds, E, S => match g d E S with
    | .ok E1 S1 => match body E1 S1 with
      | .nx E2 S2 => sLoop g body ds E2 S2
      | .ct E2 S2 => sLoop g body ds E2 S2
      | .brk E2 S2 => .nx E2 S2
      | r => r
    | .exc c fs S1 => .exc c fs E S1
    | .stuck => .stuck
def sFor (it : Env → EM (List D)) (g : D → Env → EM Env) (body : SM) : SM := sOf it fun ds E S => sLoop g body ds E S
theorem ps_forM {tg iter : Expr} {mi : Env → EM (List D)} {g : D → Env → EM Env} {body : List Stmt} {mb : SM} (hp : PassesOwn (model X.prog X.w) X.A X.env X.xe) (hc : X.calm = true) (hi : PI X tg iter (tI X.K G W mi)) (hg : PG X tg (tTG X.K G W g)) (hb : PSs X body (tS X.K G W mb))
    (hs : ∀ x, foldedSetIterable iter X.env x = pure x) : PS X (.For tg iter body [] pos) (tS X.K G W (sFor mi g mb)) :=
  PS.weak (ps_for hp hc hi hg hb hs) fun D σ H ⟨ρ, S, E, rp, re, g0⟩ => by
    refine ⟨ρ, S, E, rp, re, ?_⟩
    unfold sFor sOf at g0
    cases hm : mi E S with
    | stuck => rw [hm] at g0; exact g0.elim
    | exc c fs S' => rw [hm] at g0; exact fun ρ1 H1 od x1 r1 z => g0 ρ1 σ H1 od x1 r1 (RepE.ext x1 re) z
    | ok ds S' =>
      rw [hm] at g0
      intro ρ1 J H1 x1 r1 w
      refine ⟨fun i m σ' H' => m + i = ds.length ∧ ∃ ρ' S' E', Ext ρ1 H1 ρ' H' ∧ Rep X.K G ρ' S' H' ∧ RepE X.K G ρ' H' E' σ' ∧ GoS X.K G W ρ' H' (sLoop g mb (ds.drop i) E' S') D,
        ⟨ds.length, rfl, ρ1, S', E, Ext.refl _ _, r1, RepE.ext x1 re, GoS.ext x1 g0⟩, ?_⟩
      rintro i m σ' H' ⟨hm', ρ', S2, E', x', r', re', g'⟩
      by_cases hi : i < ds.length
      · refine .inr ?_
        have hd : ds[i]? = some ds[i] := List.getElem?_eq_getElem hi
        obtain ⟨go, yl⟩ := w.go i _ ρ' H' hd x'
        refine ⟨go, fun σ2 H2 => ∃ ρ2 S3 E2, Ext ρ1 H1 ρ2 H2 ∧ Rep X.K G ρ2 S3 H2 ∧ RepE X.K G ρ2 H2 E2 σ2 ∧ GoS X.K G W ρ2 H2 (sLoop g mb (ds.drop (i + 1)) E2 S3) D, ?_, fun v H2 y => ?_⟩
        · rintro σ2 H2 ⟨ρ2, S3, E2, z⟩
          exact ⟨m - 1, by omega, by omega, ρ2, S3, E2, z⟩
        · obtain ⟨xv, rv, qv⟩ := yl S2 v H2 r' y
          rw [List.drop_eq_getElem_cons hi] at g'
          unfold sLoop at g'
          refine ⟨ρ', S2, E', ds[i], rv, RepE.ext xv re', qv, ?_⟩
          cases hg2 : g ds[i] E' S2 with
          | stuck => rw [hg2] at g'; exact g'
          | exc c fs S3 => rw [hg2] at g'; exact fun ρ3 H3 od x3 r3 z => g' ρ3 σ' H3 od (xv.trans x3) r3 (RepE.ext x3 (RepE.ext xv re')) z
          | ok E1 S3 =>
            rw [hg2] at g'
            intro ρ3 σ3 H3 x3 r3 re3
            refine ⟨ρ3, S3, E1, r3, re3, ?_⟩
            have x13 : Ext ρ1 H1 ρ3 H3 := (x'.trans xv).trans x3
            have x03 : Ext ρ' H' ρ3 H3 := xv.trans x3
            dsimp only at g'
            cases hb2 : mb E1 S3 with
            | nx E2 S4 => rw [hb2] at g'; exact fun ρ4 σ4 H4 x4 r4 re4 => ⟨ρ4, S4, E2, x13.trans x4, r4, re4, GoS.ext (x03.trans x4) g'⟩
            | ct E2 S4 => rw [hb2] at g'; exact fun ρ4 σ4 H4 x4 r4 re4 => ⟨ρ4, S4, E2, x13.trans x4, r4, re4, GoS.ext (x03.trans x4) g'⟩
            | brk E2 S4 => rw [hb2] at g'; exact fun ρ4 σ4 H4 x4 r4 re4 => g' ρ4 σ4 H4 (x03.trans x4) r4 re4
            | rt d S4 => rw [hb2] at g'; exact GoS.ext x03 g'
            | exc c fs E2 S4 => rw [hb2] at g'; exact fun ρ4 σ4 H4 od x4 r4 re4 z => g' ρ4 σ4 H4 od (x03.trans x4) r4 re4 z
            | stuck => rw [hb2] at g'; exact g'
      · refine .inl ?_
        have e0 : i = ds.length := by omega
        subst e0
        rw [List.drop_length] at g'
        exact ⟨w.stop ρ' H' x', g' ρ' σ' H' (Ext.refl _ _) r' re'⟩
/-! ### while: at most n turns -/
def sWhile (c : Env → EM Bool) (body : SM) : Nat → SM
  | 0 => fun _ _ => .stuck
  | n + 1 => sOf c fun b E S => if b = true then (match body E S with
      | .nx E2 S2 => sWhile c body n E2 S2
      | .ct E2 S2 => sWhile c body n E2 S2
      | .brk E2 S2 => .nx E2 S2
      | r => r) else .nx E S
end
end PK
namespace PK
open PySem PySem.Spec PyProof.Rows L2

section
variable {X : Cx} {G : Cls} {W : L2.WX} {e c : Expr} {pos : Pos} {mc : Env → EM Bool} {mb : SM}
theorem ps_whileM {body : List Stmt} (n : Nat) (hp : PassesOwn (model X.prog X.w) X.A X.env X.xe) (hc : PT X c (tT X.K G W mc)) (hb : PSs X body (tS X.K G W mb)) : PS X (.While c body [] pos) (tS X.K G W (sWhile mc mb n)) :=
  PS.weak (ps_while hp hc hb) fun D σ H ⟨ρ, S, E, rp, re, g⟩ => by
    refine ⟨fun m σ' H' => ∃ ρ' S' E', Ext ρ H ρ' H' ∧ Rep X.K G ρ' S' H' ∧ RepE X.K G ρ' H' E' σ' ∧ GoS X.K G W ρ' H' (sWhile mc mb m E' S') D, ⟨n, ρ, S, E, Ext.refl _ _, rp, re, g⟩, ?_⟩
    rintro m σ' H' ⟨ρ', S', E', x', r', re', g'⟩
    cases m with
    | zero => exact g'.elim
    | succ m =>
      refine ⟨ρ', S', E', r', re', Go.mono (GoS.of (R := RB) re' g') ?_⟩
      rintro b H1 ⟨ρ1, S1, b', x1, r1, q1, re1, g1⟩
      cases q1
      cases b with
      | false => rw [if_neg Bool.false_ne_true] at g1 ⊢; exact g1 ρ1 σ' H1 (Ext.refl _ _) r1 re1
      | true =>
        rw [if_pos rfl] at g1 ⊢
        refine ⟨fun σ2 H2 => ∃ ρ2 S2 E2, Ext ρ H ρ2 H2 ∧ Rep X.K G ρ2 S2 H2 ∧ RepE X.K G ρ2 H2 E2 σ2 ∧ GoS X.K G W ρ2 H2 (sWhile mc mb m E2 S2) D, fun σ2 H2 z => ⟨m, Nat.lt_succ_self m, z⟩, ρ1, S1, E', r1, re1, ?_⟩
        cases hb2 : mb E' S1 with
        | nx E2 S4 => rw [hb2] at g1; exact fun ρ4 σ4 H4 x4 r4 re4 => ⟨ρ4, S4, E2, (x'.trans x1).trans x4, r4, re4, GoS.ext x4 g1⟩
        | ct E2 S4 => rw [hb2] at g1; exact fun ρ4 σ4 H4 x4 r4 re4 => ⟨ρ4, S4, E2, (x'.trans x1).trans x4, r4, re4, GoS.ext x4 g1⟩
        | brk E2 S4 => rw [hb2] at g1; exact fun ρ4 σ4 H4 x4 r4 re4 => g1 ρ4 σ4 H4 x4 r4 re4
        | rt d S4 => rw [hb2] at g1; exact g1
        | exc c fs E2 S4 => rw [hb2] at g1; exact g1
        | stuck => rw [hb2] at g1; exact g1
end

/-! ### list comprehensions -/
def wipeE (E : Env) (vs : List Nat) : Env := vs.foldr (fun v E => E.set v none) E
/-- one clause: t for the target, c the tests, m the element -/
def cLoop (t : Tgt) (c : Env → EM Bool) (m : Env → EM D) (Ew : Env) : List D → EM (List D)
  | [] => EM.pure []
  | d :: ds => match t.put d Ew with
    | none => EM.fail
    | some E1 => EM.bind (c E1) fun b => if b = true then EM.bind (m E1) fun x => EM.bind (cLoop t c m Ew ds) fun xs => EM.pure (x :: xs) else cLoop t c m Ew ds
/-- nothing may be raised within -/
def noX {α : Type} (m : EM α) : EM α := fun S => match m S with
  | .exc _ _ _ => .stuck
  | r => r
def fLc (mi : Env → EM (List D)) (t : Tgt) (c : Env → EM Bool) (m : Env → EM D) (vs : List Nat) : Env → EM DO := fun E => EM.bind (mi E) fun ds => if ds.length ≤ 16777216 then EM.bind (noX (cLoop t c m (wipeE E vs) ds)) fun xs => EM.pure (.lst xs) else EM.fail
def eYes : Env → EM Bool := fun _ => EM.pure true
section
variable {K : PySem.W.Frag} {G : Cls} {ρ ρ' : List (Option Addr)} {H H' : Hp} {S : List DO} {D0 : Addr}
/-- the end of a comprehension's loop: the rest of its items -/
def GoC (K : PySem.W.Frag) (G : Cls) (D0 : Addr) (ρ0 : List (Option Addr)) (H0 : Hp) (acc : List D) (r : Res (List D)) (Q : VK) : Prop := match r with
  | .ok xs S' => ∀ ρ' us H', Ext ρ0 H0 ρ' H' → Rep K G ρ' S' H' → (∀ i : Nat, ρ'[i]? ≠ some (some D0)) → H' D0 = some (.lst us) → RepVs K G ρ' H' (acc ++ xs) us → Q (.ref D0) H'
  | _ => False
theorem notCell (x : Ext ρ H ρ' H') (n : ∀ i : Nat, ρ[i]? ≠ some (some D0)) {o : HO} (h : H D0 = some o) : ∀ i : Nat, ρ'[i]? ≠ some (some D0) := fun i e => by
  by_cases hi : i < ρ.length
  · rcases x.old i hi with q | q
    · exact n i (q.symm.trans e)
    · rw [q] at e; cases e
  · have := x.new i D0 (Nat.le_of_not_lt hi) e
    rw [h] at this; cases this
theorem Ext.known' {ρ0 : List (Option Addr)} {H0 : Hp} {o : HO} (x : Ext ρ0 H0 ρ' H') (hp : H0 D0 = none) : Ext ρ0 H0 ρ' (upd H' D0 o) where
  keep := fun b v hb nb => by rw [upd_ne (ne_of_none hb hp)]; exact x.keep b v hb nb
  tups := fun b v hb => by rw [upd_ne (ne_of_none hb hp)]; exact x.tups b v hb
  frzs := fun b v w hb => by rw [upd_ne (ne_of_none hb hp)]; exact x.frzs b v w hb
  dom := fun b hb => by
    by_cases e : b = D0
    · rw [e]; exact hp
    · rw [upd_ne e] at hb; exact x.dom b hb
  len := x.len
  old := x.old
  new := x.new
end
section
variable {X : Cx} {G : Cls} {W : L2.WX} {pos : Pos}
theorem pts_nilM : PTs X [] (tT X.K G W eYes) := ⟨fun pins s σ H Q I ⟨ρ, S, E, rp, re, g⟩ => pts_nil.run pins s σ H Q I (g.here rp rfl)⟩
theorem pts_oneM {c : Expr} {m : Env → EM Bool} (h : PT X c (tT X.K G W m)) : PTs X [c] (tT X.K G W m) := pts_one h
variable {elt tg iter : Expr} {ifs : List Expr} {scope : Scope} {own : List (Str × Nat)} {t : Tgt} {mi : Env → EM (List D)} {c : Env → EM Bool} {m : Env → EM D}
theorem tLc_of (ht : ∀ i ∈ t.slots, i ∈ own.map (·.2)) {σ : L2.St} {H : Hp} {Q : VK} (h : tF X.K G W (fLc mi t c m (own.map (·.2))) σ H Q) : tLc (tI X.K G W mi) (t.tg X.K) (tT X.K G W0 c) (tM X.K G W0 m) (own.map (·.2)) σ H Q := by
  obtain ⟨ρ, S, E, rp, re, g0⟩ := h
  refine ⟨ρ, S, E, rp, re, ?_⟩
  unfold fLc EM.bind at g0
  cases hm : mi E S with
  | stuck => rw [hm] at g0; exact g0.elim
  | exc cc fs S' => rw [hm] at g0; exact g0
  | ok ds S' =>
    rw [hm] at g0
    intro ρ1 J H1 x1 r1 w D0 hD
    dsimp only at g0
    by_cases hl : ds.length ≤ 16777216
    · rw [if_pos hl] at g0
      have w0 : GoC X.K G D0 ρ1 H1 [] (cLoop t c m (wipeE E (own.map (·.2))) ds S') Q := by
        unfold noX at g0
        cases hc : cLoop t c m (wipeE E (own.map (·.2))) ds S' with
        | stuck => rw [hc] at g0; exact g0
        | exc cc fs S2 => rw [hc] at g0; exact g0
        | ok xs S2 =>
          rw [hc] at g0
          intro ρ' us H' x' r' n hh ru
          exact g0 ρ' D0 (.lst us) H' (x1.trans x') r' (x1.dom _ hD) n hh trivial ⟨us, rfl, ru⟩
      refine ⟨fun i k H' => k + i = ds.length ∧ ∃ ρ' S2 acc us, Ext ρ1 H1 ρ' H' ∧ Rep X.K G ρ' S2 H' ∧ (∀ i : Nat, ρ'[i]? ≠ some (some D0)) ∧ H' D0 = some (.lst us) ∧ RepVs X.K G ρ' H' acc us ∧ acc.length ≤ i ∧ GoC X.K G D0 ρ1 H1 acc (cLoop t c m (wipeE E (own.map (·.2))) (ds.drop i) S2) Q,
        ⟨ds.length, rfl, ρ1, S', [], [], Ext.laid hD, r1.laid hD, r1.notNew hD, upd_same, .nil, Nat.le_refl _, w0⟩, ?_⟩
      rintro i k H' ⟨hk, ρ', S2, acc, us, x', r', n', hD', ru, hacc, g'⟩
      by_cases hi : i < ds.length
      · refine .inr ?_
        have hd : ds[i]? = some ds[i] := List.getElem?_eq_getElem hi
        obtain ⟨go, yl⟩ := w.go i _ ρ' H' hd x'
        refine ⟨go, fun H2 => ∃ ρ2 S3 acc us, Ext ρ1 H1 ρ2 H2 ∧ Rep X.K G ρ2 S3 H2 ∧ (∀ i : Nat, ρ2[i]? ≠ some (some D0)) ∧ H2 D0 = some (.lst us) ∧ RepVs X.K G ρ2 H2 acc us ∧ acc.length ≤ i + 1 ∧ GoC X.K G D0 ρ1 H1 acc (cLoop t c m (wipeE E (own.map (·.2))) (ds.drop (i + 1)) S3) Q, ?_, fun v H2 y => ?_⟩
        · rintro H2 ⟨ρ2, S3, acc, us, z⟩
          exact ⟨k - 1, by omega, by omega, ρ2, S3, acc, us, z⟩
        · obtain ⟨xv, rv, qv⟩ := yl S2 v H2 r' y
          rw [List.drop_eq_getElem_cons hi] at g'
          unfold cLoop at g'
          cases hp : t.put ds[i] (wipeE E (own.map (·.2))) with
          | none => rw [hp] at g'; exact g'.elim
          | some E1 =>
            rw [hp] at g'
            have rew : RepE X.K G ρ' H2 (wipeE E (own.map (·.2))) (L2.wipe σ (own.map (·.2))) := RepE.wipe (vs := []) (RepE.ext ((x1.trans x').trans xv) re) _
            obtain ⟨σ', k1, k2, k3⟩ := t.ok rew qv hp
            refine k1 _ ⟨?_, ?_⟩
            · rw [k3 _ ht]
              have idem : ∀ vs : List Nat, ∀ τ : L2.St, L2.wipe (L2.wipe τ vs) vs = L2.wipe τ vs := by
                intro vs τ
                have step : ∀ (us : List Nat) (τ : L2.St), (∀ u ∈ us, u ∈ vs) → L2.wipe (L2.wipe τ us) vs = L2.wipe τ vs := by
                  intro us
                  induction us with
                  | nil => intro τ _; rfl
                  | cons u us ih =>
                    intro τ hu
                    show L2.wipe ((L2.wipe τ us).set u none) vs = _
                    rw [wipe_set (hu u (by simp)), ih τ (fun z hz => hu z (by simp [hz]))]
                exact step vs τ fun u hu => hu
              exact idem _ _
            · have hD2 : H2 D0 = some (.lst us) := xv.keep _ _ hD' n'
              refine ⟨ρ', S2, E1, rv, k2, ?_⟩
              dsimp only at g'
              unfold EM.bind at g'
              cases hc : c E1 S2 with
              | stuck => rw [hc] at g'; exact g'
              | exc cc fs S3 => rw [hc] at g'; exact False.elim g'
              | ok b S3 =>
                rw [hc] at g'
                intro ρ3 b' H3 x3 r3 eb
                cases eb
                have hD3 : H3 D0 = some (.lst us) := x3.keep _ _ hD2 n'
                have n3 := notCell x3 n' hD2
                have x13 := (x'.trans xv).trans x3
                dsimp only at g'
                cases b with
                | false =>
                  rw [if_neg Bool.false_ne_true] at g' ⊢
                  exact ⟨ρ3, S3, acc, us, x13, r3, n3, hD3, RepVs.ext x3 (RepVs.ext xv ru), by omega, g'⟩
                | true =>
                  rw [if_pos rfl] at g' ⊢
                  refine ⟨ρ3, S3, E1, r3, RepE.ext x3 k2, ?_⟩
                  cases hm2 : m E1 S3 with
                  | stuck => rw [hm2] at g'; exact g'
                  | exc cc fs S4 => rw [hm2] at g'; exact False.elim g'
                  | ok d S4 =>
                    rw [hm2] at g'
                    intro ρ4 v4 H4 x4 r4 q4
                    have hD4 : H4 D0 = some (.lst us) := x4.keep _ _ hD3 n3
                    have n4 := notCell x4 n3 hD3
                    have x14 := x13.trans x4
                    have ru4 := RepVs.ext x4 (RepVs.ext x3 (RepVs.ext xv ru))
                    have mu : Mut (H4 D0) := by rw [hD4]; trivial
                    refine ⟨us, hD4, ?_, ρ4, S4, acc ++ [d], us ++ [v4], x14.known' hD, r4.turn mu n4, n4, upd_same, RepVs.turn mu (ru4.append (.cons q4 .nil)), by simp; omega, ?_⟩
                    · rw [← ru.length]
                      have := hacc
                      have hz : sizeLine = 16777216 := sizeLine_eq
                      omega
                    · dsimp only at g'
                      cases hr : cLoop t c m (wipeE E (own.map (·.2))) (ds.drop (i + 1)) S4 with
                      | stuck => rw [hr] at g'; exact g'
                      | exc cc fs S5 => rw [hr] at g'; exact g'
                      | ok xs S5 =>
                        rw [hr] at g'
                        intro ρ' us' H' x' r' n hh ru
                        exact g' ρ' us' H' x' r' n hh (by simpa using ru)
      · refine .inl ?_
        have e0 : i = ds.length := by omega
        subst e0
        rw [List.drop_length] at g'
        refine ⟨w.stop ρ' H' x', g' ρ' us H' x' r' n' hD' (by simpa using ru)⟩
    · rw [if_neg hl] at g0; exact g0.elim
theorem pf_lc (hc : X.calm = true) (hN : X.N.Nodup) (hi : PI X tg iter (tI X.K G W mi)) (ok : BlkOk X.N X.env.scope scope own) (hts : ∀ i ∈ t.slots, i ∈ own.map (·.2))
    (hg : ∀ (s : Shared) (H : Hp) (C : Addr) (cl : List (Str × Addr)) (fp : List Addr), PG (X.blk s H scope (compEnvC scope cl C X.env) fp) tg (t.tg X.K)) (ht : ∀ (s : Shared) (H : Hp) (C : Addr) (cl : List (Str × Addr)) (fp : List Addr), PTs (X.blk s H scope (compEnvC scope cl C X.env) fp) ifs (tT X.K G W0 c))
    (he : ∀ (s : Shared) (H : Hp) (C : Addr) (cl : List (Str × Addr)) (fp : List Addr), PE (X.blk s H scope (compEnvC scope cl C X.env) fp) elt (tM X.K G W0 m)) (hs : ∀ x, foldedSetIterable iter X.env x = pure x) :
    PE X (.ListComp elt [⟨tg, iter, ifs, 0⟩] scope pos) (tF X.K G W (fLc mi t c m (own.map (·.2)))) :=
  (pe_lc hc hN hi ok hg ht he hs).weak fun σ H Q h => tLc_of hts h
end
end PK
namespace PK
open PySem PySem.Spec PyProof.Rows L2

/-! ### values without cells -/
mutual
def D.noRef : D → Bool
  | .non | .bl _ | .int _ | .str _ => true
  | .tup xs => D.noRefs xs
  | .lst xs => D.noRefs xs
  | .dct kvs => D.noRefK kvs
  | .ins _ fs => D.noRefF fs
  | .ref _ => false
  | .scr _ => true
def D.noRefs : List D → Bool
  | [] => true
  | x :: xs => D.noRef x && D.noRefs xs
def D.noRefK : List (D × D) → Bool
  | [] => true
  | (a, b) :: xs => D.noRef a && D.noRef b && D.noRefK xs
def D.noRefF : List (Nat × D) → Bool
  | [] => true
  | (_, b) :: xs => D.noRef b && D.noRefF xs
end
section
variable {K : PySem.W.Frag} {G : Cls} {ρ ρ' : List (Option Addr)} {H : Hp}
mutual
theorem RepV.moved : ∀ {d : D} {v : V}, RepV K G ρ H d v → d.noRef = true → RepV K G ρ' H d v
  | _, _, .non, _ => .non
  | _, _, .bl b, _ => .bl b
  | _, _, .int i, _ => .int i
  | _, _, .str z, _ => .str z
  | _, _, .tup h r, p => .tup h (RepVs.moved r (by simpa [D.noRef] using p))
  | _, _, .lst h r, p => .lst h (RepVs.moved r (by simpa [D.noRef] using p))
  | _, _, .dct h r, p => .dct h (RepD.moved r (by simpa [D.noRef] using p))
  | _, _, .ins h r, p => .ins h (RepF.moved r (by simpa [D.noRef] using p))
  | _, _, .ref _ _, p => by simp [D.noRef] at p
  | _, _, .scr h, _ => .scr h
theorem RepVs.moved : ∀ {ds : List D} {vs : List V}, RepVs K G ρ H ds vs → D.noRefs ds = true → RepVs K G ρ' H ds vs
  | _, _, .nil, _ => .nil
  | _, _, .cons h r, p => by
    simp only [D.noRefs, Bool.and_eq_true] at p
    exact .cons (RepV.moved h p.1) (RepVs.moved r p.2)
theorem RepD.moved : ∀ {kvs : List (D × D)} {u : HO}, RepD K G ρ H kvs u → D.noRefK kvs = true → RepD K G ρ' H kvs u
  | _, _, .k r, p => .k (RepK.moved r p)
theorem RepK.moved : ∀ {kvs : List (D × D)} {us : List (Key × V)}, RepK K G ρ H kvs us → D.noRefK kvs = true → RepK K G ρ' H kvs us
  | _, _, .nil, _ => .nil
  | _, _, .int h r, p => by
    simp only [D.noRefK, Bool.and_eq_true] at p
    exact .int (RepV.moved h p.1.2) (RepK.moved r p.2)
  | _, _, .str h r, p => by
    simp only [D.noRefK, Bool.and_eq_true] at p
    exact .str (RepV.moved h p.1.2) (RepK.moved r p.2)
theorem RepF.moved : ∀ {fs : List (Nat × D)} {us : List (Str × V)}, RepF K G ρ H fs us → D.noRefF fs = true → RepF K G ρ' H fs us
  | _, _, .nil, _ => .nil
  | _, _, .cons h r, p => by
    simp only [D.noRefF, Bool.and_eq_true] at p
    exact .cons (RepV.moved h p.1) (RepF.moved r p.2)
end
theorem RepX.moved {fs : List (Nat × D)} {od : Option Addr} (h : RepX K G ρ H fs od) (p : D.noRefF fs = true) : RepX K G ρ' H fs od := by
  rcases h with h | ⟨dx, us, h1, h2, h3⟩
  · exact .inl h
  · exact .inr ⟨dx, us, h1, h2, RepF.moved h3 p⟩
theorem Rep.nil : Rep K G [] [] H := ⟨rfl, fun i j a h => by simp at h, fun i o h => by simp at h, fun i a h => by simp at h⟩
/-- behind a call that knew no cell: all stands -/
theorem Ext.ofNone {ρ1 : List (Option Addr)} {H1 : Hp} (x : Ext [] H ρ1 H1) : Ext ρ H ρ H1 :=
  ⟨fun b o h _ => x.keep b o h (fun i e => by simp at e), x.tups, x.frzs, x.dom, Nat.le_refl _, fun _ _ => .inl rfl, fun i a h e => by rw [List.getElem?_eq_none_iff.mpr h] at e; cases e⟩
theorem Rep.ofNone {S : List DO} {ρ1 : List (Option Addr)} {H1 : Hp} (r : Rep K G ρ S H) (x : Ext [] H ρ1 H1) : Rep K G ρ S H1 :=
  r.same x.ofNone fun i a e => by
    obtain ⟨o, h, _⟩ := r.trk i a e
    rw [h, x.keep a o h (fun i e => by simp at e)]
end

/-! ### calls -/
/-- a def's promise: it does what m does -/
def spF (K : PySem.W.Frag) (G : Cls) (np : Nat) (m : List D → EM D) : Sp := fun vs H Q E => vs.length = np ∧ ∃ ρ S ds, Rep K G ρ S H ∧ RepVs K G ρ H ds vs ∧ Go K G (RD K G) (fun c d _ H' => E c d H') [] ρ H (m ds S) Q
/-- the call that hands its own cells on -/
def mCall (np : Nat) (m : List D → EM D) (dds : List D) (xs : List D) : EM D := if xs.length + dds.length = np then m (xs ++ dds) else EM.fail
/-- the call that knows no cell -/
def pureCall (m : List D → EM D) (xs : List D) : EM D := fun S => if D.noRefs xs = true then match m xs [] with
  | .ok d _ => if d.noRef = true then .ok d S else .stuck
  | .exc c fs _ => if D.noRefF fs = true then .exc c fs S else .stuck
  | .stuck => .stuck else .stuck
section
variable {K : PySem.W.Frag} {G : Cls} {ρ : List (Option Addr)} {S : List DO} {H : Hp} {W : L2.WX} {σ : L2.St} {np : Nat} {m : List D → EM D} {xs dds : List D} {vs dvs : List V} {Q : VK}
theorem Go.xk {α β : Type} {R : List (Option Addr) → Hp → α → β → Prop} {r : Res α} {Q : β → Hp → Prop} (g : Go K G R W σ ρ H r Q) : Go K G R (fun c d _ H' => WE W σ c d H') [] ρ H r Q := by
  cases r with
  | ok a S' => exact g
  | exc c fs S' => exact g
  | stuck => exact g
theorem spF_of (rp : Rep K G ρ S H) (r : RepVs K G ρ H xs vs) (rd : RepVs K G ρ H dds dvs) (g : Go K G (RD K G) W σ ρ H (mCall np m dds xs S) Q) : spF K G np m (vs ++ dvs) H Q (WE W σ) := by
  unfold mCall at g
  by_cases h : xs.length + dds.length = np
  · rw [if_pos h] at g
    exact ⟨by rw [List.length_append, ← r.length, ← rd.length]; exact h, ρ, S, _, rp, r.append rd, g.xk⟩
  · rw [if_neg h] at g; exact g.elim
theorem spF_pure (rp : Rep K G ρ S H) (r : RepVs K G ρ H xs vs) (rd : RepVs K G ρ H dds dvs) (g : Go K G (RD K G) W σ ρ H (mCall np (pureCall m) dds xs S) Q) : spF K G np m (vs ++ dvs) H Q (WE W σ) := by
  unfold mCall at g
  by_cases h : xs.length + dds.length = np
  · rw [if_pos h] at g
    unfold pureCall at g
    by_cases hn : D.noRefs (xs ++ dds) = true
    · rw [if_pos hn] at g
      refine ⟨by rw [List.length_append, ← r.length, ← rd.length]; exact h, [], [], xs ++ dds, Rep.nil, RepVs.moved (r.append rd) hn, ?_⟩
      cases hm : m (xs ++ dds) [] with
      | stuck => rw [hm] at g; exact g
      | ok d S1 =>
        rw [hm] at g
        dsimp only at g
        by_cases hd : d.noRef = true
        · rw [if_pos hd] at g
          exact fun ρ1 v H1 x1 r1 q1 => g ρ v H1 x1.ofNone (rp.ofNone x1) (RepV.moved q1 hd)
        · rw [if_neg hd] at g; exact g.elim
      | exc c fs S1 =>
        rw [hm] at g
        dsimp only at g
        by_cases hd : D.noRefF fs = true
        · rw [if_pos hd] at g
          exact fun ρ1 H1 od x1 r1 q1 => g ρ H1 od x1.ofNone (rp.ofNone x1) (RepX.moved q1 hd)
        · rw [if_neg hd] at g; exact g.elim
    · rw [if_neg hn] at g; exact g.elim
  · rw [if_neg h] at g; exact g.elim
end
section
variable {X : Cx} {G : Cls} {W : L2.WX} {k : Nat} {f : Addr} {fd : FuncData} {ps : List Str} {np : Nat} {m : List D → EM D} {x : Str} {p pos : Pos} {e : Expr} {es : List Expr} {ms : Env → EM (List D)} {dds : List D} {dvs : List V} {ds : List Value}
/-- f(e, ..): the def's own cells are ours (pu: or it knows none) -/
theorem pm_call (pu : Bool) (F : FnOk X.prog X.w X.K X.mg X.base (L2.CX X.prog X.w) k f fd ps (spF X.K G np m)) (hr : Room k X.A) (tk : Takes X W) (hg : Gl X x) (hm : X.mg x = some (.ref f)) (hk : PySem.W.keepIn X.K (.ref f) = true) (hb : Binds X.K fd ps ds) (hd : Vals dvs ds) (hdd : ∀ ρ H, RepVs X.K G ρ H dds dvs)
    (ha : PA X (e :: es) (tA X.K G W ms)) (hdb : (x == ("__debug__" : Str)) = false) (he : starEach (e :: es) X.env = (false, eval e X.env) :: starEach es X.env) (hpl : (backTo pos (starEach es X.env)).any (·.1) = false) :
    PE X (.Call (.Name x p) (e :: es) [] pos) (tM X.K G W (PK.es (mCall np (if pu = true then pureCall m else m) dds) ms)) :=
  (pe_callSD F hr hg hm hk hb hd (fun σ => passAt tk σ) ha hdb he hpl).weak fun σ H Q ⟨ρ, S, E, rp, re, g⟩ => by
    refine ⟨ρ, S, E, rp, re, Go.mono (Go.bind g) ?_⟩
    rintro vs H1 ⟨ρ1, S1, xs, x1, r1, q1, g1⟩
    cases pu with
    | true => rw [if_pos rfl] at g1; exact spF_pure r1 q1 (hdd _ _) g1
    | false => rw [if_neg Bool.false_ne_true] at g1; exact spF_of r1 q1 (hdd _ _) g1
end

/-! ### a def's body -/
def runBody (n : Nat) (mb : SM) : List D → EM D := fun ds S => match mb (ds.map some ++ List.replicate (n - ds.length) none) S with
  | .nx _ S' => .ok .non S'
  | .rt d S' => .ok d S'
  | .exc c fs _ S' => .exc c fs S'
  | _ => .stuck
theorem RepE.start {K : PySem.W.Frag} {G : Cls} {ρ : List (Option Addr)} {H : Hp} {N : List Str} {ds : List D} {vs : List V} (r : RepVs K G ρ H ds vs) : RepE K G ρ H (ds.map some ++ List.replicate (N.length - ds.length) none) (L2.start N vs) := by
  refine ⟨by simp [L2.start, r.length], fun i d e => ?_⟩
  unfold L2.start
  by_cases hi : i < ds.length
  · rw [List.getElem?_append_left (by simpa using hi), List.getElem?_map, Option.map_eq_some_iff] at e
    obtain ⟨d', e1, e2⟩ := e
    cases e2
    obtain ⟨v, e3, q⟩ := r.get e1
    exact ⟨v, by rw [List.getElem?_append_left (by rw [List.length_map, ← r.length]; exact hi), List.getElem?_map, e3]; rfl, q⟩
  · rw [List.getElem?_append_right (by simpa using Nat.le_of_not_lt hi)] at e
    rw [List.getElem?_replicate] at e
    split at e <;> cases e
section
variable {P : Program} {w : World} {K : PySem.W.Frag} {G : Cls} {mg : Str → Option Value} {base : Heap} {x qual : Str} {params : Arguments} {body : List Stmt} {scope : Scope} {dvs : List V} {kws : List (Str × V)} {f : Addr} {fd : FuncData} {N ps : List Str} {k : Nat} {mb : SM}
end
end PK
namespace PK
open PySem PySem.Spec PyProof.Rows L2

/-! ### looking at the text -/
def asName : Expr → Option Str
  | .Name x _ => some x
  | _ => none
theorem asName_eq {e : Expr} {x : Str} (h : asName e = some x) : ∃ p, e = .Name x p := by
  cases e <;> simp [asName] at h
  exact ⟨_, by rw [h]⟩
def asInt : Expr → Option Int
  | .Constant (.int i) _ _ => some i
  | _ => none
theorem asInt_eq {e : Expr} {i : Int} (h : asInt e = some i) : ∃ j p, e = .Constant (.int i) j p := by
  unfold asInt at h
  split at h
  · cases h; exact ⟨_, _, rfl⟩
  · cases h
def asBool : Expr → Option Bool
  | .Constant (.bool i) _ _ => some i
  | _ => none
theorem asBool_eq {e : Expr} {i : Bool} (h : asBool e = some i) : ∃ j p, e = .Constant (.bool i) j p := by
  unfold asBool at h
  split at h
  · cases h; exact ⟨_, _, rfl⟩
  · cases h
def asStr : Expr → Option Str
  | .Constant (.str i) _ _ => some i
  | _ => none
theorem asStr_eq {e : Expr} {i : Str} (h : asStr e = some i) : ∃ j p, e = .Constant (.str i) j p := by
  unfold asStr at h
  split at h
  · cases h; exact ⟨_, _, rfl⟩
  · cases h
def isNone : Expr → Bool
  | .Constant .none _ _ => true
  | _ => false
theorem isNone_eq {e : Expr} (h : isNone e = true) : ∃ j p, e = .Constant .none j p := by
  unfold isNone at h
  split at h
  · exact ⟨_, _, rfl⟩
  · cases h
def asTuple : Expr → Option (List Expr)
  | .Tuple es _ _ => some es
  | _ => none
theorem asTuple_eq {e : Expr} {i : List Expr} (h : asTuple e = some i) : ∃ j p, e = .Tuple i j p := by
  cases e <;> simp [asTuple] at h
  exact ⟨_, _, by rw [h]⟩
def asList : Expr → Option (List Expr)
  | .List es _ => some es
  | _ => none
theorem asList_eq {e : Expr} {i : List Expr} (h : asList e = some i) : ∃ p, e = .List i p := by
  cases e <;> simp [asList] at h
  exact ⟨_, by rw [h]⟩
def asBin : Expr → Option (Expr × Operator × Expr)
  | .BinOp a o b _ => some (a, o, b)
  | _ => none
theorem asBin_eq {e a b : Expr} {o : Operator} (h : asBin e = some (a, o, b)) : ∃ p, e = .BinOp a o b p := by
  cases e <;> simp [asBin] at h
  obtain ⟨rfl, rfl, rfl⟩ := h
  exact ⟨_, rfl⟩
def asUn : Expr → Option (UnaryOp × Expr)
  | .UnaryOp o a _ => some (o, a)
  | _ => none
theorem asUn_eq {e a : Expr} {o : UnaryOp} (h : asUn e = some (o, a)) : ∃ p, e = .UnaryOp o a p := by
  cases e <;> simp [asUn] at h
  obtain ⟨rfl, rfl⟩ := h
  exact ⟨_, rfl⟩
def asCmp : Expr → Option (Expr × CmpOp × Expr)
  | .Compare a [o] [b] _ => some (a, o, b)
  | _ => none
theorem asCmp_eq {e a b : Expr} {o : CmpOp} (h : asCmp e = some (a, o, b)) : ∃ p, e = .Compare a [o] [b] p := by
  unfold asCmp at h
  split at h
  · cases h; exact ⟨_, rfl⟩
  · cases h
def asAnd : Expr → Option (List Expr × Pos)
  | .BoolOp .And es p => some (es, p)
  | _ => none
theorem asAnd_eq {e : Expr} {es : List Expr} {p : Pos} (h : asAnd e = some (es, p)) : e = .BoolOp .And es p := by
  unfold asAnd at h
  split at h
  · cases h; rfl
  · cases h
def asOr : Expr → Option (List Expr × Pos)
  | .BoolOp .Or es p => some (es, p)
  | _ => none
theorem asOr_eq {e : Expr} {es : List Expr} {p : Pos} (h : asOr e = some (es, p)) : e = .BoolOp .Or es p := by
  unfold asOr at h
  split at h
  · cases h; rfl
  · cases h
def asIfe : Expr → Option (Expr × Expr × Expr)
  | .IfExp c a b _ => some (c, a, b)
  | _ => none
theorem asIfe_eq {e c a b : Expr} (h : asIfe e = some (c, a, b)) : ∃ p, e = .IfExp c a b p := by
  cases e <;> simp [asIfe] at h
  obtain ⟨rfl, rfl, rfl⟩ := h
  exact ⟨_, rfl⟩
def asSub : Expr → Option (Expr × Expr)
  | .Subscript a b _ => some (a, b)
  | _ => none
theorem asSub_eq {e a b : Expr} (h : asSub e = some (a, b)) : ∃ p, e = .Subscript a b p := by
  cases e <;> simp [asSub] at h
  obtain ⟨rfl, rfl⟩ := h
  exact ⟨_, rfl⟩
def asSlice : Expr → Option (Option Expr × Option Expr)
  | .Slice a b none _ => some (a, b)
  | _ => none
theorem asSlice_eq {e : Expr} {a b : Option Expr} (h : asSlice e = some (a, b)) : ∃ p, e = .Slice a b none p := by
  unfold asSlice at h
  split at h
  · cases h; exact ⟨_, rfl⟩
  · cases h
/-- f(..): a name called, no keywords -/
def asCall : Expr → Option (Str × List Expr)
  | .Call (.Name x _) es [] _ => some (x, es)
  | _ => none
theorem asCall_eq {e : Expr} {x : Str} {es : List Expr} (h : asCall e = some (x, es)) : ∃ p q, e = .Call (.Name x p) es [] q := by
  unfold asCall at h
  split at h
  · cases h; exact ⟨_, _, rfl⟩
  · cases h
/-- o.m(..) on one line -/
def asMeth : Expr → Option (Expr × Str × List Expr)
  | .Call (.Attribute o m a) es [] q => if (a.endLine == q.line) = true then some (o, m, es) else none
  | _ => none
theorem asMeth_eq {e o : Expr} {m : Str} {es : List Expr} (h : asMeth e = some (o, m, es)) : ∃ a q, e = .Call (.Attribute o m a) es [] q ∧ (a.endLine == q.line) = true := by
  unfold asMeth at h
  split at h
  · split at h
    · rename_i hl; cases h; exact ⟨_, _, rfl, hl⟩
    · cases h
  · cases h
def asLc : Expr → Option (Expr × Expr × Expr × List Expr × Scope × Pos)
  | .ListComp elt [⟨tg, it, ifs, 0⟩] sc p => some (elt, tg, it, ifs, sc, p)
  | _ => none
theorem asLc_eq {e elt tg it : Expr} {ifs : List Expr} {sc : Scope} {p : Pos} (h : asLc e = some (elt, tg, it, ifs, sc, p)) : e = .ListComp elt [⟨tg, it, ifs, 0⟩] sc p := by
  unfold asLc at h
  split at h
  · cases h; rfl
  · cases h

/-! ### side conditions -/
def notStar : Expr → Bool
  | .Starred _ _ => false
  | _ => true
theorem star_cons {e : Expr} (h : notStar e = true) (es : List Expr) (env : PySem.Env) : starEach (e :: es) env = (false, eval e env) :: starEach es env := by
  cases e <;> first | rfl | (simp [notStar] at h)
theorem star_any {pos : Pos} {env : PySem.Env} : ∀ {es : List Expr}, es.all notStar = true → (backTo pos (starEach es env)).any (·.1) = false
  | [], _ => rfl
  | e :: es, h => by
    simp only [List.all_cons, Bool.and_eq_true] at h
    rw [star_cons h.1]
    show (false || (backTo pos (starEach es env)).any (·.1)) = false
    rw [star_any h.2]; rfl
theorem star_few {pos : Pos} {env : PySem.Env} : ∀ {es : List Expr}, es.all notStar = true → (backTo pos (starEach es env)).all (fun x => !x.1) = true
  | [], _ => rfl
  | e :: es, h => by
    simp only [List.all_cons, Bool.and_eq_true] at h
    rw [star_cons h.1]
    show (true && (backTo pos (starEach es env)).all (fun x => !x.1)) = true
    rw [star_few h.2]; rfl
def notSlice : Expr → Bool
  | .Slice _ _ _ _ => false
  | .Tuple _ _ _ => false
  | _ => true
theorem plainIx {b : Expr} (h : notSlice b = true) : PlainIx b := by
  intro o i
  cases b <;> first | rfl | (simp [notSlice] at h)
def notComp : Expr → Bool
  | .ListComp _ _ _ _ | .SetComp _ _ _ _ | .DictComp _ _ _ _ _ => false
  | _ => true
theorem swaps_no {e : Expr} (h : notComp e = true) (t : Option Expr) (l : Nat) (env : PySem.Env) : swapsWith e t l env = pure false := by
  cases e <;> first | rfl | (simp [notComp] at h)
/-- name = [..] where the name is a cell: a store like others -/
def cellT (sc : Scope) (t : Expr) : Bool := match t with
  | .Name y _ => (match sc.names.lookup y with
    | some .cell => true
    | _ => false)
  | _ => false
theorem swaps_cell {e t : Expr} {env : PySem.Env} (h : cellT env.scope t = true) (l : Nat) : swapsWith e (some t) l env = pure false := by
  unfold cellT at h
  split at h
  · rename_i y py
    split at h
    · rename_i hk
      have hk' : env.kindOf y = some .cell := hk
      have h2 : (env.kindOf y == some NameKind.local) = false := by rw [hk']; rfl
      cases e <;> first | rfl | (simp [swapsWith, h2])
    · cases h
  · cases h
def notTup : Expr → Bool
  | .Tuple _ _ _ => false
  | _ => true
theorem stores_no {e tg : Expr} (h : notTup e = true) (env : PySem.Env) : swappedStores [tg] e env = pure none := by
  cases e <;> first | (cases tg <;> rfl) | (simp [notTup] at h)
theorem each_one {tg : Expr} (h : notStar tg = true) (env : PySem.Env) : (assignEach [tg] env).map (·.2) = [assign tg env] := by
  cases tg <;> first | rfl | (simp [notStar] at h)
def notSet : Expr → Bool
  | .Set _ _ _ => false
  | _ => true
theorem folded_no {e : Expr} (h : notSet e = true) (env : PySem.Env) (x : Value) : foldedSetIterable e env x = pure x := by
  cases e <;> first | rfl | (simp [notSet] at h)
/-- a test that is its value -/
def plainTest : Expr → Bool
  | .Name _ _ | .Call _ _ _ _ | .Subscript _ _ _ | .Attribute _ _ _ | .Constant _ _ _ | .BinOp _ _ _ _ => true
  | _ => false
theorem plainTest_eq {e : Expr} (h : plainTest e = true) (env : PySem.Env) (whole : Sem Value) : isTrue e env whole = (do let v ← whole; standAt e.pos; holding [v] (truthy v)) := by
  cases e <;> first | rfl | (simp [plainTest] at h)
def simpleBase : Expr → Bool
  | .Name _ _ | .Subscript _ _ _ | .Attribute _ _ _ | .Constant _ _ _ => true
  | _ => false
theorem base_eq {o : Expr} (h : simpleBase o = true) (a : Str) (env : PySem.Env) (whole : Sem Value) : attributeBase o a env whole = whole := by
  cases o <;> first | rfl | (simp [simpleBase] at h)
theorem assign_sub {o i : Expr} {pos : Pos} (h : notSlice i = true) (env : PySem.Env) (v : Value) : assign (.Subscript o i pos) env v = (do
      let ov ← holding [v] (eval o env)
      let iv ← holding [v, ov] (eval i env)
      standAt pos
      holding [v, ov, iv] (setItem ov iv v)
      release [v, ov, iv] []) := by
  cases i <;> first | rfl | (simp [notSlice] at h)
theorem tg_cons {e : Expr} (h : notStar e = true) (es : List Expr) (env : PySem.Env) : (assignEach (e :: es) env).map (·.2) = assign e env :: (assignEach es env).map (·.2) := by
  cases e <;> first | rfl | (simp [notStar] at h)
theorem tg_len : ∀ (es : List Expr) (env : PySem.Env), (assignEach es env).length = es.length
  | [], _ => rfl
  | e :: es, env => by
    cases e <;> (show (assignEach es env).length + 1 = es.length + 1; rw [tg_len es env])
theorem tg_nostar : ∀ {es : List Expr} (env : PySem.Env), es.all notStar = true → (assignEach es env).findIdx? (·.1) = none
  | [], _, _ => rfl
  | e :: es, env, h => by
    simp only [List.all_cons, Bool.and_eq_true] at h
    have ih := tg_nostar (es := es) env h.2
    have e1 : assignEach (e :: es) env = (false, assign e env) :: assignEach es env := by
      cases e <;> first | rfl | (simp [notStar] at h)
    rw [e1, List.findIdx?_cons]
    simp [ih]
end PK
namespace PK
open PySem PySem.Spec PyProof.Rows L2

/-! ### the text once more, slots for names -/
inductive BOp where | add | sub | mul | fdiv | mod | pow
inductive COp where | eq | ne | lt | le | gt | ge | is | isNot
inductive BI where | len | abs | min | max
inductive TI0 where | int | str | tuple
mutual
inductive IE where
  | var (i : Nat) | int (i : Int) | bl (b : Bool) | non | str (x : Str) | glo (g : Nat)
  | tup (es : IEs) | new (c : IC) | box (c : IC) | frz (i : Nat)
  | bin (o : BOp) (a b : IE) | neg (a : IE) | cmp (o : COp) (a b : IE) | ife (t : IT) (a b : IE)
  | andV (a b : IE) | andV1 (a : IE) | orV (a b : IE) | orV1 (a : IE) | notV (a : IE)
  | idx (a b : IE) | cut (a : IE) (lo hi : IO)
  | bi (f : BI) (e : IE) (es : IEs) | ty (f : TI0) (e : IE) (es : IEs) | isT (t : Ty0) (e : IE)
  | call (pu : Bool) (f : Nat) (e : IE) (es : IEs)
  | app (o e : IE)
inductive IT where
  | val (e : IE) | cmp (o : COp) (a b : IE) | and (a b : IT) | and1 (a : IT) | or (a b : IT) | or1 (a : IT) | not (a : IT)
inductive IO where
  | none | some (e : IE)
inductive IEs where
  | nil | cons (e : IE) (es : IEs)
inductive IC where
  | lst (es : IEs) | cat (a b : IE) | rep (c : IC) (b : IE) | cut (a : IE) (lo hi : IO) | list (e : IE)
  | lc (it : II) (t : Tgt) (own : List (Str × Nat)) (c : ITo) (m : IE)
inductive ITo where
  | none | some (t : IT)
inductive II where
  | seq (e : IE) | rng1 (e : IE) | rng2 (a b : IE) | revr (e : IE) | rev (e : IE) | zip (a b : IE) | enum (e : IE)
end
mutual
inductive IS where
  | set (i : Nat) (e : IE) | tup (t : Tgt) (e : IE) | sub (o i e : IE) | setC (i : Nat) (c : IC) | boxC (i : Nat) (c : IC)
  | expr (e : IE) | ret (e : IE) | retN | ifS (t : IT) (a b : ISs) | forS (t : Tgt) (it : II) (b : ISs) | whileS (t : IT) (b : ISs)
  | brk | cont | pass | doc
inductive ISs where
  | nil | cons (s : IS) (ss : ISs)
end

/-! ### what it does -/
structure Ev where
  call : Nat → List D → EM D
  np : Nat → Nat
  dds : Nat → List D
  cst : Nat → Option D
  wf : Nat
def bopM : BOp → D → D → EM D
  | .add => fun x y => EM.ofO (addO x y)
  | .sub => fun x y => EM.ofO (subO x y)
  | .mul => fun x y => EM.ofO (mulO x y)
  | .fdiv => fun x y => EM.ofO (fdivO x y)
  | .mod => fun x y => EM.ofO (modO x y)
  | .pow => fun x y => EM.ofO (powO x y)
def copM : COp → D → D → EM D
  | .eq => eqM
  | .ne => neM
  | .lt => fun x y => EM.ofO (ltO x y)
  | .le => fun x y => EM.ofO (leO x y)
  | .gt => fun x y => EM.ofO (gtO x y)
  | .ge => fun x y => EM.ofO (geO x y)
  | .is => fun x y => EM.ofO (isO x y)
  | .isNot => fun x y => EM.ofO (isNotO x y)
def biM : BI → List D → EM D
  | .len => lenM
  | .abs => fun xs => EM.ofO (absO xs)
  | .min => fun xs => EM.ofO (minO xs)
  | .max => fun xs => EM.ofO (maxO xs)
def tyM : TI0 → List D → EM D
  | .int => fun xs => EM.ofO (intO xs)
  | .str => fun xs => EM.ofO (strO xs)
  | .tuple => tupM
def eFrz (i : Nat) : Env → EM D := fun E S => match E[i]? with
  | some (some (.ref r)) => match S[r]? with
    | some o => match valOf o with
      | some d => .ok d (S.set r .gone)
      | none => .stuck
    | none => .stuck
  | _ => .stuck
def chkL (o : D) : EM Unit := fun S => match viewL S o with
  | some _ => .ok () S
  | none => .stuck
def appM (o d : D) : EM D := fun S => match o with
  | .ref r => match S[r]? with
    | some (.lst xs) => if xs.length < 16777216 then .ok .non (S.set r (.lst (xs ++ [d]))) else .stuck
    | _ => .stuck
  | _ => .stuck
def eApp (mo me : Env → EM D) : Env → EM D := fun E => EM.bind (mo E) fun o => EM.bind (chkL o) fun _ => EM.bind (me E) fun d => appM o d
def boolM (b : Bool) (k : EM D) (d : EM D) : EM D := if b = true then k else d
def eAndV (m n : Env → EM D) : Env → EM D := fun E => EM.bind (m E) fun x => EM.bind (EM.ofO (asB x)) fun b => if b = true then n E else EM.pure (.bl false)
def eOrV (m n : Env → EM D) : Env → EM D := fun E => EM.bind (m E) fun x => EM.bind (EM.ofO (asB x)) fun b => if b = true then EM.pure (.bl true) else n E
def eNotV (m : Env → EM D) : Env → EM D := fun E => EM.bind (m E) fun x => EM.bind (EM.ofO (asB x)) fun b => EM.pure (.bl (!b))
def eCst (o : Option D) : Env → EM D := fun _ => EM.ofO o
mutual
def evE (v : Ev) : IE → Env → EM D
  | .var i => eVar i
  | .int i => fun _ => EM.pure (.int i)
  | .bl b => fun _ => EM.pure (.bl b)
  | .non => fun _ => EM.pure .non
  | .str x => fun _ => EM.pure (.str x)
  | .glo g => eCst (v.cst g)
  | .tup es => PK.es mTup (evEs v es)
  | .new c => eNew (evC v c)
  | .box c => eBox (evC v c)
  | .frz i => eFrz i
  | .bin o a b => e2 (bopM o) (evE v a) (evE v b)
  | .neg a => e1 (fun x => EM.ofO (negO x)) (evE v a)
  | .cmp o a b => e2 (copM o) (evE v a) (evE v b)
  | .ife t a b => eIf (evT v t) (evE v a) (evE v b)
  | .andV a b => eAndV (evE v a) (evE v b)
  | .andV1 a => evE v a
  | .orV a b => eOrV (evE v a) (evE v b)
  | .orV1 a => evE v a
  | .notV a => eNotV (evE v a)
  | .idx a b => e2 idxM (evE v a) (evE v b)
  | .cut a lo hi => eCut (evE v a) (evO v lo) (evO v hi)
  | .bi f e es => PK.es (biM f) (eCons (evE v e) (evEs v es))
  | .ty f e es => PK.es (tyM f) (eCons (evE v e) (evEs v es))
  | .isT t e => e1 (isTyM t) (evE v e)
  | .call pu f e es => PK.es (mCall (v.np f) (if pu = true then pureCall (v.call f) else v.call f) (v.dds f)) (eCons (evE v e) (evEs v es))
  | .app o e => eApp (evE v o) (evE v e)
def evT (v : Ev) : IT → Env → EM Bool
  | .val e => eTest (evE v e)
  | .cmp o a b => eTest (e2 (copM o) (evE v a) (evE v b))
  | .and a b => eAnd (evT v a) (evT v b)
  | .and1 a => evT v a
  | .or a b => eOr (evT v a) (evT v b)
  | .or1 a => evT v a
  | .not a => eNot (evT v a)
def evO (v : Ev) : IO → Env → EM (Option Int)
  | .none => eNoPart
  | .some e => ePart (evE v e)
def evEs (v : Ev) : IEs → Env → EM (List D)
  | .nil => eNil
  | .cons e es => eCons (evE v e) (evEs v es)
def evC (v : Ev) : IC → Env → EM DO
  | .lst es => PK.fs mLst (evEs v es)
  | .cat a b => f2 catM (evE v a) (evE v b)
  | .rep c b => repF (evC v c) (evE v b)
  | .cut a lo hi => fCut (evE v a) (evO v lo) (evO v hi)
  | .list e => PK.fs listM (eCons (evE v e) eNil)
  | .lc it t own c m => fLc (evI v it) t (evTo v c) (evE v m) (own.map (·.2))
def evTo (v : Ev) : ITo → Env → EM Bool
  | .none => eYes
  | .some t => evT v t
def evI (v : Ev) : II → Env → EM (List D)
  | .seq e => eOf seqO (evE v e)
  | .rng1 e => eOf rng1O (eCons (evE v e) eNil)
  | .rng2 a b => eOf rng2O (eCons (evE v a) (eCons (evE v b) eNil))
  | .revr e => eOf rev1O (evE v e)
  | .rev e => eOf (fun d => (seqO d).map List.reverse) (evE v e)
  | .zip a b => eOf zipO (eCons (evE v a) (eCons (evE v b) eNil))
  | .enum e => eOf enumO (eCons (evE v e) eNil)
end
mutual
def evS (v : Ev) : IS → SM
  | .set i e => sAsg (evE v e) (mName i)
  | .tup t e => sAsg (evE v e) (mTgt t)
  | .sub o i e => sAsg (evE v e) (mSub (evE v o) (evE v i))
  | .setC i c => sAsg (eNew (evC v c)) (mName i)
  | .boxC i c => sAsg (eBox (evC v c)) (mName i)
  | .expr e => sExpr (evE v e)
  | .ret e => sRet (evE v e)
  | .retN => sRetN
  | .ifS t a b => sIf (evT v t) (evB v a) (evB v b)
  | .forS t it b => sFor (evI v it) (mTgt t) (evB v b)
  | .whileS t b => sWhile (evT v t) (evB v b) v.wf
  | .brk => sBreak
  | .cont => sCont
  | .pass => sNext
  | .doc => sNext
def evB (v : Ev) : ISs → SM
  | .nil => sNext
  | .cons s ss => sSeq (evS v s) (evB v ss)
end

/-! ### that it is the text -/
structure Tab where
  free : List Str
  fns : List (Str × Nat × List D)
  cst : List (Str × D)
def glB (sc : Scope) (x : Str) : Bool := decide (sc.names.lookup x = some .globalImplicit)
/-- a built-in's name, not hidden -/
def bltB (T : Tab) (sc : Scope) (x : Str) : Bool := glB sc x && decide (x ∈ T.free) && !(x == ("__debug__" : Str)) && decide (x ≠ "__name__")
def visB (sc : Scope) (x : Str) : Bool := match sc.names.lookup x with
  | some .local | some .cell | some .free => true
  | _ => false
def bopB : BOp → Operator → Bool
  | .add, .Add | .sub, .Sub | .mul, .Mult | .fdiv, .FloorDiv | .mod, .Mod | .pow, .Pow => true
  | _, _ => false
def copB : COp → CmpOp → Bool
  | .eq, .Eq | .ne, .NotEq | .lt, .Lt | .le, .LtE | .gt, .Gt | .ge, .GtE | .is, .Is | .isNot, .IsNot => true
  | _, _ => false
def biN : BI → Str
  | .len => "len" | .abs => "abs" | .min => "min" | .max => "max"
def tyN : TI0 → Str
  | .int => "int" | .str => "str" | .tuple => "tuple"
def tyN0 : Ty0 → Str
  | .int => "int" | .bool => "bool" | .str => "str" | .list => "list" | .tuple => "tuple" | .dict => "dict"
/-- a name that may be stored: fn tells whose cells are our own -/
def locB (sc : Scope) (fn : Str → Bool) (x : Str) : Bool := match sc.names.lookup x with
  | some .local => true
  | some .cell => fn x
  | _ => false
mutual
def chkG (N : List Str) (sc : Scope) (fn : Str → Bool) : Tgt → Expr → Bool
  | .name i, e => match asName e with
    | some x => decide (N[i]? = some x) && locB sc fn x
    | none => false
  | .tup ts, e => match asTuple e with
    | some es => decide (es.length = ts.len) && es.all notStar && chkGs N sc fn ts es
    | none => false
def chkGs (N : List Str) (sc : Scope) (fn : Str → Bool) : Tgts → List Expr → Bool
  | .nil, [] => true
  | .cons t ts, e :: es => chkG N sc fn t e && chkGs N sc fn ts es
  | _, _ => false
end
/-- name = [..]: stored within the comprehension's frame -/
def chkLcS (sc : Scope) (x : Str) (t e : Expr) : Bool := match asLc e, t with
  | some (_, _, _, _, scope, p), .Name y py => decide (sc.kind = .function) && decide (sc.names.lookup x = some .local) && (py.line == p.line) && ((scope.names.any fun (n, k) => n == y && (k == .local || k == .cell)) == false)
  | _, _ => false
mutual
def chkE (T : Tab) (N : List Str) : IE → Scope → Expr → Bool
  | .var i, sc, e => match asName e with
    | some x => decide (N[i]? = some x) && visB sc x && !(x == ("__debug__" : Str)) && !(x == ("__classdict__" : Str))
    | none => false
  | .frz i, sc, e => match asName e with
    | some x => decide (N[i]? = some x) && visB sc x && !(x == ("__debug__" : Str)) && !(x == ("__classdict__" : Str))
    | none => false
  | .int i, _, e => decide (asInt e = some i)
  | .bl b, _, e => decide (asBool e = some b)
  | .non, _, e => isNone e
  | .str x, _, e => decide (asStr e = some x)
  | .glo g, sc, e => match asName e, T.cst[g]? with
    | some x, some p => decide (x = p.1) && glB sc x && !(x == ("__debug__" : Str))
    | _, _ => false
  | .tup es, sc, e => match asTuple e with
    | some xs => xs.all notStar && chkEs T N es sc xs
    | none => false
  | .new c, sc, e => chkC T N c sc e
  | .box c, sc, e => chkC T N c sc e
  | .bin o a b, sc, e => match asBin e with
    | some (x, op, y) => bopB o op && chkE T N a sc x && chkE T N b sc y
    | none => false
  | .neg a, sc, e => match asUn e with
    | some (.USub, x) => chkE T N a sc x
    | _ => false
  | .cmp o a b, sc, e => match asCmp e with
    | some (x, op, y) => copB o op && chkE T N a sc x && chkE T N b sc y
    | none => false
  | .ife t a b, sc, e => match asIfe e with
    | some (c, x, y) => chkT T N t sc c && chkE T N a sc x && chkE T N b sc y
    | none => false
  | .andV a b, sc, e => match asAnd e with
    | some (x :: y :: r, p) => chkE T N a sc x && chkE T N b sc (.BoolOp .And (y :: r) p)
    | _ => false
  | .andV1 a, sc, e => match asAnd e with
    | some ([x], p) => chkE T N a sc x
    | _ => false
  | .orV a b, sc, e => match asOr e with
    | some (x :: y :: r, p) => chkE T N a sc x && chkE T N b sc (.BoolOp .Or (y :: r) p)
    | _ => false
  | .orV1 a, sc, e => match asOr e with
    | some ([x], p) => chkE T N a sc x
    | _ => false
  | .notV a, sc, e => match asUn e with
    | some (.Not, x) => chkE T N a sc x
    | _ => false
  | .idx a b, sc, e => match asSub e with
    | some (x, y) => notSlice y && chkE T N a sc x && chkE T N b sc y
    | none => false
  | .cut a lo hi, sc, e => match asSub e with
    | some (x, y) => (match asSlice y with
      | some (l, h) => chkE T N a sc x && chkO T N lo sc l && chkO T N hi sc h
      | none => false)
    | none => false
  | .bi f a as, sc, e => match asCall e with
    | some (x, y :: ys) => decide (x = biN f) && bltB T sc x && (y :: ys).all notStar && chkE T N a sc y && chkEs T N as sc ys
    | _ => false
  | .ty f a as, sc, e => match asCall e with
    | some (x, y :: ys) => decide (x = tyN f) && bltB T sc x && (y :: ys).all notStar && chkE T N a sc y && chkEs T N as sc ys
    | _ => false
  | .isT t a, sc, e => match asCall e with
    | some (x, [y, z]) => decide (x = "isinstance") && bltB T sc x && [y, z].all notStar && chkE T N a sc y && (match asName z with
      | some u => decide (u = tyN0 t) && bltB T sc u
      | none => false)
    | _ => false
  | .call _ f a as, sc, e => match asCall e, T.fns[f]? with
    | some (x, y :: ys), some q => decide (x = q.1) && glB sc x && !(x == ("__debug__" : Str)) && (y :: ys).all notStar && chkE T N a sc y && chkEs T N as sc ys
    | _, _ => false
  | .app o a, sc, e => match asMeth e with
    | some (x, m, [y]) => decide (m = "append") && simpleBase x && notStar y && chkE T N o sc x && chkE T N a sc y
    | _ => false
def chkT (T : Tab) (N : List Str) : IT → Scope → Expr → Bool
  | .val a, sc, e => plainTest e && chkE T N a sc e
  | .cmp o a b, sc, e => match asCmp e with
    | some (x, op, y) => copB o op && chkE T N a sc x && chkE T N b sc y
    | none => false
  | .and a b, sc, e => match asAnd e with
    | some (x :: y :: r, p) => chkT T N a sc x && chkT T N b sc (.BoolOp .And (y :: r) p)
    | _ => false
  | .and1 a, sc, e => match asAnd e with
    | some ([x], p) => chkT T N a sc x
    | _ => false
  | .or a b, sc, e => match asOr e with
    | some (x :: y :: r, p) => chkT T N a sc x && chkT T N b sc (.BoolOp .Or (y :: r) p)
    | _ => false
  | .or1 a, sc, e => match asOr e with
    | some ([x], p) => chkT T N a sc x
    | _ => false
  | .not a, sc, e => match asUn e with
    | some (.Not, x) => chkT T N a sc x
    | _ => false
def chkO (T : Tab) (N : List Str) : IO → Scope → Option Expr → Bool
  | .none, _, none => true
  | .some a, sc, some e => chkE T N a sc e
  | _, _, _ => false
def chkEs (T : Tab) (N : List Str) : IEs → Scope → List Expr → Bool
  | .nil, _, [] => true
  | .cons a as, sc, e :: es => chkE T N a sc e && chkEs T N as sc es
  | _, _, _ => false
def chkC (T : Tab) (N : List Str) : IC → Scope → Expr → Bool
  | .lst es, sc, e => match asList e with
    | some xs => xs.all notStar && chkEs T N es sc xs
    | none => false
  | .cat a b, sc, e => match asBin e with
    | some (x, .Add, y) => chkE T N a sc x && chkE T N b sc y
    | _ => false
  | .rep a b, sc, e => match asBin e with
    | some (x, .Mult, y) => chkC T N a sc x && chkE T N b sc y
    | _ => false
  | .cut a lo hi, sc, e => match asSub e with
    | some (x, y) => (match asSlice y with
      | some (l, h) => chkE T N a sc x && chkO T N lo sc l && chkO T N hi sc h
      | none => false)
    | none => false
  | .list a, sc, e => match asCall e with
    | some (x, [y]) => decide (x = "list") && bltB T sc x && notStar y && chkE T N a sc y
    | _ => false
  | .lc it t own c m, sc, e => match asLc e with
    | some (elt, tg, iter, ifs, scope, _) => blkC N sc scope own && t.slots.all (fun i => decide (i ∈ own.map (·.2))) && notSet iter && chkI T N it sc tg iter &&
        chkG N (relS scope sc) (fun x => scope.names.lookup x == some .cell) t tg && chkTo T N c (relS scope sc) ifs && chkE T N m (relS scope sc) elt
    | none => false
def chkTo (T : Tab) (N : List Str) : ITo → Scope → List Expr → Bool
  | .none, _, [] => true
  | .some t, sc, [e] => chkT T N t sc e
  | _, _, _ => false
def chkI (T : Tab) (N : List Str) : II → Scope → Expr → Expr → Bool
  | .seq a, sc, _, e => chkE T N a sc e
  | .rng1 a, sc, _, e => match asCall e with
    | some (x, [y]) => decide (x = "range") && bltB T sc x && notStar y && chkE T N a sc y
    | _ => false
  | .rng2 a b, sc, _, e => match asCall e with
    | some (x, [y, z]) => decide (x = "range") && bltB T sc x && notStar y && notStar z && chkE T N a sc y && chkE T N b sc z
    | _ => false
  | .revr a, sc, _, e => match asCall e with
    | some (x, [y]) => decide (x = "reversed") && bltB T sc x && (match asCall y with
      | some (u, [z]) => decide (u = "range") && bltB T sc u && notStar z && chkE T N a sc z
      | _ => false)
    | _ => false
  | .rev a, sc, _, e => match asCall e with
    | some (x, [y]) => decide (x = "reversed") && bltB T sc x && notStar y && chkE T N a sc y
    | _ => false
  | .zip a b, sc, tg, e => (asTuple tg).isSome && (match asCall e with
    | some (x, [y, z]) => decide (x = "zip") && bltB T sc x && notStar y && notStar z && chkE T N a sc y && chkE T N b sc z
    | _ => false)
  | .enum a, sc, tg, e => (asTuple tg).isSome && (match asCall e with
    | some (x, [y]) => decide (x = "enumerate") && bltB T sc x && notStar y && chkE T N a sc y
    | _ => false)
end
def asAsg : Stmt → Option (Expr × Expr)
  | .Assign [t] e _ => some (t, e)
  | _ => none
theorem asAsg_eq {s : Stmt} {t e : Expr} (h : asAsg s = some (t, e)) : ∃ p, s = .Assign [t] e p := by
  unfold asAsg at h
  split at h
  · cases h; exact ⟨_, rfl⟩
  · cases h
def asExpr : Stmt → Option Expr
  | .Expr e _ => some e
  | _ => none
theorem asExpr_eq {s : Stmt} {e : Expr} (h : asExpr s = some e) : ∃ p, s = .Expr e p := by
  cases s <;> simp [asExpr] at h
  exact ⟨_, by rw [h]⟩
def asRet : Stmt → Option (Option Expr)
  | .Return e _ => some e
  | _ => none
theorem asRet_eq {s : Stmt} {e : Option Expr} (h : asRet s = some e) : ∃ p, s = .Return e p := by
  cases s <;> simp [asRet] at h
  exact ⟨_, by rw [h]⟩
def asIf : Stmt → Option (Expr × List Stmt × List Stmt)
  | .If c a b _ => some (c, a, b)
  | _ => none
theorem asIf_eq {s : Stmt} {c : Expr} {a b : List Stmt} (h : asIf s = some (c, a, b)) : ∃ p, s = .If c a b p := by
  cases s <;> simp [asIf] at h
  obtain ⟨rfl, rfl, rfl⟩ := h
  exact ⟨_, rfl⟩
def asFor : Stmt → Option (Expr × Expr × List Stmt)
  | .For t i b [] _ => some (t, i, b)
  | _ => none
theorem asFor_eq {s : Stmt} {t i : Expr} {b : List Stmt} (h : asFor s = some (t, i, b)) : ∃ p, s = .For t i b [] p := by
  unfold asFor at h
  split at h
  · cases h; exact ⟨_, rfl⟩
  · cases h
def asWhile : Stmt → Option (Expr × List Stmt)
  | .While c b [] _ => some (c, b)
  | _ => none
theorem asWhile_eq {s : Stmt} {c : Expr} {b : List Stmt} (h : asWhile s = some (c, b)) : ∃ p, s = .While c b [] p := by
  unfold asWhile at h
  split at h
  · cases h; exact ⟨_, rfl⟩
  · cases h
/-- pass, break, continue, a text alone: by number -/
def asPlain : Stmt → Nat
  | .Pass _ => 1
  | .Break _ => 2
  | .Continue _ => 3
  | .Expr (.Constant (.str _) _ _) _ => 4
  | _ => 0
mutual
def chkS (T : Tab) (N : List Str) (sc : Scope) : IS → Stmt → Bool
  | .set i a, s => match asAsg s with
    | some (t, e) => (match asName t with
      | some x => decide (N[i]? = some x) && locB sc (fun _ => true) x && (notComp e || cellT sc t) && chkE T N a sc e
      | none => false)
    | none => false
  | .tup t a, s => match asAsg s with
    | some (tg, e) => notComp e && notTup e && notStar tg && chkG N sc (fun _ => true) t tg && chkE T N a sc e
    | none => false
  | .sub o i a, s => match asAsg s with
    | some (tg, e) => (match asSub tg with
      | some (u, w) => notComp e && notTup e && notSlice w && chkE T N o sc u && chkE T N i sc w && chkE T N a sc e
      | none => false)
    | none => false
  | .setC i c, s => match asAsg s with
    | some (t, e) => (match asName t with
      | some x => decide (N[i]? = some x) && chkLcS sc x t e && chkC T N c sc e
      | none => false)
    | none => false
  | .boxC i c, s => match asAsg s with
    | some (t, e) => (match asName t with
      | some x => decide (N[i]? = some x) && chkLcS sc x t e && chkC T N c sc e
      | none => false)
    | none => false
  | .expr a, s => match asExpr s with
    | some e => notComp e && chkE T N a sc e
    | none => false
  | .ret a, s => match asRet s with
    | some (some e) => chkE T N a sc e
    | _ => false
  | .retN, s => match asRet s with
    | some none => true
    | _ => false
  | .ifS t a b, s => match asIf s with
    | some (c, x, y) => chkT T N t sc c && chkB T N sc a x && chkB T N sc b y
    | none => false
  | .forS t it b, s => match asFor s with
    | some (tg, iter, x) => notSet iter && chkG N sc (fun _ => true) t tg && chkI T N it sc tg iter && chkB T N sc b x
    | none => false
  | .whileS t b, s => match asWhile s with
    | some (c, x) => chkT T N t sc c && chkB T N sc b x
    | none => false
  | .pass, s => decide (asPlain s = 1)
  | .brk, s => decide (asPlain s = 2)
  | .cont, s => decide (asPlain s = 3)
  | .doc, s => decide (asPlain s = 4)
def chkB (T : Tab) (N : List Str) (sc : Scope) : ISs → List Stmt → Bool
  | .nil, [] => true
  | .cons s ss, x :: xs => chkS T N sc s x && chkB T N sc ss xs
  | _, _ => false
end
end PK
namespace PK
open PySem PySem.Spec PyProof.Rows L2

/-! ### and, or, not as values -/
section
variable {X : Cx} {G : Cls} {W : L2.WX} {a b e o : Expr} {rest : List Expr} {pos : Pos} {ma mb : Env → EM D}
theorem pm_andV (ha : PE X a (tM X.K G W ma)) (hb : PE X (.BoolOp .And (b :: rest) pos) (tM X.K G W mb)) : PE X (.BoolOp .And (a :: b :: rest) pos) (tM X.K G W (eAndV ma mb)) :=
  (pe_and ha hb).weak fun σ H Q ⟨ρ, S, E, rp, re, g⟩ => by
    refine ⟨ρ, S, E, rp, re, Go.mono (Go.bind g) ?_⟩
    rintro v H1 ⟨ρ1, S1, d, x1, r1, q1, g1⟩
    cases hd : asB d with
    | none => rw [hd] at g1; exact g1.elim
    | some k =>
      refine ⟨k, q1.bl_inv hd, ?_⟩
      rw [hd] at g1
      cases k with
      | true => rw [if_pos rfl]; exact ⟨ρ1, S1, E, r1, RepE.ext x1 re, g1⟩
      | false => rw [if_neg Bool.false_ne_true]; exact Go.here (d := D.bl false) (R := RD X.K G) (S := S1) g1 r1 (.bl _)
theorem pm_orV (ha : PE X a (tM X.K G W ma)) (hb : PE X (.BoolOp .Or (b :: rest) pos) (tM X.K G W mb)) : PE X (.BoolOp .Or (a :: b :: rest) pos) (tM X.K G W (eOrV ma mb)) :=
  (pe_or ha hb).weak fun σ H Q ⟨ρ, S, E, rp, re, g⟩ => by
    refine ⟨ρ, S, E, rp, re, Go.mono (Go.bind g) ?_⟩
    rintro v H1 ⟨ρ1, S1, d, x1, r1, q1, g1⟩
    cases hd : asB d with
    | none => rw [hd] at g1; exact g1.elim
    | some k =>
      refine ⟨k, q1.bl_inv hd, ?_⟩
      rw [hd] at g1
      cases k with
      | true => rw [if_pos rfl]; exact Go.here (d := D.bl true) (R := RD X.K G) (S := S1) g1 r1 (.bl _)
      | false => rw [if_neg Bool.false_ne_true]; exact ⟨ρ1, S1, E, r1, RepE.ext x1 re, g1⟩
theorem pm_notV (ha : PE X a (tM X.K G W ma)) : PE X (.UnaryOp .Not a pos) (tM X.K G W (eNotV ma)) :=
  (pe_not ha).weak fun σ H Q ⟨ρ, S, E, rp, re, g⟩ => by
    refine ⟨ρ, S, E, rp, re, Go.mono (Go.bind g) ?_⟩
    rintro v H1 ⟨ρ1, S1, d, x1, r1, q1, g1⟩
    cases hd : asB d with
    | none => rw [hd] at g1; exact g1.elim
    | some k =>
      refine ⟨k, q1.bl_inv hd, ?_⟩
      rw [hd] at g1
      exact Go.here (d := D.bl (!k)) (R := RD X.K G) (S := S1) g1 r1 (.bl _)
/-! ### a cell given up -/
theorem pm_frz {i : Nat} {x : Str} (hN : X.N[i]? = some x) (hv : Vis X.env.scope x) (hd : (x == ("__debug__" : Str)) = false) (hcd : (x == ("__classdict__" : Str)) = false) : PE X (.Name x pos) (tM X.K G W (eFrz i)) :=
  (pe_frz (pe_var hN hv hd hcd)).weak fun σ H Q ⟨ρ, S, E, rp, re, g⟩ => by
    unfold eFrz at g
    cases hE : E[i]? with
    | none => rw [hE] at g; exact g.elim
    | some od =>
      rw [hE] at g
      cases od with
      | none => exact g.elim
      | some d =>
        cases d with
        | ref r =>
          dsimp only at g
          cases hS : S[r]? with
          | none => rw [hS] at g; exact g.elim
          | some o =>
            rw [hS] at g
            dsimp only at g
            cases hv : valOf o with
            | none => rw [hv] at g; exact g.elim
            | some d =>
              rw [hv] at g
              obtain ⟨v, h1, h2⟩ := re.2 i _ hE
              obtain ⟨a, u, rfl, ha, h3, m, rc⟩ := rp.at h2 hS (by intro z; subst z; cases hv)
              refine ⟨_, h1, a, u, rfl, h3, m, fun ob => ?_⟩
              have mu : Mut (H a) := by rw [h3]; exact m
              have x : Ext ρ H (ρ.set r none) (upd H a (.frz ob u)) := Ext.froze ha h3 m
              exact g (ρ.set r none) (.ref a) _ x (rp.froze ha h3 m) (RepV.ofC hv upd_same (RepC.ext x rc))
        | _ => exact g.elim
/-! ### list.append -/
theorem mt_appM : MtR X "list.append" (rmM X.K G fun o xs => match xs with | [d] => appM o d | _ => EM.fail) := by
  intro pins s σ H vx vs v us Q I r1 r2 ⟨ρ, S, o, xs, rp, q1, q2, g⟩
  dsimp only at g
  split at g
  · obtain ⟨w, rfl, q3⟩ := q2.one
    unfold appM at g
    split at g
    · rename_i r
      split at g
      · rename_i ys hS
        split at g
        · rename_i hl
          obtain ⟨a, u, rfl, ha, h1, m, us', rfl, h2⟩ := rp.at q1 hS (by intro z; cases z)
          refine mt_append pins s σ H _ _ v us Q I r1 r2 ⟨a, us', w, rfl, rfl, h1, by rw [← h2.length, sizeLine_eq]; exact hl, ?_⟩
          have x : Ext ρ H ρ (upd H a (.lst (us' ++ [w]))) := Ext.wrote ha h1 m
          exact g ρ _ _ x (rp.wrote ha h1 m trivial (.inr ⟨a, _, ha, upd_same, _, rfl, RepVs.ext x (h2.append (.cons q3 .nil))⟩)) .non
        · exact g.elim
      · exact g.elim
    · exact g.elim
  · exact g.elim
theorem noExc_app {o d : D} : NoExc (appM o d) := fun S c fs S' h => by
  unfold appM at h
  split at h
  · split at h
    · split at h <;> cases h
    · cases h
  · cases h
theorem pm_app {apos cpos : Pos} (ho : PE X o (tM X.K G W ma)) (he : PE X e (tM X.K G W mb)) (hbase : attributeBase o "append" X.env (eval o X.env) = eval o X.env) (hs : notStar e = true) (hline : (apos.endLine == cpos.line) = true) :
    PE X (.Call (.Attribute o "append" apos) [e] [] cpos) (tM X.K G W (eApp ma mb)) := by
  have hall : [e].all notStar = true := by simp [hs]
  refine PE.weak (pe_bm PySem.F.plainAttrs_list PySem.F.slot_list_append PySem.F.type_list_append (mt_appM (G := G)) ho (pa_consM (G := G) (W := W) he pa_nilM (star_cons hs [] X.env)) hbase ?_ hline (star_cons hs [] X.env) rfl) fun σ H Q ⟨ρ, S, E, rp, re, g⟩ => ?_
  · rw [star_few hall]; rfl
  · refine ⟨ρ, S, E, rp, re, Go.mono (Go.bind g) ?_⟩
    rintro v H1 ⟨ρ1, S1, d, x1, r1, q1, g1⟩
    unfold chkL EM.bind at g1
    dsimp only at g1
    cases hv : viewL S1 d with
    | none => rw [hv] at g1; exact g1.elim
    | some ys =>
      rw [hv] at g1
      obtain ⟨a, us, rfl, h1, h2⟩ := viewL_ok r1 q1 hv
      refine ⟨.inl ⟨rfl, us, .inl h1⟩, ρ1, S1, E, r1, RepE.ext x1 re, ?_⟩
      have g2 : Go X.K G (RD X.K G) W σ ρ1 H1 (EM.bind (mb E) (fun y => appM d y) S1) Q := g1
      unfold eCons
      cases hm : mb E S1 with
      | stuck => unfold EM.bind at g2 ⊢; rw [hm] at g2 ⊢; exact g2
      | exc c fs S2 => unfold EM.bind at g2 ⊢; rw [hm] at g2 ⊢; exact g2
      | ok y S2 =>
        unfold EM.bind at g2 ⊢
        rw [hm] at g2 ⊢
        intro ρ3 vs H3 x3 r3 q3
        exact ⟨ρ3, S2, d, [y], r3, RepV.ext x3 q1, q3, (Go.ext x3 g2).w0 noExc_app⟩
end

/-! ### isinstance with a built-in class -/
def tyS : Ty0 → String
  | .int => "int" | .bool => "bool" | .str => "str" | .list => "list" | .tuple => "tuple" | .dict => "dict"
theorem kit_tab : ∀ a t : Ty0, kitB (tyS a) (tyS t) = some (decide (t = a ∨ (a = .bool ∧ t = .int))) := by
  intro a t
  cases a <;> cases t <;> decide +kernel
theorem kit_non : ∀ t : Ty0, kitB "NoneType" (tyS t) = some false := by
  intro t
  cases t <;> decide +kernel
section
variable {K : PySem.W.Frag} {G : Cls} {ρ : List (Option Addr)} {S : List DO} {H : Hp}
theorem isTy_ok {t : Ty0} {d : D} {v : V} {b : Bool} (rp : Rep K G ρ S H) (q : RepV K G ρ H d v) (e : isTy S t d = some b) : ∃ u, TyX K H v u ∧ PySem.W.kitOne K u (.type (tyS t)) = some b := by
  cases q with
  | non => cases e; exact ⟨_, .base .non, kit_ty (kit_non t)⟩
  | bl k =>
    cases e
    refine ⟨_, .base (.bl _), kit_ty ?_⟩
    exact (kit_tab .bool t).trans (by cases t <;> rfl)
  | int i =>
    cases e
    refine ⟨_, .base (.int _), kit_ty ?_⟩
    exact (kit_tab .int t).trans (by cases t <;> rfl)
  | str i =>
    cases e
    refine ⟨_, .base (.str _), kit_ty ?_⟩
    exact (kit_tab .str t).trans (by cases t <;> rfl)
  | @tup xs a us h r =>
    cases e
    have hk : PySem.W.kitOne K (.type "tuple") (.type (tyS t)) = some (decide (t = .tuple)) := kit_ty ((kit_tab .tuple t).trans (by cases t <;> rfl))
    rcases h with (h | ⟨o, h⟩) | ⟨o, its, n, h1, h2, _⟩
    · exact ⟨_, .base (.tup h), hk⟩
    · exact ⟨_, .fTuple h, hk⟩
    · exact ⟨_, .kTuple h1 h2, hk⟩
  | @lst xs a us o h r =>
    cases e
    exact ⟨_, .base (.frz h), kit_ty ((kit_tab .list t).trans (by cases t <;> rfl))⟩
  | dct h r => cases t <;> cases e
  | ins h r => cases t <;> cases e
  | scr h => cases t <;> cases e
  | @ref r a x h q =>
    have e' : (match S[r]? with
      | some (DO.lst _) => some (decide (t = .list))
      | _ => none) = some b := by cases t <;> exact e
    split at e'
    · rename_i hS
      cases e'
      obtain ⟨a', u, ea, _, h1, _, us, rfl, _⟩ := rp.at (.ref h q) hS (by intro z; cases z)
      cases ea
      exact ⟨_, .base (.lst h1), kit_ty ((kit_tab .list t).trans (by cases t <;> rfl))⟩
    · cases e'
end
section
variable {X : Cx} {G : Cls} {W : L2.WX} {a : Expr} {ma : Env → EM D} {p p2 pos : Pos}
theorem boot_ty (t : Ty0) : bootBuiltins (tyN0 t) = some (.type (tyS t)) := by cases t <;> decide +kernel
theorem pm_isT (t : Ty0) (hg : Gl X "isinstance") (hm : X.mg "isinstance" = none) (hg2 : Gl X (tyN0 t)) (hm2 : X.mg (tyN0 t) = none) (ha : PE X a (tM X.K G W ma)) (hs : notStar a = true) :
    PE X (.Call (.Name "isinstance" p) [a, .Name (tyN0 t) p2] [] pos) (tM X.K G W (e1 (isTyM t) ma)) := by
  have hb : PE X (.Name (tyN0 t) p2) (tC (.ty (tyS t))) := pe_bltn hg2 hm2 (boot_ty t) rfl (by cases t <;> decide +kernel) (by cases t <;> decide +kernel)
  refine PE.weak (pe_callB call_isi hg hm boot_isinstance (pa_cons ha (pa_cons hb pa_nil) (star_cons hs _ _)) (by decide +kernel) (by decide +kernel) (star_cons hs _ _) rfl) fun σ H Q ⟨ρ, S, E, rp, re, g⟩ => ?_
  refine ⟨ρ, S, E, rp, re, Go.mono (Go.bind g) ?_⟩
  rintro v H1 ⟨ρ1, S1, d, x1, r1, q1, g1⟩
  unfold isTyM at g1
  cases hd : isTy S1 t d with
  | none => rw [hd] at g1; exact g1.elim
  | some b =>
    rw [hd] at g1
    obtain ⟨u, h1, h2⟩ := isTy_ok r1 q1 hd
    exact ⟨v, .ty (tyS t), u, _, b, rfl, .ty _, h1, h2, g1 ρ1 _ H1 (Ext.refl _ _) r1 (.bl _)⟩
end
end PK
namespace PK
open PySem PySem.Spec PyProof.Rows L2

structure Good (T : Tab) (v : Ev) (G : Cls) (n : Nat) (X : Cx) (W : L2.WX) (fn : Str → Bool) : Prop where
  tk : Takes X W
  po : PassesOwn (model X.prog X.w) X.A X.env X.xe
  calm : X.calm = true
  nd : X.N.Nodup
  room : Room n X.A
  fn : ∀ x, fn x = true → X.fn x = true
  free : ∀ x ∈ T.free, X.mg x = none
  cst : ∀ (g : Nat) p, T.cst[g]? = some p → v.cst g = some p.2 ∧ ∃ w u, X.mg p.1 = some u ∧ RelV w u ∧ ∀ ρ H, RepV X.K G ρ H p.2 w
  fns : ∀ (f : Nat) q, T.fns[f]? = some q → v.np f = q.2.1 ∧ v.dds f = q.2.2 ∧ ∃ a fd ps ds dvs, X.mg q.1 = some (.ref a) ∧ PySem.W.keepIn X.K (.ref a) = true ∧ Binds X.K fd ps ds ∧ Vals dvs ds ∧ (∀ ρ H, RepVs X.K G ρ H q.2.2 dvs) ∧
    FnOk X.prog X.w X.K X.mg X.base (L2.CX X.prog X.w) n a fd ps (spF X.K G q.2.1 (v.call f))
section
variable {T : Tab} {v : Ev} {G : Cls} {n : Nat} {X : Cx} {W : L2.WX} {fn : Str → Bool}
theorem Good.blk (g : Good T v G n X W fn) (s : Shared) (H : Hp) (scope : Scope) (cl : List (Str × Addr)) (C : Addr) (fp : List Addr) : Good T v G n (X.blk s H scope (compEnvC scope cl C X.env) fp) W0 (fun x => scope.names.lookup x == some .cell) where
  tk := fun u s' x => by
    obtain ⟨_, _, _, _, _, _, _, _, _, _, _, _, _, _, _, _, z⟩ := x
    exact z.elim
  po := PassesOwn.never
  calm := g.calm
  nd := g.nd
  room := g.room
  fn := fun x h => h
  free := g.free
  cst := g.cst
  fns := g.fns
theorem gl_of {x : Str} {sc : Scope} (e : X.env.scope = sc) (h : glB sc x = true) : Gl X x := by
  subst e
  have h' : decide (X.env.scope.names.lookup x = some .globalImplicit) = true := h
  have h2 := of_decide_eq_true h'
  exact h2
theorem blt_of {x : Str} {sc : Scope} (g : Good T v G n X W fn) (e : X.env.scope = sc) (h : bltB T sc x = true) : Gl X x ∧ X.mg x = none ∧ (x == ("__debug__" : Str)) = false ∧ x ≠ "__name__" := by
  simp only [bltB, Bool.and_eq_true, decide_eq_true_eq, Bool.not_eq_true'] at h
  exact ⟨gl_of e h.1.1.1, g.free x h.1.1.2, h.1.2, h.2⟩
theorem vis_of {x : Str} (h : visB X.env.scope x = true) : Vis X.env.scope x := by
  unfold visB at h
  split at h
  · exact .inl ‹_›
  · exact .inr (.inl ‹_›)
  · exact .inr (.inr ‹_›)
  · cases h
theorem loc_of {x : Str} (g : Good T v G n X W fn) (h : locB X.env.scope fn x = true) : Loc X.env.scope x ∧ (X.fn x = true ∨ X.env.scope.names.lookup x = some .local) := by
  unfold locB at h
  split at h
  · exact ⟨.inl ‹_›, .inr ‹_›⟩
  · exact ⟨.inr ‹_›, .inl (g.fn x h)⟩
  · cases h
mutual
theorem okG (g : Good T v G n X W fn) : ∀ (t : Tgt) (e : Expr), chkG X.N X.env.scope fn t e = true → PG X e (t.tg X.K)
  | .name i, e, h => by
    unfold chkG at h
    split at h
    · rename_i x hx
      obtain ⟨p, rfl⟩ := asName_eq hx
      simp only [Bool.and_eq_true, decide_eq_true_eq] at h
      obtain ⟨h1, h2⟩ := loc_of g h.2
      unfold Tgt.tg
      exact pg_name g.nd h.1 h1 h2
    · cases h
  | .tup ts, e, h => by
    unfold chkG at h
    split at h
    · rename_i es hx
      obtain ⟨j, p, rfl⟩ := asTuple_eq hx
      simp only [Bool.and_eq_true, decide_eq_true_eq] at h
      unfold Tgt.tg
      exact pg_tup g.calm (okGs g ts es h.2 h.1.2) ((tg_len es X.env).trans h.1.1) (tg_nostar X.env h.1.2)
    · cases h
theorem okGs (g : Good T v G n X W fn) : ∀ (t : Tgts) (es : List Expr), chkGs X.N X.env.scope fn t es = true → es.all notStar = true → PGs X es (t.tg X.K)
  | .nil, [], _, _ => by unfold Tgts.tg; exact pgs_nil
  | .nil, _ :: _, h, _ => by simp [chkGs] at h
  | .cons t ts, [], h, _ => by simp [chkGs] at h
  | .cons t ts, e :: es, h, hs => by
    simp only [chkGs, Bool.and_eq_true] at h
    simp only [List.all_cons, Bool.and_eq_true] at hs
    unfold Tgts.tg
    exact pgs_cons (okG g t e h.1) (okGs g ts es h.2 hs.2) (tg_cons hs.1 es X.env)
end
theorem bop_ok {o : BOp} {op : Operator} (h : bopB o op = true) : OpR X (binaryOp op) (r2M X.K G (bopM o)) ∧ ∀ x y, NoExc (bopM o x y) := by
  cases o <;> cases op <;> simp [bopB] at h
  · exact ⟨op_addM, fun _ _ => noExc_ofO⟩
  · exact ⟨op_subM, fun _ _ => noExc_ofO⟩
  · exact ⟨op_mulM, fun _ _ => noExc_ofO⟩
  · exact ⟨op_fdivM, fun _ _ => noExc_ofO⟩
  · exact ⟨op_modM, fun _ _ => noExc_ofO⟩
  · exact ⟨op_powM, fun _ _ => noExc_ofO⟩
theorem cop_ok (hu : X.A.units + 64 < cLine) {o : COp} {op : CmpOp} (h : copB o op = true) : OpR X (compareOp op) (r2M X.K G (copM o)) ∧ (∀ x y, NoExc (copM o x y)) ∧ ∀ b, behindInMarks op b = false := by
  cases o <;> cases op <;> simp [copB] at h
  · exact ⟨op_eqM hu, fun _ _ => noExc_eq, fun b => nomark b⟩
  · exact ⟨op_neM hu, fun _ _ => noExc_ne, fun b => nomark b⟩
  · exact ⟨op_ltM, fun _ _ => noExc_ofO, fun b => nomark b⟩
  · exact ⟨op_leM, fun _ _ => noExc_ofO, fun b => nomark b⟩
  · exact ⟨op_gtM, fun _ _ => noExc_ofO, fun b => nomark b⟩
  · exact ⟨op_geM, fun _ _ => noExc_ofO, fun b => nomark b⟩
  · exact ⟨op_isM, fun _ _ => noExc_ofO, fun b => nomark b⟩
  · exact ⟨op_isNotM, fun _ _ => noExc_ofO, fun b => nomark b⟩
end
theorem boot_bi (f : BI) : ∃ id, bootBuiltins (biN f) = some (.builtin id) ∧ (∀ {X : Cx} {G : Cls}, X.calm = true → CallR X (.builtin id) (rsM X.K G (biM f))) := by
  cases f
  · exact ⟨"len", boot_len, fun _ => cr_len⟩
  · exact ⟨"abs", boot_abs, fun _ => cr_abs⟩
  · exact ⟨"min", boot_min, fun h => cr_minM h⟩
  · exact ⟨"max", boot_max, fun h => cr_maxM h⟩
theorem noExc_bi (f : BI) (xs : List D) : NoExc (biM f xs) := by
  cases f
  · exact noExc_len
  · exact noExc_ofO
  · exact noExc_ofO
  · exact noExc_ofO
theorem boot_ti (f : TI0) : ∃ id, bootBuiltins (tyN f) = some (.type id) ∧ (∀ {X : Cx} {G : Cls}, CallR X (.type id) (rsM X.K G (tyM f))) := by
  cases f
  · exact ⟨"int", PyProof.Rows.boot_int, cr_int⟩
  · exact ⟨"str", PyProof.Rows.boot_str, cr_str⟩
  · exact ⟨"tuple", PyProof.Rows.boot_tuple, cr_tup⟩
theorem noExc_ti (f : TI0) (xs : List D) : NoExc (tyM f xs) := by
  cases f
  · exact noExc_ofO
  · exact noExc_ofO
  · exact noExc_tup

section
variable {T : Tab} {v : Ev} {G : Cls}
mutual
theorem okE : ∀ (ir : IE) {n : Nat} {X : Cx} {W : L2.WX} {fn : Str → Bool} (g : Good T v G n X W fn) (e : Expr), chkE T X.N ir X.env.scope e = true → PE X e (tM X.K G W (evE v ir))
  | .var i, n, X, W, fn, g, e, h => by
    unfold chkE at h
    split at h
    · rename_i x hx
      obtain ⟨p, rfl⟩ := asName_eq hx
      simp only [Bool.and_eq_true, decide_eq_true_eq, Bool.not_eq_true'] at h
      unfold evE
      exact pm_var h.1.1.1 (vis_of h.1.1.2) h.1.2 h.2
    · cases h
  | .frz i, n, X, W, fn, g, e, h => by
    unfold chkE at h
    split at h
    · rename_i x hx
      obtain ⟨p, rfl⟩ := asName_eq hx
      simp only [Bool.and_eq_true, decide_eq_true_eq, Bool.not_eq_true'] at h
      unfold evE
      exact pm_frz h.1.1.1 (vis_of h.1.1.2) h.1.2 h.2
    · cases h
  | .int i, n, X, W, fn, g, e, h => by
    unfold chkE at h
    obtain ⟨j, p, rfl⟩ := asInt_eq (of_decide_eq_true h)
    unfold evE
    exact pm_int
  | .bl i, n, X, W, fn, g, e, h => by
    unfold chkE at h
    obtain ⟨j, p, rfl⟩ := asBool_eq (of_decide_eq_true h)
    unfold evE
    exact pm_bl
  | .non, n, X, W, fn, g, e, h => by
    unfold chkE at h
    obtain ⟨j, p, rfl⟩ := isNone_eq h
    unfold evE
    exact pm_non
  | .str i, n, X, W, fn, g, e, h => by
    unfold chkE at h
    obtain ⟨j, p, rfl⟩ := asStr_eq (of_decide_eq_true h)
    unfold evE
    exact pm_str
  | .glo i, n, X, W, fn, g, e, h => by
    unfold chkE at h
    split at h
    · rename_i x p hx hp
      obtain ⟨q, rfl⟩ := asName_eq hx
      simp only [Bool.and_eq_true, decide_eq_true_eq, Bool.not_eq_true'] at h
      obtain ⟨h1, w, u, h2, h3, h4⟩ := g.cst i p hp
      unfold evE
      rw [h1]
      exact pm_c (pe_glob (gl_of rfl h.1.2) (by rw [h.1.1]; exact h2) h3 h.2) h4
    · cases h
  | .tup es, n, X, W, fn, g, e, h => by
    unfold chkE at h
    split at h
    · rename_i xs hx
      obtain ⟨j, p, rfl⟩ := asTuple_eq hx
      simp only [Bool.and_eq_true] at h
      unfold evE
      exact pm_tup (okEs es g xs h.2 h.1)
    · cases h
  | .new c, n, X, W, fn, g, e, h => by
    unfold chkE at h
    unfold evE
    exact pm_new (okC c g e h)
  | .box c, n, X, W, fn, g, e, h => by
    unfold chkE at h
    unfold evE
    exact pm_box (okC c g e h)
  | .bin o a b, n, X, W, fn, g, e, h => by
    unfold chkE at h
    split at h
    · rename_i x op y hx
      obtain ⟨p, rfl⟩ := asBin_eq hx
      simp only [Bool.and_eq_true] at h
      unfold evE
      obtain ⟨h1, h2⟩ := bop_ok (X := X) (G := G) h.1.1
      exact pm_op h1 h2 (okE a g x h.1.2) (okE b g y h.2)
    · cases h
  | .neg a, n, X, W, fn, g, e, h => by
    unfold chkE at h
    split at h
    · rename_i x hx
      obtain ⟨p, rfl⟩ := asUn_eq hx
      unfold evE
      exact pm_un un_negM (fun _ => noExc_ofO) (okE a g x h)
    · cases h
  | .cmp o a b, n, X, W, fn, g, e, h => by
    unfold chkE at h
    split at h
    · rename_i x op y hx
      obtain ⟨p, rfl⟩ := asCmp_eq hx
      simp only [Bool.and_eq_true] at h
      unfold evE
      obtain ⟨h1, h2, h3⟩ := cop_ok (X := X) (G := G) g.room.units h.1.1
      exact pm_cmp h1 h2 (okE a g x h.1.2) (okE b g y h.2) (h3 _)
    · cases h
  | .ife t a b, n, X, W, fn, g, e, h => by
    unfold chkE at h
    split at h
    · rename_i c x y hx
      obtain ⟨p, rfl⟩ := asIfe_eq hx
      simp only [Bool.and_eq_true] at h
      unfold evE
      exact pm_ife (okT t g c h.1.1) (okE a g x h.1.2) (okE b g y h.2)
    · cases h
  | .andV a b, n, X, W, fn, g, e, h => by
    unfold chkE at h
    split at h
    · rename_i x y r p hx
      have := asAnd_eq hx
      subst this
      simp only [Bool.and_eq_true] at h
      unfold evE
      exact pm_andV (okE a g x h.1) (okE b g _ h.2)
    · cases h
  | .andV1 a, n, X, W, fn, g, e, h => by
    unfold chkE at h
    split at h
    · rename_i x p hx
      have := asAnd_eq hx
      subst this
      unfold evE
      exact pe_one (okE a g x h)
    · cases h
  | .orV a b, n, X, W, fn, g, e, h => by
    unfold chkE at h
    split at h
    · rename_i x y r p hx
      have := asOr_eq hx
      subst this
      simp only [Bool.and_eq_true] at h
      unfold evE
      exact pm_orV (okE a g x h.1) (okE b g _ h.2)
    · cases h
  | .orV1 a, n, X, W, fn, g, e, h => by
    unfold chkE at h
    split at h
    · rename_i x p hx
      have := asOr_eq hx
      subst this
      unfold evE
      exact pe_one (okE a g x h)
    · cases h
  | .notV a, n, X, W, fn, g, e, h => by
    unfold chkE at h
    split at h
    · rename_i x hx
      obtain ⟨p, rfl⟩ := asUn_eq hx
      unfold evE
      exact pm_notV (okE a g x h)
    · cases h
  | .idx a b, n, X, W, fn, g, e, h => by
    unfold chkE at h
    split at h
    · rename_i x y hx
      obtain ⟨p, rfl⟩ := asSub_eq hx
      simp only [Bool.and_eq_true] at h
      unfold evE
      exact pm_ix ix_M (fun _ _ => noExc_idx) (okE a g x h.1.2) (okE b g y h.2) (plainIx h.1.1)
    · cases h
  | .cut a lo hi, n, X, W, fn, g, e, h => by
    unfold chkE at h
    split at h
    · rename_i x y hx
      obtain ⟨p, rfl⟩ := asSub_eq hx
      split at h
      · rename_i l u hy
        obtain ⟨p2, rfl⟩ := asSlice_eq hy
        simp only [Bool.and_eq_true] at h
        unfold evE
        exact pm_cut (okE a g x h.1.1) (okO lo g l h.1.2) (okO hi g u h.2)
      · cases h
    · cases h
  | .bi f a as, n, X, W, fn, g, e, h => by
    unfold chkE at h
    split at h
    · rename_i x y ys hx
      obtain ⟨p, q, rfl⟩ := asCall_eq hx
      simp only [Bool.and_eq_true, decide_eq_true_eq] at h
      obtain ⟨⟨⟨⟨hn, hb⟩, hs⟩, ha⟩, has⟩ := h
      obtain ⟨h1, h2, h3, h4⟩ := blt_of g rfl hb
      obtain ⟨id, b1, b2⟩ := boot_bi f
      subst hn
      have hs' : notStar y = true ∧ ys.all notStar = true := by simpa [List.all_cons] using hs
      unfold evE
      exact pm_callB (b2 g.calm) (noExc_bi f) h1 h2 b1 (pa_consM (okE a g y ha) (okEs as g ys has hs'.2) (star_cons hs'.1 ys X.env)) h4 h3 (star_cons hs'.1 ys X.env) (star_any hs'.2)
    · cases h
  | .ty f a as, n, X, W, fn, g, e, h => by
    unfold chkE at h
    split at h
    · rename_i x y ys hx
      obtain ⟨p, q, rfl⟩ := asCall_eq hx
      simp only [Bool.and_eq_true, decide_eq_true_eq] at h
      obtain ⟨⟨⟨⟨hn, hb⟩, hs⟩, ha⟩, has⟩ := h
      obtain ⟨h1, h2, h3, h4⟩ := blt_of g rfl hb
      obtain ⟨id, b1, b2⟩ := boot_ti f
      subst hn
      have hs' : notStar y = true ∧ ys.all notStar = true := by simpa [List.all_cons] using hs
      unfold evE
      exact pm_callTy b2 (noExc_ti f) h1 h2 b1 (pa_consM (okE a g y ha) (okEs as g ys has hs'.2) (star_cons hs'.1 ys X.env)) h4 h3 (star_cons hs'.1 ys X.env) (star_any hs'.2)
    · cases h
  | .isT t a, n, X, W, fn, g, e, h => by
    unfold chkE at h
    split at h
    · rename_i x y z hx
      obtain ⟨p, q, rfl⟩ := asCall_eq hx
      simp only [Bool.and_eq_true, decide_eq_true_eq] at h
      obtain ⟨⟨⟨⟨hn, hb⟩, hs⟩, ha⟩, hz⟩ := h
      split at hz
      · rename_i u hu
        obtain ⟨p2, rfl⟩ := asName_eq hu
        simp only [Bool.and_eq_true, decide_eq_true_eq] at hz
        obtain ⟨h1, h2, h3, h4⟩ := blt_of g rfl hb
        obtain ⟨k1, k2, k3, k4⟩ := blt_of g rfl hz.2
        have hs' : notStar y = true := by simp [List.all_cons] at hs; exact hs.1
        obtain ⟨hz1, _⟩ := hz
        subst hn hz1
        unfold evE
        exact pm_isT t h1 h2 k1 k2 (okE a g y ha) hs'
      · cases hz
    · cases h
  | .call pu f a as, n, X, W, fn, g, e, h => by
    unfold chkE at h
    split at h
    · rename_i x y ys q hx hq
      obtain ⟨p, p2, rfl⟩ := asCall_eq hx
      simp only [Bool.and_eq_true, decide_eq_true_eq, Bool.not_eq_true'] at h
      obtain ⟨⟨⟨⟨⟨hn, hb⟩, hd⟩, hs⟩, ha⟩, has⟩ := h
      obtain ⟨f1, f2, ad, fd, ps, ds, dvs, f3, f4, f5, f6, f7, f8⟩ := g.fns f q hq
      have hs' : notStar y = true ∧ ys.all notStar = true := by simpa [List.all_cons] using hs
      unfold evE
      rw [f1, f2]
      exact pm_call pu f8 g.room g.tk (gl_of rfl hb) (by rw [hn]; exact f3) f4 f5 f6 f7 (pa_consM (okE a g y ha) (okEs as g ys has hs'.2) (star_cons hs'.1 ys X.env)) hd (star_cons hs'.1 ys X.env) (star_any hs'.2)
    · cases h
  | .app o a, n, X, W, fn, g, e, h => by
    unfold chkE at h
    split at h
    · rename_i x m y hx
      obtain ⟨ap, cp, rfl, hl⟩ := asMeth_eq hx
      simp only [Bool.and_eq_true, decide_eq_true_eq] at h
      obtain ⟨⟨⟨⟨hn, hb⟩, hs⟩, ho⟩, ha⟩ := h
      subst hn
      unfold evE
      exact pm_app (okE o g x ho) (okE a g y ha) (base_eq hb _ _ _) hs hl
    · cases h
theorem okT : ∀ (ir : IT) {n : Nat} {X : Cx} {W : L2.WX} {fn : Str → Bool} (g : Good T v G n X W fn) (e : Expr), chkT T X.N ir X.env.scope e = true → PT X e (tT X.K G W (evT v ir))
  | .val a, n, X, W, fn, g, e, h => by
    unfold chkT at h
    simp only [Bool.and_eq_true] at h
    unfold evT
    exact pt_valM (okE a g e h.2) (plainTest_eq h.1 X.env)
  | .cmp o a b, n, X, W, fn, g, e, h => by
    unfold chkT at h
    split at h
    · rename_i x op y hx
      obtain ⟨p, rfl⟩ := asCmp_eq hx
      simp only [Bool.and_eq_true] at h
      unfold evT
      obtain ⟨h1, h2, h3⟩ := cop_ok (X := X) (G := G) g.room.units h.1.1
      exact pt_cmpM h1 h2 (okE a g x h.1.2) (okE b g y h.2) (h3 _)
    · cases h
  | .not a, n, X, W, fn, g, e, h => by
    unfold chkT at h
    split at h
    · rename_i x hx
      obtain ⟨p, rfl⟩ := asUn_eq hx
      unfold evT
      exact pt_notM (okT a g x h)
    · cases h
  | .and a b, n, X, W, fn, g, e, h => by
    unfold chkT at h
    split at h
    · rename_i x y r p hx
      have := asAnd_eq hx
      subst this
      simp only [Bool.and_eq_true] at h
      unfold evT
      exact (pw_andM (okT a g x h.1) (okW b g _ h.2 ⟨_, _, _, rfl⟩)).pt
    · cases h
  | .and1 a, n, X, W, fn, g, e, h => by
    unfold chkT at h
    split at h
    · rename_i x p hx
      have := asAnd_eq hx
      subst this
      unfold evT
      exact (pw_and1M (okT a g x h)).pt
    · cases h
  | .or a b, n, X, W, fn, g, e, h => by
    unfold chkT at h
    split at h
    · rename_i x y r p hx
      have := asOr_eq hx
      subst this
      simp only [Bool.and_eq_true] at h
      unfold evT
      exact (pw_orM (okT a g x h.1) (okW b g _ h.2 ⟨_, _, _, rfl⟩)).pt
    · cases h
  | .or1 a, n, X, W, fn, g, e, h => by
    unfold chkT at h
    split at h
    · rename_i x p hx
      have := asOr_eq hx
      subst this
      unfold evT
      exact (pw_or1M (okT a g x h)).pt
    · cases h
theorem okW : ∀ (ir : IT) {n : Nat} {X : Cx} {W : L2.WX} {fn : Str → Bool} (g : Good T v G n X W fn) (e : Expr), chkT T X.N ir X.env.scope e = true → (∃ o es p, e = .BoolOp o es p) → PW X e (tT X.K G W (evT v ir))
  | .val a, n, X, W, fn, g, e, h, hb => by
    obtain ⟨o, es, p, rfl⟩ := hb
    unfold chkT at h
    simp [plainTest] at h
  | .cmp o a b, n, X, W, fn, g, e, h, hb => by
    obtain ⟨o, es, p, rfl⟩ := hb
    unfold chkT at h
    simp [asCmp] at h
  | .not a, n, X, W, fn, g, e, h, hb => by
    obtain ⟨o, es, p, rfl⟩ := hb
    unfold chkT at h
    simp [asUn] at h
  | .and a b, n, X, W, fn, g, e, h, hb => by
    unfold chkT at h
    split at h
    · rename_i x y r p hx
      have := asAnd_eq hx
      subst this
      simp only [Bool.and_eq_true] at h
      unfold evT
      exact pw_andM (okT a g x h.1) (okW b g _ h.2 ⟨_, _, _, rfl⟩)
    · cases h
  | .and1 a, n, X, W, fn, g, e, h, hb => by
    unfold chkT at h
    split at h
    · rename_i x p hx
      have := asAnd_eq hx
      subst this
      unfold evT
      exact pw_and1M (okT a g x h)
    · cases h
  | .or a b, n, X, W, fn, g, e, h, hb => by
    unfold chkT at h
    split at h
    · rename_i x y r p hx
      have := asOr_eq hx
      subst this
      simp only [Bool.and_eq_true] at h
      unfold evT
      exact pw_orM (okT a g x h.1) (okW b g _ h.2 ⟨_, _, _, rfl⟩)
    · cases h
  | .or1 a, n, X, W, fn, g, e, h, hb => by
    unfold chkT at h
    split at h
    · rename_i x p hx
      have := asOr_eq hx
      subst this
      unfold evT
      exact pw_or1M (okT a g x h)
    · cases h
theorem okO : ∀ (ir : IO) {n : Nat} {X : Cx} {W : L2.WX} {fn : Str → Bool} (g : Good T v G n X W fn) (e : Option Expr), chkO T X.N ir X.env.scope e = true → PO X e (tO X.K G W (evO v ir))
  | .none, n, X, W, fn, g, none, h => by unfold evO; exact po_noneM
  | .none, n, X, W, fn, g, some e, h => by simp [chkO] at h
  | .some a, n, X, W, fn, g, none, h => by simp [chkO] at h
  | .some a, n, X, W, fn, g, some e, h => by
    unfold chkO at h
    unfold evO
    exact po_someM (okE a g e h)
theorem okEs : ∀ (ir : IEs) {n : Nat} {X : Cx} {W : L2.WX} {fn : Str → Bool} (g : Good T v G n X W fn) (es : List Expr), chkEs T X.N ir X.env.scope es = true → es.all notStar = true → PA X es (tA X.K G W (evEs v ir))
  | .nil, n, X, W, fn, g, [], h, hs => by unfold evEs; exact pa_nilM
  | .nil, n, X, W, fn, g, _ :: _, h, hs => by simp [chkEs] at h
  | .cons a as, n, X, W, fn, g, [], h, hs => by simp [chkEs] at h
  | .cons a as, n, X, W, fn, g, e :: es, h, hs => by
    simp only [chkEs, Bool.and_eq_true] at h
    simp only [List.all_cons, Bool.and_eq_true] at hs
    unfold evEs
    exact pa_consM (okE a g e h.1) (okEs as g es h.2 hs.2) (star_cons hs.1 es X.env)
theorem okC : ∀ (ir : IC) {n : Nat} {X : Cx} {W : L2.WX} {fn : Str → Bool} (g : Good T v G n X W fn) (e : Expr), chkC T X.N ir X.env.scope e = true → PE X e (tF X.K G W (evC v ir))
  | .lst es, n, X, W, fn, g, e, h => by
    unfold chkC at h
    split at h
    · rename_i xs hx
      obtain ⟨p, rfl⟩ := asList_eq hx
      simp only [Bool.and_eq_true] at h
      unfold evC
      exact pf_lst (okEs es g xs h.2 h.1)
    · cases h
  | .cat a b, n, X, W, fn, g, e, h => by
    unfold chkC at h
    split at h
    · rename_i x y hx
      obtain ⟨p, rfl⟩ := asBin_eq hx
      simp only [Bool.and_eq_true] at h
      unfold evC
      exact pf_op op_catF (fun _ _ => noExc_cat) (okE a g x h.1) (okE b g y h.2)
    · cases h
  | .rep a b, n, X, W, fn, g, e, h => by
    unfold chkC at h
    split at h
    · rename_i x y hx
      obtain ⟨p, rfl⟩ := asBin_eq hx
      simp only [Bool.and_eq_true] at h
      unfold evC
      exact pf_rep (okC a g x h.1) (okE b g y h.2)
    · cases h
  | .cut a lo hi, n, X, W, fn, g, e, h => by
    unfold chkC at h
    split at h
    · rename_i x y hx
      obtain ⟨p, rfl⟩ := asSub_eq hx
      split at h
      · rename_i l u hy
        obtain ⟨p2, rfl⟩ := asSlice_eq hy
        simp only [Bool.and_eq_true] at h
        unfold evC
        exact pf_cut (okE a g x h.1.1) (okO lo g l h.1.2) (okO hi g u h.2)
      · cases h
    · cases h
  | .list a, n, X, W, fn, g, e, h => by
    unfold chkC at h
    split at h
    · rename_i x y hx
      obtain ⟨p, q, rfl⟩ := asCall_eq hx
      simp only [Bool.and_eq_true, decide_eq_true_eq] at h
      obtain ⟨⟨⟨hn, hb⟩, hs⟩, ha⟩ := h
      obtain ⟨h1, h2, h3, h4⟩ := blt_of g rfl hb
      subst hn
      unfold evC
      exact pf_callTy cr_listF (fun _ => noExc_list) h1 h2 PyProof.Rows.boot_list (pa_consM (okE a g y ha) pa_nilM (star_cons hs [] X.env)) h4 h3 (star_cons hs [] X.env) rfl
    · cases h
  | .lc it t own c m, n, X, W, fn, g, e, h => by
    unfold chkC at h
    split at h
    · rename_i elt tg iter ifs scope p hx
      have := asLc_eq hx
      subst this
      simp only [Bool.and_eq_true, List.all_eq_true, decide_eq_true_eq] at h
      obtain ⟨⟨⟨⟨⟨⟨h1, h2⟩, h3⟩, h4⟩, h5⟩, h6⟩, h7⟩ := h
      unfold evC
      exact pf_lc g.calm g.nd (okI it g tg iter h4) (blkOk_by h1) h2 (fun s H C cl fp => okG (g.blk s H scope cl C fp) t tg h5) (fun s H C cl fp => okTo c (g.blk s H scope cl C fp) ifs h6) (fun s H C cl fp => okE m (g.blk s H scope cl C fp) elt h7) (folded_no h3 X.env)
    · cases h
theorem okTo : ∀ (ir : ITo) {n : Nat} {X : Cx} {W : L2.WX} {fn : Str → Bool} (g : Good T v G n X W fn) (es : List Expr), chkTo T X.N ir X.env.scope es = true → PTs X es (tT X.K G W (evTo v ir))
  | .none, n, X, W, fn, g, [], h => by unfold evTo; exact pts_nilM
  | .none, n, X, W, fn, g, _ :: _, h => by simp [chkTo] at h
  | .some t, n, X, W, fn, g, [e], h => by
    unfold chkTo at h
    unfold evTo
    exact pts_oneM (okT t g e h)
  | .some t, n, X, W, fn, g, [], h => by simp [chkTo] at h
  | .some t, n, X, W, fn, g, _ :: _ :: _, h => by simp [chkTo] at h
theorem okI : ∀ (ir : II) {n : Nat} {X : Cx} {W : L2.WX} {fn : Str → Bool} (g : Good T v G n X W fn) (tg e : Expr), chkI T X.N ir X.env.scope tg e = true → PI X tg e (tI X.K G W (evI v ir))
  | .seq a, n, X, W, fn, g, tg, e, h => by
    unfold chkI at h
    unfold evI
    exact pi_seqM (okE a g e h)
  | .rng1 a, n, X, W, fn, g, tg, e, h => by
    unfold chkI at h
    split at h
    · rename_i x y hx
      obtain ⟨p, q, rfl⟩ := asCall_eq hx
      simp only [Bool.and_eq_true, decide_eq_true_eq] at h
      obtain ⟨⟨⟨hn, hb⟩, hs⟩, ha⟩ := h
      obtain ⟨h1, h2, h3, h4⟩ := blt_of g rfl hb
      subst hn
      unfold evI
      exact pi_rng1M h1 h2 (pa_consM (okE a g y ha) pa_nilM (star_cons hs [] X.env)) (star_cons hs [] X.env)
    · cases h
  | .rng2 a b, n, X, W, fn, g, tg, e, h => by
    unfold chkI at h
    split at h
    · rename_i x y z hx
      obtain ⟨p, q, rfl⟩ := asCall_eq hx
      simp only [Bool.and_eq_true, decide_eq_true_eq] at h
      obtain ⟨⟨⟨⟨⟨hn, hb⟩, hs⟩, hs2⟩, ha⟩, hb'⟩ := h
      obtain ⟨h1, h2, h3, h4⟩ := blt_of g rfl hb
      subst hn
      unfold evI
      have e2 := star_cons hs2 [] X.env
      exact pi_rng2M h1 h2 (pa_consM (okE a g y ha) (pa_consM (okE b g z hb') pa_nilM e2) (star_cons hs [z] X.env)) ((star_cons hs [z] X.env).trans (by rw [e2]; rfl)) e2
    · cases h
  | .revr a, n, X, W, fn, g, tg, e, h => by
    unfold chkI at h
    split at h
    · rename_i x y hx
      obtain ⟨p, q, rfl⟩ := asCall_eq hx
      simp only [Bool.and_eq_true, decide_eq_true_eq] at h
      obtain ⟨⟨hn, hb⟩, hy⟩ := h
      split at hy
      · rename_i u z hu
        obtain ⟨p2, q2, rfl⟩ := asCall_eq hu
        simp only [Bool.and_eq_true, decide_eq_true_eq] at hy
        obtain ⟨⟨⟨hn2, hb2⟩, hs⟩, ha⟩ := hy
        obtain ⟨h1, h2, h3, h4⟩ := blt_of g rfl hb
        obtain ⟨k1, k2, k3, k4⟩ := blt_of g rfl hb2
        subst hn hn2
        unfold evI
        exact pi_revRM h1 h2 k1 k2 (okE a g z ha) (star_cons hs [] X.env)
      · cases hy
    · cases h
  | .rev a, n, X, W, fn, g, tg, e, h => by
    unfold chkI at h
    split at h
    · rename_i x y hx
      obtain ⟨p, q, rfl⟩ := asCall_eq hx
      simp only [Bool.and_eq_true, decide_eq_true_eq] at h
      obtain ⟨⟨⟨hn, hb⟩, hs⟩, ha⟩ := h
      obtain ⟨h1, h2, h3, h4⟩ := blt_of g rfl hb
      subst hn
      unfold evI
      exact pi_revM h1 h2 (okE a g y ha) (star_cons hs [] X.env)
    · cases h
  | .zip a b, n, X, W, fn, g, tg, e, h => by
    unfold chkI at h
    simp only [Bool.and_eq_true] at h
    obtain ⟨ht, h⟩ := h
    obtain ⟨tes, ht⟩ := Option.isSome_iff_exists.mp ht
    obtain ⟨tk, tp, rfl⟩ := asTuple_eq ht
    split at h
    · rename_i x y z hx
      obtain ⟨p, q, rfl⟩ := asCall_eq hx
      simp only [Bool.and_eq_true, decide_eq_true_eq] at h
      obtain ⟨⟨⟨⟨⟨hn, hb⟩, hs⟩, hs2⟩, ha⟩, hb'⟩ := h
      obtain ⟨h1, h2, h3, h4⟩ := blt_of g rfl hb
      subst hn
      unfold evI
      have e2 := star_cons hs2 [] X.env
      exact pi_zipM h1 h2 (pa_consM (okE a g y ha) (pa_consM (okE b g z hb') pa_nilM e2) (star_cons hs [z] X.env)) (star_cons hs [z] X.env) (star_any (by simp [hs2]))
    · cases h
  | .enum a, n, X, W, fn, g, tg, e, h => by
    unfold chkI at h
    simp only [Bool.and_eq_true] at h
    obtain ⟨ht, h⟩ := h
    obtain ⟨tes, ht⟩ := Option.isSome_iff_exists.mp ht
    obtain ⟨tk, tp, rfl⟩ := asTuple_eq ht
    split at h
    · rename_i x y hx
      obtain ⟨p, q, rfl⟩ := asCall_eq hx
      simp only [Bool.and_eq_true, decide_eq_true_eq] at h
      obtain ⟨⟨⟨hn, hb⟩, hs⟩, ha⟩ := h
      obtain ⟨h1, h2, h3, h4⟩ := blt_of g rfl hb
      subst hn
      unfold evI
      exact pi_enumM h1 h2 (pa_consM (okE a g y ha) pa_nilM (star_cons hs [] X.env)) (star_cons hs [] X.env)
    · cases h
end
end
end PK
namespace PK
open PySem PySem.Spec PyProof.Rows L2
section
variable {X : Cx} {G : Cls} {W : L2.WX} {m : Env → EM DO}
/-- behind a statement a new object is known -/
theorem ps_frzN {st : Stmt} {t : TS} (h : PS X st t) : PS X st (fun D σ H => t { D with nx := fun σ' H1 => ∃ a u, H1 a = some u ∧ Mut (some u) ∧ ∀ ob, D.nx σ' (upd H1 a (.frz ob u)) } σ H) := by
  refine ⟨fun pins s σ H D I q => ?_⟩
  refine thn (h.run pins s σ H _ I q) ?_
  intro f s1 hf
  cases f with
  | next =>
    obtain ⟨σ', H', I', a, u, h1, m, k⟩ := hf
    obtain ⟨ob, I2⟩ := freeze I' h1 m
    exact ⟨σ', _, I2, k ob⟩
  | brk => exact hf
  | cont => exact hf
  | ret v => exact hf
theorem sNew_of {i : Nat} {D : Ends} {σ : L2.St} {H : Hp} (h : tS X.K G W (sAsg (eNew m) (mName i)) D σ H) : tF X.K G W m σ H fun v H1 => ∃ a u, H1 a = some u ∧ Mut (some u) ∧ ∀ ob, D.nx (σ.set i (some v)) (upd H1 a (.frz ob u)) := by
  obtain ⟨ρ, S, E, rp, re, g⟩ := h
  refine ⟨ρ, S, E, rp, re, ?_⟩
  unfold sAsg sOf eNew EM.bind at g
  cases hm : m E S with
  | stuck => rw [hm] at g; exact g
  | exc c fs S' => rw [hm] at g; exact fun ρ1 H1 od x1 r1 z => g ρ1 σ H1 od x1 r1 (RepE.ext x1 re) z
  | ok o S' =>
    rw [hm] at g
    intro ρ' p u H' x' r' hp n h' mu rc
    dsimp only at g
    cases hv : valOf o with
    | none => rw [hv] at g; exact g.elim
    | some d =>
      rw [hv] at g
      refine ⟨p, u, h', mu, fun ob => ?_⟩
      have mu' : Mut (H' p) := by rw [h']; exact mu
      have x2 := x'.known (o := HO.frz ob u) hp n h' mu
      exact g ρ' _ _ x2 (r'.turn mu' n) ((RepE.ext x2 re).set (RepV.ofC hv upd_same (RepC.turn mu' rc)))
theorem sBox_of {i : Nat} {D : Ends} {σ : L2.St} {H : Hp} (h : tS X.K G W (sAsg (eBox m) (mName i)) D σ H) : tF X.K G W m σ H fun v H1 => D.nx (σ.set i (some v)) H1 := by
  obtain ⟨ρ, S, E, rp, re, g⟩ := h
  refine ⟨ρ, S, E, rp, re, ?_⟩
  unfold sAsg sOf eBox at g
  cases hm : m E S with
  | stuck => rw [hm] at g; exact g
  | exc c fs S' => rw [hm] at g; exact fun ρ1 H1 od x1 r1 z => g ρ1 σ H1 od x1 r1 (RepE.ext x1 re) z
  | ok o S' =>
    rw [hm] at g
    intro ρ' p u H' x' r' hp n h' mu rc
    have x2 := x'.taken hp
    exact g (ρ' ++ [some p]) _ H' x2 (r'.take n h' mu rc) ((RepE.ext x2 re).set (.ref (x := some p) (by rw [← r'.len]; simp) (.inr rfl)))
end
section
variable {T : Tab} {v : Ev} {G : Cls}
theorem asPlain_1 {s : Stmt} (h : asPlain s = 1) : ∃ p, s = .Pass p := by
  unfold asPlain at h
  split at h <;> first | exact ⟨_, rfl⟩ | (exact absurd h (by decide))
theorem asPlain_2 {s : Stmt} (h : asPlain s = 2) : ∃ p, s = .Break p := by
  unfold asPlain at h
  split at h <;> first | exact ⟨_, rfl⟩ | (exact absurd h (by decide))
theorem asPlain_3 {s : Stmt} (h : asPlain s = 3) : ∃ p, s = .Continue p := by
  unfold asPlain at h
  split at h <;> first | exact ⟨_, rfl⟩ | (exact absurd h (by decide))
theorem asPlain_4 {s : Stmt} (h : asPlain s = 4) : ∃ x j p q, s = .Expr (.Constant (.str x) j p) q := by
  unfold asPlain at h
  split at h <;> first | exact ⟨_, _, _, _, rfl⟩ | (exact absurd h (by decide))
/-- name = [..] of the text -/
theorem ok_lcS {n : Nat} {X : Cx} {W : L2.WX} (g : Good T v G n X W fun _ => true) (ic : IC) {i : Nat} {x : Str} {t e : Expr} {p : Pos} (hx : asName t = some x) (hi : X.N[i]? = some x) (hl : chkLcS X.env.scope x t e = true) (hc : chkC T X.N ic X.env.scope e = true) :
    ∃ tf : TE, PS X (.Assign [t] e p) (tAsg tf (gName i)) ∧ ∀ σ H Q, tF X.K G W (evC v ic) σ H Q → tf σ H Q := by
  obtain ⟨p1, rfl⟩ := asName_eq hx
  unfold chkLcS at hl
  split at hl
  · rename_i elt tg iter ifs scope p2 y py hlc hy
    cases hy
    have := asLc_eq hlc
    subst this
    simp only [Bool.and_eq_true, decide_eq_true_eq, beq_iff_eq] at hl
    obtain ⟨⟨⟨h1, h2⟩, h3⟩, h4⟩ := hl
    cases ic with
    | lc it t own c m =>
      unfold chkC at hc
      split at hc
      · rename_i elt' tg' iter' ifs' scope' p' hx'
        cases hx'
        simp only [Bool.and_eq_true, List.all_eq_true, decide_eq_true_eq] at hc
        obtain ⟨⟨⟨⟨⟨⟨k1, k2⟩, k3⟩, k4⟩, k5⟩, k6⟩, k7⟩ := hc
        refine ⟨tLc (tI X.K G W (evI v it)) (t.tg X.K) (tT X.K G W0 (evTo v c)) (tM X.K G W0 (evE v m)) (own.map (·.2)), ps_setLc g.calm g.nd hi h2 (sw_true h1 h2 (by rw [h3]; exact beq_self_eq_true _) h4) (okI it g tg iter k4) (blkOk_by k1) (fun s H C cl fp => okG (g.blk s H scope cl C fp) t tg k5) (fun s H C cl fp => okTo c (g.blk s H scope cl C fp) ifs k6) (fun s H C cl fp => okE m (g.blk s H scope cl C fp) elt k7) (folded_no k3 X.env), fun σ H Q h => ?_⟩
        unfold evC at h
        exact tLc_of k2 h
      · cases hc
    | _ => simp [chkC, asList, asBin, asSub, asCall] at hc
  · cases hl
mutual
theorem okS {n : Nat} {X : Cx} {W : L2.WX} (g : Good T v G n X W fun _ => true) : ∀ (ir : IS) (s : Stmt), chkS T X.N X.env.scope ir s = true → PS X s (tS X.K G W (evS v ir))
  | .set i a, s, h => by
    unfold chkS at h
    split at h
    · rename_i t e hs
      obtain ⟨p, rfl⟩ := asAsg_eq hs
      split at h
      · rename_i x hx
        obtain ⟨p2, rfl⟩ := asName_eq hx
        simp only [Bool.and_eq_true, decide_eq_true_eq] at h
        obtain ⟨⟨⟨h1, h2⟩, h3⟩, h4⟩ := h
        obtain ⟨k1, k2⟩ := loc_of g h2
        unfold evS
        refine ps_setM g.nd h1 k1 (okE a g e h4) ?_ k2
        rcases Bool.or_eq_true_iff.mp h3 with h3 | h3
        · exact swaps_no h3 _ _ _
        · exact swaps_cell h3 _
      · cases h
    · cases h
  | .tup t a, s, h => by
    unfold chkS at h
    split at h
    · rename_i tg e hs
      obtain ⟨p, rfl⟩ := asAsg_eq hs
      simp only [Bool.and_eq_true] at h
      obtain ⟨⟨⟨⟨h1, h2⟩, h3⟩, h4⟩, h5⟩ := h
      unfold evS
      exact ps_asgM (okE a g e h5) (pg_tgt (okG g t tg h4)) (swaps_no h1 _ _ _) (stores_no h2 _) (each_one h3 _)
    · cases h
  | .sub o i a, s, h => by
    unfold chkS at h
    split at h
    · rename_i tg e hs
      obtain ⟨p, rfl⟩ := asAsg_eq hs
      split at h
      · rename_i u w hx
        obtain ⟨p2, rfl⟩ := asSub_eq hx
        simp only [Bool.and_eq_true] at h
        obtain ⟨⟨⟨⟨⟨h1, h2⟩, h3⟩, h4⟩, h5⟩, h6⟩ := h
        unfold evS
        exact ps_asgM (okE a g e h6) (pg_subM (okE o g u h4) (okE i g w h5) (assign_sub h3 X.env)) (show swapsWith e (some (.Subscript u w p2)) p.line X.env = pure false from swaps_no h1 _ _ _) (stores_no h2 _) (each_one rfl _)
      · cases h
    · cases h
  | .setC i c, s, h => by
    unfold chkS at h
    split at h
    · rename_i t e hs
      obtain ⟨p, rfl⟩ := asAsg_eq hs
      split at h
      · rename_i x hx
        simp only [Bool.and_eq_true, decide_eq_true_eq] at h
        obtain ⟨tf, q1, q2⟩ := ok_lcS (G := G) (p := p) g c hx h.1.1 h.1.2 h.2
        unfold evS
        exact PS.weak (ps_frzN q1) fun D σ H z => q2 σ H _ (sNew_of z)
      · cases h
    · cases h
  | .boxC i c, s, h => by
    unfold chkS at h
    split at h
    · rename_i t e hs
      obtain ⟨p, rfl⟩ := asAsg_eq hs
      split at h
      · rename_i x hx
        simp only [Bool.and_eq_true, decide_eq_true_eq] at h
        obtain ⟨tf, q1, q2⟩ := ok_lcS (G := G) (p := p) g c hx h.1.1 h.1.2 h.2
        unfold evS
        exact PS.weak q1 fun D σ H z => q2 σ H _ (sBox_of z)
      · cases h
    · cases h
  | .expr a, s, h => by
    unfold chkS at h
    split at h
    · rename_i e hs
      obtain ⟨p, rfl⟩ := asExpr_eq hs
      simp only [Bool.and_eq_true] at h
      unfold evS
      exact ps_exprM (okE a g e h.2) (swaps_no h.1 _ _ _)
    · cases h
  | .ret a, s, h => by
    unfold chkS at h
    split at h
    · rename_i e hs
      obtain ⟨p, rfl⟩ := asRet_eq hs
      unfold evS
      exact ps_retM (okE a g e h)
    · cases h
  | .retN, s, h => by
    unfold chkS at h
    split at h
    · rename_i hs
      obtain ⟨p, rfl⟩ := asRet_eq hs
      unfold evS
      exact ps_retNM
    · cases h
  | .ifS t a b, s, h => by
    unfold chkS at h
    split at h
    · rename_i c x y hs
      obtain ⟨p, rfl⟩ := asIf_eq hs
      simp only [Bool.and_eq_true] at h
      unfold evS
      exact ps_ifM (okT t g c h.1.1) (okB g a x h.1.2) (okB g b y h.2)
    · cases h
  | .forS t it b, s, h => by
    unfold chkS at h
    split at h
    · rename_i tg iter x hs
      obtain ⟨p, rfl⟩ := asFor_eq hs
      simp only [Bool.and_eq_true] at h
      obtain ⟨⟨⟨h1, h2⟩, h3⟩, h4⟩ := h
      unfold evS
      exact ps_forM g.po g.calm (okI it g tg iter h3) (pg_tgt (okG g t tg h2)) (okB g b x h4) (folded_no h1 X.env)
    · cases h
  | .whileS t b, s, h => by
    unfold chkS at h
    split at h
    · rename_i c x hs
      obtain ⟨p, rfl⟩ := asWhile_eq hs
      simp only [Bool.and_eq_true] at h
      unfold evS
      exact ps_whileM v.wf g.po (okT t g c h.1) (okB g b x h.2)
    · cases h
  | .pass, s, h => by
    unfold chkS at h
    obtain ⟨p, rfl⟩ := asPlain_1 (of_decide_eq_true h)
    unfold evS
    exact ps_passM
  | .brk, s, h => by
    unfold chkS at h
    obtain ⟨p, rfl⟩ := asPlain_2 (of_decide_eq_true h)
    unfold evS
    exact ps_breakM
  | .cont, s, h => by
    unfold chkS at h
    obtain ⟨p, rfl⟩ := asPlain_3 (of_decide_eq_true h)
    unfold evS
    exact ps_contM
  | .doc, s, h => by
    unfold chkS at h
    obtain ⟨x, j, p, q, rfl⟩ := asPlain_4 (of_decide_eq_true h)
    unfold evS
    exact ps_docM
theorem okB {n : Nat} {X : Cx} {W : L2.WX} (g : Good T v G n X W fun _ => true) : ∀ (ir : ISs) (s : List Stmt), chkB T X.N X.env.scope ir s = true → PSs X s (tS X.K G W (evB v ir))
  | .nil, [], h => by unfold evB; exact pss_nilM
  | .nil, _ :: _, h => by simp [chkB] at h
  | .cons a as, [], h => by simp [chkB] at h
  | .cons a as, s :: ss, h => by
    simp only [chkB, Bool.and_eq_true] at h
    unfold evB
    exact pss_consM (okS g a s h.1) (okB g as ss h.2)
end
end
end PK
namespace PK
open PySem PySem.Spec PyProof.Rows L2

/-! ### a program: defs by number -/
structure FD where
  at_ : Str × Option Str
  name : Str
  qual : Str
  st : Stmt
  N : List Str
  np : Nat
  ir : ISs
  dfl : List He.Dv
  drop : Nat
def dD : He.Dv → Option D
  | .non => some .non
  | .bl b => some (.bl b)
  | .int i => some (.int i)
  | .str x => some (.str x)
  | _ => none
def dDs : List He.Dv → List D
  | [] => []
  | d :: ds => (dD d).getD .non :: dDs ds
def FD.dds (F : FD) : List D := dDs (F.dfl.drop F.drop)
def FD.defD (F : FD) : He.DefD := ⟨F.at_, F.name, F.qual, defArgs F.st, defBody F.st, defScope F.st, F.dfl, []⟩
structure Pr where
  fds : List FD
  cst : List (Str × D)
  free : List Str
  wf : Nat
def Pr.tab (p : Pr) : PK.Tab := ⟨p.free, p.fds.map fun F => (F.at_.1, F.np, F.dds), p.cst⟩
def Pr.np (p : Pr) (f : Nat) : Nat := match p.fds[f]? with
  | some F => F.np
  | none => 0
def Pr.dds (p : Pr) (f : Nat) : List D := match p.fds[f]? with
  | some F => F.dds
  | none => []
def Pr.csts (p : Pr) (g : Nat) : Option D := match p.cst[g]? with
  | some q => some q.2
  | none => none
def Pr.evWith (p : Pr) (call : Nat → List D → EM D) : Ev := ⟨call, p.np, p.dds, p.csts, p.wf⟩
def Pr.call (p : Pr) : Nat → Nat → List D → EM D
  | 0, _ => fun _ => EM.fail
  | n + 1, f => match p.fds[f]? with
    | some F => runBody F.N.length (evB (p.evWith (p.call n)) F.ir)
    | none => fun _ => EM.fail
def Pr.ev (p : Pr) (n : Nat) : Ev := p.evWith (p.call n)

/-- a scope's facts, by evaluation -/
def scB (N P : List Str) (sc : Scope) : Bool := (match sc.kind with
  | .function => true
  | _ => false) && !sc.isCoroutine && !sc.isGenerator && decide N.Nodup && decide (N.take P.length = P) && P.all (fun x => match sc.names.lookup x with
  | some .local => true
  | some .cell => true
  | _ => false) && sc.names.all fun y => match y.2 with
  | .free => false
  | _ => true
theorem scB_ok {N P : List Str} {sc : Scope} (h : scB N P sc = true) : FnScope N P sc := by
  unfold scB at h
  simp only [Bool.and_eq_true, Bool.not_eq_true', decide_eq_true_eq, List.all_eq_true] at h
  obtain ⟨⟨⟨⟨⟨⟨h1, h2⟩, h3⟩, h4⟩, h5⟩, h6⟩, h7⟩ := h
  refine ⟨?_, h2, h3, h4, h5, fun x hx => ?_, fun y hy e => ?_⟩
  · split at h1
    · assumption
    · cases h1
  · have := h6 x hx
    split at this
    · exact .inl ‹_›
    · exact .inr ‹_›
    · cases this
  · have := h7 y hy
    rw [e] at this
    cases this
theorem dDs_ok {K : PySem.W.Frag} {G : Cls} : ∀ {ds : List He.Dv}, (ds.all fun d => (dD d).isSome) = true → ∀ ρ H, RepVs K G ρ H (dDs ds) (ds.map (He.Dv.v K))
  | [], _, _, _ => .nil
  | d :: ds, h, ρ, H => by
    rw [List.all_cons, Bool.and_eq_true] at h
    refine .cons ?_ (dDs_ok h.2 ρ H)
    have h1 := h.1
    cases d <;> simp [dD] at h1 ⊢
    · exact .non
    · exact .bl _
    · exact .int _
    · exact .str _
/-- what the text must be -/
def FD.chk (p : Pr) (F : FD) : Bool := scB F.N (F.N.take F.np) (defScope F.st) && decide ((F.N.take F.np).length = F.np) && (F.dfl.all fun d => (dD d).isSome) && chkB p.tab F.N (defScope F.st) F.ir (defBody F.st)
/-- what stands behind the top -/
structure Pr.Ok (p : Pr) (K : PySem.W.Frag) (mg : Str → Option Value) (a : FD → Addr) : Prop where
  free : ∀ x ∈ p.free, mg x = none
  cst : ∀ q ∈ p.cst, ∃ w u, mg q.1 = some u ∧ RelV w u ∧ ∀ (G : Cls) ρ H, RepV K G ρ H q.2 w
  fns : ∀ F ∈ p.fds, ∃ fd ds, mg F.at_.1 = some (.ref (a F)) ∧ FunD K F.name F.qual (defArgs F.st) (defBody F.st) (defScope F.st) (F.dfl.map (He.Dv.v K)) [] (a F) fd ∧ Vals ((F.dfl.drop F.drop).map (He.Dv.v K)) ds ∧ Binds K fd (F.N.take F.np) ds
  chk : ∀ F ∈ p.fds, F.chk p = true
section
variable {p : Pr} {P : Program} {w : World} {K : PySem.W.Frag} {mg : Str → Option Value} {base : Heap} {a : FD → Addr} {G : Cls}
theorem Pr.Ok.good (h : p.Ok K mg a) {n : Nat} (ih : ∀ (f : Nat) (F : FD) fd, p.fds[f]? = some F → FunD K F.name F.qual (defArgs F.st) (defBody F.st) (defScope F.st) (F.dfl.map (He.Dv.v K)) [] (a F) fd → FnOk P w K mg base (L2.CX P w) n (a F) fd (F.N.take F.np) (spF K G F.np (p.call n f)))
    {X : Cx} {W : L2.WX} (hP : X.prog = P) (hw : X.w = w) (hK : X.K = K) (hm : X.mg = mg) (hb : X.base = base) (tk : Takes X W) (po : PassesOwn (model X.prog X.w) X.A X.env X.xe) (calm : X.calm = true) (nd : X.N.Nodup) (room : Room n X.A) (fn : ∀ x, X.fn x = true) : Good p.tab (p.ev n) G n X W fun _ => true := by
  subst hP hw hK hm hb
  refine ⟨tk, po, calm, nd, room, fun x _ => fn x, h.free, fun g q e => ?_, fun f q e => ?_⟩
  · have e' : p.cst[g]? = some q := e
    obtain ⟨w, u, h1, h2, h3⟩ := h.cst q (List.mem_of_getElem? e')
    refine ⟨?_, w, u, h1, h2, fun ρ H => h3 G ρ H⟩
    show p.csts g = some q.2
    unfold Pr.csts
    rw [e']
  · have e' : (p.fds.map fun F => (F.at_.1, F.np, F.dds))[f]? = some q := e
    rw [List.getElem?_map, Option.map_eq_some_iff] at e'
    obtain ⟨F, e1, rfl⟩ := e'
    have hF := List.mem_of_getElem? e1
    obtain ⟨fd, ds, h1, h2, h3, h4⟩ := h.fns F hF
    have hc := h.chk F hF
    unfold FD.chk at hc
    simp only [Bool.and_eq_true] at hc
    refine ⟨?_, ?_, a F, fd, F.N.take F.np, ds, (F.dfl.drop F.drop).map (He.Dv.v X.K), h1, h2.kp, h4, h3, ?_, ih f F fd e1 h2⟩
    · show p.np f = F.np
      unfold Pr.np
      rw [e1]
    · show p.dds f = F.dds
      unfold Pr.dds
      rw [e1]
    · refine dDs_ok ?_
      exact List.all_eq_true.mpr fun d hd => List.all_eq_true.mp hc.1.2 d (List.mem_of_mem_drop hd)
theorem Pr.Ok.fnOk (h : p.Ok K mg a) : ∀ (n f : Nat) (F : FD) fd, p.fds[f]? = some F → FunD K F.name F.qual (defArgs F.st) (defBody F.st) (defScope F.st) (F.dfl.map (He.Dv.v K)) [] (a F) fd → FnOk P w K mg base (L2.CX P w) n (a F) fd (F.N.take F.np) (spF K G F.np (p.call n f))
  | 0, f, F, fd, e, FF => by
    have no : ∀ vs H Q E, ¬ spF K G F.np (p.call 0 f) vs H Q E := fun vs H Q E ⟨_, ρ, S, ds, _, _, g⟩ => g
    exact ⟨fun vs H Q E hs => (no vs H Q E hs).elim, fun A outer s H args us vs Q E hr he hb hv hs => (no vs H Q E hs).elim⟩
  | n + 1, f, F, fd, e, FF => by
    have hc := h.chk F (List.mem_of_getElem? e)
    unfold FD.chk at hc
    simp only [Bool.and_eq_true, decide_eq_true_eq] at hc
    obtain ⟨⟨⟨c1, c2⟩, c3⟩, c4⟩ := hc
    have sc := scB_ok c1
    refine FF.ok sc (fun vs H Q E hs => hs.1.trans c2.symm) fun cdv A outer s H vs Q E hr hs => ?_
    obtain ⟨hl, ρ, S, ds, rp, rv, g⟩ := hs
    have gd : Good p.tab (p.ev n) G n (cxOf (L2.CX P w) P w K mg base F.N F.qual (defScope F.st) (a F) cdv A outer s H E) (fun cls d _ H => E cls d H) fun _ => true :=
      h.good (fun f F fd e1 e2 => Pr.Ok.fnOk h n f F fd e1 e2) rfl rfl rfl rfl rfl (takes_of rfl rfl rfl rfl) (passes_of rfl) rfl sc.nd hr fun _ => rfl
    refine ⟨_, okB gd F.ir (defBody F.st) c4, ρ, S, _, rp, RepE.start (N := F.N) rv, ?_⟩
    have e2 : p.call (n + 1) f = runBody F.N.length (evB (p.ev n) F.ir) := by
      show (match p.fds[f]? with | some F => runBody F.N.length (evB (p.evWith (p.call n)) F.ir) | none => fun _ => EM.fail) = _
      rw [e]
      rfl
    rw [e2] at g
    unfold runBody at g
    cases hm : evB (p.ev n) F.ir (ds.map some ++ List.replicate (F.N.length - ds.length) none) S with
    | nx E' S' => rw [hm] at g; exact fun ρ' σ' H' x r q => g ρ' _ H' x r .non
    | rt d S' => rw [hm] at g; exact fun ρ' v H' x r q => g ρ' v H' x r q
    | brk E' S' => rw [hm] at g; exact g.elim
    | ct E' S' => rw [hm] at g; exact g.elim
    | exc c fs E' S' => rw [hm] at g; exact fun ρ' σ' H' od x r q z => g ρ' H' od x r z
    | stuck => rw [hm] at g; exact g.elim
end
end PK
namespace PK
open PySem PySem.Spec PyProof.Rows L2

def cFa (q : Str × D) : He.Fa := match q.2 with
  | .int i => .int q.1 i
  | .str z => .str q.1 z
  | _ => .free q.1
def cOk (q : Str × D) : Bool := match q.2 with
  | .int _ => true
  | .str _ => true
  | _ => false
/-- what is asked of the top -/
def Pr.fa (p : Pr) : List He.Fa := (p.fds.map fun F => .glo F.at_.1) ++ (p.free.map .free ++ p.cst.map cFa)
def Pr.fn (p : Pr) : List He.DefD := p.fds.map FD.defD
/-- a call binds the parameters -/
def FD.Bd (F : FD) : Prop := ∀ (K : PySem.W.Frag) (f : Addr) (fd : FuncData), FunD K F.name F.qual (defArgs F.st) (defBody F.st) (defScope F.st) (F.dfl.map (He.Dv.v K)) [] f fd → ∃ ds, Vals ((F.dfl.drop F.drop).map (He.Dv.v K)) ds ∧ Binds K fd (F.N.take F.np) ds
def FD.BdN (F : FD) : Prop := F.dfl = [] ∧ ∀ (kV doc pm : Value) (an : Option Addr) (cdv ct : Value) (us : List Value), us.length = (F.N.take F.np).length → bindArgs (PySem.W.fnOf F.name F.qual (defArgs F.st) (defBody F.st) (defScope F.st) .none kV doc pm an cdv ct) ⟨us, []⟩ = pure ((F.N.take F.np).zip us)
theorem FD.BdN.bd {F : FD} (h : F.BdN) : F.Bd := fun K f fd FF => by
  obtain ⟨h1, h2⟩ := h
  rw [h1] at FF ⊢
  exact ⟨[], by rw [List.drop_nil]; exact .nil, FF.bindsN h2⟩
/-- any world's way out -/
def CXa (P : Program) : CXT := fun outer H s E u s' => ∃ w, L2.CX P w outer H s E u s'
theorem cxa_none {P : Program} {H : Hp} {s : Shared} {e : Value} {s' : Shared} (h : CXa P [] H s (fun _ _ _ => False) e s') : False := by
  obtain ⟨_, _, _, _, _, _, _, _, _, _, _, _, _, z⟩ := h
  exact z
theorem FnOk.any {P : Program} {w : World} {K : PySem.W.Frag} {mg : Str → Option Value} {base : Heap} {k : Nat} {f : Addr} {fd : FuncData} {ps : List Str} {sp : Sp} (F : FnOk P w K mg base (L2.CX P w) k f fd ps sp) : FnOk P w K mg base (CXa P) k f fd ps sp :=
  ⟨F.len, fun A outer s H args us vs Q E hr he hb hv hs => codeAny_mono (F.run A outer s H args us vs Q E hr he hb hv hs) fun r s' h => by
    cases r with
    | error e => exact ⟨w, h⟩
    | ok fl => cases fl <;> exact h⟩
theorem only_fz {K : PySem.W.Frag} {H : Hp} {a : Addr} {us : List V} (o : Only H) (h : SqL K H a us) : FzL K H a us := by
  rcases h with (h | h) | h
  · rcases o a with z | ⟨ob, xs, z⟩
    · rw [h] at z; cases z
    · rw [h] at z; cases z
  · exact .inl h
  · exact .inr h
theorem mem_fa_glo {p : Pr} {F : FD} (h : F ∈ p.fds) : He.Fa.glo F.at_.1 ∈ p.fa := List.mem_append_left _ (List.mem_map.mpr ⟨F, h, rfl⟩)
theorem mem_fa_free {p : Pr} {x : Str} (h : x ∈ p.free) : He.Fa.free x ∈ p.fa := List.mem_append_right _ (List.mem_append_left _ (List.mem_map.mpr ⟨x, h, rfl⟩))
theorem mem_fa_cst {p : Pr} {q : Str × D} (h : q ∈ p.cst) : cFa q ∈ p.fa := List.mem_append_right _ (List.mem_append_right _ (List.mem_map.mpr ⟨q, h, rfl⟩))
theorem says_fact {fa : List He.Fa} {fn : List He.DefD} {K : PySem.W.Frag} (c : He.SaysD fa fn K) {f : He.Fa} (h : f ∈ fa) : f.ok K = true := by
  obtain ⟨i, e⟩ := List.getElem?_of_mem h
  exact c.fact i e
theorem says_def {fa : List He.Fa} {fn : List He.DefD} {K : PySem.W.Frag} (c : He.SaysD fa fn K) {d : He.DefD} (h : d ∈ fn) : ∃ fd, FunD K d.name d.qual d.params d.body d.scope (d.dvs K) (d.kws K) (He.fAd K d.at_) fd := by
  obtain ⟨i, e⟩ := List.getElem?_of_mem h
  exact c.def_ i e
theorem fAd_ga {K : PySem.W.Frag} {q : Str × Option Str} (h : q.2.isNone = true) : He.fAd K q = He.ga K q.1 := by
  obtain ⟨x, o⟩ := q
  cases o with
  | none => rfl
  | some _ => cases h
theorem pr_ok {p : Pr} {K : PySem.W.Frag} {h : Heap} {mg : Str → Option Value} (X : K.In h) (G : h.Ns mainGlobals mg) (c : He.SaysD p.fa p.fn K) (hat : (p.fds.all fun F => F.at_.2.isNone) = true) (hbd : ∀ F ∈ p.fds, F.Bd) (hcst : p.cst.all cOk = true) (hchk : ∀ F ∈ p.fds, F.chk p = true) : p.Ok K mg fun F => He.fAd K F.at_ := by
  refine ⟨fun x hx => He.free_ok X G (says_fact c (mem_fa_free hx)), fun q hq => ?_, fun F hF => ?_, hchk⟩
  · have h1 := List.all_eq_true.mp hcst q hq
    have h2 := says_fact c (mem_fa_cst hq)
    obtain ⟨x, d⟩ := q
    cases d <;> simp [cOk] at h1
    · obtain ⟨t, e⟩ := He.int_ok X G h2
      exact ⟨.int _, _, e, ⟨t, rfl⟩, fun _ _ _ => .int _⟩
    · obtain ⟨t, e⟩ := He.str_ok X G h2
      exact ⟨.str _, _, e, ⟨t, rfl⟩, fun _ _ _ => .str _⟩
  · obtain ⟨fd, FF⟩ := says_def c (d := F.defD) (List.mem_map.mpr ⟨F, hF, rfl⟩)
    obtain ⟨ds, h1, h2⟩ := hbd F hF K _ fd FF
    refine ⟨fd, ds, ?_, FF, h1, h2⟩
    show mg F.at_.1 = some (.ref (He.fAd K F.at_))
    rw [fAd_ga (List.all_eq_true.mp hat F hF)]
    exact He.glo_ok X G (says_fact c (mem_fa_glo hF))
theorem walk_law {l : PySem.W.OpenLaw} {p : Pr} {nm n li : Nat} {q : Program} {loose : List Str} {XP : (Str → Option Value) → Heap → Prop} {d : DefRec} {x : Str} {L : FD}
    (hm : l.most = some 63) (hdf : d.params.defaults = []) (hr : Room n callerA) (hname : d.name = L.at_.1) (hL : p.fds[li]? = some L) (hx : L.N.take L.np = [x]) (hnp : L.np = 1) (hLN : L.BdN)
    (hat : (p.fds.all fun F => F.at_.2.isNone) = true) (hbd : ∀ F ∈ p.fds, F.Bd) (hcst : p.cst.all cOk = true) (hchk : ∀ F ∈ p.fds, F.chk p = true)
    (sem : ∀ ns : List Int, ns.length ≤ 63 → ∃ S, p.call n li [.scr ns] [] = .ok (.bl true) S) :
    PySem.W.WalkO q loose XP (He.hookD nm p.fa p.fn).says l.row.toRowW d [] (fun f vs => PySem.call f vs) := by
  refine L2.walk_ofE (n := 63) (k := n) (x := x) (CX := CXa l.prog) hm (by decide) hdf hr ?F (fun _ _ _ _ z => cxa_none z)
  rintro w mg fa h ⟨K, KX, c⟩ G hfa
  have ok := pr_ok KX G c hat hbd hcst hchk
  have hLm := List.mem_of_getElem? hL
  obtain ⟨fd, ds, h1, FF, h2, h3⟩ := ok.fns L hLm
  have e := hfa.symm.trans (hname ▸ h1)
  cases e
  obtain ⟨b1, b2⟩ := hLN
  have FF' := FF
  rw [b1] at FF'
  refine ⟨K, fd, spF K ⟨fun _ => 0, fun _ => ""⟩ L.np (p.call n li), KX, fun s u => ?_, fun H a ns hl ho hS => ?_, fun base bk bn => ?_⟩
  · have := FF'.bindsA (ps := L.N.take L.np) b2 s [u] (by rw [hx]; rfl)
    rw [hx] at this
    exact this
  · obtain ⟨S, e⟩ := sem ns hl
    refine ⟨hnp.symm, [], [], [.scr ns], Rep.nil, .cons (.scr (only_fz ho hS)) .nil, ?_⟩
    rw [e]
    intro ρ' v H' x r q
    exact q.bl_inv'
  · have ok2 := pr_ok bk bn c hat hbd hcst hchk
    have := ok2.fnOk (P := l.prog) (w := w) (base := base) (G := ⟨fun _ => 0, fun _ => ""⟩) n li L fd hL FF
    rw [hx] at this
    exact PK.FnOk.any this
/-- a list of statements -/
def bs : List IS → ISs
  | [] => .nil
  | s :: ss => .cons s (bs ss)
end PK
namespace PK
open PySem PySem.Spec PyProof.Rows L2

/-! ### what a run gives, backwards -/
abbrev XP := Nat → List (Nat × D) → List DO → Prop
def wE0 {α : Type} (m : EM α) (S : List DO) (Q : α → List DO → Prop) (X : XP) : Prop := match m S with
  | .ok a S' => Q a S'
  | .exc c fs S' => X c fs S'
  | .stuck => False
structure Post where
  nx : Env → List DO → Prop
  rt : D → List DO → Prop
  bk : Env → List DO → Prop
  ct : Env → List DO → Prop
  x : Nat → List (Nat × D) → Env → List DO → Prop
structure wE {α : Type} (m : EM α) (S : List DO) (Q : α → List DO → Prop) (X : XP) : Prop where
  p : wE0 m S Q X
theorem wE_iff {α : Type} {m : EM α} {S : List DO} {Q : α → List DO → Prop} {X : XP} : wE m S Q X = wE0 m S Q X := propext ⟨fun h => h.p, fun h => ⟨h⟩⟩
def wS0 (m : SM) (E : Env) (S : List DO) (P : Post) : Prop := match m E S with
  | .nx E' S' => P.nx E' S'
  | .rt d S' => P.rt d S'
  | .brk E' S' => P.bk E' S'
  | .ct E' S' => P.ct E' S'
  | .exc c fs E' S' => P.x c fs E' S'
  | .stuck => False
structure wS (m : SM) (E : Env) (S : List DO) (P : Post) : Prop where
  p : wS0 m E S P
theorem wS_iff {m : SM} {E : Env} {S : List DO} {P : Post} : wS m E S P = wS0 m E S P := propext ⟨fun h => h.p, fun h => ⟨h⟩⟩
section
variable {α β : Type} {S : List DO} {X : XP} {E : Env} {P : Post}
theorem wE.mono {m : EM α} {Q Q' : α → List DO → Prop} {X' : XP} (h : wE m S Q X) (hq : ∀ a S', Q a S' → Q' a S') (hx : ∀ c fs S', X c fs S' → X' c fs S') : wE m S Q' X' := by
  rw [wE_iff] at *; unfold wE0 at *
  cases e : m S with
  | ok a S' => rw [e] at h; exact hq _ _ h
  | exc c fs S' => rw [e] at h; exact hx _ _ _ h
  | stuck => rw [e] at h; exact h
theorem wE.to {m : EM α} {Q Q' : α → List DO → Prop} (h : wE m S Q fun _ _ _ => False) (hq : ∀ a S', Q a S' → Q' a S') : wE m S Q' X := h.mono hq fun _ _ _ z => z.elim
theorem wE.ok {m : EM α} {Q : α → List DO → Prop} (h : wE m S Q fun _ _ _ => False) : ∃ a S', m S = .ok a S' ∧ Q a S' := by
  rw [wE_iff] at h; unfold wE0 at h
  cases e : m S with
  | ok a S' => rw [e] at h; exact ⟨a, S', rfl, h⟩
  | exc c fs S' => rw [e] at h; exact h.elim
  | stuck => rw [e] at h; exact h.elim
theorem wE_of_eq {m : EM α} {Q : α → List DO → Prop} {a : α} {S' : List DO} (h : m S = .ok a S') : wE m S Q X = Q a S' := by simp only [wE_iff]; unfold wE0; rw [h]
theorem w_pure {a : α} {Q : α → List DO → Prop} : wE (EM.pure a) S Q X = Q a S := by simp only [wE_iff, wS_iff]; rfl
theorem w_bind {m : EM α} {k : α → EM β} {Q : β → List DO → Prop} : wE (EM.bind m k) S Q X = wE m S (fun a S1 => wE (k a) S1 Q X) X := by
  simp only [wE_iff]; unfold wE0 EM.bind
  cases m S <;> rfl
theorem w_some {a : α} {Q : α → List DO → Prop} : wE (EM.ofO (some a)) S Q X = Q a S := by simp only [wE_iff, wS_iff]; rfl
theorem w_ofO {o : Option α} {Q : α → List DO → Prop} : wE (EM.ofO o) S Q X = (∃ a, o = some a ∧ Q a S) := by
  cases o with
  | none => exact propext ⟨fun h => False.elim h.p, fun ⟨a, e, _⟩ => by cases e⟩
  | some a => exact propext ⟨fun h => ⟨a, rfl, h.p⟩, fun ⟨b, e, h⟩ => by cases e; exact ⟨h⟩⟩
theorem w_ite {c : Prop} [Decidable c] {m n : EM α} {Q : α → List DO → Prop} : wE (if c then m else n) S Q X = ((c → wE m S Q X) ∧ (¬ c → wE n S Q X)) := by
  by_cases h : c
  · rw [if_pos h]; exact propext ⟨fun z => ⟨fun _ => z, fun k => absurd h k⟩, fun z => z.1 h⟩
  · rw [if_neg h]; exact propext ⟨fun z => ⟨fun k => absurd k h, fun _ => z⟩, fun z => z.2 h⟩
theorem w_var {i : Nat} {Q : D → List DO → Prop} {d : D} (h : E[i]? = some (some d)) : wE (eVar i E) S Q X = Q d S := by unfold eVar; rw [h]; simp only [wE_iff]; rfl
/-! operators on ints -/
variable {Q : D → List DO → Prop} {QB : Bool → List DO → Prop} {i j : Int}
theorem w_add : wE (EM.ofO (addO (.int i) (.int j))) S Q X = Q (.int (i + j)) S := by simp only [wE_iff, wS_iff]; rfl
theorem w_sub : wE (EM.ofO (subO (.int i) (.int j))) S Q X = Q (.int (i - j)) S := by simp only [wE_iff, wS_iff]; rfl
theorem w_mul : wE (EM.ofO (mulO (.int i) (.int j))) S Q X = (mulOk i j ∧ Q (.int (i * j)) S) := by
  simp only [mulO]
  by_cases h : mulOk i j
  · rw [if_pos h]; exact propext ⟨fun z => ⟨h, z.p⟩, fun z => ⟨z.2⟩⟩
  · rw [if_neg h]; exact propext ⟨fun z => False.elim z.p, fun z => absurd z.1 h⟩
theorem w_fdiv : wE (EM.ofO (fdivO (.int i) (.int j))) S Q X = ((j ≠ 0 ∧ j.natAbs.log2 < 9000) ∧ Q (.int (i.fdiv j)) S) := by
  simp only [fdivO]
  by_cases h : j ≠ 0 ∧ j.natAbs.log2 < 9000
  · rw [if_pos h]; exact propext ⟨fun z => ⟨h, z.p⟩, fun z => ⟨z.2⟩⟩
  · rw [if_neg h]; exact propext ⟨fun z => False.elim z.p, fun z => absurd z.1 h⟩
theorem w_mod : wE (EM.ofO (modO (.int i) (.int j))) S Q X = (j ≠ 0 ∧ Q (.int (i.fmod j)) S) := by
  simp only [modO]
  by_cases h : j ≠ 0
  · rw [if_pos h]; exact propext ⟨fun z => ⟨h, z.p⟩, fun z => ⟨z.2⟩⟩
  · rw [if_neg h]; exact propext ⟨fun z => False.elim z.p, fun z => absurd z.1 h⟩
theorem w_lt : wE (EM.ofO (ltO (.int i) (.int j))) S Q X = Q (.bl (decide (i < j))) S := by simp only [wE_iff, wS_iff]; rfl
theorem w_le : wE (EM.ofO (leO (.int i) (.int j))) S Q X = Q (.bl (decide (i ≤ j))) S := by simp only [wE_iff, wS_iff]; rfl
theorem w_gt : wE (EM.ofO (gtO (.int i) (.int j))) S Q X = Q (.bl (decide (i > j))) S := by simp only [wE_iff, wS_iff]; rfl
theorem w_ge : wE (EM.ofO (geO (.int i) (.int j))) S Q X = Q (.bl (decide (i ≥ j))) S := by simp only [wE_iff, wS_iff]; rfl
theorem w_neg : wE (EM.ofO (negO (.int i))) S Q X = Q (.int (-i)) S := by simp only [wE_iff, wS_iff]; rfl
theorem w_asB {b : Bool} : wE (EM.ofO (asB (.bl b))) S QB X = QB b S := by simp only [wE_iff, wS_iff]; rfl
theorem w_int : wE (EM.ofO (intO [.int i])) S Q X = Q (.int i) S := by simp only [wE_iff, wS_iff]; rfl
theorem w_intB {b : Bool} : wE (EM.ofO (intO [.bl b])) S Q X = Q (.int (if b then 1 else 0)) S := by simp only [wE_iff, wS_iff]; rfl
theorem w_abs : wE (EM.ofO (absO [.int i])) S Q X = Q (.int (if i < 0 then -i else i)) S := by simp only [wE_iff, wS_iff]; rfl
theorem w_min : wE (EM.ofO (minO [.int i, .int j])) S Q X = Q (.int (if j < i then j else i)) S := by simp only [wE_iff, wS_iff]; rfl
theorem w_max : wE (EM.ofO (maxO [.int i, .int j])) S Q X = Q (.int (if j > i then j else i)) S := by simp only [wE_iff, wS_iff]; rfl
theorem w_pow18 : wE (EM.ofO (powO (.int 10) (.int 18))) S Q X = Q (.int 1000000000000000000) S := by
  have : powO (.int 10) (.int 18) = some (.int 1000000000000000000) := by
    simp only [powO]
    rw [if_pos (by decide)]
    rfl
  rw [this]
  simp only [wE_iff]; rfl
theorem w_eq {x y : D} : wE (eqM x y) S Q X = (eqOk (derefL S x) (derefL S y) = true ∧ Q (.bl (PyData.eqv (toPy (derefL S x)) (toPy (derefL S y)))) S) := by
  simp only [wE_iff]; unfold wE0 eqM
  by_cases h : eqOk (derefL S x) (derefL S y) = true
  · rw [if_pos h]; exact propext ⟨fun z => ⟨h, z⟩, fun z => z.2⟩
  · rw [if_neg h]; exact propext ⟨fun z => False.elim z, fun z => absurd z.1 h⟩
theorem w_ne {x y : D} : wE (neM x y) S Q X = (eqOk (derefL S x) (derefL S y) = true ∧ Q (.bl (!PyData.eqv (toPy (derefL S x)) (toPy (derefL S y)))) S) := by
  simp only [wE_iff]; unfold wE0 neM
  by_cases h : eqOk (derefL S x) (derefL S y) = true
  · rw [if_pos h]; exact propext ⟨fun z => ⟨h, z⟩, fun z => z.2⟩
  · rw [if_neg h]; exact propext ⟨fun z => False.elim z, fun z => absurd z.1 h⟩
theorem w_eqI : wE (eqM (.int i) (.int j)) S Q X = Q (.bl (decide (i = j))) S := by
  rw [w_eq]
  refine propext ⟨fun z => ?_, fun z => ⟨rfl, ?_⟩⟩
  · have := z.2
    simpa [derefL, toPy, PyData.eqv, BEq.beq] using this
  · simpa [derefL, toPy, PyData.eqv, BEq.beq] using z
theorem w_neI : wE (neM (.int i) (.int j)) S Q X = Q (.bl (!decide (i = j))) S := by
  rw [w_ne]
  refine propext ⟨fun z => ?_, fun z => ⟨rfl, ?_⟩⟩
  · have := z.2
    simpa [derefL, toPy, PyData.eqv, BEq.beq] using this
  · simpa [derefL, toPy, PyData.eqv, BEq.beq] using z
/-! calls -/
theorem w_call {np : Nat} {m : List D → EM D} {dds xs : List D} (h : xs.length + dds.length = np) : wE (mCall np m dds xs) S Q X = wE (m (xs ++ dds)) S Q X := by unfold mCall; rw [if_pos h]
theorem w_pureCall {m : List D → EM D} {xs : List D} (h : D.noRefs xs = true) : wE (pureCall m xs) S Q X = wE (m xs) [] (fun d _ => d.noRef = true ∧ Q d S) (fun c fs _ => D.noRefF fs = true ∧ X c fs S) := by
  simp only [wE_iff]; unfold pureCall wE0
  simp only [if_pos h]
  cases e : m xs [] with
  | stuck => rfl
  | ok d S' =>
    by_cases hd : d.noRef = true
    · dsimp only; rw [if_pos hd]; exact propext ⟨fun z => ⟨hd, z⟩, fun z => z.2⟩
    · dsimp only; rw [if_neg hd]; exact propext ⟨fun z => False.elim z, fun z => absurd z.1 hd⟩
  | exc c fs S' =>
    by_cases hd : D.noRefF fs = true
    · dsimp only; rw [if_pos hd]; exact propext ⟨fun z => ⟨hd, z⟩, fun z => z.2⟩
    · dsimp only; rw [if_neg hd]; exact propext ⟨fun z => False.elim z, fun z => absurd z.1 hd⟩
theorem w_body {n : Nat} {mb : SM} {ds : List D} : wE (runBody n mb ds) S Q X = wS mb (ds.map some ++ List.replicate (n - ds.length) none) S ⟨fun _ S => Q .non S, Q, fun _ _ => False, fun _ _ => False, fun c fs _ S => X c fs S⟩ := by
  simp only [wS_iff, wE_iff]; unfold wE0 wS0 runBody
  cases mb (ds.map some ++ List.replicate (n - ds.length) none) S <;> rfl
/-! lists -/
theorem w_idxT {xs : List D} {d : D} (h : L2.atI xs i = some d) : wE (idxM (.tup xs) (.int i)) S Q X = Q d S := by simp only [wE_iff]; unfold wE0 idxM; dsimp only; rw [h]
theorem w_idxN {ns : List Int} {n : Int} (h : L2.atI ns i = some n) : wE (idxM (.scr ns) (.int i)) S Q X = Q (.int n) S := by simp only [wE_iff]; unfold wE0 idxM; dsimp only; rw [h]
theorem w_idxL {xs : List D} {d : D} (h : L2.atI xs i = some d) : wE (idxM (.lst xs) (.int i)) S Q X = Q d S := by simp only [wE_iff]; unfold wE0 idxM; simp only [viewL]; rw [h]
theorem w_idxR {r : Nat} {xs : List D} {d : D} (h0 : S[r]? = some (.lst xs)) (h : L2.atI xs i = some d) : wE (idxM (.ref r) (.int i)) S Q X = Q d S := by simp only [wE_iff]; unfold wE0 idxM; simp only [viewL, h0]; rw [h]
theorem w_set {QU : Unit → List DO → Prop} {r : Nat} {xs : List D} {d : D} {j : Nat} (h0 : S[r]? = some (.lst xs)) (h : ixN xs.length i = some j) : wE (setM (.ref r) (.int i) d) S QU X = QU () (S.set r (.lst (xs.set j d))) := by simp only [wE_iff]; unfold wE0 setM; dsimp only; rw [h0]; dsimp only; rw [h]
end
section
variable {α : Type} {S : List DO} {E : Env} {P : Post}
/-! statements -/
theorem wS_next : wS sNext E S P = P.nx E S := by simp only [wE_iff, wS_iff]; rfl
theorem wS_seq {m n : SM} : wS (sSeq m n) E S P = wS m E S ⟨fun E S => wS n E S P, P.rt, P.bk, P.ct, P.x⟩ := by
  simp only [wS_iff]; unfold wS0 sSeq
  cases m E S <;> rfl
theorem wS_ret {m : Env → EM D} : wS (sRet m) E S P = wE (m E) S P.rt fun c fs S => P.x c fs E S := by
  simp only [wS_iff, wE_iff]; unfold wS0 wE0 sRet sOf
  cases m E S <;> rfl
theorem wS_retN : wS sRetN E S P = P.rt .non S := by simp only [wE_iff, wS_iff]; rfl
theorem wS_expr {m : Env → EM D} : wS (sExpr m) E S P = wE (m E) S (fun _ S => P.nx E S) fun c fs S => P.x c fs E S := by
  simp only [wS_iff, wE_iff]; unfold wS0 wE0 sExpr sOf
  cases m E S <;> rfl
theorem wS_if {c : Env → EM Bool} {m n : SM} : wS (sIf c m n) E S P = wE (c E) S (fun b S => (b = true → wS m E S P) ∧ (b = false → wS n E S P)) fun c fs S => P.x c fs E S := by
  simp only [wS_iff, wE_iff]; unfold wS0 wE0 sIf sOf
  cases c E S with
  | ok b S' => cases b <;> simp
  | exc c fs S' => rfl
  | stuck => rfl
theorem wS_asg {m : Env → EM D} {g : D → Env → EM Env} : wS (sAsg m g) E S P = wE (m E) S (fun d S => wE (g d E) S P.nx fun c fs S => P.x c fs E S) fun c fs S => P.x c fs E S := by
  simp only [wS_iff, wE_iff]; unfold wS0 wE0 sAsg sOf
  cases m E S with
  | ok d S' => dsimp only; cases g d E S' <;> rfl
  | exc c fs S' => rfl
  | stuck => rfl
theorem wS_for {it : Env → EM (List D)} {g : D → Env → EM Env} {b : SM} : wS (sFor it g b) E S P = wE (it E) S (fun ds S => wS (sLoop g b ds) E S P) fun c fs S => P.x c fs E S := by
  simp only [wS_iff, wE_iff]; unfold wS0 wE0 sFor sOf
  cases it E S <;> rfl
theorem wS_loop0 {g : D → Env → EM Env} {b : SM} : wS (sLoop g b []) E S P = P.nx E S := by simp only [wE_iff, wS_iff]; rfl
theorem wS_loop1 {g : D → Env → EM Env} {b : SM} {d : D} {ds : List D} : wS (sLoop g b (d :: ds)) E S P = wE (g d E) S (fun E1 S1 => wS b E1 S1 ⟨fun E S => wS (sLoop g b ds) E S P, P.rt, P.nx, fun E S => wS (sLoop g b ds) E S P, P.x⟩) fun c fs S => P.x c fs E S := by
  simp only [wS_iff, wE_iff]; unfold wS0 wE0
  rw [sLoop]
  cases g d E S with
  | ok E1 S1 => dsimp only; cases b E1 S1 <;> rfl
  | exc c fs S' => rfl
  | stuck => rfl
theorem wS.mono {m : SM} {P P' : Post} (h : wS m E S P) (h1 : ∀ E S, P.nx E S → P'.nx E S) (h2 : ∀ d S, P.rt d S → P'.rt d S) (h3 : ∀ E S, P.bk E S → P'.bk E S) (h4 : ∀ E S, P.ct E S → P'.ct E S) (h5 : ∀ c fs E S, P.x c fs E S → P'.x c fs E S) : wS m E S P' := by
  rw [wS_iff] at *; unfold wS0 at *
  cases e : m E S <;> rw [e] at h <;> first | exact h1 _ _ h | exact h2 _ _ h | exact h3 _ _ h | exact h4 _ _ h | exact h5 _ _ _ _ h | exact h
/-- a loop by an invariant: I k holds ahead of the k-th item -/
theorem wS_loop {g : D → Env → EM Env} {b : SM} (I : Nat → Env → List DO → Prop) : ∀ (ds : List D) (k : Nat) {E : Env} {S : List DO}, I k E S →
    (∀ (j : Nat) (d : D) (E : Env) (S : List DO), ds[j]? = some d → I (k + j) E S → wE (g d E) S (fun E1 S1 => wS b E1 S1 ⟨I (k + j + 1), P.rt, P.nx, I (k + j + 1), P.x⟩) fun c fs S => P.x c fs E S) →
    (∀ E S, I (k + ds.length) E S → P.nx E S) → wS (sLoop g b ds) E S P
  | [], k, E, S, h, _, hn => by rw [wS_loop0]; exact hn _ _ h
  | d :: ds, k, E, S, h, hs, hn => by
    rw [wS_loop1]
    refine (hs 0 d E S rfl h).mono (fun E1 S1 z => z.mono (fun E2 S2 z => ?_) (fun _ _ z => z) (fun _ _ z => z) (fun E2 S2 z => ?_) fun _ _ _ _ z => z) fun _ _ _ z => z
    · exact wS_loop I ds (k + 1) z (fun j d E S e h => by have := hs (j + 1) d E S e; rw [show k + (j + 1) = k + 1 + j by omega] at this; exact this h) fun E S h => hn E S (by rw [List.length_cons]; rw [show k + 1 + ds.length = k + (ds.length + 1) by omega] at h; exact h)
    · exact wS_loop I ds (k + 1) z (fun j d E S e h => by have := hs (j + 1) d E S e; rw [show k + (j + 1) = k + 1 + j by omega] at this; exact this h) fun E S h => hn E S (by rw [List.length_cons]; rw [show k + 1 + ds.length = k + (ds.length + 1) by omega] at h; exact h)
theorem wS_while1 {c : Env → EM Bool} {b : SM} {n : Nat} : wS (sWhile c b (n + 1)) E S P = wE (c E) S (fun k S => (k = true → wS b E S ⟨fun E S => wS (sWhile c b n) E S P, P.rt, P.nx, fun E S => wS (sWhile c b n) E S P, P.x⟩) ∧ (k = false → P.nx E S)) fun c fs S => P.x c fs E S := by
  simp only [wS_iff, wE_iff]; unfold wS0 wE0
  rw [sWhile]
  unfold sOf
  cases c E S with
  | ok k S1 =>
    dsimp only
    cases k with
    | true =>
      simp only [if_true, true_implies, reduceCtorEq, false_implies, and_true]
      cases b E S1 <;> rfl
    | false => simp
  | exc c fs S' => rfl
  | stuck => rfl
/-! comprehensions -/
theorem w_cl0 {t : Tgt} {c : Env → EM Bool} {m : Env → EM D} {Ew : Env} {Q : List D → List DO → Prop} {X : XP} : wE (cLoop t c m Ew []) S Q X = Q [] S := by simp only [wE_iff, wS_iff]; rfl
/-- a comprehension whose items each give f's value, and change nothing -/
theorem w_clMap {t : Tgt} {m : Env → EM D} {Ew : Env} {X : XP} (f : D → D) : ∀ (ds : List D) {Q : List D → List DO → Prop}, (∀ d ∈ ds, ∃ E1, t.put d Ew = some E1 ∧ m E1 S = .ok (f d) S) → Q (ds.map f) S → wE (cLoop t eYes m Ew ds) S Q X
  | [], Q, _, h => ⟨h⟩
  | d :: ds, Q, hs, h => by
    obtain ⟨E1, e1, e2⟩ := hs d (List.mem_cons_self ..)
    rw [cLoop, e1]
    simp only [w_bind, eYes, w_pure, if_true]
    rw [wE_of_eq e2]
    exact w_clMap f ds (fun d hd => hs d (List.mem_cons_of_mem _ hd)) h
/-- by an invariant: I k xs S ahead of the k-th item -/
theorem w_clInv {t : Tgt} {m : Env → EM D} {Ew : Env} {X : XP} (I : List D → List DO → Prop) : ∀ (ds : List D) (acc : List D) {S : List DO} {Q : List D → List DO → Prop}, I acc S →
    (∀ d ∈ ds, ∀ acc S, I acc S → ∃ E1, t.put d Ew = some E1 ∧ wE (m E1) S (fun x S' => I (acc ++ [x]) S') X) → (∀ xs S', I (acc ++ xs) S' → xs.length = ds.length → Q xs S') → wE (cLoop t eYes m Ew ds) S Q X
  | [], acc, S, Q, h, _, hq => ⟨hq [] S (by rw [List.append_nil]; exact h) rfl⟩
  | d :: ds, acc, S, Q, h, hs, hq => by
    obtain ⟨E1, e1, e2⟩ := hs d (List.mem_cons_self ..) acc S h
    rw [cLoop, e1]
    simp only [w_bind, eYes, w_pure, if_true]
    refine e2.mono (fun x S' hx => ?_) fun _ _ _ z => z
    exact w_clInv I ds (acc ++ [x]) hx (fun d hd => hs d (List.mem_cons_of_mem _ hd)) fun xs S2 h2 hl => hq (x :: xs) S2 (by rw [List.append_assoc] at h2; exact h2) (by simp [hl])
theorem w_noX {m : EM α} {Q : α → List DO → Prop} {X : XP} (h : wE m S Q fun _ _ _ => False) : wE (noX m) S Q X := by
  rw [wE_iff] at *; unfold wE0 at *; unfold noX
  cases e : m S <;> rw [e] at h <;> first | exact h | exact h.elim
end
/-! ### bounds -/
def Sm (k : Nat) (i : Int) : Prop := i.natAbs < 2 ^ k
theorem Sm.mulOk {k l : Nat} {i j : Int} (h : Sm k i) (h' : Sm l j) (hkl : k + l ≤ 900000) : mulOk i j := by
  have aux : ∀ {k : Nat} {i : Int}, Sm k i → i.natAbs.log2 ≤ k := fun {k i} h => by
    by_cases hi : i.natAbs = 0
    · rw [hi]; exact Nat.zero_le _
    · exact Nat.le_of_lt ((Nat.log2_lt hi).mpr h)
  unfold PK.mulOk
  have := aux h
  have := aux h'
  omega
theorem Sm.mono {k l : Nat} {i : Int} (h : Sm k i) (hkl : k ≤ l) : Sm l i := Nat.lt_of_lt_of_le h (Nat.pow_le_pow_right (by decide) hkl)
theorem Sm.mul {k l : Nat} {i j : Int} (h : Sm k i) (h' : Sm l j) : Sm (k + l) (i * j) := by
  unfold Sm at *
  rw [Int.natAbs_mul, Nat.pow_add]
  exact Nat.mul_lt_mul_of_lt_of_le h (Nat.le_of_lt h') (Nat.pos_of_ne_zero (by intro z; rw [z] at h'; omega))
theorem Sm.add {k : Nat} {i j : Int} (h : Sm k i) (h' : Sm k j) : Sm (k + 1) (i + j) := by
  unfold Sm at *
  rw [Nat.pow_succ]
  have := Int.natAbs_add_le i j
  omega
theorem Sm.sub {k : Nat} {i j : Int} (h : Sm k i) (h' : Sm k j) : Sm (k + 1) (i - j) := by
  unfold Sm at *
  rw [Nat.pow_succ]
  have := Int.natAbs_sub_le i j
  omega
theorem Sm.of {k : Nat} {i : Int} (h : -(2 ^ k : Nat) < i ∧ i < (2 ^ k : Nat)) : Sm k i := by
  unfold Sm
  omega
theorem Sm.one {k : Nat} (h : 1 ≤ k) : Sm k 1 := Sm.mono (k := 1) (by unfold Sm; decide) h
theorem Sm.zero {k : Nat} : Sm k 0 := Sm.mono (k := 0) (by unfold Sm; decide) (Nat.zero_le _)
theorem Sm.pow {k : Nat} {i : Int} (h : Sm k i) : ∀ n : Nat, Sm (k * n + 1) (i ^ n)
  | 0 => by unfold Sm; simp
  | n + 1 => by
    unfold Sm at *
    have ih := Sm.pow h n
    unfold Sm at ih
    have : i.natAbs ^ (n + 1) < 2 ^ (k * (n + 1) + 1) := by
      have : i.natAbs ^ (n + 1) ≤ (2 ^ k) ^ (n + 1) := Nat.pow_le_pow_left (Nat.le_of_lt h) _
      rw [← Nat.pow_mul] at this
      exact Nat.lt_of_le_of_lt this (Nat.pow_lt_pow_right (by decide) (by omega))
    rw [Int.natAbs_pow]
    exact this
end PK
namespace PK
open PySem PySem.Spec PyProof.Rows L2

/-! ### one rule a construct, backwards -/
section
variable {v : Ev} {S : List DO} {E : PK.Env} {X : XP} {Q : D → List DO → Prop} {QB : Bool → List DO → Prop} {QL : List D → List DO → Prop} {QO : Option Int → List DO → Prop} {QC : DO → List DO → Prop}
theorem r_var {i : Nat} {d : D} (h : E[i]? = some (some d)) (q : Q d S) : wE (evE v (.var i) E) S Q X := by unfold evE; rw [w_var h]; exact q
theorem r_int {i : Int} (q : Q (.int i) S) : wE (evE v (.int i) E) S Q X := by unfold evE; exact ⟨q⟩
theorem r_bl {b : Bool} (q : Q (.bl b) S) : wE (evE v (.bl b) E) S Q X := by unfold evE; exact ⟨q⟩
theorem r_non (q : Q .non S) : wE (evE v .non E) S Q X := by unfold evE; exact ⟨q⟩
theorem r_str {x : Str} (q : Q (.str x) S) : wE (evE v (.str x) E) S Q X := by unfold evE; exact ⟨q⟩
theorem r_glo {g : Nat} {d : D} (h : v.cst g = some d) (q : Q d S) : wE (evE v (.glo g) E) S Q X := by unfold evE eCst; rw [h]; exact ⟨q⟩
theorem r_tup {es : IEs} (q : wE (evEs v es E) S (fun xs S => xs.length ≤ 1000 ∧ Q (.tup xs) S) X) : wE (evE v (.tup es) E) S Q X := by
  unfold evE PK.es
  rw [w_bind]
  refine q.mono (fun xs S h => ?_) fun _ _ _ z => z
  unfold mTup
  rw [if_pos h.1]
  exact ⟨h.2⟩
theorem r_new {c : IC} (q : wE (evC v c E) S (fun o S => ∃ d, valOf o = some d ∧ Q d S) X) : wE (evE v (.new c) E) S Q X := by
  unfold evE eNew
  rw [w_bind]
  refine q.mono (fun o S ⟨d, e, h⟩ => ?_) fun _ _ _ z => z
  rw [e]
  exact ⟨h⟩
theorem r_newL {c : IC} (q : wE (evC v c E) S (fun o S => ∃ xs, o = .lst xs ∧ Q (.lst xs) S) X) : wE (evE v (.new c) E) S Q X :=
  r_new (q.mono (fun o S ⟨xs, e, h⟩ => ⟨.lst xs, by rw [e]; rfl, h⟩) fun _ _ _ z => z)
theorem r_box {c : IC} (q : wE (evC v c E) S (fun o S => Q (.ref S.length) (S ++ [o])) X) : wE (evE v (.box c) E) S Q X := by
  unfold evE
  rw [wE_iff] at *; unfold wE0 at *; unfold eBox
  cases h : evC v c E S with
  | ok o S' => rw [h] at q; exact q
  | exc c fs S' => rw [h] at q; exact q
  | stuck => rw [h] at q; exact q
theorem r_frz {i r : Nat} {o : DO} {d : D} (h : E[i]? = some (some (.ref r))) (h1 : S[r]? = some o) (h2 : valOf o = some d) (q : Q d (S.set r .gone)) : wE (evE v (.frz i) E) S Q X := by
  rw [wE_iff]; unfold evE eFrz wE0
  rw [h]
  dsimp only
  rw [h1]
  dsimp only
  rw [h2]
  exact q
theorem r_bin {o : BOp} {a b : IE} (q : wE (evE v a E) S (fun x S => wE (evE v b E) S (fun y S => wE (bopM o x y) S Q X) X) X) : wE (evE v (.bin o a b) E) S Q X := by
  unfold evE e2
  rw [w_bind]
  refine q.mono (fun x S h => ?_) fun _ _ _ z => z
  rw [w_bind]
  exact h
theorem r_cmp {o : COp} {a b : IE} (q : wE (evE v a E) S (fun x S => wE (evE v b E) S (fun y S => wE (copM o x y) S Q X) X) X) : wE (evE v (.cmp o a b) E) S Q X := by
  unfold evE e2
  rw [w_bind]
  refine q.mono (fun x S h => ?_) fun _ _ _ z => z
  rw [w_bind]
  exact h
theorem r_neg {a : IE} (q : wE (evE v a E) S (fun x S => ∃ i, x = .int i ∧ Q (.int (-i)) S) X) : wE (evE v (.neg a) E) S Q X := by
  unfold evE e1
  rw [w_bind]
  refine q.mono (fun x S ⟨i, e, h⟩ => ?_) fun _ _ _ z => z
  subst e
  exact ⟨h⟩
theorem r_ife {t : IT} {a b : IE} (q : wE (evT v t E) S (fun k S => (k = true → wE (evE v a E) S Q X) ∧ (k = false → wE (evE v b E) S Q X)) X) : wE (evE v (.ife t a b) E) S Q X := by
  unfold evE eIf
  rw [w_bind]
  refine q.mono (fun k S h => ?_) fun _ _ _ z => z
  cases k with
  | true => exact h.1 rfl
  | false => exact h.2 rfl
theorem r_andV {a b : IE} (q : wE (evE v a E) S (fun x S => ∃ k, x = .bl k ∧ (k = true → wE (evE v b E) S Q X) ∧ (k = false → Q (.bl false) S)) X) : wE (evE v (.andV a b) E) S Q X := by
  unfold evE eAndV
  rw [w_bind]
  refine q.mono (fun x S ⟨k, e, h1, h2⟩ => ?_) fun _ _ _ z => z
  subst e
  rw [w_bind, w_asB]
  cases k with
  | true => exact h1 rfl
  | false => exact ⟨h2 rfl⟩
theorem r_orV {a b : IE} (q : wE (evE v a E) S (fun x S => ∃ k, x = .bl k ∧ (k = false → wE (evE v b E) S Q X) ∧ (k = true → Q (.bl true) S)) X) : wE (evE v (.orV a b) E) S Q X := by
  unfold evE eOrV
  rw [w_bind]
  refine q.mono (fun x S ⟨k, e, h1, h2⟩ => ?_) fun _ _ _ z => z
  subst e
  rw [w_bind, w_asB]
  cases k with
  | true => exact ⟨h2 rfl⟩
  | false => exact h1 rfl
theorem r_andV1 {a : IE} (q : wE (evE v a E) S Q X) : wE (evE v (.andV1 a) E) S Q X := by unfold evE; exact q
theorem r_orV1 {a : IE} (q : wE (evE v a E) S Q X) : wE (evE v (.orV1 a) E) S Q X := by unfold evE; exact q
theorem r_notV {a : IE} (q : wE (evE v a E) S (fun x S => ∃ k, x = .bl k ∧ Q (.bl (!k)) S) X) : wE (evE v (.notV a) E) S Q X := by
  unfold evE eNotV
  rw [w_bind]
  refine q.mono (fun x S ⟨k, e, h⟩ => ?_) fun _ _ _ z => z
  subst e
  rw [w_bind]; exact ⟨⟨h⟩⟩
theorem r_idx {a b : IE} (q : wE (evE v a E) S (fun x S => wE (evE v b E) S (fun y S => wE (idxM x y) S Q X) X) X) : wE (evE v (.idx a b) E) S Q X := by
  unfold evE e2
  rw [w_bind]
  refine q.mono (fun x S h => ?_) fun _ _ _ z => z
  rw [w_bind]
  exact h
theorem r_cut {a : IE} {lo hi : IO} (q : wE (evE v a E) S (fun x S => wE (evO v lo E) S (fun l S => wE (evO v hi E) S (fun h S => ∃ d, cutO x l h = some d ∧ Q d S) X) X) X) : wE (evE v (.cut a lo hi) E) S Q X := by
  unfold evE eCut
  rw [w_bind]
  refine q.mono (fun x S h => ?_) fun _ _ _ z => z
  rw [w_bind]
  refine h.mono (fun l S h => ?_) fun _ _ _ z => z
  rw [w_bind]
  refine h.mono (fun l S h => ?_) fun _ _ _ z => z
  rw [w_ofO]
  exact h
theorem r_o0 (q : QO none S) : wE (evO v .none E) S QO X := by unfold evO; exact ⟨q⟩
theorem r_o1 {a : IE} (q : wE (evE v a E) S (fun x S => ∃ i, x = .int i ∧ QO (some i) S) X) : wE (evO v (.some a) E) S QO X := by
  unfold evO ePart
  rw [w_bind]
  refine q.mono (fun x S ⟨i, e, h⟩ => ?_) fun _ _ _ z => z
  subst e
  exact ⟨h⟩
theorem r_bi {f : BI} {e : IE} {es : IEs} (q : wE (evEs v (.cons e es) E) S (fun xs S => wE (biM f xs) S Q X) X) : wE (evE v (.bi f e es) E) S Q X := by
  unfold evEs at q
  unfold evE PK.es
  rw [w_bind]
  exact q
theorem r_ty {f : TI0} {e : IE} {es : IEs} (q : wE (evEs v (.cons e es) E) S (fun xs S => wE (tyM f xs) S Q X) X) : wE (evE v (.ty f e es) E) S Q X := by
  unfold evEs at q
  unfold evE PK.es
  rw [w_bind]
  exact q
theorem r_isT {t : Ty0} {e : IE} (q : wE (evE v e E) S (fun x S => ∃ b, isTy S t x = some b ∧ Q (.bl b) S) X) : wE (evE v (.isT t e) E) S Q X := by
  unfold evE e1
  rw [w_bind]
  refine q.mono (fun x S ⟨b, e, h⟩ => ?_) fun _ _ _ z => z
  rw [wE_iff]; unfold wE0 isTyM
  rw [e]
  exact h
theorem r_call {f : Nat} {e : IE} {es : IEs} (q : wE (evEs v (.cons e es) E) S (fun xs S => xs.length + (v.dds f).length = v.np f ∧ wE (v.call f (xs ++ v.dds f)) S Q X) X) : wE (evE v (.call false f e es) E) S Q X := by
  unfold evEs at q
  unfold evE PK.es
  rw [w_bind, if_neg Bool.false_ne_true]
  refine q.mono (fun xs S h => ?_) fun _ _ _ z => z
  rw [w_call h.1]
  exact h.2
theorem r_callP {f : Nat} {e : IE} {es : IEs} (q : wE (evEs v (.cons e es) E) S (fun xs S => xs.length + (v.dds f).length = v.np f ∧ D.noRefs (xs ++ v.dds f) = true ∧ wE (v.call f (xs ++ v.dds f)) [] (fun d _ => d.noRef = true ∧ Q d S) (fun c fs _ => D.noRefF fs = true ∧ X c fs S)) X) : wE (evE v (.call true f e es) E) S Q X := by
  unfold evEs at q
  unfold evE PK.es
  rw [w_bind, if_pos rfl]
  refine q.mono (fun xs S h => ?_) fun _ _ _ z => z
  rw [w_call h.1, w_pureCall h.2.1]
  exact h.2.2
theorem r_app {o e : IE} (q : wE (evE v o E) S (fun x S => ∃ r ys, x = .ref r ∧ S[r]? = some (.lst ys) ∧ wE (evE v e E) S (fun d S => ∃ xs, S[r]? = some (.lst xs) ∧ xs.length < 16777216 ∧ Q .non (S.set r (.lst (xs ++ [d])))) X) X) : wE (evE v (.app o e) E) S Q X := by
  unfold evE eApp
  rw [w_bind]
  refine q.mono (fun x S ⟨r, ys, e1, e2, h⟩ => ?_) fun _ _ _ z => z
  subst e1
  rw [w_bind]
  rw [wE_iff]; unfold wE0 chkL
  simp only [viewL, e2]
  show wE (EM.bind _ _) S Q X
  rw [w_bind]
  refine h.mono (fun d S ⟨xs, e3, e4, h⟩ => ?_) fun _ _ _ z => z
  rw [wE_iff]; unfold wE0 appM
  simp only [e3, if_pos e4]
  exact h
theorem r_nil (q : QL [] S) : wE (evEs v .nil E) S QL X := by unfold evEs; exact ⟨q⟩
theorem r_cons {e : IE} {es : IEs} (q : wE (evE v e E) S (fun x S => wE (evEs v es E) S (fun xs S => QL (x :: xs) S) X) X) : wE (evEs v (.cons e es) E) S QL X := by
  unfold evEs eCons
  rw [w_bind]
  refine q.mono (fun x S h => ?_) fun _ _ _ z => z
  rw [w_bind]
  exact h.mono (fun _ _ h => ⟨h⟩) fun _ _ _ z => z
/-! tests -/
theorem t_val {e : IE} (q : wE (evE v e E) S (fun x S => ∃ k, x = .bl k ∧ QB k S) X) : wE (evT v (.val e) E) S QB X := by
  unfold evT eTest
  rw [w_bind]
  refine q.mono (fun x S ⟨k, e, h⟩ => ?_) fun _ _ _ z => z
  subst e
  exact ⟨h⟩
theorem t_cmp {o : COp} {a b : IE} (q : wE (evE v a E) S (fun x S => wE (evE v b E) S (fun y S => wE (copM o x y) S (fun x S => ∃ k, x = .bl k ∧ QB k S) X) X) X) : wE (evT v (.cmp o a b) E) S QB X := by
  unfold evT eTest
  rw [w_bind]
  have := r_cmp (v := v) (E := E) q
  unfold evE at this
  refine this.mono (fun x S ⟨k, e, h⟩ => ?_) fun _ _ _ z => z
  subst e
  exact ⟨h⟩
theorem t_and {a b : IT} (q : wE (evT v a E) S (fun k S => (k = true → wE (evT v b E) S QB X) ∧ (k = false → QB false S)) X) : wE (evT v (.and a b) E) S QB X := by
  unfold evT eAnd
  rw [w_bind]
  refine q.mono (fun k S h => ?_) fun _ _ _ z => z
  cases k with
  | true => exact h.1 rfl
  | false => exact ⟨h.2 rfl⟩
theorem t_or {a b : IT} (q : wE (evT v a E) S (fun k S => (k = false → wE (evT v b E) S QB X) ∧ (k = true → QB true S)) X) : wE (evT v (.or a b) E) S QB X := by
  unfold evT eOr
  rw [w_bind]
  refine q.mono (fun k S h => ?_) fun _ _ _ z => z
  cases k with
  | true => exact ⟨h.2 rfl⟩
  | false => exact h.1 rfl
theorem t_and1 {a : IT} (q : wE (evT v a E) S QB X) : wE (evT v (.and1 a) E) S QB X := by unfold evT; exact q
theorem t_or1 {a : IT} (q : wE (evT v a E) S QB X) : wE (evT v (.or1 a) E) S QB X := by unfold evT; exact q
theorem t_not {a : IT} (q : wE (evT v a E) S (fun k S => QB (!k) S) X) : wE (evT v (.not a) E) S QB X := by
  unfold evT eNot
  rw [w_bind]
  exact q.mono (fun _ _ h => ⟨h⟩) fun _ _ _ z => z
/-! containers -/
theorem c_lst {es : IEs} (q : wE (evEs v es E) S (fun xs S => xs.length ≤ 1000 ∧ QC (.lst xs) S) X) : wE (evC v (.lst es) E) S QC X := by
  unfold evC PK.fs
  rw [w_bind]
  refine q.mono (fun xs S h => ?_) fun _ _ _ z => z
  unfold mLst
  rw [if_pos h.1]
  exact ⟨h.2⟩
theorem c_cat {a b : IE} (q : wE (evE v a E) S (fun x S => wE (evE v b E) S (fun y S => ∃ xs ys, viewL S x = some xs ∧ viewL S y = some ys ∧ xs.length + ys.length ≤ 16777216 ∧ QC (.lst (xs ++ ys)) S) X) X) : wE (evC v (.cat a b) E) S QC X := by
  unfold evC f2
  rw [w_bind]
  refine q.mono (fun x S h => ?_) fun _ _ _ z => z
  rw [w_bind]
  refine h.mono (fun y S ⟨xs, ys, e1, e2, e3, h⟩ => ?_) fun _ _ _ z => z
  rw [wE_iff]; unfold wE0 catM
  simp only [e1, e2, if_pos e3]
  exact h
theorem c_rep {c : IC} {b : IE} (q : wE (evC v c E) S (fun o S => wE (evE v b E) S (fun y S => ∃ xs k, o = .lst xs ∧ y = .int k ∧ (-(2 ^ 63) ≤ k ∧ k < 2 ^ 63 ∧ xs.length * k.toNat ≤ 16777216) ∧ QC (.lst (List.replicate k.toNat xs).flatten) S) X) X) : wE (evC v (.rep c b) E) S QC X := by
  unfold evC repF
  rw [w_bind]
  refine q.mono (fun x S h => ?_) fun _ _ _ z => z
  rw [w_bind]
  refine h.mono (fun y S ⟨xs, k, e1, e2, e3, hh⟩ => ?_) fun _ _ _ z => z
  subst e1 e2
  rw [w_ofO]
  exact ⟨_, by simp only [timesO]; rw [if_pos e3], hh⟩
theorem c_cut {a : IE} {lo hi : IO} (q : wE (evE v a E) S (fun x S => wE (evO v lo E) S (fun l S => wE (evO v hi E) S (fun h S => ∃ xs, viewL S x = some xs ∧ QC (.lst (cutL xs l h)) S) X) X) X) : wE (evC v (.cut a lo hi) E) S QC X := by
  unfold evC fCut
  rw [w_bind]
  refine q.mono (fun x S h => ?_) fun _ _ _ z => z
  rw [w_bind]
  refine h.mono (fun l S h => ?_) fun _ _ _ z => z
  rw [w_bind]
  refine h.mono (fun l S ⟨xs, e, h⟩ => ?_) fun _ _ _ z => z
  rw [wE_iff]; unfold wE0
  simp only [e]
  exact h
theorem c_list {a : IE} (q : wE (evE v a E) S (fun x S => ∃ xs, viewS S x = some xs ∧ QC (.lst xs) S) X) : wE (evC v (.list a) E) S QC X := by
  unfold evC PK.fs eCons
  rw [w_bind, w_bind]
  refine q.mono (fun x S ⟨xs, e, h⟩ => ?_) fun _ _ _ z => z
  rw [w_bind]
  unfold eNil
  rw [w_pure, w_pure]
  rw [wE_iff]; unfold wE0 listM
  simp only [e]
  exact h
theorem c_lc {it : II} {t : Tgt} {own : List (Str × Nat)} {c : ITo} {m : IE} (q : wE (evI v it E) S (fun ds S => ds.length ≤ 16777216 ∧ wE (cLoop t (evTo v c) (evE v m) (wipeE E (own.map (·.2))) ds) S (fun xs S => QC (.lst xs) S) fun _ _ _ => False) X) : wE (evC v (.lc it t own c m) E) S QC X := by
  unfold evC fLc
  rw [w_bind]
  refine q.mono (fun ds S h => ?_) fun _ _ _ z => z
  rw [if_pos h.1, w_bind]
  exact w_noX (h.2.mono (fun _ _ h => ⟨h⟩) fun _ _ _ z => z)
theorem o_none (q : QB true S) : wE (evTo v .none E) S QB X := by unfold evTo eYes; exact ⟨q⟩
theorem o_some {t : IT} (q : wE (evT v t E) S QB X) : wE (evTo v (.some t) E) S QB X := by unfold evTo; exact q
/-! iterables -/
theorem i_seq {e : IE} (q : wE (evE v e E) S (fun x S => ∃ ds, seqO x = some ds ∧ QL ds S) X) : wE (evI v (.seq e) E) S QL X := by
  unfold evI eOf
  rw [w_bind]
  refine q.mono (fun x S h => ?_) fun _ _ _ z => z
  rw [w_ofO]
  exact h
theorem i_rng1 {e : IE} (q : wE (evE v e E) S (fun x S => ∃ i, x = .int i ∧ (-(2 ^ 62) ≤ i ∧ i < 2 ^ 62) ∧ QL (rangeD 0 i.toNat) S) X) : wE (evI v (.rng1 e) E) S QL X := by
  unfold evI eOf eCons eNil
  rw [w_bind, w_bind]
  refine q.mono (fun x S ⟨i, e, h1, h2⟩ => ?_) fun _ _ _ z => z
  subst e
  rw [w_bind, w_pure, w_pure, w_ofO]
  refine ⟨rangeD 0 i.toNat, ?_, h2⟩
  unfold rng1O small62
  simp only [h1.1, h1.2, decide_true, Bool.and_self, if_true]
theorem i_rng2 {a b : IE} (q : wE (evE v a E) S (fun x S => wE (evE v b E) S (fun y S => ∃ i j, x = .int i ∧ y = .int j ∧ (-(2 ^ 62) ≤ i ∧ i < 2 ^ 62 ∧ -(2 ^ 62) ≤ j ∧ j < 2 ^ 62) ∧ QL (rangeD i (j - i).toNat) S) X) X) : wE (evI v (.rng2 a b) E) S QL X := by
  unfold evI eOf eCons eNil
  rw [w_bind, w_bind]
  refine q.mono (fun x S h => ?_) fun _ _ _ z => z
  rw [w_bind, w_bind]
  refine h.mono (fun y S ⟨i, j, e1, e2, h1, h2⟩ => ?_) fun _ _ _ z => z
  subst e1 e2
  rw [w_bind, w_pure, w_pure, w_pure, w_ofO]
  refine ⟨rangeD i (j - i).toNat, ?_, h2⟩
  unfold rng2O small62
  simp only [h1.1, h1.2.1, h1.2.2.1, h1.2.2.2, decide_true, Bool.and_self, and_self, if_true]
theorem i_revr {e : IE} (q : wE (evE v e E) S (fun x S => ∃ i, x = .int i ∧ (-(2 ^ 62) ≤ i ∧ i < 2 ^ 62) ∧ QL (revR 0 i) S) X) : wE (evI v (.revr e) E) S QL X := by
  unfold evI eOf
  rw [w_bind]
  refine q.mono (fun x S ⟨i, e, h1, h2⟩ => ?_) fun _ _ _ z => z
  subst e
  rw [w_ofO]
  refine ⟨revR 0 i, ?_, h2⟩
  unfold rev1O small62
  simp only [h1.1, h1.2, decide_true, Bool.and_self, if_true]
theorem i_rev {e : IE} (q : wE (evE v e E) S (fun x S => ∃ ds, seqO x = some ds ∧ QL ds.reverse S) X) : wE (evI v (.rev e) E) S QL X := by
  unfold evI eOf
  rw [w_bind]
  refine q.mono (fun x S ⟨ds, e, h⟩ => ?_) fun _ _ _ z => z
  rw [w_ofO]
  exact ⟨ds.reverse, by show (seqO x).map List.reverse = _; rw [e]; rfl, h⟩
theorem i_zip {a b : IE} (q : wE (evE v a E) S (fun x S => wE (evE v b E) S (fun y S => ∃ ds, zipO [x, y] = some ds ∧ QL ds S) X) X) : wE (evI v (.zip a b) E) S QL X := by
  unfold evI eOf eCons eNil
  rw [w_bind, w_bind]
  refine q.mono (fun x S h => ?_) fun _ _ _ z => z
  rw [w_bind, w_bind]
  refine h.mono (fun y S h => ?_) fun _ _ _ z => z
  rw [w_bind, w_pure, w_pure, w_pure, w_ofO]
  exact h
theorem i_enum {e : IE} (q : wE (evE v e E) S (fun x S => ∃ ds, enumO [x] = some ds ∧ QL ds S) X) : wE (evI v (.enum e) E) S QL X := by
  unfold evI eOf eCons eNil
  rw [w_bind, w_bind]
  refine q.mono (fun x S h => ?_) fun _ _ _ z => z
  rw [w_bind, w_pure, w_pure, w_ofO]
  exact h
end
/-! statements -/
section
variable {v : Ev} {S : List DO} {E : PK.Env} {P : Post}
theorem s_nil (q : P.nx E S) : wS (evB v .nil) E S P := by unfold evB; exact ⟨q⟩
theorem s_cons {s : IS} {ss : ISs} (q : wS (evS v s) E S ⟨fun E S => wS (evB v ss) E S P, P.rt, P.bk, P.ct, P.x⟩) : wS (evB v (.cons s ss)) E S P := by
  unfold evB
  rw [wS_seq]
  exact q
theorem s_set {i : Nat} {e : IE} (q : wE (evE v e E) S (fun d S => P.nx (E.set i (some d)) S) fun c fs S => P.x c fs E S) : wS (evS v (.set i e)) E S P := by
  unfold evS
  rw [wS_asg]
  exact q.mono (fun _ _ h => ⟨h⟩) fun _ _ _ z => z
theorem s_tup {t : Tgt} {e : IE} (q : wE (evE v e E) S (fun d S => ∃ E', t.put d E = some E' ∧ P.nx E' S) fun c fs S => P.x c fs E S) : wS (evS v (.tup t e)) E S P := by
  unfold evS
  rw [wS_asg]
  refine q.mono (fun d S ⟨E', e, h⟩ => ?_) fun _ _ _ z => z
  unfold mTgt
  rw [e]
  exact ⟨h⟩
theorem s_sub {o i e : IE} (q : wE (evE v e E) S (fun d S => wE (evE v o E) S (fun x S => wE (evE v i E) S (fun y S => ∃ r k xs j, x = .ref r ∧ y = .int k ∧ S[r]? = some (.lst xs) ∧ ixN xs.length k = some j ∧ P.nx E (S.set r (.lst (xs.set j d)))) (fun c fs S => P.x c fs E S)) (fun c fs S => P.x c fs E S)) fun c fs S => P.x c fs E S) : wS (evS v (.sub o i e)) E S P := by
  unfold evS
  rw [wS_asg]
  refine q.mono (fun d S h => ?_) fun _ _ _ z => z
  unfold mSub
  rw [w_bind]
  refine h.mono (fun x S h => ?_) fun _ _ _ z => z
  rw [w_bind]
  refine h.mono (fun y S ⟨r, k, xs, j, e1, e2, e3, e4, hh⟩ => ?_) fun _ _ _ z => z
  subst e1 e2
  rw [w_bind, w_set e3 e4]
  exact ⟨hh⟩
theorem s_setC {i : Nat} {c : IC} (q : wE (evC v c E) S (fun o S => ∃ d, valOf o = some d ∧ P.nx (E.set i (some d)) S) fun c fs S => P.x c fs E S) : wS (evS v (.setC i c)) E S P := by
  unfold evS
  rw [wS_asg]
  have := r_new (v := v) (E := E) (Q := fun d S => P.nx (E.set i (some d)) S) q
  unfold evE at this
  exact this.mono (fun _ _ h => ⟨h⟩) fun _ _ _ z => z
theorem s_boxC {i : Nat} {c : IC} (q : wE (evC v c E) S (fun o S => P.nx (E.set i (some (.ref S.length))) (S ++ [o])) fun c fs S => P.x c fs E S) : wS (evS v (.boxC i c)) E S P := by
  unfold evS
  rw [wS_asg]
  have := r_box (v := v) (E := E) (Q := fun d S => P.nx (E.set i (some d)) S) q
  unfold evE at this
  exact this.mono (fun _ _ h => ⟨h⟩) fun _ _ _ z => z
theorem s_expr {e : IE} (q : wE (evE v e E) S (fun _ S => P.nx E S) fun c fs S => P.x c fs E S) : wS (evS v (.expr e)) E S P := by
  unfold evS
  rw [wS_expr]
  exact q
theorem s_ret {e : IE} (q : wE (evE v e E) S P.rt fun c fs S => P.x c fs E S) : wS (evS v (.ret e)) E S P := by
  unfold evS
  rw [wS_ret]
  exact q
theorem s_retN (q : P.rt .non S) : wS (evS v .retN) E S P := by unfold evS; exact ⟨q⟩
theorem s_if {t : IT} {a b : ISs} (q : wE (evT v t E) S (fun k S => (k = true → wS (evB v a) E S P) ∧ (k = false → wS (evB v b) E S P)) fun c fs S => P.x c fs E S) : wS (evS v (.ifS t a b)) E S P := by
  unfold evS
  rw [wS_if]
  exact q
theorem s_for {t : Tgt} {it : II} {b : ISs} (q : wE (evI v it E) S (fun ds S => wS (sLoop (mTgt t) (evB v b) ds) E S P) fun c fs S => P.x c fs E S) : wS (evS v (.forS t it b)) E S P := by
  unfold evS
  rw [wS_for]
  exact q
theorem s_brk (q : P.bk E S) : wS (evS v .brk) E S P := by unfold evS; exact ⟨q⟩
theorem s_cont (q : P.ct E S) : wS (evS v .cont) E S P := by unfold evS; exact ⟨q⟩
theorem s_pass (q : P.nx E S) : wS (evS v .pass) E S P := by unfold evS; exact ⟨q⟩
theorem s_doc (q : P.nx E S) : wS (evS v .doc) E S P := by unfold evS; exact ⟨q⟩
theorem s_while {t : IT} {b : ISs} (q : wS (sWhile (evT v t) (evB v b) v.wf) E S P) : wS (evS v (.whileS t b)) E S P := by unfold evS; exact q
theorem put_1 {i : Nat} {d : D} {X : XP} {Q : PK.Env → List DO → Prop} (q : Q (E.set i (some d)) S) : wE (mTgt (.name i) d E) S Q X := ⟨q⟩
theorem put_n {t : Tgt} {d : D} {X : XP} {Q : PK.Env → List DO → Prop} {E' : PK.Env} (h : t.put d E = some E') (q : Q E' S) : wE (mTgt t d E) S Q X := by unfold mTgt; rw [h]; exact ⟨q⟩
theorem b_call {p : Pr} {n f : Nat} {F : FD} {ds : List D} {Q : D → List DO → Prop} {X : XP} (h : p.fds[f]? = some F) (q : wS (evB (p.ev n) F.ir) (ds.map some ++ List.replicate (F.N.length - ds.length) none) S ⟨fun _ S => Q .non S, Q, fun _ _ => False, fun _ _ => False, fun c fs _ S => X c fs S⟩) : wE (p.call (n + 1) f ds) S Q X := by
  have e : p.call (n + 1) f = runBody F.N.length (evB (p.ev n) F.ir) := by
    show (match p.fds[f]? with | some F => runBody F.N.length (evB (p.evWith (p.call n)) F.ir) | none => fun _ => EM.fail) = _
    rw [h]
    rfl
  rw [e, w_body]
  exact q
end
/-! operators on ints, as rules -/
section
variable {S : List DO} {X : XP} {Q : D → List DO → Prop} {i j : Int}
theorem p_add (q : Q (.int (i + j)) S) : wE (bopM .add (.int i) (.int j)) S Q X := ⟨q⟩
theorem p_sub (q : Q (.int (i - j)) S) : wE (bopM .sub (.int i) (.int j)) S Q X := ⟨q⟩
theorem p_mul (h : mulOk i j) (q : Q (.int (i * j)) S) : wE (bopM .mul (.int i) (.int j)) S Q X := by unfold bopM; rw [w_mul]; exact ⟨h, q⟩
theorem p_fdiv (h : j ≠ 0 ∧ j.natAbs.log2 < 9000) (q : Q (.int (i.fdiv j)) S) : wE (bopM .fdiv (.int i) (.int j)) S Q X := by unfold bopM; rw [w_fdiv]; exact ⟨h, q⟩
theorem p_mod (h : j ≠ 0) (q : Q (.int (i.fmod j)) S) : wE (bopM .mod (.int i) (.int j)) S Q X := by unfold bopM; rw [w_mod]; exact ⟨h, q⟩
theorem p_pow18 (q : Q (.int 1000000000000000000) S) : wE (bopM .pow (.int 10) (.int 18)) S Q X := by unfold bopM; rw [w_pow18]; exact q
theorem p_catT {xs ys : List D} (h : xs.length + ys.length ≤ 16777216) (q : Q (.tup (xs ++ ys)) S) : wE (bopM .add (.tup xs) (.tup ys)) S Q X := by
  unfold bopM
  rw [w_ofO]
  exact ⟨_, by simp only [addO]; rw [if_pos h], q⟩
theorem p_lt (q : Q (.bl (decide (i < j))) S) : wE (copM .lt (.int i) (.int j)) S Q X := ⟨q⟩
theorem p_le (q : Q (.bl (decide (i ≤ j))) S) : wE (copM .le (.int i) (.int j)) S Q X := ⟨q⟩
theorem p_gt (q : Q (.bl (decide (i > j))) S) : wE (copM .gt (.int i) (.int j)) S Q X := ⟨q⟩
theorem p_ge (q : Q (.bl (decide (i ≥ j))) S) : wE (copM .ge (.int i) (.int j)) S Q X := ⟨q⟩
theorem p_eq (q : Q (.bl (decide (i = j))) S) : wE (copM .eq (.int i) (.int j)) S Q X := by unfold copM; rw [w_eqI]; exact q
theorem p_ne (q : Q (.bl (!decide (i = j))) S) : wE (copM .ne (.int i) (.int j)) S Q X := by unfold copM; rw [w_neI]; exact q
theorem p_eqG {x y : D} (h : eqOk (derefL S x) (derefL S y) = true) (q : Q (.bl (PyData.eqv (toPy (derefL S x)) (toPy (derefL S y)))) S) : wE (copM .eq x y) S Q X := by unfold copM; rw [w_eq]; exact ⟨h, q⟩
theorem p_neG {x y : D} (h : eqOk (derefL S x) (derefL S y) = true) (q : Q (.bl (!PyData.eqv (toPy (derefL S x)) (toPy (derefL S y)))) S) : wE (copM .ne x y) S Q X := by unfold copM; rw [w_ne]; exact ⟨h, q⟩
theorem p_int (q : Q (.int i) S) : wE (tyM .int [.int i]) S Q X := ⟨q⟩
theorem p_intB {b : Bool} (q : Q (.int (if b then 1 else 0)) S) : wE (tyM .int [.bl b]) S Q X := ⟨q⟩
theorem p_abs (q : Q (.int (if i < 0 then -i else i)) S) : wE (biM .abs [.int i]) S Q X := ⟨q⟩
theorem p_min (q : Q (.int (if j < i then j else i)) S) : wE (biM .min [.int i, .int j]) S Q X := ⟨q⟩
theorem p_max (q : Q (.int (if j > i then j else i)) S) : wE (biM .max [.int i, .int j]) S Q X := ⟨q⟩
theorem p_lenN {ns : List Int} (q : Q (.int ns.length) S) : wE (biM .len [.scr ns]) S Q X := ⟨q⟩
theorem p_lenT {xs : List D} (q : Q (.int xs.length) S) : wE (biM .len [.tup xs]) S Q X := ⟨q⟩
theorem p_lenL {xs : List D} (q : Q (.int xs.length) S) : wE (biM .len [.lst xs]) S Q X := ⟨q⟩
theorem p_lenR {r : Nat} {xs : List D} (h : S[r]? = some (.lst xs)) (q : Q (.int xs.length) S) : wE (biM .len [.ref r]) S Q X := by
  rw [wE_iff]; unfold biM wE0 lenM viewS
  simp only [viewL, h]
  exact q
theorem p_tupL {xs : List D} (q : Q (.tup xs) S) : wE (tyM .tuple [.lst xs]) S Q X := ⟨q⟩
theorem p_idxT {xs : List D} {d : D} (h : L2.atI xs i = some d) (q : Q d S) : wE (idxM (.tup xs) (.int i)) S Q X := by rw [w_idxT h]; exact q
theorem p_idxL {xs : List D} {d : D} (h : L2.atI xs i = some d) (q : Q d S) : wE (idxM (.lst xs) (.int i)) S Q X := by rw [w_idxL h]; exact q
theorem p_idxN {xs : List Int} {n : Int} (h : L2.atI xs i = some n) (q : Q (.int n) S) : wE (idxM (.scr xs) (.int i)) S Q X := by rw [w_idxN h]; exact q
theorem p_idxR {r : Nat} {xs : List D} {d : D} (h0 : S[r]? = some (.lst xs)) (h : L2.atI xs i = some d) (q : Q d S) : wE (idxM (.ref r) (.int i)) S Q X := by rw [w_idxR h0 h]; exact q
end
theorem lg31 {m : Int} (h : m ≠ 0 ∧ m.natAbs < 2147483648) : m ≠ 0 ∧ m.natAbs.log2 < 9000 := ⟨h.1, Nat.lt_trans ((Nat.log2_lt (by omega)).mpr (show m.natAbs < 2 ^ 31 from h.2)) (by decide)⟩
theorem mul64 {i j : Int} (h : i.natAbs < 18446744073709551616 ∧ j.natAbs < 18446744073709551616) : mulOk i j := Sm.mulOk (k := 64) (l := 64) h.1 h.2 (by decide)
end PK
namespace PK
open PySem PySem.Spec PyProof.Rows L2

theorem s_cut {v : Ev} {S : List DO} {E : PK.Env} {P : Post} {s : IS} {ss : ISs} (J : PK.Env → List DO → Prop) (h1 : wS (evS v s) E S ⟨J, P.rt, P.bk, P.ct, P.x⟩) (h2 : ∀ E S, J E S → wS (evB v ss) E S P) : wS (evB v (.cons s ss)) E S P :=
  s_cons (h1.mono h2 (fun _ _ z => z) (fun _ _ z => z) (fun _ _ z => z) fun _ _ _ _ z => z)
theorem k_call {p : Pr} {n f : Nat} {xs : List D} (ds : List D) {S : List DO} {Q : D → List DO → Prop} {X : XP} (hd : p.dds f = ds) (hn : xs.length + ds.length = p.np f) (q : wE (p.call n f (xs ++ ds)) S Q X) :
    xs.length + ((p.ev n).dds f).length = (p.ev n).np f ∧ wE ((p.ev n).call f (xs ++ (p.ev n).dds f)) S Q X := by
  subst hd
  exact ⟨hn, q⟩
theorem k_pure {p : Pr} {n f : Nat} {xs : List D} (ds : List D) {Q : D → List DO → Prop} {X : XP} (hd : p.dds f = ds) (hn : xs.length + ds.length = p.np f) (h : D.noRefs (xs ++ ds) = true) (q : wE (p.call n f (xs ++ ds)) [] Q X) :
    xs.length + ((p.ev n).dds f).length = (p.ev n).np f ∧ D.noRefs (xs ++ (p.ev n).dds f) = true ∧ wE ((p.ev n).call f (xs ++ (p.ev n).dds f)) [] Q X := by
  subst hd
  exact ⟨hn, h, q⟩
/-! plain data -/
theorem ixN_nn {n : Nat} {i : Int} (h0 : 0 ≤ i) (h1 : i < n) : ixN n i = some i.toNat := by unfold ixN; rw [if_pos h0, if_pos h1]
theorem atI_nn {α : Type} {xs : List α} {i : Int} (h0 : 0 ≤ i) : L2.atI xs i = xs[i.toNat]? := by
  unfold L2.atI
  by_cases h : i < xs.length
  · rw [ixN_nn h0 h]; rfl
  · unfold ixN
    rw [if_pos h0, if_neg h]
    rw [List.getElem?_eq_none (by omega)]
    rfl
theorem cut_drop {α : Type} {xs : List α} {k : Nat} : cutL xs (some (k : Int)) none = xs.drop k := by
  unfold cutL
  rw [HT.sIx_nat, HT.sIx_none]
  by_cases h : k ≤ xs.length
  · rw [Nat.min_eq_left h, List.take_of_length_le (by simp)]
  · rw [Nat.min_eq_right (by omega), List.drop_eq_nil_of_le (Nat.le_refl _), List.drop_eq_nil_of_le (by omega)]
    simp
theorem cut_take {α : Type} {xs : List α} {k : Nat} : cutL xs none (some (k : Int)) = xs.take k := by
  unfold cutL
  rw [HT.sIx_nat, HT.sIx_none, List.drop_zero, Nat.sub_zero]
  by_cases h : k ≤ xs.length
  · rw [Nat.min_eq_left h]
  · rw [Nat.min_eq_right (by omega), List.take_of_length_le (Nat.le_refl _), List.take_of_length_le (by omega)]
mutual
theorem eqv_refl : ∀ d : D, d.plain = true → PyData.eqv (toPy d) (toPy d) = true
  | .non, _ => by simp [toPy, PyData.eqv]
  | .bl b, _ => by simp [toPy, PyData.eqv]
  | .int i, _ => by simp [toPy, PyData.eqv]
  | .str x, _ => by simp [toPy, PyData.eqv]
  | .tup xs, h => by simp only [toPy, PyData.eqv]; exact eqvs_refl xs (by simpa [D.plain] using h)
  | .lst xs, h => by simp only [toPy, PyData.eqv]; exact eqvs_refl xs (by simpa [D.plain] using h)
  | .dct _, h => by simp [D.plain] at h
  | .ins _ _, h => by simp [D.plain] at h
  | .ref _, h => by simp [D.plain] at h
  | .scr ns, _ => by
    simp only [toPy, PyData.eqv]
    induction ns with
    | nil => rfl
    | cons n ns ih => simp [PyData.eqvAll, PyData.eqv, ih (by simp [D.plain])]
theorem eqvs_refl : ∀ ds : List D, D.plains ds = true → PyData.eqvAll (toPys ds) (toPys ds) = true
  | [], _ => rfl
  | d :: ds, h => by
    simp only [D.plains, Bool.and_eq_true] at h
    simp only [toPys, PyData.eqvAll, eqv_refl d h.1, eqvs_refl ds h.2, Bool.and_self]
end
theorem plains_all : ∀ {ds : List D}, (∀ d ∈ ds, d.plain = true) → D.plains ds = true
  | [], _ => rfl
  | d :: ds, h => by simp only [D.plains, h d (List.mem_cons_self ..), plains_all fun e he => h e (List.mem_cons_of_mem _ he), Bool.and_self]
theorem depths_le {k : Nat} : ∀ {ds : List D}, (∀ d ∈ ds, d.depth ≤ k) → D.depths ds ≤ k
  | [], _ => Nat.zero_le _
  | d :: ds, h => by
    have h1 := h d (List.mem_cons_self ..)
    have h2 := depths_le fun e he => h e (List.mem_cons_of_mem _ he)
    simp only [D.depths]
    omega
theorem noRefs_all : ∀ {ds : List D}, (∀ d ∈ ds, d.noRef = true) → D.noRefs ds = true
  | [], _ => rfl
  | d :: ds, h => by simp only [D.noRefs, h d (List.mem_cons_self ..), noRefs_all fun e he => h e (List.mem_cons_of_mem _ he), Bool.and_self]
/-- tuples of ints, and lists, tuples of them -/
def dI (xs : List Int) : D := .tup (xs.map .int)
theorem dI_plain {xs : List Int} : (dI xs).plain = true := by
  unfold dI D.plain
  exact plains_all fun d h => by obtain ⟨x, _, rfl⟩ := List.mem_map.mp h; rfl
theorem dI_depth {xs : List Int} : (dI xs).depth ≤ 1 := by
  unfold dI D.depth
  have := depths_le (k := 0) (ds := xs.map D.int) fun d h => by obtain ⟨x, _, rfl⟩ := List.mem_map.mp h; exact Nat.le_refl _
  omega
theorem dI_noRef {xs : List Int} : (dI xs).noRef = true := by
  unfold dI D.noRef
  exact noRefs_all fun d h => by obtain ⟨x, _, rfl⟩ := List.mem_map.mp h; rfl
def dW (xs : List (List Int)) : D := .tup (xs.map dI)
def dR (xs : List (List Int)) : D := .lst (xs.map dI)
theorem dW_plain {xs : List (List Int)} : (dW xs).plain = true := by
  unfold dW D.plain
  exact plains_all fun d h => by obtain ⟨x, _, rfl⟩ := List.mem_map.mp h; exact dI_plain
theorem dR_plain {xs : List (List Int)} : (dR xs).plain = true := by
  unfold dR D.plain
  exact plains_all fun d h => by obtain ⟨x, _, rfl⟩ := List.mem_map.mp h; exact dI_plain
theorem dW_depth {xs : List (List Int)} : (dW xs).depth ≤ 2 := by
  unfold dW D.depth
  have := depths_le (k := 1) (ds := xs.map dI) fun d h => by obtain ⟨x, _, rfl⟩ := List.mem_map.mp h; exact dI_depth
  omega
theorem dR_depth {xs : List (List Int)} : (dR xs).depth ≤ 2 := by
  unfold dR D.depth
  have := depths_le (k := 1) (ds := xs.map dI) fun d h => by obtain ⟨x, _, rfl⟩ := List.mem_map.mp h; exact dI_depth
  omega
theorem dW_noRef {xs : List (List Int)} : (dW xs).noRef = true := by
  unfold dW D.noRef
  exact noRefs_all fun d h => by obtain ⟨x, _, rfl⟩ := List.mem_map.mp h; exact dI_noRef
theorem dR_noRef {xs : List (List Int)} : (dR xs).noRef = true := by
  unfold dR D.noRef
  exact noRefs_all fun d h => by obtain ⟨x, _, rfl⟩ := List.mem_map.mp h; exact dI_noRef
section
variable {S : List DO} {X : XP} {Q : D → List DO → Prop} {i : Int}
theorem p_lenI {xs : List Int} (q : Q (.int xs.length) S) : wE (biM .len [dI xs]) S Q X := by unfold dI; refine p_lenT ?_; rw [List.length_map]; exact q
theorem p_lenW {xs : List (List Int)} (q : Q (.int xs.length) S) : wE (biM .len [dW xs]) S Q X := by unfold dW; refine p_lenT ?_; rw [List.length_map]; exact q
theorem p_lenRw {xs : List (List Int)} (q : Q (.int xs.length) S) : wE (biM .len [dR xs]) S Q X := by unfold dR; refine p_lenL ?_; rw [List.length_map]; exact q
theorem p_idxI {xs : List Int} {a : Int} (h0 : 0 ≤ i) (h : xs[i.toNat]? = some a) (q : Q (.int a) S) : wE (idxM (dI xs) (.int i)) S Q X := by unfold dI; refine p_idxT ?_ q; rw [atI_nn h0, List.getElem?_map, h]; rfl
theorem p_idxW {xs : List (List Int)} {a : List Int} (h0 : 0 ≤ i) (h : xs[i.toNat]? = some a) (q : Q (dI a) S) : wE (idxM (dW xs) (.int i)) S Q X := by unfold dW; refine p_idxT ?_ q; rw [atI_nn h0, List.getElem?_map, h]; rfl
theorem p_idxRw {xs : List (List Int)} {a : List Int} (h0 : 0 ≤ i) (h : xs[i.toNat]? = some a) (q : Q (dI a) S) : wE (idxM (dR xs) (.int i)) S Q X := by unfold dR; refine p_idxL ?_ q; rw [atI_nn h0, List.getElem?_map, h]; rfl
theorem rangeD_len {lo : Int} {n : Nat} : (rangeD lo n).length = n := by simp [rangeD]
theorem take_snoc {α : Type} {xs : List α} {k : Nat} {a : α} (h : xs[k]? = some a) : xs.take (k + 1) = xs.take k ++ [a] := by
  rw [List.take_add_one, h]; rfl
end
theorem eqOk_of {x y : D} (h1 : x.plain = true) (h2 : y.plain = true) (h3 : x.depth ≤ 64) (h4 : y.depth ≤ 64) : eqOk x y = true := by
  unfold eqOk
  rw [h1, h2]
  simp [h3, h4]
theorem eqv_nil {xs : List (List Int)} : PyData.eqv (toPy (dW xs)) (toPy (.tup [])) = decide (xs = []) := by
  cases xs <;> simp [dW, toPy, toPys, PyData.eqv, PyData.eqvAll]
end PK
namespace K21
open PySem PySem.Spec PyProof.Rows L2 PK
abbrev prog : Program := PySem.Challenge.pw_keptnumbers_k21_ordered_sums
def top (i : Nat) : Stmt := prog.main.body.getD i (.Pass ⟨0, 0, 0, 0⟩)
def N_law : List Str := ["_law_script", "_law_tape_here", "_law_width", "_law_choice", "_law_word_here", "_law_row_here", "_law_kept", "_law_value_here", "_law_item", "_law_high", "_law_monomial_here", "_law_found", "_law_place", "_law_field"]
def ir_law : ISs := .cons (.set 1 (.call false 1 (.var 0) (.cons (.int 0) .nil))) (.cons (.set 2 (.bin .add (.int 1) (.call false 2 (.var 1) (.cons (.int 3) .nil)))) (.cons (.set 3 (.call false 2 (.var 1) (.cons (.int 16) .nil))) (.cons (.set 4 (.call false 3 (.var 1) (.cons (.var 2) (.cons (.int 3) (.cons (.int 6) .nil))))) (.cons (.ifS (.cmp .lt (.var 3) (.int 2)) (.cons (.set 4 (.tup (.cons (.ty .tuple (.new (.cat (.new (.rep (.lst (.cons (.int 0) .nil)) (.bin .sub (.var 2) (.int 1)))) (.new (.lst (.cons (.int 6) .nil))))) .nil) .nil))) (.nil)) (.nil)) (.cons (.ifS (.cmp .gt (.var 3) (.int 13)) (.cons (.set 9 (.call false 2 (.var 1) (.cons (.int 7) .nil))) (.cons (.set 4 (.tup (.cons (.ty .tuple (.new (.cat (.new (.lst (.cons (.var 9) .nil))) (.new (.rep (.lst (.cons (.int 0) .nil)) (.bin .sub (.var 2) (.int 1)))))) .nil) (.cons (.ty .tuple (.new (.cat (.new (.rep (.lst (.cons (.int 0) .nil)) (.bin .sub (.var 2) (.int 1)))) (.new (.lst (.cons (.bin .sub (.int 6) (.var 9)) .nil))))) .nil) .nil)))) (.nil))) (.nil)) (.cons (.set 5 (.call false 4 (.call false 1 (.var 0) (.cons (.int 1) .nil)) (.cons (.var 2) (.cons (.int 6) .nil)))) (.cons (.ifS (.cmp .eq (.var 3) (.int 2)) (.cons (.set 5 (.new (.lc (.rng1 (.int 60)) (.name 12) [("_law_place", 12)] .none (.ty .tuple (.new (.lc (.rng1 (.var 2)) (.name 13) [("_law_field", 13)] .none (.bin .sub (.bin .mod (.ty .int (.bin .add (.bin .mul (.int 7) (.var 12)) (.bin .mul (.int 3) (.var 13))) .nil) (.int 19)) (.int 9)))) .nil)))) (.nil)) (.nil)) (.cons (.ifS (.or (.cmp .eq (.var 3) (.int 3)) (.or1 (.cmp .eq (.var 3) (.int 4)))) (.cons (.set 5 (.new (.lc (.seq (.var 5)) (.name 8) [("_law_item", 8)] .none (.idx (.var 5) (.int 0))))) (.nil)) (.nil)) (.cons (.setC 6 (.lc (.seq (.var 5)) (.name 8) [("_law_item", 8)] .none (.var 8))) (.cons (.set 7 (.call true 5 (.var 4) (.cons (.var 5) .nil))) (.cons (.ifS (.or (.not (.val (.call true 7 (.var 7) .nil))) (.or (.cmp .ne (.var 7) (.call true 6 (.var 4) (.cons (.var 5) .nil))) (.or1 (.cmp .ne (.var 5) (.var 6))))) (.cons (.ret (.bl false)) (.nil)) (.nil)) (.cons (.ifS (.or (.cmp .ne (.call true 5 (.tup .nil) (.cons (.var 5) .nil)) (.int 1)) (.or1 (.cmp .ne (.call true 5 (.var 4) (.cons (.new (.lst .nil)) .nil)) (.ty .int (.cmp .eq (.var 4) (.tup .nil)) .nil)))) (.cons (.ret (.bl false)) (.nil)) (.nil)) (.cons (.forS (.name 8) (.seq (.new (.cut (.var 5) .none (.some (.int 3))))) (.cons (.forS (.name 10) (.seq (.var 4)) (.cons (.set 11 (.call true 8 (.var 10) (.cons (.var 8) .nil))) (.cons (.ifS (.or (.not (.val (.call true 7 (.var 11) .nil))) (.or1 (.cmp .ne (.var 11) (.call true 9 (.var 10) (.cons (.var 8) .nil))))) (.cons (.ret (.bl false)) (.nil)) (.nil)) (.nil)))) (.nil))) (.cons (.ret (.cmp .eq (.call true 5 (.var 4) (.cons (.var 5) .nil)) (.var 7))) (.nil)))))))))))))))
def N__law_tape : List Str := ["_law_script", "_law_k", "_law_cell"]
def ir__law_tape : ISs := .cons (.set 2 (.ife (.cmp .lt (.var 1) (.bi .len (.var 0) .nil)) (.idx (.var 0) (.var 1)) (.int 0))) (.cons (.ret (.box (.lst (.cons (.bi .abs (.var 2) .nil) (.cons (.bin .add (.bin .mul (.int 7919) (.var 1)) (.int 104729)) .nil))))) (.nil))
def N__law_pick : List Str := ["_law_tape_here", "_law_many", "_law_mixed", "_law_digit"]
def ir__law_pick : ISs := .cons (.ifS (.cmp .ge (.idx (.var 0) (.int 0)) (.bin .pow (.int 10) (.int 18))) (.cons (.set 3 (.bin .mod (.ty .int (.idx (.var 0) (.int 0)) .nil) (.var 1))) (.cons (.sub (.var 0) (.int 0) (.bin .fdiv (.idx (.var 0) (.int 0)) (.var 1))) (.cons (.ret (.var 3)) (.nil)))) (.nil)) (.cons (.sub (.var 0) (.int 1) (.bin .mod (.ty .int (.bin .add (.bin .add (.bin .mul (.idx (.var 0) (.int 1)) (.int 48271)) (.bin .mul (.idx (.var 0) (.int 0)) (.int 69621))) (.int 11)) .nil) (.int 2147483647))) (.cons (.set 2 (.bin .mod (.ty .int (.bin .add (.bin .add (.bin .mul (.idx (.var 0) (.int 1)) (.idx (.var 0) (.int 1))) (.bin .mul (.idx (.var 0) (.int 1)) (.int 40692))) (.int 7)) .nil) (.int 2147483399))) (.cons (.ret (.bin .mod (.ty .int (.bin .fdiv (.var 2) (.int 64)) .nil) (.var 1))) (.nil))))
def N__law_word : List Str := ["_law_tape_here", "_law_width", "_law_longest", "_law_degree", "_law_word_here", "_law_left", "_law_most", "_law_k", "_law_monomial_here", "_law_field", "_law_exponent"]
def ir__law_word : ISs := .cons (.set 4 (.tup .nil)) (.cons (.set 5 (.var 3)) (.cons (.set 6 (.idx (.new (.lst (.cons (.int 2) (.cons (.int 2) (.cons (.int 2) (.cons (.int 6) .nil)))))) (.call false 2 (.var 0) (.cons (.int 4) .nil)))) (.cons (.forS (.name 7) (.rng1 (.call false 2 (.var 0) (.cons (.bin .add (.var 2) (.int 1)) .nil))) (.cons (.set 8 (.tup .nil)) (.cons (.forS (.name 9) (.rng1 (.var 1)) (.cons (.set 10 (.call false 2 (.var 0) (.cons (.bin .add (.bi .min (.var 5) (.cons (.var 6) .nil)) (.int 1)) .nil))) (.cons (.set 5 (.bin .sub (.var 5) (.var 10))) (.cons (.set 8 (.bin .add (.var 8) (.tup (.cons (.var 10) .nil)))) (.nil))))) (.cons (.set 4 (.bin .add (.var 4) (.tup (.cons (.var 8) .nil)))) (.nil))))) (.cons (.ret (.var 4)) (.nil)))))
def N__law_row : List Str := ["_law_tape_here", "_law_width", "_law_most", "_law_row_here", "_law_k", "_law_field"]
def ir__law_row : ISs := .cons (.set 3 (.box (.lst .nil))) (.cons (.forS (.name 4) (.rng1 (.call false 2 (.var 0) (.cons (.bin .add (.var 2) (.int 1)) .nil))) (.cons (.expr (.app (.var 3) (.ty .tuple (.new (.lc (.rng1 (.var 1)) (.name 5) [("_law_field", 5)] .none (.call false 10 (.var 0) .nil))) .nil))) (.nil))) (.cons (.ret (.frz 3)) (.nil)))
def N_word_value : List Str := ["word", "row", "found", "item", "index"]
def ir_word_value : ISs := .cons (.set 2 (.box (.cat (.new (.lst (.cons (.int 1) .nil))) (.new (.rep (.lst (.cons (.int 0) .nil)) (.bi .len (.var 0) .nil)))))) (.cons (.forS (.name 3) (.seq (.var 1)) (.cons (.forS (.name 4) (.revr (.bi .len (.var 0) .nil)) (.cons (.sub (.var 2) (.bin .add (.var 4) (.int 1)) (.bin .add (.idx (.var 2) (.bin .add (.var 4) (.int 1))) (.bin .mul (.idx (.var 2) (.var 4)) (.call true 8 (.idx (.var 0) (.var 4)) (.cons (.var 3) .nil))))) (.nil))) (.nil))) (.cons (.ret (.idx (.var 2) (.bi .len (.var 0) .nil))) (.nil)))
def N__law_value : List Str := ["_law_word_here", "_law_row_here", "_law_total", "_law_place"]
def ir__law_value : ISs := .cons (.ifS (.cmp .eq (.var 0) (.tup .nil)) (.cons (.ret (.int 1)) (.nil)) (.nil)) (.cons (.set 2 (.int 0)) (.cons (.forS (.name 3) (.rng1 (.bi .len (.var 1) .nil)) (.cons (.set 2 (.bin .add (.var 2) (.bin .mul (.call true 9 (.idx (.var 0) (.int 0)) (.cons (.idx (.var 1) (.var 3)) .nil)) (.call true 6 (.cut (.var 0) (.some (.int 1)) .none) (.cons (.new (.cut (.var 1) (.some (.bin .add (.var 3) (.int 1))) .none)) .nil))))) (.nil))) (.cons (.ret (.var 2)) (.nil))))
def N__law_whole : List Str := ["_law_value_here"]
def ir__law_whole : ISs := .cons (.ret (.andV (.isT .int (.var 0)) (.andV1 (.notV (.isT .bool (.var 0)))))) (.nil)
def N_monomial_value : List Str := ["monomial", "item", "out", "exponent", "field"]
def ir_monomial_value : ISs := .cons (.set 2 (.int 1)) (.cons (.forS (.tup (.cons (.name 3) (.cons (.name 4) .nil))) (.zip (.var 0) (.var 1)) (.cons (.set 2 (.bin .mul (.var 2) (.call true 11 (.var 4) (.cons (.var 3) .nil)))) (.nil))) (.cons (.ret (.var 2)) (.nil)))
def N__law_monomial : List Str := ["_law_monomial_here", "_law_item", "_law_value_here", "_law_field", "_law_k"]
def ir__law_monomial : ISs := .cons (.set 2 (.int 1)) (.cons (.forS (.name 3) (.rng1 (.bi .len (.var 0) .nil)) (.cons (.forS (.name 4) (.rng1 (.idx (.var 0) (.var 3))) (.cons (.set 2 (.bin .mul (.var 2) (.idx (.var 1) (.var 3)))) (.nil))) (.nil))) (.cons (.ret (.var 2)) (.nil)))
def N__law_number : List Str := ["_law_tape_here"]
def ir__law_number : ISs := .cons (.ifS (.cmp .eq (.call false 2 (.var 0) (.cons (.int 8) .nil)) (.int 1)) (.cons (.ret (.bin .sub (.bin .mul (.call false 2 (.var 0) (.cons (.int 1000003) .nil)) (.int 1000003)) (.bin .mul (.call false 2 (.var 0) (.cons (.int 1000003) .nil)) (.int 499979)))) (.nil)) (.nil)) (.cons (.ret (.bin .sub (.call false 2 (.var 0) (.cons (.int 19) .nil)) (.int 9))) (.nil))
def N_power : List Str := ["base", "exponent", "out", "turn"]
def ir_power : ISs := .cons (.set 2 (.int 1)) (.cons (.forS (.name 3) (.rng1 (.var 1)) (.cons (.set 2 (.bin .mul (.var 2) (.var 0))) (.nil))) (.cons (.ret (.var 2)) (.nil)))
def f_law : FD := ⟨("law", none), "law", "law", top 13, N_law, 1, ir_law, [], 0⟩
def f__law_tape : FD := ⟨("_law_tape", none), "_law_tape", "_law_tape", top 5, N__law_tape, 2, ir__law_tape, [], 0⟩
def f__law_pick : FD := ⟨("_law_pick", none), "_law_pick", "_law_pick", top 6, N__law_pick, 2, ir__law_pick, [], 0⟩
def f__law_word : FD := ⟨("_law_word", none), "_law_word", "_law_word", top 7, N__law_word, 4, ir__law_word, [], 0⟩
def f__law_row : FD := ⟨("_law_row", none), "_law_row", "_law_row", top 9, N__law_row, 3, ir__law_row, [], 0⟩
def f_word_value : FD := ⟨("word_value", none), "word_value", "word_value", top 3, N_word_value, 2, ir_word_value, [], 0⟩
def f__law_value : FD := ⟨("_law_value", none), "_law_value", "_law_value", top 11, N__law_value, 2, ir__law_value, [], 0⟩
def f__law_whole : FD := ⟨("_law_whole", none), "_law_whole", "_law_whole", top 12, N__law_whole, 1, ir__law_whole, [], 0⟩
def f_monomial_value : FD := ⟨("monomial_value", none), "monomial_value", "monomial_value", top 2, N_monomial_value, 2, ir_monomial_value, [], 0⟩
def f__law_monomial : FD := ⟨("_law_monomial", none), "_law_monomial", "_law_monomial", top 10, N__law_monomial, 2, ir__law_monomial, [], 0⟩
def f__law_number : FD := ⟨("_law_number", none), "_law_number", "_law_number", top 8, N__law_number, 1, ir__law_number, [], 0⟩
def f_power : FD := ⟨("power", none), "power", "power", top 1, N_power, 2, ir_power, [], 0⟩
def pr : Pr := ⟨[f_law, f__law_tape, f__law_pick, f__law_word, f__law_row, f_word_value, f__law_value, f__law_whole, f_monomial_value, f__law_monomial, f__law_number, f_power], [], ["tuple", "range", "int", "len", "abs", "min", "reversed", "isinstance", "bool", "zip"], 100⟩
theorem bd_f_law : f_law.BdN := ⟨rfl, fun _ _ _ _ _ _ us hl => match us, hl with | [_], _ => rfl⟩
theorem e_law {n : Nat} {a0 : D} {S : List DO} {Q : D → List DO → Prop} {X : XP} (q : wS (evB (pr.ev n) ir_law) [some a0, none, none, none, none, none, none, none, none, none, none, none, none, none] S ⟨fun _ S => Q .non S, Q, fun _ _ => False, fun _ _ => False, fun c fs _ S => X c fs S⟩) : wE (pr.call (n + 1) 0 [a0]) S Q X := b_call (F := f_law) rfl q
theorem ck_f_law : f_law.chk pr = true := by decide +kernel
theorem bd_f__law_tape : f__law_tape.BdN := ⟨rfl, fun _ _ _ _ _ _ us hl => match us, hl with | [_, _], _ => rfl⟩
theorem e__law_tape {n : Nat} {a0 a1 : D} {S : List DO} {Q : D → List DO → Prop} {X : XP} (q : wS (evB (pr.ev n) ir__law_tape) [some a0, some a1, none] S ⟨fun _ S => Q .non S, Q, fun _ _ => False, fun _ _ => False, fun c fs _ S => X c fs S⟩) : wE (pr.call (n + 1) 1 [a0, a1]) S Q X := b_call (F := f__law_tape) rfl q
theorem ck_f__law_tape : f__law_tape.chk pr = true := by decide +kernel
theorem bd_f__law_pick : f__law_pick.BdN := ⟨rfl, fun _ _ _ _ _ _ us hl => match us, hl with | [_, _], _ => rfl⟩
theorem e__law_pick {n : Nat} {a0 a1 : D} {S : List DO} {Q : D → List DO → Prop} {X : XP} (q : wS (evB (pr.ev n) ir__law_pick) [some a0, some a1, none, none] S ⟨fun _ S => Q .non S, Q, fun _ _ => False, fun _ _ => False, fun c fs _ S => X c fs S⟩) : wE (pr.call (n + 1) 2 [a0, a1]) S Q X := b_call (F := f__law_pick) rfl q
theorem ck_f__law_pick : f__law_pick.chk pr = true := by decide +kernel
theorem bd_f__law_word : f__law_word.BdN := ⟨rfl, fun _ _ _ _ _ _ us hl => match us, hl with | [_, _, _, _], _ => rfl⟩
theorem e__law_word {n : Nat} {a0 a1 a2 a3 : D} {S : List DO} {Q : D → List DO → Prop} {X : XP} (q : wS (evB (pr.ev n) ir__law_word) [some a0, some a1, some a2, some a3, none, none, none, none, none, none, none] S ⟨fun _ S => Q .non S, Q, fun _ _ => False, fun _ _ => False, fun c fs _ S => X c fs S⟩) : wE (pr.call (n + 1) 3 [a0, a1, a2, a3]) S Q X := b_call (F := f__law_word) rfl q
theorem ck_f__law_word : f__law_word.chk pr = true := by decide +kernel
theorem bd_f__law_row : f__law_row.BdN := ⟨rfl, fun _ _ _ _ _ _ us hl => match us, hl with | [_, _, _], _ => rfl⟩
theorem e__law_row {n : Nat} {a0 a1 a2 : D} {S : List DO} {Q : D → List DO → Prop} {X : XP} (q : wS (evB (pr.ev n) ir__law_row) [some a0, some a1, some a2, none, none, none] S ⟨fun _ S => Q .non S, Q, fun _ _ => False, fun _ _ => False, fun c fs _ S => X c fs S⟩) : wE (pr.call (n + 1) 4 [a0, a1, a2]) S Q X := b_call (F := f__law_row) rfl q
theorem ck_f__law_row : f__law_row.chk pr = true := by decide +kernel
theorem bd_f_word_value : f_word_value.BdN := ⟨rfl, fun _ _ _ _ _ _ us hl => match us, hl with | [_, _], _ => rfl⟩
theorem e_word_value {n : Nat} {a0 a1 : D} {S : List DO} {Q : D → List DO → Prop} {X : XP} (q : wS (evB (pr.ev n) ir_word_value) [some a0, some a1, none, none, none] S ⟨fun _ S => Q .non S, Q, fun _ _ => False, fun _ _ => False, fun c fs _ S => X c fs S⟩) : wE (pr.call (n + 1) 5 [a0, a1]) S Q X := b_call (F := f_word_value) rfl q
theorem ck_f_word_value : f_word_value.chk pr = true := by decide +kernel
theorem bd_f__law_value : f__law_value.BdN := ⟨rfl, fun _ _ _ _ _ _ us hl => match us, hl with | [_, _], _ => rfl⟩
theorem e__law_value {n : Nat} {a0 a1 : D} {S : List DO} {Q : D → List DO → Prop} {X : XP} (q : wS (evB (pr.ev n) ir__law_value) [some a0, some a1, none, none] S ⟨fun _ S => Q .non S, Q, fun _ _ => False, fun _ _ => False, fun c fs _ S => X c fs S⟩) : wE (pr.call (n + 1) 6 [a0, a1]) S Q X := b_call (F := f__law_value) rfl q
theorem ck_f__law_value : f__law_value.chk pr = true := by decide +kernel
theorem bd_f__law_whole : f__law_whole.BdN := ⟨rfl, fun _ _ _ _ _ _ us hl => match us, hl with | [_], _ => rfl⟩
theorem e__law_whole {n : Nat} {a0 : D} {S : List DO} {Q : D → List DO → Prop} {X : XP} (q : wS (evB (pr.ev n) ir__law_whole) [some a0] S ⟨fun _ S => Q .non S, Q, fun _ _ => False, fun _ _ => False, fun c fs _ S => X c fs S⟩) : wE (pr.call (n + 1) 7 [a0]) S Q X := b_call (F := f__law_whole) rfl q
theorem ck_f__law_whole : f__law_whole.chk pr = true := by decide +kernel
theorem bd_f_monomial_value : f_monomial_value.BdN := ⟨rfl, fun _ _ _ _ _ _ us hl => match us, hl with | [_, _], _ => rfl⟩
theorem e_monomial_value {n : Nat} {a0 a1 : D} {S : List DO} {Q : D → List DO → Prop} {X : XP} (q : wS (evB (pr.ev n) ir_monomial_value) [some a0, some a1, none, none, none] S ⟨fun _ S => Q .non S, Q, fun _ _ => False, fun _ _ => False, fun c fs _ S => X c fs S⟩) : wE (pr.call (n + 1) 8 [a0, a1]) S Q X := b_call (F := f_monomial_value) rfl q
theorem ck_f_monomial_value : f_monomial_value.chk pr = true := by decide +kernel
theorem bd_f__law_monomial : f__law_monomial.BdN := ⟨rfl, fun _ _ _ _ _ _ us hl => match us, hl with | [_, _], _ => rfl⟩
theorem e__law_monomial {n : Nat} {a0 a1 : D} {S : List DO} {Q : D → List DO → Prop} {X : XP} (q : wS (evB (pr.ev n) ir__law_monomial) [some a0, some a1, none, none, none] S ⟨fun _ S => Q .non S, Q, fun _ _ => False, fun _ _ => False, fun c fs _ S => X c fs S⟩) : wE (pr.call (n + 1) 9 [a0, a1]) S Q X := b_call (F := f__law_monomial) rfl q
theorem ck_f__law_monomial : f__law_monomial.chk pr = true := by decide +kernel
theorem bd_f__law_number : f__law_number.BdN := ⟨rfl, fun _ _ _ _ _ _ us hl => match us, hl with | [_], _ => rfl⟩
theorem e__law_number {n : Nat} {a0 : D} {S : List DO} {Q : D → List DO → Prop} {X : XP} (q : wS (evB (pr.ev n) ir__law_number) [some a0] S ⟨fun _ S => Q .non S, Q, fun _ _ => False, fun _ _ => False, fun c fs _ S => X c fs S⟩) : wE (pr.call (n + 1) 10 [a0]) S Q X := b_call (F := f__law_number) rfl q
theorem ck_f__law_number : f__law_number.chk pr = true := by decide +kernel
theorem bd_f_power : f_power.BdN := ⟨rfl, fun _ _ _ _ _ _ us hl => match us, hl with | [_, _], _ => rfl⟩
theorem e_power {n : Nat} {a0 a1 : D} {S : List DO} {Q : D → List DO → Prop} {X : XP} (q : wS (evB (pr.ev n) ir_power) [some a0, some a1, none, none] S ⟨fun _ S => Q .non S, Q, fun _ _ => False, fun _ _ => False, fun c fs _ S => X c fs S⟩) : wE (pr.call (n + 1) 11 [a0, a1]) S Q X := b_call (F := f_power) rfl q
theorem ck_f_power : f_power.chk pr = true := by decide +kernel
end K21
namespace K21
open PySem.Spec PyProof.Rows L2 PK
abbrev XF : XP := fun _ _ _ => False
def Tp (S : List DO) (r : Nat) : Prop := ∃ a b : Int, S[r]? = some (.lst [.int a, .int b]) ∧ 0 ≤ a ∧ 0 ≤ b ∧ b < 2147483648
structure Tq (r : Nat) (S S' : List DO) : Prop where
  len : S'.length = S.length
  oth : ∀ j, j ≠ r → S'[j]? = S[j]?
  tp : Tp S' r
theorem Tq.set {r : Nat} {S : List DO} {a b : Int} {o : DO} (h : S[r]? = some o) (ha : 0 ≤ a) (hb : 0 ≤ b ∧ b < 2147483648) : Tq r S (S.set r (.lst [.int a, .int b])) :=
  ⟨by simp, fun j hj => by rw [List.getElem?_set_ne (Ne.symm hj)], a, b, by rw [List.getElem?_set_self (by exact (List.getElem?_eq_some_iff.mp h).1)], ha, hb⟩
theorem Tq.trans {r : Nat} {S S1 S2 : List DO} (a : Tq r S S1) (b : Tq r S1 S2) : Tq r S S2 := ⟨b.len.trans a.len, fun j hj => (b.oth j hj).trans (a.oth j hj), b.tp⟩
theorem sp_pick {n r : Nat} {m : Int} {S : List DO} (t : Tp S r) (hm : 0 < m ∧ m < 2147483648) : wE (pr.call (n + 1) 2 [.ref r, .int m]) S (fun d S' => ∃ v : Int, d = .int v ∧ 0 ≤ v ∧ v < m ∧ Tq r S S') XF := by
  obtain ⟨a, b, hr, ha, hb0, hb⟩ := t
  refine b_call (F := f__law_pick) rfl ?_
  show wS (evB (pr.ev n) ir__law_pick) [some (.ref r), some (.int m), none, none] S _
  unfold ir__law_pick
  repeat (with_reducible (first | refine s_cons ?_ | refine s_set ?_ | refine s_ret ?_ | refine s_expr ?_ | refine s_sub ?_ | refine s_nil ?_ | refine s_if ?_ | refine s_for ?_ | refine s_setC ?_ | refine s_boxC ?_ | refine s_retN ?_ | refine s_doc ?_ | refine r_var (by with_unfolding_all rfl) ?_ | refine r_int ?_ | refine r_bin ?_ | refine r_cmp ?_ | refine r_idx ?_ | refine r_cons ?_ | refine r_nil ?_ | refine r_bi ?_ | refine r_ty ?_ | refine r_call ?_ | refine r_callP ?_ | refine r_bl ?_ | refine r_tup ?_ | refine r_newL ?_ | refine r_box ?_ | refine r_cut ?_ | refine r_o0 ?_ | refine r_o1 ?_ | refine r_ife ?_ | refine r_str ?_ | refine r_non ?_ | refine r_neg ?_ | refine r_isT ?_ | refine r_app ?_ | refine r_andV ?_ | refine r_andV1 ?_ | refine r_orV ?_ | refine r_orV1 ?_ | refine r_notV ?_ | refine r_glo (by with_unfolding_all rfl) ?_ | refine t_cmp ?_ | refine t_val ?_ | refine t_and ?_ | refine t_and1 ?_ | refine t_or ?_ | refine t_or1 ?_ | refine t_not ?_ | refine c_lst ?_ | refine c_cat ?_ | refine c_rep ?_ | refine c_cut ?_ | refine c_list ?_ | refine c_lc ?_ | refine o_none ?_ | refine o_some ?_ | refine i_seq ?_ | refine i_rng1 ?_ | refine i_rng2 ?_ | refine i_revr ?_ | refine i_rev ?_ | refine i_zip ?_ | refine i_enum ?_ | refine p_add ?_ | refine p_sub ?_ | refine p_lt ?_ | refine p_le ?_ | refine p_gt ?_ | refine p_ge ?_ | refine p_eq ?_ | refine p_ne ?_ | refine p_int ?_ | refine p_intB ?_ | refine p_abs ?_ | refine p_min ?_ | refine p_max ?_ | refine p_lenN ?_ | refine p_lenT ?_ | refine p_lenL ?_ | refine p_tupL ?_ | refine p_pow18 ?_ | refine p_idxR (by assumption) (by with_unfolding_all rfl) ?_ | refine p_idxT (by with_unfolding_all rfl) ?_ | refine p_idxL (by with_unfolding_all rfl) ?_ | refine p_idxN (by assumption) ?_ | refine ⟨_, rfl, ?_⟩ | refine p_mod (by omega) ?_ | refine p_lenI ?_ | refine p_lenW ?_ | refine p_lenRw ?_ | refine p_fdiv (lg31 (by omega)) ?_ | refine p_mul (mul64 (by omega)) ?_))
  refine ⟨fun h => ?_, fun h => ?_⟩
  · have h' := of_decide_eq_true h
    repeat (with_reducible (first | refine s_cons ?_ | refine s_set ?_ | refine s_ret ?_ | refine s_expr ?_ | refine s_sub ?_ | refine s_nil ?_ | refine s_if ?_ | refine s_for ?_ | refine s_setC ?_ | refine s_boxC ?_ | refine s_retN ?_ | refine s_doc ?_ | refine r_var (by with_unfolding_all rfl) ?_ | refine r_int ?_ | refine r_bin ?_ | refine r_cmp ?_ | refine r_idx ?_ | refine r_cons ?_ | refine r_nil ?_ | refine r_bi ?_ | refine r_ty ?_ | refine r_call ?_ | refine r_callP ?_ | refine r_bl ?_ | refine r_tup ?_ | refine r_newL ?_ | refine r_box ?_ | refine r_cut ?_ | refine r_o0 ?_ | refine r_o1 ?_ | refine r_ife ?_ | refine r_str ?_ | refine r_non ?_ | refine r_neg ?_ | refine r_isT ?_ | refine r_app ?_ | refine r_andV ?_ | refine r_andV1 ?_ | refine r_orV ?_ | refine r_orV1 ?_ | refine r_notV ?_ | refine r_glo (by with_unfolding_all rfl) ?_ | refine t_cmp ?_ | refine t_val ?_ | refine t_and ?_ | refine t_and1 ?_ | refine t_or ?_ | refine t_or1 ?_ | refine t_not ?_ | refine c_lst ?_ | refine c_cat ?_ | refine c_rep ?_ | refine c_cut ?_ | refine c_list ?_ | refine c_lc ?_ | refine o_none ?_ | refine o_some ?_ | refine i_seq ?_ | refine i_rng1 ?_ | refine i_rng2 ?_ | refine i_revr ?_ | refine i_rev ?_ | refine i_zip ?_ | refine i_enum ?_ | refine p_add ?_ | refine p_sub ?_ | refine p_lt ?_ | refine p_le ?_ | refine p_gt ?_ | refine p_ge ?_ | refine p_eq ?_ | refine p_ne ?_ | refine p_int ?_ | refine p_intB ?_ | refine p_abs ?_ | refine p_min ?_ | refine p_max ?_ | refine p_lenN ?_ | refine p_lenT ?_ | refine p_lenL ?_ | refine p_tupL ?_ | refine p_pow18 ?_ | refine p_idxR (by assumption) (by with_unfolding_all rfl) ?_ | refine p_idxT (by with_unfolding_all rfl) ?_ | refine p_idxL (by with_unfolding_all rfl) ?_ | refine p_idxN (by assumption) ?_ | refine ⟨_, rfl, ?_⟩ | refine p_mod (by omega) ?_ | refine p_lenI ?_ | refine p_lenW ?_ | refine p_lenRw ?_ | refine p_fdiv (lg31 (by omega)) ?_ | refine p_mul (mul64 (by omega)) ?_))
    refine ⟨_, _, _, 0, rfl, rfl, hr, rfl, ?_⟩
    repeat (with_reducible (first | refine s_cons ?_ | refine s_set ?_ | refine s_ret ?_ | refine s_expr ?_ | refine s_sub ?_ | refine s_nil ?_ | refine s_if ?_ | refine s_for ?_ | refine s_setC ?_ | refine s_boxC ?_ | refine s_retN ?_ | refine s_doc ?_ | refine r_var (by with_unfolding_all rfl) ?_ | refine r_int ?_ | refine r_bin ?_ | refine r_cmp ?_ | refine r_idx ?_ | refine r_cons ?_ | refine r_nil ?_ | refine r_bi ?_ | refine r_ty ?_ | refine r_call ?_ | refine r_callP ?_ | refine r_bl ?_ | refine r_tup ?_ | refine r_newL ?_ | refine r_box ?_ | refine r_cut ?_ | refine r_o0 ?_ | refine r_o1 ?_ | refine r_ife ?_ | refine r_str ?_ | refine r_non ?_ | refine r_neg ?_ | refine r_isT ?_ | refine r_app ?_ | refine r_andV ?_ | refine r_andV1 ?_ | refine r_orV ?_ | refine r_orV1 ?_ | refine r_notV ?_ | refine r_glo (by with_unfolding_all rfl) ?_ | refine t_cmp ?_ | refine t_val ?_ | refine t_and ?_ | refine t_and1 ?_ | refine t_or ?_ | refine t_or1 ?_ | refine t_not ?_ | refine c_lst ?_ | refine c_cat ?_ | refine c_rep ?_ | refine c_cut ?_ | refine c_list ?_ | refine c_lc ?_ | refine o_none ?_ | refine o_some ?_ | refine i_seq ?_ | refine i_rng1 ?_ | refine i_rng2 ?_ | refine i_revr ?_ | refine i_rev ?_ | refine i_zip ?_ | refine i_enum ?_ | refine p_add ?_ | refine p_sub ?_ | refine p_lt ?_ | refine p_le ?_ | refine p_gt ?_ | refine p_ge ?_ | refine p_eq ?_ | refine p_ne ?_ | refine p_int ?_ | refine p_intB ?_ | refine p_abs ?_ | refine p_min ?_ | refine p_max ?_ | refine p_lenN ?_ | refine p_lenT ?_ | refine p_lenL ?_ | refine p_tupL ?_ | refine p_pow18 ?_ | refine p_idxR (by assumption) (by with_unfolding_all rfl) ?_ | refine p_idxT (by with_unfolding_all rfl) ?_ | refine p_idxL (by with_unfolding_all rfl) ?_ | refine p_idxN (by assumption) ?_ | refine ⟨_, rfl, ?_⟩ | refine p_mod (by omega) ?_ | refine p_lenI ?_ | refine p_lenW ?_ | refine p_lenRw ?_ | refine p_fdiv (lg31 (by omega)) ?_ | refine p_mul (mul64 (by omega)) ?_))
    refine ⟨?_, ?_, Tq.set hr ?_ ⟨hb0, hb⟩⟩
    · exact Int.fmod_nonneg_of_pos _ hm.1
    · exact Int.fmod_lt_of_pos _ hm.1
    · rw [Int.fdiv_eq_ediv_of_nonneg _ (by omega)]
      exact Int.ediv_nonneg ha (by omega)
  · have h' := of_decide_eq_false h
    repeat (with_reducible (first | refine s_cons ?_ | refine s_set ?_ | refine s_ret ?_ | refine s_expr ?_ | refine s_sub ?_ | refine s_nil ?_ | refine s_if ?_ | refine s_for ?_ | refine s_setC ?_ | refine s_boxC ?_ | refine s_retN ?_ | refine s_doc ?_ | refine r_var (by with_unfolding_all rfl) ?_ | refine r_int ?_ | refine r_bin ?_ | refine r_cmp ?_ | refine r_idx ?_ | refine r_cons ?_ | refine r_nil ?_ | refine r_bi ?_ | refine r_ty ?_ | refine r_call ?_ | refine r_callP ?_ | refine r_bl ?_ | refine r_tup ?_ | refine r_newL ?_ | refine r_box ?_ | refine r_cut ?_ | refine r_o0 ?_ | refine r_o1 ?_ | refine r_ife ?_ | refine r_str ?_ | refine r_non ?_ | refine r_neg ?_ | refine r_isT ?_ | refine r_app ?_ | refine r_andV ?_ | refine r_andV1 ?_ | refine r_orV ?_ | refine r_orV1 ?_ | refine r_notV ?_ | refine r_glo (by with_unfolding_all rfl) ?_ | refine t_cmp ?_ | refine t_val ?_ | refine t_and ?_ | refine t_and1 ?_ | refine t_or ?_ | refine t_or1 ?_ | refine t_not ?_ | refine c_lst ?_ | refine c_cat ?_ | refine c_rep ?_ | refine c_cut ?_ | refine c_list ?_ | refine c_lc ?_ | refine o_none ?_ | refine o_some ?_ | refine i_seq ?_ | refine i_rng1 ?_ | refine i_rng2 ?_ | refine i_revr ?_ | refine i_rev ?_ | refine i_zip ?_ | refine i_enum ?_ | refine p_add ?_ | refine p_sub ?_ | refine p_lt ?_ | refine p_le ?_ | refine p_gt ?_ | refine p_ge ?_ | refine p_eq ?_ | refine p_ne ?_ | refine p_int ?_ | refine p_intB ?_ | refine p_abs ?_ | refine p_min ?_ | refine p_max ?_ | refine p_lenN ?_ | refine p_lenT ?_ | refine p_lenL ?_ | refine p_tupL ?_ | refine p_pow18 ?_ | refine p_idxR (by assumption) (by with_unfolding_all rfl) ?_ | refine p_idxT (by with_unfolding_all rfl) ?_ | refine p_idxL (by with_unfolding_all rfl) ?_ | refine p_idxN (by assumption) ?_ | refine ⟨_, rfl, ?_⟩ | refine p_mod (by omega) ?_ | refine p_lenI ?_ | refine p_lenW ?_ | refine p_lenRw ?_ | refine p_fdiv (lg31 (by omega)) ?_ | refine p_mul (mul64 (by omega)) ?_))
    refine ⟨_, _, _, 1, rfl, rfl, hr, rfl, ?_⟩
    have hb1 := Int.fmod_nonneg_of_pos (b * 48271 + a * 69621 + 11) (show (0 : Int) < 2147483647 by decide)
    have hb2 := Int.fmod_lt_of_pos (b * 48271 + a * 69621 + 11) (show (0 : Int) < 2147483647 by decide)
    generalize (b * 48271 + a * 69621 + 11).fmod 2147483647 = c at hb1 hb2
    have hr2 : (S.set r (.lst [.int a, .int c]))[r]? = some (.lst [.int a, .int c]) := List.getElem?_set_self (List.getElem?_eq_some_iff.mp hr).1
    show wS _ _ (S.set r (.lst [.int a, .int c])) _
    repeat (with_reducible (first | refine s_cons ?_ | refine s_set ?_ | refine s_ret ?_ | refine s_expr ?_ | refine s_sub ?_ | refine s_nil ?_ | refine s_if ?_ | refine s_for ?_ | refine s_setC ?_ | refine s_boxC ?_ | refine s_retN ?_ | refine s_doc ?_ | refine r_var (by with_unfolding_all rfl) ?_ | refine r_int ?_ | refine r_bin ?_ | refine r_cmp ?_ | refine r_idx ?_ | refine r_cons ?_ | refine r_nil ?_ | refine r_bi ?_ | refine r_ty ?_ | refine r_call ?_ | refine r_callP ?_ | refine r_bl ?_ | refine r_tup ?_ | refine r_newL ?_ | refine r_box ?_ | refine r_cut ?_ | refine r_o0 ?_ | refine r_o1 ?_ | refine r_ife ?_ | refine r_str ?_ | refine r_non ?_ | refine r_neg ?_ | refine r_isT ?_ | refine r_app ?_ | refine r_andV ?_ | refine r_andV1 ?_ | refine r_orV ?_ | refine r_orV1 ?_ | refine r_notV ?_ | refine r_glo (by with_unfolding_all rfl) ?_ | refine t_cmp ?_ | refine t_val ?_ | refine t_and ?_ | refine t_and1 ?_ | refine t_or ?_ | refine t_or1 ?_ | refine t_not ?_ | refine c_lst ?_ | refine c_cat ?_ | refine c_rep ?_ | refine c_cut ?_ | refine c_list ?_ | refine c_lc ?_ | refine o_none ?_ | refine o_some ?_ | refine i_seq ?_ | refine i_rng1 ?_ | refine i_rng2 ?_ | refine i_revr ?_ | refine i_rev ?_ | refine i_zip ?_ | refine i_enum ?_ | refine p_add ?_ | refine p_sub ?_ | refine p_lt ?_ | refine p_le ?_ | refine p_gt ?_ | refine p_ge ?_ | refine p_eq ?_ | refine p_ne ?_ | refine p_int ?_ | refine p_intB ?_ | refine p_abs ?_ | refine p_min ?_ | refine p_max ?_ | refine p_lenN ?_ | refine p_lenT ?_ | refine p_lenL ?_ | refine p_tupL ?_ | refine p_pow18 ?_ | refine p_idxR (by assumption) (by with_unfolding_all rfl) ?_ | refine p_idxT (by with_unfolding_all rfl) ?_ | refine p_idxL (by with_unfolding_all rfl) ?_ | refine p_idxN (by assumption) ?_ | refine ⟨_, rfl, ?_⟩ | refine p_mod (by omega) ?_ | refine p_lenI ?_ | refine p_lenW ?_ | refine p_lenRw ?_ | refine p_fdiv (lg31 (by omega)) ?_ | refine p_mul (mul64 (by omega)) ?_))
    refine ⟨?_, ?_, Tq.set hr ha ⟨hb1, by omega⟩⟩
    · exact Int.fmod_nonneg_of_pos _ hm.1
    · exact Int.fmod_lt_of_pos _ hm.1
theorem sp_tape {n : Nat} {k : Nat} {ns : List Int} {S : List DO} (hk : k ≤ 63) : wE (pr.call (n + 1) 1 [.scr ns, .int k]) S (fun d S' => ∃ a b : Int, d = .ref S.length ∧ S' = S ++ [.lst [.int a, .int b]] ∧ 0 ≤ a ∧ 0 ≤ b ∧ b < 2147483648) XF := by
  refine b_call (F := f__law_tape) rfl ?_
  show wS (evB (pr.ev n) ir__law_tape) [some (.scr ns), some (.int k), none] S _
  unfold ir__law_tape
  have key : ∀ c : Int, wS (evB (pr.ev n) (ISs.cons (IS.ret (IE.box (IC.lst (IEs.cons (IE.bi BI.abs (IE.var 2) IEs.nil) (IEs.cons (IE.bin BOp.add (IE.bin BOp.mul (IE.int 7919) (IE.var 1)) (IE.int 104729)) IEs.nil))))) ISs.nil)) [some (.scr ns), some (.int k), some (.int c)] S
      ⟨fun _ S' => ∃ a b : Int, D.non = .ref S.length ∧ S' = S ++ [.lst [.int a, .int b]] ∧ 0 ≤ a ∧ 0 ≤ b ∧ b < 2147483648, fun d S' => ∃ a b : Int, d = .ref S.length ∧ S' = S ++ [.lst [.int a, .int b]] ∧ 0 ≤ a ∧ 0 ≤ b ∧ b < 2147483648, fun _ _ => False, fun _ _ => False, fun c fs _ S => XF c fs S⟩ := by
    intro c
    repeat (with_reducible (first | refine s_cons ?_ | refine s_set ?_ | refine s_ret ?_ | refine s_expr ?_ | refine s_sub ?_ | refine s_nil ?_ | refine s_if ?_ | refine s_for ?_ | refine s_setC ?_ | refine s_boxC ?_ | refine s_retN ?_ | refine s_doc ?_ | refine r_var (by with_unfolding_all rfl) ?_ | refine r_int ?_ | refine r_bin ?_ | refine r_cmp ?_ | refine r_idx ?_ | refine r_cons ?_ | refine r_nil ?_ | refine r_bi ?_ | refine r_ty ?_ | refine r_call ?_ | refine r_callP ?_ | refine r_bl ?_ | refine r_tup ?_ | refine r_newL ?_ | refine r_box ?_ | refine r_cut ?_ | refine r_o0 ?_ | refine r_o1 ?_ | refine r_ife ?_ | refine r_str ?_ | refine r_non ?_ | refine r_neg ?_ | refine r_isT ?_ | refine r_app ?_ | refine r_andV ?_ | refine r_andV1 ?_ | refine r_orV ?_ | refine r_orV1 ?_ | refine r_notV ?_ | refine r_glo (by with_unfolding_all rfl) ?_ | refine t_cmp ?_ | refine t_val ?_ | refine t_and ?_ | refine t_and1 ?_ | refine t_or ?_ | refine t_or1 ?_ | refine t_not ?_ | refine c_lst ?_ | refine c_cat ?_ | refine c_rep ?_ | refine c_cut ?_ | refine c_list ?_ | refine c_lc ?_ | refine o_none ?_ | refine o_some ?_ | refine i_seq ?_ | refine i_rng1 ?_ | refine i_rng2 ?_ | refine i_revr ?_ | refine i_rev ?_ | refine i_zip ?_ | refine i_enum ?_ | refine p_add ?_ | refine p_sub ?_ | refine p_lt ?_ | refine p_le ?_ | refine p_gt ?_ | refine p_ge ?_ | refine p_eq ?_ | refine p_ne ?_ | refine p_int ?_ | refine p_intB ?_ | refine p_abs ?_ | refine p_min ?_ | refine p_max ?_ | refine p_lenN ?_ | refine p_lenT ?_ | refine p_lenL ?_ | refine p_tupL ?_ | refine p_pow18 ?_ | refine p_idxR (by assumption) (by with_unfolding_all rfl) ?_ | refine p_idxT (by with_unfolding_all rfl) ?_ | refine p_idxL (by with_unfolding_all rfl) ?_ | refine p_idxN (by assumption) ?_ | refine ⟨_, rfl, ?_⟩ | refine p_mod (by omega) ?_ | refine p_lenI ?_ | refine p_lenW ?_ | refine p_lenRw ?_ | refine p_fdiv (lg31 (by omega)) ?_ | refine p_mul (mul64 (by omega)) ?_))
    refine ⟨by simp, _, _, rfl, rfl, ?_, by omega, by omega⟩
    split <;> omega
  repeat (with_reducible (first | refine s_cons ?_ | refine s_set ?_ | refine s_ret ?_ | refine s_expr ?_ | refine s_sub ?_ | refine s_nil ?_ | refine s_if ?_ | refine s_for ?_ | refine s_setC ?_ | refine s_boxC ?_ | refine s_retN ?_ | refine s_doc ?_ | refine r_var (by with_unfolding_all rfl) ?_ | refine r_int ?_ | refine r_bin ?_ | refine r_cmp ?_ | refine r_idx ?_ | refine r_cons ?_ | refine r_nil ?_ | refine r_bi ?_ | refine r_ty ?_ | refine r_call ?_ | refine r_callP ?_ | refine r_bl ?_ | refine r_tup ?_ | refine r_newL ?_ | refine r_box ?_ | refine r_cut ?_ | refine r_o0 ?_ | refine r_o1 ?_ | refine r_ife ?_ | refine r_str ?_ | refine r_non ?_ | refine r_neg ?_ | refine r_isT ?_ | refine r_app ?_ | refine r_andV ?_ | refine r_andV1 ?_ | refine r_orV ?_ | refine r_orV1 ?_ | refine r_notV ?_ | refine r_glo (by with_unfolding_all rfl) ?_ | refine t_cmp ?_ | refine t_val ?_ | refine t_and ?_ | refine t_and1 ?_ | refine t_or ?_ | refine t_or1 ?_ | refine t_not ?_ | refine c_lst ?_ | refine c_cat ?_ | refine c_rep ?_ | refine c_cut ?_ | refine c_list ?_ | refine c_lc ?_ | refine o_none ?_ | refine o_some ?_ | refine i_seq ?_ | refine i_rng1 ?_ | refine i_rng2 ?_ | refine i_revr ?_ | refine i_rev ?_ | refine i_zip ?_ | refine i_enum ?_ | refine p_add ?_ | refine p_sub ?_ | refine p_lt ?_ | refine p_le ?_ | refine p_gt ?_ | refine p_ge ?_ | refine p_eq ?_ | refine p_ne ?_ | refine p_int ?_ | refine p_intB ?_ | refine p_abs ?_ | refine p_min ?_ | refine p_max ?_ | refine p_lenN ?_ | refine p_lenT ?_ | refine p_lenL ?_ | refine p_tupL ?_ | refine p_pow18 ?_ | refine p_idxR (by assumption) (by with_unfolding_all rfl) ?_ | refine p_idxT (by with_unfolding_all rfl) ?_ | refine p_idxL (by with_unfolding_all rfl) ?_ | refine p_idxN (by assumption) ?_ | refine ⟨_, rfl, ?_⟩ | refine p_mod (by omega) ?_ | refine p_lenI ?_ | refine p_lenW ?_ | refine p_lenRw ?_ | refine p_fdiv (lg31 (by omega)) ?_ | refine p_mul (mul64 (by omega)) ?_))
  refine ⟨fun h => ?_, fun h => ?_⟩
  · have h' := of_decide_eq_true h
    repeat (with_reducible (first | refine s_cons ?_ | refine s_set ?_ | refine s_ret ?_ | refine s_expr ?_ | refine s_sub ?_ | refine s_nil ?_ | refine s_if ?_ | refine s_for ?_ | refine s_setC ?_ | refine s_boxC ?_ | refine s_retN ?_ | refine s_doc ?_ | refine r_var (by with_unfolding_all rfl) ?_ | refine r_int ?_ | refine r_bin ?_ | refine r_cmp ?_ | refine r_idx ?_ | refine r_cons ?_ | refine r_nil ?_ | refine r_bi ?_ | refine r_ty ?_ | refine r_call ?_ | refine r_callP ?_ | refine r_bl ?_ | refine r_tup ?_ | refine r_newL ?_ | refine r_box ?_ | refine r_cut ?_ | refine r_o0 ?_ | refine r_o1 ?_ | refine r_ife ?_ | refine r_str ?_ | refine r_non ?_ | refine r_neg ?_ | refine r_isT ?_ | refine r_app ?_ | refine r_andV ?_ | refine r_andV1 ?_ | refine r_orV ?_ | refine r_orV1 ?_ | refine r_notV ?_ | refine r_glo (by with_unfolding_all rfl) ?_ | refine t_cmp ?_ | refine t_val ?_ | refine t_and ?_ | refine t_and1 ?_ | refine t_or ?_ | refine t_or1 ?_ | refine t_not ?_ | refine c_lst ?_ | refine c_cat ?_ | refine c_rep ?_ | refine c_cut ?_ | refine c_list ?_ | refine c_lc ?_ | refine o_none ?_ | refine o_some ?_ | refine i_seq ?_ | refine i_rng1 ?_ | refine i_rng2 ?_ | refine i_revr ?_ | refine i_rev ?_ | refine i_zip ?_ | refine i_enum ?_ | refine p_add ?_ | refine p_sub ?_ | refine p_lt ?_ | refine p_le ?_ | refine p_gt ?_ | refine p_ge ?_ | refine p_eq ?_ | refine p_ne ?_ | refine p_int ?_ | refine p_intB ?_ | refine p_abs ?_ | refine p_min ?_ | refine p_max ?_ | refine p_lenN ?_ | refine p_lenT ?_ | refine p_lenL ?_ | refine p_tupL ?_ | refine p_pow18 ?_ | refine p_idxR (by assumption) (by with_unfolding_all rfl) ?_ | refine p_idxT (by with_unfolding_all rfl) ?_ | refine p_idxL (by with_unfolding_all rfl) ?_ | refine p_idxN (by assumption) ?_ | refine ⟨_, rfl, ?_⟩ | refine p_mod (by omega) ?_ | refine p_lenI ?_ | refine p_lenW ?_ | refine p_lenRw ?_ | refine p_fdiv (lg31 (by omega)) ?_ | refine p_mul (mul64 (by omega)) ?_))
    refine p_idxN (n := ns[k]'(by omega)) ?_ ?_
    · rw [atI_nn (by omega), Int.toNat_natCast]
      exact List.getElem?_eq_getElem (by omega)
    · exact key _
  · refine r_int ?_
    exact key 0
end K21
namespace K21
open PySem.Spec PyProof.Rows L2 PK
/-- a number of the tape -/
theorem sp_number {n r : Nat} {S : List DO} (t : Tp S r) : wE (pr.call (n + 2) 10 [.ref r]) S (fun d S' => ∃ v : Int, d = .int v ∧ Sm 42 v ∧ Tq r S S') XF := by
  refine b_call (F := f__law_number) rfl ?_
  show wS (evB (pr.ev (n + 1)) ir__law_number) [some (.ref r)] S _
  unfold ir__law_number
  repeat (with_reducible (first | refine s_cons ?_ | refine s_set ?_ | refine s_ret ?_ | refine s_expr ?_ | refine s_sub ?_ | refine s_nil ?_ | refine s_if ?_ | refine s_for ?_ | refine s_setC ?_ | refine s_boxC ?_ | refine s_retN ?_ | refine s_doc ?_ | refine r_var (by with_unfolding_all rfl) ?_ | refine r_int ?_ | refine r_bin ?_ | refine r_cmp ?_ | refine r_idx ?_ | refine r_cons ?_ | refine r_nil ?_ | refine r_bi ?_ | refine r_ty ?_ | refine r_call ?_ | refine r_callP ?_ | refine r_bl ?_ | refine r_tup ?_ | refine r_newL ?_ | refine r_box ?_ | refine r_cut ?_ | refine r_o0 ?_ | refine r_o1 ?_ | refine r_ife ?_ | refine r_str ?_ | refine r_non ?_ | refine r_neg ?_ | refine r_isT ?_ | refine r_app ?_ | refine r_andV ?_ | refine r_andV1 ?_ | refine r_orV ?_ | refine r_orV1 ?_ | refine r_notV ?_ | refine r_glo (by with_unfolding_all rfl) ?_ | refine t_cmp ?_ | refine t_val ?_ | refine t_and ?_ | refine t_and1 ?_ | refine t_or ?_ | refine t_or1 ?_ | refine t_not ?_ | refine c_lst ?_ | refine c_cat ?_ | refine c_rep ?_ | refine c_cut ?_ | refine c_list ?_ | refine c_lc ?_ | refine o_none ?_ | refine o_some ?_ | refine i_seq ?_ | refine i_rng1 ?_ | refine i_rng2 ?_ | refine i_revr ?_ | refine i_rev ?_ | refine i_zip ?_ | refine i_enum ?_ | refine p_add ?_ | refine p_sub ?_ | refine p_lt ?_ | refine p_le ?_ | refine p_gt ?_ | refine p_ge ?_ | refine p_eq ?_ | refine p_ne ?_ | refine p_int ?_ | refine p_intB ?_ | refine p_abs ?_ | refine p_min ?_ | refine p_max ?_ | refine p_lenN ?_ | refine p_lenT ?_ | refine p_lenL ?_ | refine p_tupL ?_ | refine p_pow18 ?_ | refine p_idxR (by assumption) (by with_unfolding_all rfl) ?_ | refine p_idxT (by with_unfolding_all rfl) ?_ | refine p_idxL (by with_unfolding_all rfl) ?_ | refine p_idxN (by assumption) ?_ | refine ⟨_, rfl, ?_⟩ | refine p_mod (by omega) ?_ | refine p_lenI ?_ | refine p_lenW ?_ | refine p_lenRw ?_ | refine p_fdiv (lg31 (by omega)) ?_ | refine p_mul (mul64 (by omega)) ?_))
  refine ⟨rfl, (sp_pick (n := n) t (by decide)).to fun d S1 ⟨v, e, h0, h1, q⟩ => ?_⟩
  subst e
  repeat (with_reducible (first | refine s_cons ?_ | refine s_set ?_ | refine s_ret ?_ | refine s_expr ?_ | refine s_sub ?_ | refine s_nil ?_ | refine s_if ?_ | refine s_for ?_ | refine s_setC ?_ | refine s_boxC ?_ | refine s_retN ?_ | refine s_doc ?_ | refine r_var (by with_unfolding_all rfl) ?_ | refine r_int ?_ | refine r_bin ?_ | refine r_cmp ?_ | refine r_idx ?_ | refine r_cons ?_ | refine r_nil ?_ | refine r_bi ?_ | refine r_ty ?_ | refine r_call ?_ | refine r_callP ?_ | refine r_bl ?_ | refine r_tup ?_ | refine r_newL ?_ | refine r_box ?_ | refine r_cut ?_ | refine r_o0 ?_ | refine r_o1 ?_ | refine r_ife ?_ | refine r_str ?_ | refine r_non ?_ | refine r_neg ?_ | refine r_isT ?_ | refine r_app ?_ | refine r_andV ?_ | refine r_andV1 ?_ | refine r_orV ?_ | refine r_orV1 ?_ | refine r_notV ?_ | refine r_glo (by with_unfolding_all rfl) ?_ | refine t_cmp ?_ | refine t_val ?_ | refine t_and ?_ | refine t_and1 ?_ | refine t_or ?_ | refine t_or1 ?_ | refine t_not ?_ | refine c_lst ?_ | refine c_cat ?_ | refine c_rep ?_ | refine c_cut ?_ | refine c_list ?_ | refine c_lc ?_ | refine o_none ?_ | refine o_some ?_ | refine i_seq ?_ | refine i_rng1 ?_ | refine i_rng2 ?_ | refine i_revr ?_ | refine i_rev ?_ | refine i_zip ?_ | refine i_enum ?_ | refine p_add ?_ | refine p_sub ?_ | refine p_lt ?_ | refine p_le ?_ | refine p_gt ?_ | refine p_ge ?_ | refine p_eq ?_ | refine p_ne ?_ | refine p_int ?_ | refine p_intB ?_ | refine p_abs ?_ | refine p_min ?_ | refine p_max ?_ | refine p_lenN ?_ | refine p_lenT ?_ | refine p_lenL ?_ | refine p_tupL ?_ | refine p_pow18 ?_ | refine p_idxR (by assumption) (by with_unfolding_all rfl) ?_ | refine p_idxT (by with_unfolding_all rfl) ?_ | refine p_idxL (by with_unfolding_all rfl) ?_ | refine p_idxN (by assumption) ?_ | refine ⟨_, rfl, ?_⟩ | refine p_mod (by omega) ?_ | refine p_lenI ?_ | refine p_lenW ?_ | refine p_lenRw ?_ | refine p_fdiv (lg31 (by omega)) ?_ | refine p_mul (mul64 (by omega)) ?_))
  refine ⟨fun h => ?_, fun h => ?_⟩
  · repeat (with_reducible (first | refine s_cons ?_ | refine s_set ?_ | refine s_ret ?_ | refine s_expr ?_ | refine s_sub ?_ | refine s_nil ?_ | refine s_if ?_ | refine s_for ?_ | refine s_setC ?_ | refine s_boxC ?_ | refine s_retN ?_ | refine s_doc ?_ | refine r_var (by with_unfolding_all rfl) ?_ | refine r_int ?_ | refine r_bin ?_ | refine r_cmp ?_ | refine r_idx ?_ | refine r_cons ?_ | refine r_nil ?_ | refine r_bi ?_ | refine r_ty ?_ | refine r_call ?_ | refine r_callP ?_ | refine r_bl ?_ | refine r_tup ?_ | refine r_newL ?_ | refine r_box ?_ | refine r_cut ?_ | refine r_o0 ?_ | refine r_o1 ?_ | refine r_ife ?_ | refine r_str ?_ | refine r_non ?_ | refine r_neg ?_ | refine r_isT ?_ | refine r_app ?_ | refine r_andV ?_ | refine r_andV1 ?_ | refine r_orV ?_ | refine r_orV1 ?_ | refine r_notV ?_ | refine r_glo (by with_unfolding_all rfl) ?_ | refine t_cmp ?_ | refine t_val ?_ | refine t_and ?_ | refine t_and1 ?_ | refine t_or ?_ | refine t_or1 ?_ | refine t_not ?_ | refine c_lst ?_ | refine c_cat ?_ | refine c_rep ?_ | refine c_cut ?_ | refine c_list ?_ | refine c_lc ?_ | refine o_none ?_ | refine o_some ?_ | refine i_seq ?_ | refine i_rng1 ?_ | refine i_rng2 ?_ | refine i_revr ?_ | refine i_rev ?_ | refine i_zip ?_ | refine i_enum ?_ | refine p_add ?_ | refine p_sub ?_ | refine p_lt ?_ | refine p_le ?_ | refine p_gt ?_ | refine p_ge ?_ | refine p_eq ?_ | refine p_ne ?_ | refine p_int ?_ | refine p_intB ?_ | refine p_abs ?_ | refine p_min ?_ | refine p_max ?_ | refine p_lenN ?_ | refine p_lenT ?_ | refine p_lenL ?_ | refine p_tupL ?_ | refine p_pow18 ?_ | refine p_idxR (by assumption) (by with_unfolding_all rfl) ?_ | refine p_idxT (by with_unfolding_all rfl) ?_ | refine p_idxL (by with_unfolding_all rfl) ?_ | refine p_idxN (by assumption) ?_ | refine ⟨_, rfl, ?_⟩ | refine p_mod (by omega) ?_ | refine p_lenI ?_ | refine p_lenW ?_ | refine p_lenRw ?_ | refine p_fdiv (lg31 (by omega)) ?_ | refine p_mul (mul64 (by omega)) ?_))
    refine ⟨rfl, (sp_pick (n := n) q.tp (by decide)).to fun d S2 ⟨a, e, a0, a1, q2⟩ => ?_⟩
    subst e
    repeat (with_reducible (first | refine s_cons ?_ | refine s_set ?_ | refine s_ret ?_ | refine s_expr ?_ | refine s_sub ?_ | refine s_nil ?_ | refine s_if ?_ | refine s_for ?_ | refine s_setC ?_ | refine s_boxC ?_ | refine s_retN ?_ | refine s_doc ?_ | refine r_var (by with_unfolding_all rfl) ?_ | refine r_int ?_ | refine r_bin ?_ | refine r_cmp ?_ | refine r_idx ?_ | refine r_cons ?_ | refine r_nil ?_ | refine r_bi ?_ | refine r_ty ?_ | refine r_call ?_ | refine r_callP ?_ | refine r_bl ?_ | refine r_tup ?_ | refine r_newL ?_ | refine r_box ?_ | refine r_cut ?_ | refine r_o0 ?_ | refine r_o1 ?_ | refine r_ife ?_ | refine r_str ?_ | refine r_non ?_ | refine r_neg ?_ | refine r_isT ?_ | refine r_app ?_ | refine r_andV ?_ | refine r_andV1 ?_ | refine r_orV ?_ | refine r_orV1 ?_ | refine r_notV ?_ | refine r_glo (by with_unfolding_all rfl) ?_ | refine t_cmp ?_ | refine t_val ?_ | refine t_and ?_ | refine t_and1 ?_ | refine t_or ?_ | refine t_or1 ?_ | refine t_not ?_ | refine c_lst ?_ | refine c_cat ?_ | refine c_rep ?_ | refine c_cut ?_ | refine c_list ?_ | refine c_lc ?_ | refine o_none ?_ | refine o_some ?_ | refine i_seq ?_ | refine i_rng1 ?_ | refine i_rng2 ?_ | refine i_revr ?_ | refine i_rev ?_ | refine i_zip ?_ | refine i_enum ?_ | refine p_add ?_ | refine p_sub ?_ | refine p_lt ?_ | refine p_le ?_ | refine p_gt ?_ | refine p_ge ?_ | refine p_eq ?_ | refine p_ne ?_ | refine p_int ?_ | refine p_intB ?_ | refine p_abs ?_ | refine p_min ?_ | refine p_max ?_ | refine p_lenN ?_ | refine p_lenT ?_ | refine p_lenL ?_ | refine p_tupL ?_ | refine p_pow18 ?_ | refine p_idxR (by assumption) (by with_unfolding_all rfl) ?_ | refine p_idxT (by with_unfolding_all rfl) ?_ | refine p_idxL (by with_unfolding_all rfl) ?_ | refine p_idxN (by assumption) ?_ | refine ⟨_, rfl, ?_⟩ | refine p_mod (by omega) ?_ | refine p_lenI ?_ | refine p_lenW ?_ | refine p_lenRw ?_ | refine p_fdiv (lg31 (by omega)) ?_ | refine p_mul (mul64 (by omega)) ?_))
    refine ⟨rfl, (sp_pick (n := n) q2.tp (by decide)).to fun d S3 ⟨b, e, b0, b1, q3⟩ => ?_⟩
    subst e
    repeat (with_reducible (first | refine s_cons ?_ | refine s_set ?_ | refine s_ret ?_ | refine s_expr ?_ | refine s_sub ?_ | refine s_nil ?_ | refine s_if ?_ | refine s_for ?_ | refine s_setC ?_ | refine s_boxC ?_ | refine s_retN ?_ | refine s_doc ?_ | refine r_var (by with_unfolding_all rfl) ?_ | refine r_int ?_ | refine r_bin ?_ | refine r_cmp ?_ | refine r_idx ?_ | refine r_cons ?_ | refine r_nil ?_ | refine r_bi ?_ | refine r_ty ?_ | refine r_call ?_ | refine r_callP ?_ | refine r_bl ?_ | refine r_tup ?_ | refine r_newL ?_ | refine r_box ?_ | refine r_cut ?_ | refine r_o0 ?_ | refine r_o1 ?_ | refine r_ife ?_ | refine r_str ?_ | refine r_non ?_ | refine r_neg ?_ | refine r_isT ?_ | refine r_app ?_ | refine r_andV ?_ | refine r_andV1 ?_ | refine r_orV ?_ | refine r_orV1 ?_ | refine r_notV ?_ | refine r_glo (by with_unfolding_all rfl) ?_ | refine t_cmp ?_ | refine t_val ?_ | refine t_and ?_ | refine t_and1 ?_ | refine t_or ?_ | refine t_or1 ?_ | refine t_not ?_ | refine c_lst ?_ | refine c_cat ?_ | refine c_rep ?_ | refine c_cut ?_ | refine c_list ?_ | refine c_lc ?_ | refine o_none ?_ | refine o_some ?_ | refine i_seq ?_ | refine i_rng1 ?_ | refine i_rng2 ?_ | refine i_revr ?_ | refine i_rev ?_ | refine i_zip ?_ | refine i_enum ?_ | refine p_add ?_ | refine p_sub ?_ | refine p_lt ?_ | refine p_le ?_ | refine p_gt ?_ | refine p_ge ?_ | refine p_eq ?_ | refine p_ne ?_ | refine p_int ?_ | refine p_intB ?_ | refine p_abs ?_ | refine p_min ?_ | refine p_max ?_ | refine p_lenN ?_ | refine p_lenT ?_ | refine p_lenL ?_ | refine p_tupL ?_ | refine p_pow18 ?_ | refine p_idxR (by assumption) (by with_unfolding_all rfl) ?_ | refine p_idxT (by with_unfolding_all rfl) ?_ | refine p_idxL (by with_unfolding_all rfl) ?_ | refine p_idxN (by assumption) ?_ | refine ⟨_, rfl, ?_⟩ | refine p_mod (by omega) ?_ | refine p_lenI ?_ | refine p_lenW ?_ | refine p_lenRw ?_ | refine p_fdiv (lg31 (by omega)) ?_ | refine p_mul (mul64 (by omega)) ?_))
    exact ⟨Sm.of ⟨by omega, by omega⟩, (q.trans q2).trans q3⟩
  · repeat (with_reducible (first | refine s_cons ?_ | refine s_set ?_ | refine s_ret ?_ | refine s_expr ?_ | refine s_sub ?_ | refine s_nil ?_ | refine s_if ?_ | refine s_for ?_ | refine s_setC ?_ | refine s_boxC ?_ | refine s_retN ?_ | refine s_doc ?_ | refine r_var (by with_unfolding_all rfl) ?_ | refine r_int ?_ | refine r_bin ?_ | refine r_cmp ?_ | refine r_idx ?_ | refine r_cons ?_ | refine r_nil ?_ | refine r_bi ?_ | refine r_ty ?_ | refine r_call ?_ | refine r_callP ?_ | refine r_bl ?_ | refine r_tup ?_ | refine r_newL ?_ | refine r_box ?_ | refine r_cut ?_ | refine r_o0 ?_ | refine r_o1 ?_ | refine r_ife ?_ | refine r_str ?_ | refine r_non ?_ | refine r_neg ?_ | refine r_isT ?_ | refine r_app ?_ | refine r_andV ?_ | refine r_andV1 ?_ | refine r_orV ?_ | refine r_orV1 ?_ | refine r_notV ?_ | refine r_glo (by with_unfolding_all rfl) ?_ | refine t_cmp ?_ | refine t_val ?_ | refine t_and ?_ | refine t_and1 ?_ | refine t_or ?_ | refine t_or1 ?_ | refine t_not ?_ | refine c_lst ?_ | refine c_cat ?_ | refine c_rep ?_ | refine c_cut ?_ | refine c_list ?_ | refine c_lc ?_ | refine o_none ?_ | refine o_some ?_ | refine i_seq ?_ | refine i_rng1 ?_ | refine i_rng2 ?_ | refine i_revr ?_ | refine i_rev ?_ | refine i_zip ?_ | refine i_enum ?_ | refine p_add ?_ | refine p_sub ?_ | refine p_lt ?_ | refine p_le ?_ | refine p_gt ?_ | refine p_ge ?_ | refine p_eq ?_ | refine p_ne ?_ | refine p_int ?_ | refine p_intB ?_ | refine p_abs ?_ | refine p_min ?_ | refine p_max ?_ | refine p_lenN ?_ | refine p_lenT ?_ | refine p_lenL ?_ | refine p_tupL ?_ | refine p_pow18 ?_ | refine p_idxR (by assumption) (by with_unfolding_all rfl) ?_ | refine p_idxT (by with_unfolding_all rfl) ?_ | refine p_idxL (by with_unfolding_all rfl) ?_ | refine p_idxN (by assumption) ?_ | refine ⟨_, rfl, ?_⟩ | refine p_mod (by omega) ?_ | refine p_lenI ?_ | refine p_lenW ?_ | refine p_lenRw ?_ | refine p_fdiv (lg31 (by omega)) ?_ | refine p_mul (mul64 (by omega)) ?_))
    refine ⟨rfl, (sp_pick (n := n) q.tp (by decide)).to fun d S2 ⟨a, e, a0, a1, q2⟩ => ?_⟩
    subst e
    repeat (with_reducible (first | refine s_cons ?_ | refine s_set ?_ | refine s_ret ?_ | refine s_expr ?_ | refine s_sub ?_ | refine s_nil ?_ | refine s_if ?_ | refine s_for ?_ | refine s_setC ?_ | refine s_boxC ?_ | refine s_retN ?_ | refine s_doc ?_ | refine r_var (by with_unfolding_all rfl) ?_ | refine r_int ?_ | refine r_bin ?_ | refine r_cmp ?_ | refine r_idx ?_ | refine r_cons ?_ | refine r_nil ?_ | refine r_bi ?_ | refine r_ty ?_ | refine r_call ?_ | refine r_callP ?_ | refine r_bl ?_ | refine r_tup ?_ | refine r_newL ?_ | refine r_box ?_ | refine r_cut ?_ | refine r_o0 ?_ | refine r_o1 ?_ | refine r_ife ?_ | refine r_str ?_ | refine r_non ?_ | refine r_neg ?_ | refine r_isT ?_ | refine r_app ?_ | refine r_andV ?_ | refine r_andV1 ?_ | refine r_orV ?_ | refine r_orV1 ?_ | refine r_notV ?_ | refine r_glo (by with_unfolding_all rfl) ?_ | refine t_cmp ?_ | refine t_val ?_ | refine t_and ?_ | refine t_and1 ?_ | refine t_or ?_ | refine t_or1 ?_ | refine t_not ?_ | refine c_lst ?_ | refine c_cat ?_ | refine c_rep ?_ | refine c_cut ?_ | refine c_list ?_ | refine c_lc ?_ | refine o_none ?_ | refine o_some ?_ | refine i_seq ?_ | refine i_rng1 ?_ | refine i_rng2 ?_ | refine i_revr ?_ | refine i_rev ?_ | refine i_zip ?_ | refine i_enum ?_ | refine p_add ?_ | refine p_sub ?_ | refine p_lt ?_ | refine p_le ?_ | refine p_gt ?_ | refine p_ge ?_ | refine p_eq ?_ | refine p_ne ?_ | refine p_int ?_ | refine p_intB ?_ | refine p_abs ?_ | refine p_min ?_ | refine p_max ?_ | refine p_lenN ?_ | refine p_lenT ?_ | refine p_lenL ?_ | refine p_tupL ?_ | refine p_pow18 ?_ | refine p_idxR (by assumption) (by with_unfolding_all rfl) ?_ | refine p_idxT (by with_unfolding_all rfl) ?_ | refine p_idxL (by with_unfolding_all rfl) ?_ | refine p_idxN (by assumption) ?_ | refine ⟨_, rfl, ?_⟩ | refine p_mod (by omega) ?_ | refine p_lenI ?_ | refine p_lenW ?_ | refine p_lenRw ?_ | refine p_fdiv (lg31 (by omega)) ?_ | refine p_mul (mul64 (by omega)) ?_))
    exact ⟨Sm.of ⟨by omega, by omega⟩, q.trans q2⟩
/-- a word: its monomials' exponents -/
structure Wd (w : Nat) (W : List (List Int)) : Prop where
  len : W.length ≤ 4
  ex : ∀ m ∈ W, m.length = w ∧ ∀ e ∈ m, 0 ≤ e ∧ e ≤ 6
structure Rw (w : Nat) (R : List (List Int)) : Prop where
  len : R.length ≤ 60
  it : ∀ m ∈ R, m.length = w ∧ ∀ x ∈ m, Sm 42 x
theorem sp_word {n r w : Nat} {S : List DO} (t : Tp S r) (hw : w ≤ 3) : wE (pr.call (n + 2) 3 [.ref r, .int w, .int 3, .int 6]) S (fun d S' => ∃ W, d = dW W ∧ Wd w W ∧ Tq r S S') XF := by
  refine b_call (F := f__law_word) rfl ?_
  show wS (evB (pr.ev (n + 1)) ir__law_word) [some (.ref r), some (.int w), some (.int 3), some (.int 6), none, none, none, none, none, none, none] S _
  unfold ir__law_word
  repeat (with_reducible (first | refine s_cons ?_ | refine s_set ?_ | refine s_ret ?_ | refine s_expr ?_ | refine s_sub ?_ | refine s_nil ?_ | refine s_if ?_ | refine s_for ?_ | refine s_setC ?_ | refine s_boxC ?_ | refine s_retN ?_ | refine s_doc ?_ | refine r_var (by with_unfolding_all rfl) ?_ | refine r_int ?_ | refine r_bin ?_ | refine r_cmp ?_ | refine r_idx ?_ | refine r_cons ?_ | refine r_nil ?_ | refine r_bi ?_ | refine r_ty ?_ | refine r_call ?_ | refine r_callP ?_ | refine r_bl ?_ | refine r_tup ?_ | refine r_newL ?_ | refine r_box ?_ | refine r_cut ?_ | refine r_o0 ?_ | refine r_o1 ?_ | refine r_ife ?_ | refine r_str ?_ | refine r_non ?_ | refine r_neg ?_ | refine r_isT ?_ | refine r_app ?_ | refine r_andV ?_ | refine r_andV1 ?_ | refine r_orV ?_ | refine r_orV1 ?_ | refine r_notV ?_ | refine r_glo (by with_unfolding_all rfl) ?_ | refine t_cmp ?_ | refine t_val ?_ | refine t_and ?_ | refine t_and1 ?_ | refine t_or ?_ | refine t_or1 ?_ | refine t_not ?_ | refine c_lst ?_ | refine c_cat ?_ | refine c_rep ?_ | refine c_cut ?_ | refine c_list ?_ | refine c_lc ?_ | refine o_none ?_ | refine o_some ?_ | refine i_seq ?_ | refine i_rng1 ?_ | refine i_rng2 ?_ | refine i_revr ?_ | refine i_rev ?_ | refine i_zip ?_ | refine i_enum ?_ | refine p_add ?_ | refine p_sub ?_ | refine p_lt ?_ | refine p_le ?_ | refine p_gt ?_ | refine p_ge ?_ | refine p_eq ?_ | refine p_ne ?_ | refine p_int ?_ | refine p_intB ?_ | refine p_abs ?_ | refine p_min ?_ | refine p_max ?_ | refine p_lenN ?_ | refine p_lenT ?_ | refine p_lenL ?_ | refine p_tupL ?_ | refine p_pow18 ?_ | refine p_idxR (by assumption) (by with_unfolding_all rfl) ?_ | refine p_idxT (by with_unfolding_all rfl) ?_ | refine p_idxL (by with_unfolding_all rfl) ?_ | refine p_idxN (by assumption) ?_ | refine ⟨_, rfl, ?_⟩ | refine p_mod (by omega) ?_ | refine p_lenI ?_ | refine p_lenW ?_ | refine p_lenRw ?_ | refine p_fdiv (lg31 (by omega)) ?_ | refine p_mul (mul64 (by omega)) ?_))
  refine ⟨by simp, ?_⟩
  repeat (with_reducible (first | refine s_cons ?_ | refine s_set ?_ | refine s_ret ?_ | refine s_expr ?_ | refine s_sub ?_ | refine s_nil ?_ | refine s_if ?_ | refine s_for ?_ | refine s_setC ?_ | refine s_boxC ?_ | refine s_retN ?_ | refine s_doc ?_ | refine r_var (by with_unfolding_all rfl) ?_ | refine r_int ?_ | refine r_bin ?_ | refine r_cmp ?_ | refine r_idx ?_ | refine r_cons ?_ | refine r_nil ?_ | refine r_bi ?_ | refine r_ty ?_ | refine r_call ?_ | refine r_callP ?_ | refine r_bl ?_ | refine r_tup ?_ | refine r_newL ?_ | refine r_box ?_ | refine r_cut ?_ | refine r_o0 ?_ | refine r_o1 ?_ | refine r_ife ?_ | refine r_str ?_ | refine r_non ?_ | refine r_neg ?_ | refine r_isT ?_ | refine r_app ?_ | refine r_andV ?_ | refine r_andV1 ?_ | refine r_orV ?_ | refine r_orV1 ?_ | refine r_notV ?_ | refine r_glo (by with_unfolding_all rfl) ?_ | refine t_cmp ?_ | refine t_val ?_ | refine t_and ?_ | refine t_and1 ?_ | refine t_or ?_ | refine t_or1 ?_ | refine t_not ?_ | refine c_lst ?_ | refine c_cat ?_ | refine c_rep ?_ | refine c_cut ?_ | refine c_list ?_ | refine c_lc ?_ | refine o_none ?_ | refine o_some ?_ | refine i_seq ?_ | refine i_rng1 ?_ | refine i_rng2 ?_ | refine i_revr ?_ | refine i_rev ?_ | refine i_zip ?_ | refine i_enum ?_ | refine p_add ?_ | refine p_sub ?_ | refine p_lt ?_ | refine p_le ?_ | refine p_gt ?_ | refine p_ge ?_ | refine p_eq ?_ | refine p_ne ?_ | refine p_int ?_ | refine p_intB ?_ | refine p_abs ?_ | refine p_min ?_ | refine p_max ?_ | refine p_lenN ?_ | refine p_lenT ?_ | refine p_lenL ?_ | refine p_tupL ?_ | refine p_pow18 ?_ | refine p_idxR (by assumption) (by with_unfolding_all rfl) ?_ | refine p_idxT (by with_unfolding_all rfl) ?_ | refine p_idxL (by with_unfolding_all rfl) ?_ | refine p_idxN (by assumption) ?_ | refine ⟨_, rfl, ?_⟩ | refine p_mod (by omega) ?_ | refine p_lenI ?_ | refine p_lenW ?_ | refine p_lenRw ?_ | refine p_fdiv (lg31 (by omega)) ?_ | refine p_mul (mul64 (by omega)) ?_))
  refine ⟨by simp, ?_⟩
  repeat (with_reducible (first | refine s_cons ?_ | refine s_set ?_ | refine s_ret ?_ | refine s_expr ?_ | refine s_sub ?_ | refine s_nil ?_ | refine s_if ?_ | refine s_for ?_ | refine s_setC ?_ | refine s_boxC ?_ | refine s_retN ?_ | refine s_doc ?_ | refine r_var (by with_unfolding_all rfl) ?_ | refine r_int ?_ | refine r_bin ?_ | refine r_cmp ?_ | refine r_idx ?_ | refine r_cons ?_ | refine r_nil ?_ | refine r_bi ?_ | refine r_ty ?_ | refine r_call ?_ | refine r_callP ?_ | refine r_bl ?_ | refine r_tup ?_ | refine r_newL ?_ | refine r_box ?_ | refine r_cut ?_ | refine r_o0 ?_ | refine r_o1 ?_ | refine r_ife ?_ | refine r_str ?_ | refine r_non ?_ | refine r_neg ?_ | refine r_isT ?_ | refine r_app ?_ | refine r_andV ?_ | refine r_andV1 ?_ | refine r_orV ?_ | refine r_orV1 ?_ | refine r_notV ?_ | refine r_glo (by with_unfolding_all rfl) ?_ | refine t_cmp ?_ | refine t_val ?_ | refine t_and ?_ | refine t_and1 ?_ | refine t_or ?_ | refine t_or1 ?_ | refine t_not ?_ | refine c_lst ?_ | refine c_cat ?_ | refine c_rep ?_ | refine c_cut ?_ | refine c_list ?_ | refine c_lc ?_ | refine o_none ?_ | refine o_some ?_ | refine i_seq ?_ | refine i_rng1 ?_ | refine i_rng2 ?_ | refine i_revr ?_ | refine i_rev ?_ | refine i_zip ?_ | refine i_enum ?_ | refine p_add ?_ | refine p_sub ?_ | refine p_lt ?_ | refine p_le ?_ | refine p_gt ?_ | refine p_ge ?_ | refine p_eq ?_ | refine p_ne ?_ | refine p_int ?_ | refine p_intB ?_ | refine p_abs ?_ | refine p_min ?_ | refine p_max ?_ | refine p_lenN ?_ | refine p_lenT ?_ | refine p_lenL ?_ | refine p_tupL ?_ | refine p_pow18 ?_ | refine p_idxR (by assumption) (by with_unfolding_all rfl) ?_ | refine p_idxT (by with_unfolding_all rfl) ?_ | refine p_idxL (by with_unfolding_all rfl) ?_ | refine p_idxN (by assumption) ?_ | refine ⟨_, rfl, ?_⟩ | refine p_mod (by omega) ?_ | refine p_lenI ?_ | refine p_lenW ?_ | refine p_lenRw ?_ | refine p_fdiv (lg31 (by omega)) ?_ | refine p_mul (mul64 (by omega)) ?_))
  refine ⟨rfl, (sp_pick (n := n) t (by decide)).to fun d S1 ⟨v, e, h0, h1, q⟩ => ?_⟩
  subst e
  obtain ⟨mo, hm, em⟩ : ∃ mo : Int, (0 ≤ mo ∧ mo ≤ 6) ∧ L2.atI [D.int 2, D.int 2, D.int 2, D.int 6] v = some (.int mo) := by
    have : v = 0 ∨ v = 1 ∨ v = 2 ∨ v = 3 := by omega
    rcases this with rfl | rfl | rfl | rfl <;> first | exact ⟨2, by decide, rfl⟩ | exact ⟨6, by decide, rfl⟩
  refine p_idxL em ?_
  repeat (with_reducible (first | refine s_cons ?_ | refine s_set ?_ | refine s_ret ?_ | refine s_expr ?_ | refine s_sub ?_ | refine s_nil ?_ | refine s_if ?_ | refine s_for ?_ | refine s_setC ?_ | refine s_boxC ?_ | refine s_retN ?_ | refine s_doc ?_ | refine r_var (by with_unfolding_all rfl) ?_ | refine r_int ?_ | refine r_bin ?_ | refine r_cmp ?_ | refine r_idx ?_ | refine r_cons ?_ | refine r_nil ?_ | refine r_bi ?_ | refine r_ty ?_ | refine r_call ?_ | refine r_callP ?_ | refine r_bl ?_ | refine r_tup ?_ | refine r_newL ?_ | refine r_box ?_ | refine r_cut ?_ | refine r_o0 ?_ | refine r_o1 ?_ | refine r_ife ?_ | refine r_str ?_ | refine r_non ?_ | refine r_neg ?_ | refine r_isT ?_ | refine r_app ?_ | refine r_andV ?_ | refine r_andV1 ?_ | refine r_orV ?_ | refine r_orV1 ?_ | refine r_notV ?_ | refine r_glo (by with_unfolding_all rfl) ?_ | refine t_cmp ?_ | refine t_val ?_ | refine t_and ?_ | refine t_and1 ?_ | refine t_or ?_ | refine t_or1 ?_ | refine t_not ?_ | refine c_lst ?_ | refine c_cat ?_ | refine c_rep ?_ | refine c_cut ?_ | refine c_list ?_ | refine c_lc ?_ | refine o_none ?_ | refine o_some ?_ | refine i_seq ?_ | refine i_rng1 ?_ | refine i_rng2 ?_ | refine i_revr ?_ | refine i_rev ?_ | refine i_zip ?_ | refine i_enum ?_ | refine p_add ?_ | refine p_sub ?_ | refine p_lt ?_ | refine p_le ?_ | refine p_gt ?_ | refine p_ge ?_ | refine p_eq ?_ | refine p_ne ?_ | refine p_int ?_ | refine p_intB ?_ | refine p_abs ?_ | refine p_min ?_ | refine p_max ?_ | refine p_lenN ?_ | refine p_lenT ?_ | refine p_lenL ?_ | refine p_tupL ?_ | refine p_pow18 ?_ | refine p_idxR (by assumption) (by with_unfolding_all rfl) ?_ | refine p_idxT (by with_unfolding_all rfl) ?_ | refine p_idxL (by with_unfolding_all rfl) ?_ | refine p_idxN (by assumption) ?_ | refine ⟨_, rfl, ?_⟩ | refine p_mod (by omega) ?_ | refine p_lenI ?_ | refine p_lenW ?_ | refine p_lenRw ?_ | refine p_fdiv (lg31 (by omega)) ?_ | refine p_mul (mul64 (by omega)) ?_))
  refine ⟨rfl, (sp_pick (n := n) q.tp (by decide)).to fun d S2 ⟨a, e, a0, a1, q2⟩ => ?_⟩
  subst e
  refine ⟨_, rfl, by omega, ?_⟩
  refine wS_loop (fun k E S' => ∃ (W : List (List Int)) (left : Int) (e7 e8 e9 e10 : Option D), E = [some (.ref r), some (.int w), some (.int 3), some (.int 6), some (dW W), some (.int left), some (.int mo), e7, e8, e9, e10] ∧ (0 ≤ left ∧ left ≤ 6) ∧ W.length = k ∧ (∀ m ∈ W, m.length = w ∧ ∀ e ∈ m, 0 ≤ e ∧ e ≤ 6) ∧ Tq r S S') _ 0 ⟨[], 6, none, none, none, none, rfl, by decide, rfl, by simp, q.trans q2⟩ ?_ ?_
  · intro j d E S3 hd hI
    obtain ⟨W, left, e7, e8, e9, e10, hE, hl, hW, hWm, q3⟩ := hI
    subst hE
    have hj := (rangeD_get hd).1
    with_reducible refine put_1 ?_
    repeat (with_reducible (first | refine s_cons ?_ | refine s_set ?_ | refine s_ret ?_ | refine s_expr ?_ | refine s_sub ?_ | refine s_nil ?_ | refine s_if ?_ | refine s_for ?_ | refine s_setC ?_ | refine s_boxC ?_ | refine s_retN ?_ | refine s_doc ?_ | refine r_var (by with_unfolding_all rfl) ?_ | refine r_int ?_ | refine r_bin ?_ | refine r_cmp ?_ | refine r_idx ?_ | refine r_cons ?_ | refine r_nil ?_ | refine r_bi ?_ | refine r_ty ?_ | refine r_call ?_ | refine r_callP ?_ | refine r_bl ?_ | refine r_tup ?_ | refine r_newL ?_ | refine r_box ?_ | refine r_cut ?_ | refine r_o0 ?_ | refine r_o1 ?_ | refine r_ife ?_ | refine r_str ?_ | refine r_non ?_ | refine r_neg ?_ | refine r_isT ?_ | refine r_app ?_ | refine r_andV ?_ | refine r_andV1 ?_ | refine r_orV ?_ | refine r_orV1 ?_ | refine r_notV ?_ | refine r_glo (by with_unfolding_all rfl) ?_ | refine t_cmp ?_ | refine t_val ?_ | refine t_and ?_ | refine t_and1 ?_ | refine t_or ?_ | refine t_or1 ?_ | refine t_not ?_ | refine c_lst ?_ | refine c_cat ?_ | refine c_rep ?_ | refine c_cut ?_ | refine c_list ?_ | refine c_lc ?_ | refine o_none ?_ | refine o_some ?_ | refine i_seq ?_ | refine i_rng1 ?_ | refine i_rng2 ?_ | refine i_revr ?_ | refine i_rev ?_ | refine i_zip ?_ | refine i_enum ?_ | refine p_add ?_ | refine p_sub ?_ | refine p_lt ?_ | refine p_le ?_ | refine p_gt ?_ | refine p_ge ?_ | refine p_eq ?_ | refine p_ne ?_ | refine p_int ?_ | refine p_intB ?_ | refine p_abs ?_ | refine p_min ?_ | refine p_max ?_ | refine p_lenN ?_ | refine p_lenT ?_ | refine p_lenL ?_ | refine p_tupL ?_ | refine p_pow18 ?_ | refine p_idxR (by assumption) (by with_unfolding_all rfl) ?_ | refine p_idxT (by with_unfolding_all rfl) ?_ | refine p_idxL (by with_unfolding_all rfl) ?_ | refine p_idxN (by assumption) ?_ | refine ⟨_, rfl, ?_⟩ | refine p_mod (by omega) ?_ | refine p_lenI ?_ | refine p_lenW ?_ | refine p_lenRw ?_ | refine p_fdiv (lg31 (by omega)) ?_ | refine p_mul (mul64 (by omega)) ?_))
    refine ⟨by simp, ?_⟩
    repeat (with_reducible (first | refine s_cons ?_ | refine s_set ?_ | refine s_ret ?_ | refine s_expr ?_ | refine s_sub ?_ | refine s_nil ?_ | refine s_if ?_ | refine s_for ?_ | refine s_setC ?_ | refine s_boxC ?_ | refine s_retN ?_ | refine s_doc ?_ | refine r_var (by with_unfolding_all rfl) ?_ | refine r_int ?_ | refine r_bin ?_ | refine r_cmp ?_ | refine r_idx ?_ | refine r_cons ?_ | refine r_nil ?_ | refine r_bi ?_ | refine r_ty ?_ | refine r_call ?_ | refine r_callP ?_ | refine r_bl ?_ | refine r_tup ?_ | refine r_newL ?_ | refine r_box ?_ | refine r_cut ?_ | refine r_o0 ?_ | refine r_o1 ?_ | refine r_ife ?_ | refine r_str ?_ | refine r_non ?_ | refine r_neg ?_ | refine r_isT ?_ | refine r_app ?_ | refine r_andV ?_ | refine r_andV1 ?_ | refine r_orV ?_ | refine r_orV1 ?_ | refine r_notV ?_ | refine r_glo (by with_unfolding_all rfl) ?_ | refine t_cmp ?_ | refine t_val ?_ | refine t_and ?_ | refine t_and1 ?_ | refine t_or ?_ | refine t_or1 ?_ | refine t_not ?_ | refine c_lst ?_ | refine c_cat ?_ | refine c_rep ?_ | refine c_cut ?_ | refine c_list ?_ | refine c_lc ?_ | refine o_none ?_ | refine o_some ?_ | refine i_seq ?_ | refine i_rng1 ?_ | refine i_rng2 ?_ | refine i_revr ?_ | refine i_rev ?_ | refine i_zip ?_ | refine i_enum ?_ | refine p_add ?_ | refine p_sub ?_ | refine p_lt ?_ | refine p_le ?_ | refine p_gt ?_ | refine p_ge ?_ | refine p_eq ?_ | refine p_ne ?_ | refine p_int ?_ | refine p_intB ?_ | refine p_abs ?_ | refine p_min ?_ | refine p_max ?_ | refine p_lenN ?_ | refine p_lenT ?_ | refine p_lenL ?_ | refine p_tupL ?_ | refine p_pow18 ?_ | refine p_idxR (by assumption) (by with_unfolding_all rfl) ?_ | refine p_idxT (by with_unfolding_all rfl) ?_ | refine p_idxL (by with_unfolding_all rfl) ?_ | refine p_idxN (by assumption) ?_ | refine ⟨_, rfl, ?_⟩ | refine p_mod (by omega) ?_ | refine p_lenI ?_ | refine p_lenW ?_ | refine p_lenRw ?_ | refine p_fdiv (lg31 (by omega)) ?_ | refine p_mul (mul64 (by omega)) ?_))
    refine ⟨by omega, ?_⟩
    refine wS_loop (fun k E S' => ∃ (M : List Int) (left : Int) (e9 e10 : Option D), E = [some (.ref r), some (.int w), some (.int 3), some (.int 6), some (dW W), some (.int left), some (.int mo), some d, some (dI M), e9, e10] ∧ (0 ≤ left ∧ left ≤ 6) ∧ M.length = k ∧ (∀ e ∈ M, 0 ≤ e ∧ e ≤ 6) ∧ Tq r S S') _ 0 ⟨[], left, e9, e10, rfl, hl, rfl, by simp, q3⟩ ?_ ?_
    · rintro j2 d2 E S4 hd2 ⟨M, left, e9, e10, rfl, hl, hM, hMm, q4⟩
      have hj2 := (rangeD_get hd2).1
      with_reducible refine put_1 ?_
      repeat (with_reducible (first | refine s_cons ?_ | refine s_set ?_ | refine s_ret ?_ | refine s_expr ?_ | refine s_sub ?_ | refine s_nil ?_ | refine s_if ?_ | refine s_for ?_ | refine s_setC ?_ | refine s_boxC ?_ | refine s_retN ?_ | refine s_doc ?_ | refine r_var (by with_unfolding_all rfl) ?_ | refine r_int ?_ | refine r_bin ?_ | refine r_cmp ?_ | refine r_idx ?_ | refine r_cons ?_ | refine r_nil ?_ | refine r_bi ?_ | refine r_ty ?_ | refine r_call ?_ | refine r_callP ?_ | refine r_bl ?_ | refine r_tup ?_ | refine r_newL ?_ | refine r_box ?_ | refine r_cut ?_ | refine r_o0 ?_ | refine r_o1 ?_ | refine r_ife ?_ | refine r_str ?_ | refine r_non ?_ | refine r_neg ?_ | refine r_isT ?_ | refine r_app ?_ | refine r_andV ?_ | refine r_andV1 ?_ | refine r_orV ?_ | refine r_orV1 ?_ | refine r_notV ?_ | refine r_glo (by with_unfolding_all rfl) ?_ | refine t_cmp ?_ | refine t_val ?_ | refine t_and ?_ | refine t_and1 ?_ | refine t_or ?_ | refine t_or1 ?_ | refine t_not ?_ | refine c_lst ?_ | refine c_cat ?_ | refine c_rep ?_ | refine c_cut ?_ | refine c_list ?_ | refine c_lc ?_ | refine o_none ?_ | refine o_some ?_ | refine i_seq ?_ | refine i_rng1 ?_ | refine i_rng2 ?_ | refine i_revr ?_ | refine i_rev ?_ | refine i_zip ?_ | refine i_enum ?_ | refine p_add ?_ | refine p_sub ?_ | refine p_lt ?_ | refine p_le ?_ | refine p_gt ?_ | refine p_ge ?_ | refine p_eq ?_ | refine p_ne ?_ | refine p_int ?_ | refine p_intB ?_ | refine p_abs ?_ | refine p_min ?_ | refine p_max ?_ | refine p_lenN ?_ | refine p_lenT ?_ | refine p_lenL ?_ | refine p_tupL ?_ | refine p_pow18 ?_ | refine p_idxR (by assumption) (by with_unfolding_all rfl) ?_ | refine p_idxT (by with_unfolding_all rfl) ?_ | refine p_idxL (by with_unfolding_all rfl) ?_ | refine p_idxN (by assumption) ?_ | refine ⟨_, rfl, ?_⟩ | refine p_mod (by omega) ?_ | refine p_lenI ?_ | refine p_lenW ?_ | refine p_lenRw ?_ | refine p_fdiv (lg31 (by omega)) ?_ | refine p_mul (mul64 (by omega)) ?_))
      refine ⟨rfl, (sp_pick (n := n) q4.tp ⟨by split <;> omega, by split <;> omega⟩).to fun d S5 ⟨x, e, x0, x1, q5⟩ => ?_⟩
      subst e
      have x2 : x ≤ left ∧ x ≤ 6 := by split at x1 <;> omega
      repeat (with_reducible (first | refine s_cons ?_ | refine s_set ?_ | refine s_ret ?_ | refine s_expr ?_ | refine s_sub ?_ | refine s_nil ?_ | refine s_if ?_ | refine s_for ?_ | refine s_setC ?_ | refine s_boxC ?_ | refine s_retN ?_ | refine s_doc ?_ | refine r_var (by with_unfolding_all rfl) ?_ | refine r_int ?_ | refine r_bin ?_ | refine r_cmp ?_ | refine r_idx ?_ | refine r_cons ?_ | refine r_nil ?_ | refine r_bi ?_ | refine r_ty ?_ | refine r_call ?_ | refine r_callP ?_ | refine r_bl ?_ | refine r_tup ?_ | refine r_newL ?_ | refine r_box ?_ | refine r_cut ?_ | refine r_o0 ?_ | refine r_o1 ?_ | refine r_ife ?_ | refine r_str ?_ | refine r_non ?_ | refine r_neg ?_ | refine r_isT ?_ | refine r_app ?_ | refine r_andV ?_ | refine r_andV1 ?_ | refine r_orV ?_ | refine r_orV1 ?_ | refine r_notV ?_ | refine r_glo (by with_unfolding_all rfl) ?_ | refine t_cmp ?_ | refine t_val ?_ | refine t_and ?_ | refine t_and1 ?_ | refine t_or ?_ | refine t_or1 ?_ | refine t_not ?_ | refine c_lst ?_ | refine c_cat ?_ | refine c_rep ?_ | refine c_cut ?_ | refine c_list ?_ | refine c_lc ?_ | refine o_none ?_ | refine o_some ?_ | refine i_seq ?_ | refine i_rng1 ?_ | refine i_rng2 ?_ | refine i_revr ?_ | refine i_rev ?_ | refine i_zip ?_ | refine i_enum ?_ | refine p_add ?_ | refine p_sub ?_ | refine p_lt ?_ | refine p_le ?_ | refine p_gt ?_ | refine p_ge ?_ | refine p_eq ?_ | refine p_ne ?_ | refine p_int ?_ | refine p_intB ?_ | refine p_abs ?_ | refine p_min ?_ | refine p_max ?_ | refine p_lenN ?_ | refine p_lenT ?_ | refine p_lenL ?_ | refine p_tupL ?_ | refine p_pow18 ?_ | refine p_idxR (by assumption) (by with_unfolding_all rfl) ?_ | refine p_idxT (by with_unfolding_all rfl) ?_ | refine p_idxL (by with_unfolding_all rfl) ?_ | refine p_idxN (by assumption) ?_ | refine ⟨_, rfl, ?_⟩ | refine p_mod (by omega) ?_ | refine p_lenI ?_ | refine p_lenW ?_ | refine p_lenRw ?_ | refine p_fdiv (lg31 (by omega)) ?_ | refine p_mul (mul64 (by omega)) ?_))
      refine ⟨by simp, ?_⟩
      refine p_catT (by simp; omega) ?_
      repeat (with_reducible (first | refine s_cons ?_ | refine s_set ?_ | refine s_ret ?_ | refine s_expr ?_ | refine s_sub ?_ | refine s_nil ?_ | refine s_if ?_ | refine s_for ?_ | refine s_setC ?_ | refine s_boxC ?_ | refine s_retN ?_ | refine s_doc ?_ | refine r_var (by with_unfolding_all rfl) ?_ | refine r_int ?_ | refine r_bin ?_ | refine r_cmp ?_ | refine r_idx ?_ | refine r_cons ?_ | refine r_nil ?_ | refine r_bi ?_ | refine r_ty ?_ | refine r_call ?_ | refine r_callP ?_ | refine r_bl ?_ | refine r_tup ?_ | refine r_newL ?_ | refine r_box ?_ | refine r_cut ?_ | refine r_o0 ?_ | refine r_o1 ?_ | refine r_ife ?_ | refine r_str ?_ | refine r_non ?_ | refine r_neg ?_ | refine r_isT ?_ | refine r_app ?_ | refine r_andV ?_ | refine r_andV1 ?_ | refine r_orV ?_ | refine r_orV1 ?_ | refine r_notV ?_ | refine r_glo (by with_unfolding_all rfl) ?_ | refine t_cmp ?_ | refine t_val ?_ | refine t_and ?_ | refine t_and1 ?_ | refine t_or ?_ | refine t_or1 ?_ | refine t_not ?_ | refine c_lst ?_ | refine c_cat ?_ | refine c_rep ?_ | refine c_cut ?_ | refine c_list ?_ | refine c_lc ?_ | refine o_none ?_ | refine o_some ?_ | refine i_seq ?_ | refine i_rng1 ?_ | refine i_rng2 ?_ | refine i_revr ?_ | refine i_rev ?_ | refine i_zip ?_ | refine i_enum ?_ | refine p_add ?_ | refine p_sub ?_ | refine p_lt ?_ | refine p_le ?_ | refine p_gt ?_ | refine p_ge ?_ | refine p_eq ?_ | refine p_ne ?_ | refine p_int ?_ | refine p_intB ?_ | refine p_abs ?_ | refine p_min ?_ | refine p_max ?_ | refine p_lenN ?_ | refine p_lenT ?_ | refine p_lenL ?_ | refine p_tupL ?_ | refine p_pow18 ?_ | refine p_idxR (by assumption) (by with_unfolding_all rfl) ?_ | refine p_idxT (by with_unfolding_all rfl) ?_ | refine p_idxL (by with_unfolding_all rfl) ?_ | refine p_idxN (by assumption) ?_ | refine ⟨_, rfl, ?_⟩ | refine p_mod (by omega) ?_ | refine p_lenI ?_ | refine p_lenW ?_ | refine p_lenRw ?_ | refine p_fdiv (lg31 (by omega)) ?_ | refine p_mul (mul64 (by omega)) ?_))
      refine ⟨M ++ [x], left - x, _, _, by simp [dI]; exact ⟨rfl, rfl⟩, by omega, by simp [hM], ?_, q4.trans q5⟩
      intro e he
      rcases List.mem_append.mp he with he | he
      · exact hMm e he
      · rw [List.mem_singleton.mp he]; exact ⟨x0, x2.2⟩
    · rintro E S4 ⟨M, left, e9, e10, rfl, hl, hM, hMm, q4⟩
      repeat (with_reducible (first | refine s_cons ?_ | refine s_set ?_ | refine s_ret ?_ | refine s_expr ?_ | refine s_sub ?_ | refine s_nil ?_ | refine s_if ?_ | refine s_for ?_ | refine s_setC ?_ | refine s_boxC ?_ | refine s_retN ?_ | refine s_doc ?_ | refine r_var (by with_unfolding_all rfl) ?_ | refine r_int ?_ | refine r_bin ?_ | refine r_cmp ?_ | refine r_idx ?_ | refine r_cons ?_ | refine r_nil ?_ | refine r_bi ?_ | refine r_ty ?_ | refine r_call ?_ | refine r_callP ?_ | refine r_bl ?_ | refine r_tup ?_ | refine r_newL ?_ | refine r_box ?_ | refine r_cut ?_ | refine r_o0 ?_ | refine r_o1 ?_ | refine r_ife ?_ | refine r_str ?_ | refine r_non ?_ | refine r_neg ?_ | refine r_isT ?_ | refine r_app ?_ | refine r_andV ?_ | refine r_andV1 ?_ | refine r_orV ?_ | refine r_orV1 ?_ | refine r_notV ?_ | refine r_glo (by with_unfolding_all rfl) ?_ | refine t_cmp ?_ | refine t_val ?_ | refine t_and ?_ | refine t_and1 ?_ | refine t_or ?_ | refine t_or1 ?_ | refine t_not ?_ | refine c_lst ?_ | refine c_cat ?_ | refine c_rep ?_ | refine c_cut ?_ | refine c_list ?_ | refine c_lc ?_ | refine o_none ?_ | refine o_some ?_ | refine i_seq ?_ | refine i_rng1 ?_ | refine i_rng2 ?_ | refine i_revr ?_ | refine i_rev ?_ | refine i_zip ?_ | refine i_enum ?_ | refine p_add ?_ | refine p_sub ?_ | refine p_lt ?_ | refine p_le ?_ | refine p_gt ?_ | refine p_ge ?_ | refine p_eq ?_ | refine p_ne ?_ | refine p_int ?_ | refine p_intB ?_ | refine p_abs ?_ | refine p_min ?_ | refine p_max ?_ | refine p_lenN ?_ | refine p_lenT ?_ | refine p_lenL ?_ | refine p_tupL ?_ | refine p_pow18 ?_ | refine p_idxR (by assumption) (by with_unfolding_all rfl) ?_ | refine p_idxT (by with_unfolding_all rfl) ?_ | refine p_idxL (by with_unfolding_all rfl) ?_ | refine p_idxN (by assumption) ?_ | refine ⟨_, rfl, ?_⟩ | refine p_mod (by omega) ?_ | refine p_lenI ?_ | refine p_lenW ?_ | refine p_lenRw ?_ | refine p_fdiv (lg31 (by omega)) ?_ | refine p_mul (mul64 (by omega)) ?_))
      have hlen : (0 + (rangeD 0 (w : Int).toNat).length) = w := by simp [rangeD]
      refine ⟨by simp, ?_⟩
      refine p_catT (by simp; omega) ?_
      repeat (with_reducible (first | refine s_cons ?_ | refine s_set ?_ | refine s_ret ?_ | refine s_expr ?_ | refine s_sub ?_ | refine s_nil ?_ | refine s_if ?_ | refine s_for ?_ | refine s_setC ?_ | refine s_boxC ?_ | refine s_retN ?_ | refine s_doc ?_ | refine r_var (by with_unfolding_all rfl) ?_ | refine r_int ?_ | refine r_bin ?_ | refine r_cmp ?_ | refine r_idx ?_ | refine r_cons ?_ | refine r_nil ?_ | refine r_bi ?_ | refine r_ty ?_ | refine r_call ?_ | refine r_callP ?_ | refine r_bl ?_ | refine r_tup ?_ | refine r_newL ?_ | refine r_box ?_ | refine r_cut ?_ | refine r_o0 ?_ | refine r_o1 ?_ | refine r_ife ?_ | refine r_str ?_ | refine r_non ?_ | refine r_neg ?_ | refine r_isT ?_ | refine r_app ?_ | refine r_andV ?_ | refine r_andV1 ?_ | refine r_orV ?_ | refine r_orV1 ?_ | refine r_notV ?_ | refine r_glo (by with_unfolding_all rfl) ?_ | refine t_cmp ?_ | refine t_val ?_ | refine t_and ?_ | refine t_and1 ?_ | refine t_or ?_ | refine t_or1 ?_ | refine t_not ?_ | refine c_lst ?_ | refine c_cat ?_ | refine c_rep ?_ | refine c_cut ?_ | refine c_list ?_ | refine c_lc ?_ | refine o_none ?_ | refine o_some ?_ | refine i_seq ?_ | refine i_rng1 ?_ | refine i_rng2 ?_ | refine i_revr ?_ | refine i_rev ?_ | refine i_zip ?_ | refine i_enum ?_ | refine p_add ?_ | refine p_sub ?_ | refine p_lt ?_ | refine p_le ?_ | refine p_gt ?_ | refine p_ge ?_ | refine p_eq ?_ | refine p_ne ?_ | refine p_int ?_ | refine p_intB ?_ | refine p_abs ?_ | refine p_min ?_ | refine p_max ?_ | refine p_lenN ?_ | refine p_lenT ?_ | refine p_lenL ?_ | refine p_tupL ?_ | refine p_pow18 ?_ | refine p_idxR (by assumption) (by with_unfolding_all rfl) ?_ | refine p_idxT (by with_unfolding_all rfl) ?_ | refine p_idxL (by with_unfolding_all rfl) ?_ | refine p_idxN (by assumption) ?_ | refine ⟨_, rfl, ?_⟩ | refine p_mod (by omega) ?_ | refine p_lenI ?_ | refine p_lenW ?_ | refine p_lenRw ?_ | refine p_fdiv (lg31 (by omega)) ?_ | refine p_mul (mul64 (by omega)) ?_))
      refine ⟨W ++ [M], left, some d, some (dI M), e9, e10, by simp [dW], hl, by simp [hW], ?_, q4⟩
      intro m hm'
      rcases List.mem_append.mp hm' with h | h
      · exact hWm m h
      · rw [List.mem_singleton.mp h]; exact ⟨hM.trans hlen, hMm⟩
  · rintro E S3 ⟨W, left, e7, e8, e9, e10, rfl, hl, hW, hWm, q3⟩
    repeat (with_reducible (first | refine s_cons ?_ | refine s_set ?_ | refine s_ret ?_ | refine s_expr ?_ | refine s_sub ?_ | refine s_nil ?_ | refine s_if ?_ | refine s_for ?_ | refine s_setC ?_ | refine s_boxC ?_ | refine s_retN ?_ | refine s_doc ?_ | refine r_var (by with_unfolding_all rfl) ?_ | refine r_int ?_ | refine r_bin ?_ | refine r_cmp ?_ | refine r_idx ?_ | refine r_cons ?_ | refine r_nil ?_ | refine r_bi ?_ | refine r_ty ?_ | refine r_call ?_ | refine r_callP ?_ | refine r_bl ?_ | refine r_tup ?_ | refine r_newL ?_ | refine r_box ?_ | refine r_cut ?_ | refine r_o0 ?_ | refine r_o1 ?_ | refine r_ife ?_ | refine r_str ?_ | refine r_non ?_ | refine r_neg ?_ | refine r_isT ?_ | refine r_app ?_ | refine r_andV ?_ | refine r_andV1 ?_ | refine r_orV ?_ | refine r_orV1 ?_ | refine r_notV ?_ | refine r_glo (by with_unfolding_all rfl) ?_ | refine t_cmp ?_ | refine t_val ?_ | refine t_and ?_ | refine t_and1 ?_ | refine t_or ?_ | refine t_or1 ?_ | refine t_not ?_ | refine c_lst ?_ | refine c_cat ?_ | refine c_rep ?_ | refine c_cut ?_ | refine c_list ?_ | refine c_lc ?_ | refine o_none ?_ | refine o_some ?_ | refine i_seq ?_ | refine i_rng1 ?_ | refine i_rng2 ?_ | refine i_revr ?_ | refine i_rev ?_ | refine i_zip ?_ | refine i_enum ?_ | refine p_add ?_ | refine p_sub ?_ | refine p_lt ?_ | refine p_le ?_ | refine p_gt ?_ | refine p_ge ?_ | refine p_eq ?_ | refine p_ne ?_ | refine p_int ?_ | refine p_intB ?_ | refine p_abs ?_ | refine p_min ?_ | refine p_max ?_ | refine p_lenN ?_ | refine p_lenT ?_ | refine p_lenL ?_ | refine p_tupL ?_ | refine p_pow18 ?_ | refine p_idxR (by assumption) (by with_unfolding_all rfl) ?_ | refine p_idxT (by with_unfolding_all rfl) ?_ | refine p_idxL (by with_unfolding_all rfl) ?_ | refine p_idxN (by assumption) ?_ | refine ⟨_, rfl, ?_⟩ | refine p_mod (by omega) ?_ | refine p_lenI ?_ | refine p_lenW ?_ | refine p_lenRw ?_ | refine p_fdiv (lg31 (by omega)) ?_ | refine p_mul (mul64 (by omega)) ?_))
    exact ⟨⟨by rw [hW]; simp [rangeD]; omega, hWm⟩, q3⟩
end K21
namespace K21
open PySem.Spec PyProof.Rows L2 PK
theorem sp_row {n r w : Nat} {S : List DO} (t : Tp S r) (hw : w ≤ 3) : wE (pr.call (n + 3) 4 [.ref r, .int w, .int 6]) S (fun d S' => ∃ R, d = dR R ∧ Rw w R ∧ R.length ≤ 6) XF := by
  refine b_call (F := f__law_row) rfl ?_
  show wS (evB (pr.ev (n + 2)) ir__law_row) [some (.ref r), some (.int w), some (.int 6), none, none, none] S _
  unfold ir__law_row
  have hr : r < S.length := by obtain ⟨a, b, h, _⟩ := t; exact (List.getElem?_eq_some_iff.mp h).1
  repeat (with_reducible (first | refine s_cons ?_ | refine s_set ?_ | refine s_ret ?_ | refine s_expr ?_ | refine s_sub ?_ | refine s_nil ?_ | refine s_if ?_ | refine s_for ?_ | refine s_setC ?_ | refine s_boxC ?_ | refine s_retN ?_ | refine s_doc ?_ | refine r_var (by with_unfolding_all rfl) ?_ | refine r_int ?_ | refine r_bin ?_ | refine r_cmp ?_ | refine r_idx ?_ | refine r_cons ?_ | refine r_nil ?_ | refine r_bi ?_ | refine r_ty ?_ | refine r_call ?_ | refine r_callP ?_ | refine r_bl ?_ | refine r_tup ?_ | refine r_newL ?_ | refine r_box ?_ | refine r_cut ?_ | refine r_o0 ?_ | refine r_o1 ?_ | refine r_ife ?_ | refine r_str ?_ | refine r_non ?_ | refine r_neg ?_ | refine r_isT ?_ | refine r_app ?_ | refine r_andV ?_ | refine r_andV1 ?_ | refine r_orV ?_ | refine r_orV1 ?_ | refine r_notV ?_ | refine r_glo (by with_unfolding_all rfl) ?_ | refine t_cmp ?_ | refine t_val ?_ | refine t_and ?_ | refine t_and1 ?_ | refine t_or ?_ | refine t_or1 ?_ | refine t_not ?_ | refine c_lst ?_ | refine c_cat ?_ | refine c_rep ?_ | refine c_cut ?_ | refine c_list ?_ | refine c_lc ?_ | refine o_none ?_ | refine o_some ?_ | refine i_seq ?_ | refine i_rng1 ?_ | refine i_rng2 ?_ | refine i_revr ?_ | refine i_rev ?_ | refine i_zip ?_ | refine i_enum ?_ | refine p_add ?_ | refine p_sub ?_ | refine p_lt ?_ | refine p_le ?_ | refine p_gt ?_ | refine p_ge ?_ | refine p_eq ?_ | refine p_ne ?_ | refine p_int ?_ | refine p_intB ?_ | refine p_abs ?_ | refine p_min ?_ | refine p_max ?_ | refine p_lenN ?_ | refine p_lenT ?_ | refine p_lenL ?_ | refine p_tupL ?_ | refine p_pow18 ?_ | refine p_idxR (by assumption) (by with_unfolding_all rfl) ?_ | refine p_idxT (by with_unfolding_all rfl) ?_ | refine p_idxL (by with_unfolding_all rfl) ?_ | refine p_idxN (by assumption) ?_ | refine ⟨_, rfl, ?_⟩ | refine p_mod (by omega) ?_ | refine p_lenI ?_ | refine p_lenW ?_ | refine p_lenRw ?_ | refine p_fdiv (lg31 (by omega)) ?_ | refine p_mul (mul64 (by omega)) ?_))
  refine ⟨by simp, ?_⟩
  have t0 : Tp (S ++ [.lst []]) r := by
    obtain ⟨a, b, h, z⟩ := t
    exact ⟨a, b, by rw [List.getElem?_append_left hr]; exact h, z⟩
  repeat (with_reducible (first | refine s_cons ?_ | refine s_set ?_ | refine s_ret ?_ | refine s_expr ?_ | refine s_sub ?_ | refine s_nil ?_ | refine s_if ?_ | refine s_for ?_ | refine s_setC ?_ | refine s_boxC ?_ | refine s_retN ?_ | refine s_doc ?_ | refine r_var (by with_unfolding_all rfl) ?_ | refine r_int ?_ | refine r_bin ?_ | refine r_cmp ?_ | refine r_idx ?_ | refine r_cons ?_ | refine r_nil ?_ | refine r_bi ?_ | refine r_ty ?_ | refine r_call ?_ | refine r_callP ?_ | refine r_bl ?_ | refine r_tup ?_ | refine r_newL ?_ | refine r_box ?_ | refine r_cut ?_ | refine r_o0 ?_ | refine r_o1 ?_ | refine r_ife ?_ | refine r_str ?_ | refine r_non ?_ | refine r_neg ?_ | refine r_isT ?_ | refine r_app ?_ | refine r_andV ?_ | refine r_andV1 ?_ | refine r_orV ?_ | refine r_orV1 ?_ | refine r_notV ?_ | refine r_glo (by with_unfolding_all rfl) ?_ | refine t_cmp ?_ | refine t_val ?_ | refine t_and ?_ | refine t_and1 ?_ | refine t_or ?_ | refine t_or1 ?_ | refine t_not ?_ | refine c_lst ?_ | refine c_cat ?_ | refine c_rep ?_ | refine c_cut ?_ | refine c_list ?_ | refine c_lc ?_ | refine o_none ?_ | refine o_some ?_ | refine i_seq ?_ | refine i_rng1 ?_ | refine i_rng2 ?_ | refine i_revr ?_ | refine i_rev ?_ | refine i_zip ?_ | refine i_enum ?_ | refine p_add ?_ | refine p_sub ?_ | refine p_lt ?_ | refine p_le ?_ | refine p_gt ?_ | refine p_ge ?_ | refine p_eq ?_ | refine p_ne ?_ | refine p_int ?_ | refine p_intB ?_ | refine p_abs ?_ | refine p_min ?_ | refine p_max ?_ | refine p_lenN ?_ | refine p_lenT ?_ | refine p_lenL ?_ | refine p_tupL ?_ | refine p_pow18 ?_ | refine p_idxR (by assumption) (by with_unfolding_all rfl) ?_ | refine p_idxT (by with_unfolding_all rfl) ?_ | refine p_idxL (by with_unfolding_all rfl) ?_ | refine p_idxN (by assumption) ?_ | refine ⟨_, rfl, ?_⟩ | refine p_mod (by omega) ?_ | refine p_lenI ?_ | refine p_lenW ?_ | refine p_lenRw ?_ | refine p_fdiv (lg31 (by omega)) ?_ | refine p_mul (mul64 (by omega)) ?_))
  refine ⟨rfl, (sp_pick (n := n + 1) t0 (by decide)).to fun d S2 ⟨a, e, a0, a1, q2⟩ => ?_⟩
  subst e
  refine ⟨_, rfl, by omega, ?_⟩
  refine wS_loop (fun k E S' => ∃ (R : List (List Int)) (e4 e5 : Option D), E = [some (.ref r), some (.int w), some (.int 6), some (.ref S.length), e4, e5] ∧ R.length = k ∧ (∀ m ∈ R, m.length = w ∧ ∀ e ∈ m, Sm 42 e) ∧ Tp S' r ∧ S'[S.length]? = some (.lst (R.map dI))) _ 0 ⟨[], none, none, rfl, rfl, by simp, q2.tp, ?_⟩ ?_ ?_
  · rw [q2.oth _ (by omega)]; simp
  · intro j d E S3 hd hI
    obtain ⟨R, e4, e5, hE, hR, hRm, t3, h3⟩ := hI
    subst hE
    have hj := (rangeD_get hd).1
    with_reducible refine put_1 ?_
    repeat (with_reducible (first | refine s_cons ?_ | refine s_set ?_ | refine s_ret ?_ | refine s_expr ?_ | refine s_sub ?_ | refine s_nil ?_ | refine s_if ?_ | refine s_for ?_ | refine s_setC ?_ | refine s_boxC ?_ | refine s_retN ?_ | refine s_doc ?_ | refine r_var (by with_unfolding_all rfl) ?_ | refine r_int ?_ | refine r_bin ?_ | refine r_cmp ?_ | refine r_idx ?_ | refine r_cons ?_ | refine r_nil ?_ | refine r_bi ?_ | refine r_ty ?_ | refine r_call ?_ | refine r_callP ?_ | refine r_bl ?_ | refine r_tup ?_ | refine r_newL ?_ | refine r_box ?_ | refine r_cut ?_ | refine r_o0 ?_ | refine r_o1 ?_ | refine r_ife ?_ | refine r_str ?_ | refine r_non ?_ | refine r_neg ?_ | refine r_isT ?_ | refine r_app ?_ | refine r_andV ?_ | refine r_andV1 ?_ | refine r_orV ?_ | refine r_orV1 ?_ | refine r_notV ?_ | refine r_glo (by with_unfolding_all rfl) ?_ | refine t_cmp ?_ | refine t_val ?_ | refine t_and ?_ | refine t_and1 ?_ | refine t_or ?_ | refine t_or1 ?_ | refine t_not ?_ | refine c_lst ?_ | refine c_cat ?_ | refine c_rep ?_ | refine c_cut ?_ | refine c_list ?_ | refine c_lc ?_ | refine o_none ?_ | refine o_some ?_ | refine i_seq ?_ | refine i_rng1 ?_ | refine i_rng2 ?_ | refine i_revr ?_ | refine i_rev ?_ | refine i_zip ?_ | refine i_enum ?_ | refine p_add ?_ | refine p_sub ?_ | refine p_lt ?_ | refine p_le ?_ | refine p_gt ?_ | refine p_ge ?_ | refine p_eq ?_ | refine p_ne ?_ | refine p_int ?_ | refine p_intB ?_ | refine p_abs ?_ | refine p_min ?_ | refine p_max ?_ | refine p_lenN ?_ | refine p_lenT ?_ | refine p_lenL ?_ | refine p_tupL ?_ | refine p_pow18 ?_ | refine p_idxR (by assumption) (by with_unfolding_all rfl) ?_ | refine p_idxT (by with_unfolding_all rfl) ?_ | refine p_idxL (by with_unfolding_all rfl) ?_ | refine p_idxN (by assumption) ?_ | refine ⟨_, rfl, ?_⟩ | refine p_mod (by omega) ?_ | refine p_lenI ?_ | refine p_lenW ?_ | refine p_lenRw ?_ | refine p_fdiv (lg31 (by omega)) ?_ | refine p_mul (mul64 (by omega)) ?_))
    refine ⟨_, _, rfl, h3, ?_⟩
    repeat (with_reducible (first | refine s_cons ?_ | refine s_set ?_ | refine s_ret ?_ | refine s_expr ?_ | refine s_sub ?_ | refine s_nil ?_ | refine s_if ?_ | refine s_for ?_ | refine s_setC ?_ | refine s_boxC ?_ | refine s_retN ?_ | refine s_doc ?_ | refine r_var (by with_unfolding_all rfl) ?_ | refine r_int ?_ | refine r_bin ?_ | refine r_cmp ?_ | refine r_idx ?_ | refine r_cons ?_ | refine r_nil ?_ | refine r_bi ?_ | refine r_ty ?_ | refine r_call ?_ | refine r_callP ?_ | refine r_bl ?_ | refine r_tup ?_ | refine r_newL ?_ | refine r_box ?_ | refine r_cut ?_ | refine r_o0 ?_ | refine r_o1 ?_ | refine r_ife ?_ | refine r_str ?_ | refine r_non ?_ | refine r_neg ?_ | refine r_isT ?_ | refine r_app ?_ | refine r_andV ?_ | refine r_andV1 ?_ | refine r_orV ?_ | refine r_orV1 ?_ | refine r_notV ?_ | refine r_glo (by with_unfolding_all rfl) ?_ | refine t_cmp ?_ | refine t_val ?_ | refine t_and ?_ | refine t_and1 ?_ | refine t_or ?_ | refine t_or1 ?_ | refine t_not ?_ | refine c_lst ?_ | refine c_cat ?_ | refine c_rep ?_ | refine c_cut ?_ | refine c_list ?_ | refine c_lc ?_ | refine o_none ?_ | refine o_some ?_ | refine i_seq ?_ | refine i_rng1 ?_ | refine i_rng2 ?_ | refine i_revr ?_ | refine i_rev ?_ | refine i_zip ?_ | refine i_enum ?_ | refine p_add ?_ | refine p_sub ?_ | refine p_lt ?_ | refine p_le ?_ | refine p_gt ?_ | refine p_ge ?_ | refine p_eq ?_ | refine p_ne ?_ | refine p_int ?_ | refine p_intB ?_ | refine p_abs ?_ | refine p_min ?_ | refine p_max ?_ | refine p_lenN ?_ | refine p_lenT ?_ | refine p_lenL ?_ | refine p_tupL ?_ | refine p_pow18 ?_ | refine p_idxR (by assumption) (by with_unfolding_all rfl) ?_ | refine p_idxT (by with_unfolding_all rfl) ?_ | refine p_idxL (by with_unfolding_all rfl) ?_ | refine p_idxN (by assumption) ?_ | refine ⟨_, rfl, ?_⟩ | refine p_mod (by omega) ?_ | refine p_lenI ?_ | refine p_lenW ?_ | refine p_lenRw ?_ | refine p_fdiv (lg31 (by omega)) ?_ | refine p_mul (mul64 (by omega)) ?_))
    refine ⟨by omega, ?_⟩
    refine ⟨by simp [rangeD]; omega, ?_⟩
    refine w_clInv (fun acc S' => ∃ M : List Int, acc = M.map D.int ∧ (∀ e ∈ M, Sm 42 e) ∧ Tp S' r ∧ S'[S.length]? = some (.lst (R.map dI))) _ [] ⟨[], rfl, by simp, t3, h3⟩ ?_ ?_
    · rintro d2 _ acc S4 ⟨M, rfl, hM, t4, h4⟩
      refine ⟨_, rfl, ?_⟩
      repeat (with_reducible (first | refine s_cons ?_ | refine s_set ?_ | refine s_ret ?_ | refine s_expr ?_ | refine s_sub ?_ | refine s_nil ?_ | refine s_if ?_ | refine s_for ?_ | refine s_setC ?_ | refine s_boxC ?_ | refine s_retN ?_ | refine s_doc ?_ | refine r_var (by with_unfolding_all rfl) ?_ | refine r_int ?_ | refine r_bin ?_ | refine r_cmp ?_ | refine r_idx ?_ | refine r_cons ?_ | refine r_nil ?_ | refine r_bi ?_ | refine r_ty ?_ | refine r_call ?_ | refine r_callP ?_ | refine r_bl ?_ | refine r_tup ?_ | refine r_newL ?_ | refine r_box ?_ | refine r_cut ?_ | refine r_o0 ?_ | refine r_o1 ?_ | refine r_ife ?_ | refine r_str ?_ | refine r_non ?_ | refine r_neg ?_ | refine r_isT ?_ | refine r_app ?_ | refine r_andV ?_ | refine r_andV1 ?_ | refine r_orV ?_ | refine r_orV1 ?_ | refine r_notV ?_ | refine r_glo (by with_unfolding_all rfl) ?_ | refine t_cmp ?_ | refine t_val ?_ | refine t_and ?_ | refine t_and1 ?_ | refine t_or ?_ | refine t_or1 ?_ | refine t_not ?_ | refine c_lst ?_ | refine c_cat ?_ | refine c_rep ?_ | refine c_cut ?_ | refine c_list ?_ | refine c_lc ?_ | refine o_none ?_ | refine o_some ?_ | refine i_seq ?_ | refine i_rng1 ?_ | refine i_rng2 ?_ | refine i_revr ?_ | refine i_rev ?_ | refine i_zip ?_ | refine i_enum ?_ | refine p_add ?_ | refine p_sub ?_ | refine p_lt ?_ | refine p_le ?_ | refine p_gt ?_ | refine p_ge ?_ | refine p_eq ?_ | refine p_ne ?_ | refine p_int ?_ | refine p_intB ?_ | refine p_abs ?_ | refine p_min ?_ | refine p_max ?_ | refine p_lenN ?_ | refine p_lenT ?_ | refine p_lenL ?_ | refine p_tupL ?_ | refine p_pow18 ?_ | refine p_idxR (by assumption) (by with_unfolding_all rfl) ?_ | refine p_idxT (by with_unfolding_all rfl) ?_ | refine p_idxL (by with_unfolding_all rfl) ?_ | refine p_idxN (by assumption) ?_ | refine ⟨_, rfl, ?_⟩ | refine p_mod (by omega) ?_ | refine p_lenI ?_ | refine p_lenW ?_ | refine p_lenRw ?_ | refine p_fdiv (lg31 (by omega)) ?_ | refine p_mul (mul64 (by omega)) ?_))
      refine ⟨rfl, (sp_number (n := n) t4).to fun d S5 ⟨x, e, hx, q5⟩ => ?_⟩
      subst e
      refine ⟨M ++ [x], by simp, ?_, q5.tp, by rw [q5.oth _ (by omega)]; exact h4⟩
      intro e he
      rcases List.mem_append.mp he with he | he
      · exact hM e he
      · rw [List.mem_singleton.mp he]; exact hx
    · rintro xs S4 ⟨M, hM, hMm, t4, h4⟩ hl
      refine ⟨_, rfl, ?_⟩
      repeat (with_reducible (first | refine s_cons ?_ | refine s_set ?_ | refine s_ret ?_ | refine s_expr ?_ | refine s_sub ?_ | refine s_nil ?_ | refine s_if ?_ | refine s_for ?_ | refine s_setC ?_ | refine s_boxC ?_ | refine s_retN ?_ | refine s_doc ?_ | refine r_var (by with_unfolding_all rfl) ?_ | refine r_int ?_ | refine r_bin ?_ | refine r_cmp ?_ | refine r_idx ?_ | refine r_cons ?_ | refine r_nil ?_ | refine r_bi ?_ | refine r_ty ?_ | refine r_call ?_ | refine r_callP ?_ | refine r_bl ?_ | refine r_tup ?_ | refine r_newL ?_ | refine r_box ?_ | refine r_cut ?_ | refine r_o0 ?_ | refine r_o1 ?_ | refine r_ife ?_ | refine r_str ?_ | refine r_non ?_ | refine r_neg ?_ | refine r_isT ?_ | refine r_app ?_ | refine r_andV ?_ | refine r_andV1 ?_ | refine r_orV ?_ | refine r_orV1 ?_ | refine r_notV ?_ | refine r_glo (by with_unfolding_all rfl) ?_ | refine t_cmp ?_ | refine t_val ?_ | refine t_and ?_ | refine t_and1 ?_ | refine t_or ?_ | refine t_or1 ?_ | refine t_not ?_ | refine c_lst ?_ | refine c_cat ?_ | refine c_rep ?_ | refine c_cut ?_ | refine c_list ?_ | refine c_lc ?_ | refine o_none ?_ | refine o_some ?_ | refine i_seq ?_ | refine i_rng1 ?_ | refine i_rng2 ?_ | refine i_revr ?_ | refine i_rev ?_ | refine i_zip ?_ | refine i_enum ?_ | refine p_add ?_ | refine p_sub ?_ | refine p_lt ?_ | refine p_le ?_ | refine p_gt ?_ | refine p_ge ?_ | refine p_eq ?_ | refine p_ne ?_ | refine p_int ?_ | refine p_intB ?_ | refine p_abs ?_ | refine p_min ?_ | refine p_max ?_ | refine p_lenN ?_ | refine p_lenT ?_ | refine p_lenL ?_ | refine p_tupL ?_ | refine p_pow18 ?_ | refine p_idxR (by assumption) (by with_unfolding_all rfl) ?_ | refine p_idxT (by with_unfolding_all rfl) ?_ | refine p_idxL (by with_unfolding_all rfl) ?_ | refine p_idxN (by assumption) ?_ | refine ⟨_, rfl, ?_⟩ | refine p_mod (by omega) ?_ | refine p_lenI ?_ | refine p_lenW ?_ | refine p_lenRw ?_ | refine p_fdiv (lg31 (by omega)) ?_ | refine p_mul (mul64 (by omega)) ?_))
      refine ⟨_, h4, by simp; omega, ?_⟩
      refine ⟨R ++ [M], _, e5, rfl, by simp [hR], ?_, ?_, ?_⟩
      · intro m hm
        rcases List.mem_append.mp hm with h | h
        · exact hRm m h
        · rw [List.mem_singleton.mp h]
          refine ⟨?_, hMm⟩
          have := congrArg List.length hM
          simp [rangeD] at this hl
          omega
      · obtain ⟨a, b, h, z⟩ := t4
        exact ⟨a, b, by rw [List.getElem?_set_ne (by omega)]; exact h, z⟩
      · rw [List.getElem?_set_self (List.getElem?_eq_some_iff.mp h4).1]
        have hM' : xs = M.map D.int := hM
        simp [dI, hM']
  · rintro E S3 ⟨R, e4, e5, rfl, hR, hRm, t3, h3⟩
    repeat (with_reducible (first | refine s_cons ?_ | refine s_set ?_ | refine s_ret ?_ | refine s_expr ?_ | refine s_sub ?_ | refine s_nil ?_ | refine s_if ?_ | refine s_for ?_ | refine s_setC ?_ | refine s_boxC ?_ | refine s_retN ?_ | refine s_doc ?_ | refine r_var (by with_unfolding_all rfl) ?_ | refine r_int ?_ | refine r_bin ?_ | refine r_cmp ?_ | refine r_idx ?_ | refine r_cons ?_ | refine r_nil ?_ | refine r_bi ?_ | refine r_ty ?_ | refine r_call ?_ | refine r_callP ?_ | refine r_bl ?_ | refine r_tup ?_ | refine r_newL ?_ | refine r_box ?_ | refine r_cut ?_ | refine r_o0 ?_ | refine r_o1 ?_ | refine r_ife ?_ | refine r_str ?_ | refine r_non ?_ | refine r_neg ?_ | refine r_isT ?_ | refine r_app ?_ | refine r_andV ?_ | refine r_andV1 ?_ | refine r_orV ?_ | refine r_orV1 ?_ | refine r_notV ?_ | refine r_glo (by with_unfolding_all rfl) ?_ | refine t_cmp ?_ | refine t_val ?_ | refine t_and ?_ | refine t_and1 ?_ | refine t_or ?_ | refine t_or1 ?_ | refine t_not ?_ | refine c_lst ?_ | refine c_cat ?_ | refine c_rep ?_ | refine c_cut ?_ | refine c_list ?_ | refine c_lc ?_ | refine o_none ?_ | refine o_some ?_ | refine i_seq ?_ | refine i_rng1 ?_ | refine i_rng2 ?_ | refine i_revr ?_ | refine i_rev ?_ | refine i_zip ?_ | refine i_enum ?_ | refine p_add ?_ | refine p_sub ?_ | refine p_lt ?_ | refine p_le ?_ | refine p_gt ?_ | refine p_ge ?_ | refine p_eq ?_ | refine p_ne ?_ | refine p_int ?_ | refine p_intB ?_ | refine p_abs ?_ | refine p_min ?_ | refine p_max ?_ | refine p_lenN ?_ | refine p_lenT ?_ | refine p_lenL ?_ | refine p_tupL ?_ | refine p_pow18 ?_ | refine p_idxR (by assumption) (by with_unfolding_all rfl) ?_ | refine p_idxT (by with_unfolding_all rfl) ?_ | refine p_idxL (by with_unfolding_all rfl) ?_ | refine p_idxN (by assumption) ?_ | refine ⟨_, rfl, ?_⟩ | refine p_mod (by omega) ?_ | refine p_lenI ?_ | refine p_lenW ?_ | refine p_lenRw ?_ | refine p_fdiv (lg31 (by omega)) ?_ | refine p_mul (mul64 (by omega)) ?_))
    refine r_frz rfl h3 rfl ?_
    have hl : R.length ≤ 6 := by rw [hR]; simp [rangeD]; omega
    exact ⟨R, rfl, ⟨by omega, hRm⟩, hl⟩
end K21
namespace K21
open PySem.Spec PyProof.Rows L2 PK
/-! ### the plain sums -/
def mon : List Int → List Int → Int
  | e :: es, x :: xs => x ^ e.toNat * mon es xs
  | _, _ => 1
def T : List (List Int) → List (List Int) → Int
  | [], _ => 1
  | _ :: _, [] => 0
  | w :: W, x :: R => mon w x * T W R + T (w :: W) R
theorem T_nil (R : List (List Int)) : T [] R = 1 := by unfold T; rfl
theorem T_snoc : ∀ (R W : List (List Int)) (w x : List Int), T (W ++ [w]) (R ++ [x]) = T (W ++ [w]) R + T W R * mon w x
  | [], [], w, x => by simp [T]
  | [], [u], w, x => by simp [T]
  | [], u :: v :: W, w, x => by simp [T]
  | r :: R, [], w, x => by
    have ih := T_snoc R [] w x
    simp only [List.nil_append] at ih
    simp only [List.nil_append, List.cons_append, T, ih]
    omega
  | r :: R, u :: W, w, x => by
    have h1 := T_snoc R W w x
    have h2 := T_snoc R (u :: W) w x
    simp only [List.cons_append] at h2
    simp only [List.cons_append, T, h1, h2, Int.mul_add, Int.add_mul, Int.mul_assoc]
    omega
theorem mon_sm {k : Nat} : ∀ {m x : List Int}, (∀ e ∈ m, 0 ≤ e ∧ e ≤ 6) → (∀ a ∈ x, Sm 42 a) → m.length ≤ k → Sm (254 * k + 1) (mon m x)
  | [], _, _, _, _ => by unfold mon; exact Sm.one (by omega)
  | e :: m, [], _, _, _ => by unfold mon; exact Sm.one (by omega)
  | e :: m, a :: x, hm, hx, hl => by
    simp only [List.length_cons] at hl
    obtain ⟨k', rfl⟩ : ∃ k', k = k' + 1 := ⟨k - 1, by omega⟩
    have ih := mon_sm (k := k') (m := m) (x := x) (fun e he => hm e (List.mem_cons_of_mem _ he)) (fun e he => hx e (List.mem_cons_of_mem _ he)) (by omega)
    have h1 := Sm.pow (hx a (List.mem_cons_self ..)) e.toNat
    have h2 := hm e (List.mem_cons_self ..)
    unfold mon
    exact (Sm.mul h1 ih).mono (by have : e.toNat ≤ 6 := by omega
                                  omega)
theorem T_sm {w : Nat} (hw : w ≤ 3) : ∀ {R W : List (List Int)}, (∀ m ∈ W, m.length = w ∧ ∀ e ∈ m, 0 ≤ e ∧ e ≤ 6) → (∀ x ∈ R, ∀ a ∈ x, Sm 42 a) → Sm (800 * R.length + 1) (T W R)
  | [], [], _, _ => by unfold T; exact Sm.one (by omega)
  | [], _ :: _, _, _ => by unfold T; exact Sm.zero
  | x :: R, [], _, _ => by unfold T; exact Sm.one (by omega)
  | x :: R, m :: W, hW, hR => by
    have h1 := T_sm hw (R := R) (W := W) (fun m hm => hW m (List.mem_cons_of_mem _ hm)) (fun x hx => hR x (List.mem_cons_of_mem _ hx))
    have h2 := T_sm hw (R := R) (W := m :: W) hW (fun x hx => hR x (List.mem_cons_of_mem _ hx))
    have h3 := mon_sm (k := 3) (hW m (List.mem_cons_self ..)).2 (hR x (List.mem_cons_self ..)) (by have := (hW m (List.mem_cons_self ..)).1; omega)
    unfold T
    exact (Sm.add ((Sm.mul h3 h1).mono (show _ ≤ 800 * R.length + 764 by omega)) (h2.mono (by omega))).mono (by simp only [List.length_cons]; omega)
/-! ### what the defs give -/
theorem sp_power {n : Nat} {b e : Int} {S : List DO} (hb : Sm 42 b) (he : 0 ≤ e ∧ e ≤ 6) : wE (pr.call (n + 1) 11 [.int b, .int e]) S (fun d S' => d = .int (b ^ e.toNat) ∧ S' = S) XF := by
  refine b_call (F := f_power) rfl ?_
  show wS (evB (pr.ev n) ir_power) [some (.int b), some (.int e), none, none] S _
  unfold ir_power
  repeat (with_reducible (first | refine s_cons ?_ | refine s_set ?_ | refine s_ret ?_ | refine s_expr ?_ | refine s_sub ?_ | refine s_nil ?_ | refine s_if ?_ | refine s_for ?_ | refine s_setC ?_ | refine s_boxC ?_ | refine s_retN ?_ | refine s_doc ?_ | refine r_var (by with_unfolding_all rfl) ?_ | refine r_int ?_ | refine r_bin ?_ | refine r_cmp ?_ | refine r_idx ?_ | refine r_cons ?_ | refine r_nil ?_ | refine r_bi ?_ | refine r_ty ?_ | refine r_call ?_ | refine r_callP ?_ | refine r_bl ?_ | refine r_tup ?_ | refine r_newL ?_ | refine r_box ?_ | refine r_cut ?_ | refine r_o0 ?_ | refine r_o1 ?_ | refine r_ife ?_ | refine r_str ?_ | refine r_non ?_ | refine r_neg ?_ | refine r_isT ?_ | refine r_app ?_ | refine r_andV ?_ | refine r_andV1 ?_ | refine r_orV ?_ | refine r_orV1 ?_ | refine r_notV ?_ | refine r_glo (by with_unfolding_all rfl) ?_ | refine t_cmp ?_ | refine t_val ?_ | refine t_and ?_ | refine t_and1 ?_ | refine t_or ?_ | refine t_or1 ?_ | refine t_not ?_ | refine c_lst ?_ | refine c_cat ?_ | refine c_rep ?_ | refine c_cut ?_ | refine c_list ?_ | refine c_lc ?_ | refine o_none ?_ | refine o_some ?_ | refine i_seq ?_ | refine i_rng1 ?_ | refine i_rng2 ?_ | refine i_revr ?_ | refine i_rev ?_ | refine i_zip ?_ | refine i_enum ?_ | refine p_add ?_ | refine p_sub ?_ | refine p_lt ?_ | refine p_le ?_ | refine p_gt ?_ | refine p_ge ?_ | refine p_eq ?_ | refine p_ne ?_ | refine p_int ?_ | refine p_intB ?_ | refine p_abs ?_ | refine p_min ?_ | refine p_max ?_ | refine p_lenN ?_ | refine p_lenT ?_ | refine p_lenL ?_ | refine p_tupL ?_ | refine p_pow18 ?_ | refine p_idxR (by assumption) (by with_unfolding_all rfl) ?_ | refine p_idxT (by with_unfolding_all rfl) ?_ | refine p_idxL (by with_unfolding_all rfl) ?_ | refine p_idxN (by assumption) ?_ | refine ⟨_, rfl, ?_⟩ | refine p_mod (by omega) ?_ | refine p_lenI ?_ | refine p_lenW ?_ | refine p_lenRw ?_ | refine p_fdiv (lg31 (by omega)) ?_))
  refine ⟨by omega, ?_⟩
  refine wS_loop (fun k E S' => ∃ t : Option D, E = [some (.int b), some (.int e), some (.int (b ^ k)), t] ∧ S' = S) _ 0 ⟨none, by simp, rfl⟩ ?_ ?_
  · rintro j d E S' hd ⟨t, rfl, rfl⟩
    have hj := (rangeD_get hd).1
    with_reducible refine put_1 ?_
    repeat (with_reducible (first | refine s_cons ?_ | refine s_set ?_ | refine s_ret ?_ | refine s_expr ?_ | refine s_sub ?_ | refine s_nil ?_ | refine s_if ?_ | refine s_for ?_ | refine s_setC ?_ | refine s_boxC ?_ | refine s_retN ?_ | refine s_doc ?_ | refine r_var (by with_unfolding_all rfl) ?_ | refine r_int ?_ | refine r_bin ?_ | refine r_cmp ?_ | refine r_idx ?_ | refine r_cons ?_ | refine r_nil ?_ | refine r_bi ?_ | refine r_ty ?_ | refine r_call ?_ | refine r_callP ?_ | refine r_bl ?_ | refine r_tup ?_ | refine r_newL ?_ | refine r_box ?_ | refine r_cut ?_ | refine r_o0 ?_ | refine r_o1 ?_ | refine r_ife ?_ | refine r_str ?_ | refine r_non ?_ | refine r_neg ?_ | refine r_isT ?_ | refine r_app ?_ | refine r_andV ?_ | refine r_andV1 ?_ | refine r_orV ?_ | refine r_orV1 ?_ | refine r_notV ?_ | refine r_glo (by with_unfolding_all rfl) ?_ | refine t_cmp ?_ | refine t_val ?_ | refine t_and ?_ | refine t_and1 ?_ | refine t_or ?_ | refine t_or1 ?_ | refine t_not ?_ | refine c_lst ?_ | refine c_cat ?_ | refine c_rep ?_ | refine c_cut ?_ | refine c_list ?_ | refine c_lc ?_ | refine o_none ?_ | refine o_some ?_ | refine i_seq ?_ | refine i_rng1 ?_ | refine i_rng2 ?_ | refine i_revr ?_ | refine i_rev ?_ | refine i_zip ?_ | refine i_enum ?_ | refine p_add ?_ | refine p_sub ?_ | refine p_lt ?_ | refine p_le ?_ | refine p_gt ?_ | refine p_ge ?_ | refine p_eq ?_ | refine p_ne ?_ | refine p_int ?_ | refine p_intB ?_ | refine p_abs ?_ | refine p_min ?_ | refine p_max ?_ | refine p_lenN ?_ | refine p_lenT ?_ | refine p_lenL ?_ | refine p_tupL ?_ | refine p_pow18 ?_ | refine p_idxR (by assumption) (by with_unfolding_all rfl) ?_ | refine p_idxT (by with_unfolding_all rfl) ?_ | refine p_idxL (by with_unfolding_all rfl) ?_ | refine p_idxN (by assumption) ?_ | refine ⟨_, rfl, ?_⟩ | refine p_mod (by omega) ?_ | refine p_lenI ?_ | refine p_lenW ?_ | refine p_lenRw ?_ | refine p_fdiv (lg31 (by omega)) ?_))
    refine p_mul (Sm.mulOk (Sm.pow hb (0 + j)) hb (by omega)) ?_
    repeat (with_reducible (first | refine s_cons ?_ | refine s_set ?_ | refine s_ret ?_ | refine s_expr ?_ | refine s_sub ?_ | refine s_nil ?_ | refine s_if ?_ | refine s_for ?_ | refine s_setC ?_ | refine s_boxC ?_ | refine s_retN ?_ | refine s_doc ?_ | refine r_var (by with_unfolding_all rfl) ?_ | refine r_int ?_ | refine r_bin ?_ | refine r_cmp ?_ | refine r_idx ?_ | refine r_cons ?_ | refine r_nil ?_ | refine r_bi ?_ | refine r_ty ?_ | refine r_call ?_ | refine r_callP ?_ | refine r_bl ?_ | refine r_tup ?_ | refine r_newL ?_ | refine r_box ?_ | refine r_cut ?_ | refine r_o0 ?_ | refine r_o1 ?_ | refine r_ife ?_ | refine r_str ?_ | refine r_non ?_ | refine r_neg ?_ | refine r_isT ?_ | refine r_app ?_ | refine r_andV ?_ | refine r_andV1 ?_ | refine r_orV ?_ | refine r_orV1 ?_ | refine r_notV ?_ | refine r_glo (by with_unfolding_all rfl) ?_ | refine t_cmp ?_ | refine t_val ?_ | refine t_and ?_ | refine t_and1 ?_ | refine t_or ?_ | refine t_or1 ?_ | refine t_not ?_ | refine c_lst ?_ | refine c_cat ?_ | refine c_rep ?_ | refine c_cut ?_ | refine c_list ?_ | refine c_lc ?_ | refine o_none ?_ | refine o_some ?_ | refine i_seq ?_ | refine i_rng1 ?_ | refine i_rng2 ?_ | refine i_revr ?_ | refine i_rev ?_ | refine i_zip ?_ | refine i_enum ?_ | refine p_add ?_ | refine p_sub ?_ | refine p_lt ?_ | refine p_le ?_ | refine p_gt ?_ | refine p_ge ?_ | refine p_eq ?_ | refine p_ne ?_ | refine p_int ?_ | refine p_intB ?_ | refine p_abs ?_ | refine p_min ?_ | refine p_max ?_ | refine p_lenN ?_ | refine p_lenT ?_ | refine p_lenL ?_ | refine p_tupL ?_ | refine p_pow18 ?_ | refine p_idxR (by assumption) (by with_unfolding_all rfl) ?_ | refine p_idxT (by with_unfolding_all rfl) ?_ | refine p_idxL (by with_unfolding_all rfl) ?_ | refine p_idxN (by assumption) ?_ | refine ⟨_, rfl, ?_⟩ | refine p_mod (by omega) ?_ | refine p_lenI ?_ | refine p_lenW ?_ | refine p_lenRw ?_ | refine p_fdiv (lg31 (by omega)) ?_))
    exact ⟨some d, by simp [Int.pow_succ], rfl⟩
  · rintro E S' ⟨t, rfl, rfl⟩
    repeat (with_reducible (first | refine s_cons ?_ | refine s_set ?_ | refine s_ret ?_ | refine s_expr ?_ | refine s_sub ?_ | refine s_nil ?_ | refine s_if ?_ | refine s_for ?_ | refine s_setC ?_ | refine s_boxC ?_ | refine s_retN ?_ | refine s_doc ?_ | refine r_var (by with_unfolding_all rfl) ?_ | refine r_int ?_ | refine r_bin ?_ | refine r_cmp ?_ | refine r_idx ?_ | refine r_cons ?_ | refine r_nil ?_ | refine r_bi ?_ | refine r_ty ?_ | refine r_call ?_ | refine r_callP ?_ | refine r_bl ?_ | refine r_tup ?_ | refine r_newL ?_ | refine r_box ?_ | refine r_cut ?_ | refine r_o0 ?_ | refine r_o1 ?_ | refine r_ife ?_ | refine r_str ?_ | refine r_non ?_ | refine r_neg ?_ | refine r_isT ?_ | refine r_app ?_ | refine r_andV ?_ | refine r_andV1 ?_ | refine r_orV ?_ | refine r_orV1 ?_ | refine r_notV ?_ | refine r_glo (by with_unfolding_all rfl) ?_ | refine t_cmp ?_ | refine t_val ?_ | refine t_and ?_ | refine t_and1 ?_ | refine t_or ?_ | refine t_or1 ?_ | refine t_not ?_ | refine c_lst ?_ | refine c_cat ?_ | refine c_rep ?_ | refine c_cut ?_ | refine c_list ?_ | refine c_lc ?_ | refine o_none ?_ | refine o_some ?_ | refine i_seq ?_ | refine i_rng1 ?_ | refine i_rng2 ?_ | refine i_revr ?_ | refine i_rev ?_ | refine i_zip ?_ | refine i_enum ?_ | refine p_add ?_ | refine p_sub ?_ | refine p_lt ?_ | refine p_le ?_ | refine p_gt ?_ | refine p_ge ?_ | refine p_eq ?_ | refine p_ne ?_ | refine p_int ?_ | refine p_intB ?_ | refine p_abs ?_ | refine p_min ?_ | refine p_max ?_ | refine p_lenN ?_ | refine p_lenT ?_ | refine p_lenL ?_ | refine p_tupL ?_ | refine p_pow18 ?_ | refine p_idxR (by assumption) (by with_unfolding_all rfl) ?_ | refine p_idxT (by with_unfolding_all rfl) ?_ | refine p_idxL (by with_unfolding_all rfl) ?_ | refine p_idxN (by assumption) ?_ | refine ⟨_, rfl, ?_⟩ | refine p_mod (by omega) ?_ | refine p_lenI ?_ | refine p_lenW ?_ | refine p_lenRw ?_ | refine p_fdiv (lg31 (by omega)) ?_))
    refine ⟨?_, rfl⟩
    simp [rangeD]
theorem zip_loop {n : Nat} : ∀ {m x : List Int} {acc : Int} {o3 o4 : Option D} {mm xx : D} {P : Post}, (∀ e ∈ m, 0 ≤ e ∧ e ≤ 6) → (∀ a ∈ x, Sm 42 a) → Sm (90000 - 254 * m.length) acc → m.length ≤ 100 →
    (∀ o3 o4 : Option D, P.nx [some mm, some xx, some (.int (acc * mon m x)), o3, o4] []) →
    wS (sLoop (mTgt (.tup (.cons (.name 3) (.cons (.name 4) .nil)))) (evB (pr.ev (n + 1)) (.cons (.set 2 (.bin .mul (.var 2) (.call true 11 (.var 4) (.cons (.var 3) .nil)))) (.nil))) (List.zipWith pairD (m.map D.int) (x.map D.int))) [some mm, some xx, some (.int acc), o3, o4] [] P
  | [], x, acc, o3, o4, mm, xx, P, _, _, _, _, h => by
    rw [List.map_nil, List.zipWith_nil_left, wS_loop0]
    have := h o3 o4
    unfold mon at this
    rw [Int.mul_one] at this
    exact this
  | e :: m, [], acc, o3, o4, mm, xx, P, _, _, _, _, h => by
    rw [List.map_nil, List.zipWith_nil_right, wS_loop0]
    have := h o3 o4
    unfold mon at this
    rw [Int.mul_one] at this
    exact this
  | e :: m, a :: x, acc, o3, o4, mm, xx, P, hm, hx, ha, hl, h => by
    rw [List.map_cons, List.map_cons, List.zipWith_cons_cons, wS_loop1]
    refine put_n rfl ?_
    have h1 := hm e (List.mem_cons_self ..)
    have h2 := hx a (List.mem_cons_self ..)
    repeat (with_reducible (first | refine s_cons ?_ | refine s_set ?_ | refine s_ret ?_ | refine s_expr ?_ | refine s_sub ?_ | refine s_nil ?_ | refine s_if ?_ | refine s_for ?_ | refine s_setC ?_ | refine s_boxC ?_ | refine s_retN ?_ | refine s_doc ?_ | refine r_var (by with_unfolding_all rfl) ?_ | refine r_int ?_ | refine r_bin ?_ | refine r_cmp ?_ | refine r_idx ?_ | refine r_cons ?_ | refine r_nil ?_ | refine r_bi ?_ | refine r_ty ?_ | refine r_call ?_ | refine r_callP ?_ | refine r_bl ?_ | refine r_tup ?_ | refine r_newL ?_ | refine r_box ?_ | refine r_cut ?_ | refine r_o0 ?_ | refine r_o1 ?_ | refine r_ife ?_ | refine r_str ?_ | refine r_non ?_ | refine r_neg ?_ | refine r_isT ?_ | refine r_app ?_ | refine r_andV ?_ | refine r_andV1 ?_ | refine r_orV ?_ | refine r_orV1 ?_ | refine r_notV ?_ | refine r_glo (by with_unfolding_all rfl) ?_ | refine t_cmp ?_ | refine t_val ?_ | refine t_and ?_ | refine t_and1 ?_ | refine t_or ?_ | refine t_or1 ?_ | refine t_not ?_ | refine c_lst ?_ | refine c_cat ?_ | refine c_rep ?_ | refine c_cut ?_ | refine c_list ?_ | refine c_lc ?_ | refine o_none ?_ | refine o_some ?_ | refine i_seq ?_ | refine i_rng1 ?_ | refine i_rng2 ?_ | refine i_revr ?_ | refine i_rev ?_ | refine i_zip ?_ | refine i_enum ?_ | refine p_add ?_ | refine p_sub ?_ | refine p_lt ?_ | refine p_le ?_ | refine p_gt ?_ | refine p_ge ?_ | refine p_eq ?_ | refine p_ne ?_ | refine p_int ?_ | refine p_intB ?_ | refine p_abs ?_ | refine p_min ?_ | refine p_max ?_ | refine p_lenN ?_ | refine p_lenT ?_ | refine p_lenL ?_ | refine p_tupL ?_ | refine p_pow18 ?_ | refine p_idxR (by assumption) (by with_unfolding_all rfl) ?_ | refine p_idxT (by with_unfolding_all rfl) ?_ | refine p_idxL (by with_unfolding_all rfl) ?_ | refine p_idxN (by assumption) ?_ | refine ⟨_, rfl, ?_⟩ | refine p_mod (by omega) ?_ | refine p_lenI ?_ | refine p_lenW ?_ | refine p_lenRw ?_ | refine p_fdiv (lg31 (by omega)) ?_))
    refine ⟨rfl, rfl, (sp_power (n := n) h2 h1).to fun d S1 ⟨e1, _⟩ => ?_⟩
    subst e1
    refine ⟨rfl, ?_⟩
    have h3 := Sm.pow h2 e.toNat
    have he : e.toNat ≤ 6 := by omega
    simp only [List.length_cons] at ha hl
    refine p_mul (Sm.mulOk ha h3 (by omega)) ?_
    repeat (with_reducible (first | refine s_cons ?_ | refine s_set ?_ | refine s_ret ?_ | refine s_expr ?_ | refine s_sub ?_ | refine s_nil ?_ | refine s_if ?_ | refine s_for ?_ | refine s_setC ?_ | refine s_boxC ?_ | refine s_retN ?_ | refine s_doc ?_ | refine r_var (by with_unfolding_all rfl) ?_ | refine r_int ?_ | refine r_bin ?_ | refine r_cmp ?_ | refine r_idx ?_ | refine r_cons ?_ | refine r_nil ?_ | refine r_bi ?_ | refine r_ty ?_ | refine r_call ?_ | refine r_callP ?_ | refine r_bl ?_ | refine r_tup ?_ | refine r_newL ?_ | refine r_box ?_ | refine r_cut ?_ | refine r_o0 ?_ | refine r_o1 ?_ | refine r_ife ?_ | refine r_str ?_ | refine r_non ?_ | refine r_neg ?_ | refine r_isT ?_ | refine r_app ?_ | refine r_andV ?_ | refine r_andV1 ?_ | refine r_orV ?_ | refine r_orV1 ?_ | refine r_notV ?_ | refine r_glo (by with_unfolding_all rfl) ?_ | refine t_cmp ?_ | refine t_val ?_ | refine t_and ?_ | refine t_and1 ?_ | refine t_or ?_ | refine t_or1 ?_ | refine t_not ?_ | refine c_lst ?_ | refine c_cat ?_ | refine c_rep ?_ | refine c_cut ?_ | refine c_list ?_ | refine c_lc ?_ | refine o_none ?_ | refine o_some ?_ | refine i_seq ?_ | refine i_rng1 ?_ | refine i_rng2 ?_ | refine i_revr ?_ | refine i_rev ?_ | refine i_zip ?_ | refine i_enum ?_ | refine p_add ?_ | refine p_sub ?_ | refine p_lt ?_ | refine p_le ?_ | refine p_gt ?_ | refine p_ge ?_ | refine p_eq ?_ | refine p_ne ?_ | refine p_int ?_ | refine p_intB ?_ | refine p_abs ?_ | refine p_min ?_ | refine p_max ?_ | refine p_lenN ?_ | refine p_lenT ?_ | refine p_lenL ?_ | refine p_tupL ?_ | refine p_pow18 ?_ | refine p_idxR (by assumption) (by with_unfolding_all rfl) ?_ | refine p_idxT (by with_unfolding_all rfl) ?_ | refine p_idxL (by with_unfolding_all rfl) ?_ | refine p_idxN (by assumption) ?_ | refine ⟨_, rfl, ?_⟩ | refine p_mod (by omega) ?_ | refine p_lenI ?_ | refine p_lenW ?_ | refine p_lenRw ?_ | refine p_fdiv (lg31 (by omega)) ?_))
    refine zip_loop (fun e he => hm e (List.mem_cons_of_mem _ he)) (fun e he => hx e (List.mem_cons_of_mem _ he)) ((Sm.mul ha h3).mono (by omega)) (by omega) ?_
    intro o3 o4
    have := h o3 o4
    unfold mon at this
    rw [← Int.mul_assoc] at this
    exact this
theorem sp_mono {n : Nat} {m x : List Int} (hm : ∀ e ∈ m, 0 ≤ e ∧ e ≤ 6) (hx : ∀ a ∈ x, Sm 42 a) (hl : m.length ≤ 3) : wE (pr.call (n + 2) 8 [dI m, dI x]) [] (fun d S' => d = .int (mon m x)) XF := by
  refine b_call (F := f_monomial_value) rfl ?_
  show wS (evB (pr.ev (n + 1)) ir_monomial_value) [some (dI m), some (dI x), none, none, none] [] _
  unfold ir_monomial_value
  repeat (with_reducible (first | refine s_cons ?_ | refine s_set ?_ | refine s_ret ?_ | refine s_expr ?_ | refine s_sub ?_ | refine s_nil ?_ | refine s_if ?_ | refine s_for ?_ | refine s_setC ?_ | refine s_boxC ?_ | refine s_retN ?_ | refine s_doc ?_ | refine r_var (by with_unfolding_all rfl) ?_ | refine r_int ?_ | refine r_bin ?_ | refine r_cmp ?_ | refine r_idx ?_ | refine r_cons ?_ | refine r_nil ?_ | refine r_bi ?_ | refine r_ty ?_ | refine r_call ?_ | refine r_callP ?_ | refine r_bl ?_ | refine r_tup ?_ | refine r_newL ?_ | refine r_box ?_ | refine r_cut ?_ | refine r_o0 ?_ | refine r_o1 ?_ | refine r_ife ?_ | refine r_str ?_ | refine r_non ?_ | refine r_neg ?_ | refine r_isT ?_ | refine r_app ?_ | refine r_andV ?_ | refine r_andV1 ?_ | refine r_orV ?_ | refine r_orV1 ?_ | refine r_notV ?_ | refine r_glo (by with_unfolding_all rfl) ?_ | refine t_cmp ?_ | refine t_val ?_ | refine t_and ?_ | refine t_and1 ?_ | refine t_or ?_ | refine t_or1 ?_ | refine t_not ?_ | refine c_lst ?_ | refine c_cat ?_ | refine c_rep ?_ | refine c_cut ?_ | refine c_list ?_ | refine c_lc ?_ | refine o_none ?_ | refine o_some ?_ | refine i_seq ?_ | refine i_rng1 ?_ | refine i_rng2 ?_ | refine i_revr ?_ | refine i_rev ?_ | refine i_zip ?_ | refine i_enum ?_ | refine p_add ?_ | refine p_sub ?_ | refine p_lt ?_ | refine p_le ?_ | refine p_gt ?_ | refine p_ge ?_ | refine p_eq ?_ | refine p_ne ?_ | refine p_int ?_ | refine p_intB ?_ | refine p_abs ?_ | refine p_min ?_ | refine p_max ?_ | refine p_lenN ?_ | refine p_lenT ?_ | refine p_lenL ?_ | refine p_tupL ?_ | refine p_pow18 ?_ | refine p_idxR (by assumption) (by with_unfolding_all rfl) ?_ | refine p_idxT (by with_unfolding_all rfl) ?_ | refine p_idxL (by with_unfolding_all rfl) ?_ | refine p_idxN (by assumption) ?_ | refine ⟨_, rfl, ?_⟩ | refine p_mod (by omega) ?_ | refine p_lenI ?_ | refine p_lenW ?_ | refine p_lenRw ?_ | refine p_fdiv (lg31 (by omega)) ?_))
  refine zip_loop (acc := 1) hm hx (Sm.one (by omega)) (by omega) ?_
  intro o3 o4
  repeat (with_reducible (first | refine s_cons ?_ | refine s_set ?_ | refine s_ret ?_ | refine s_expr ?_ | refine s_sub ?_ | refine s_nil ?_ | refine s_if ?_ | refine s_for ?_ | refine s_setC ?_ | refine s_boxC ?_ | refine s_retN ?_ | refine s_doc ?_ | refine r_var (by with_unfolding_all rfl) ?_ | refine r_int ?_ | refine r_bin ?_ | refine r_cmp ?_ | refine r_idx ?_ | refine r_cons ?_ | refine r_nil ?_ | refine r_bi ?_ | refine r_ty ?_ | refine r_call ?_ | refine r_callP ?_ | refine r_bl ?_ | refine r_tup ?_ | refine r_newL ?_ | refine r_box ?_ | refine r_cut ?_ | refine r_o0 ?_ | refine r_o1 ?_ | refine r_ife ?_ | refine r_str ?_ | refine r_non ?_ | refine r_neg ?_ | refine r_isT ?_ | refine r_app ?_ | refine r_andV ?_ | refine r_andV1 ?_ | refine r_orV ?_ | refine r_orV1 ?_ | refine r_notV ?_ | refine r_glo (by with_unfolding_all rfl) ?_ | refine t_cmp ?_ | refine t_val ?_ | refine t_and ?_ | refine t_and1 ?_ | refine t_or ?_ | refine t_or1 ?_ | refine t_not ?_ | refine c_lst ?_ | refine c_cat ?_ | refine c_rep ?_ | refine c_cut ?_ | refine c_list ?_ | refine c_lc ?_ | refine o_none ?_ | refine o_some ?_ | refine i_seq ?_ | refine i_rng1 ?_ | refine i_rng2 ?_ | refine i_revr ?_ | refine i_rev ?_ | refine i_zip ?_ | refine i_enum ?_ | refine p_add ?_ | refine p_sub ?_ | refine p_lt ?_ | refine p_le ?_ | refine p_gt ?_ | refine p_ge ?_ | refine p_eq ?_ | refine p_ne ?_ | refine p_int ?_ | refine p_intB ?_ | refine p_abs ?_ | refine p_min ?_ | refine p_max ?_ | refine p_lenN ?_ | refine p_lenT ?_ | refine p_lenL ?_ | refine p_tupL ?_ | refine p_pow18 ?_ | refine p_idxR (by assumption) (by with_unfolding_all rfl) ?_ | refine p_idxT (by with_unfolding_all rfl) ?_ | refine p_idxL (by with_unfolding_all rfl) ?_ | refine p_idxN (by assumption) ?_ | refine ⟨_, rfl, ?_⟩ | refine p_mod (by omega) ?_ | refine p_lenI ?_ | refine p_lenW ?_ | refine p_lenRw ?_ | refine p_fdiv (lg31 (by omega)) ?_))
  show D.int (1 * mon m x) = D.int (mon m x)
  rw [Int.one_mul]
theorem mon_snoc : ∀ {m x : List Int} {e a : Int}, m.length = x.length → mon (m ++ [e]) (x ++ [a]) = mon m x * a ^ e.toNat
  | [], [], e, a, _ => by simp [mon]
  | u :: m, v :: x, e, a, h => by
    simp only [List.cons_append, mon]
    rw [mon_snoc (by simpa using h), Int.mul_assoc]
  | [], _ :: _, _, _, h => by simp at h
  | _ :: _, [], _, _, h => by simp at h
theorem sp_lawmono {n : Nat} {m x : List Int} (hm : ∀ e ∈ m, 0 ≤ e ∧ e ≤ 6) (hx : ∀ a ∈ x, Sm 42 a) (hl : m.length ≤ 3) (hml : m.length = x.length) : wE (pr.call (n + 1) 9 [dI m, dI x]) [] (fun d S' => d = .int (mon m x)) XF := by
  refine e__law_monomial ?_
  unfold ir__law_monomial
  repeat (with_reducible (first | refine s_cons ?_ | refine s_set ?_ | refine s_ret ?_ | refine s_expr ?_ | refine s_sub ?_ | refine s_nil ?_ | refine s_if ?_ | refine s_for ?_ | refine s_setC ?_ | refine s_boxC ?_ | refine s_retN ?_ | refine s_doc ?_ | refine r_var (by with_unfolding_all rfl) ?_ | refine r_int ?_ | refine r_bin ?_ | refine r_cmp ?_ | refine r_idx ?_ | refine r_cons ?_ | refine r_nil ?_ | refine r_bi ?_ | refine r_ty ?_ | refine r_call ?_ | refine r_callP ?_ | refine r_bl ?_ | refine r_tup ?_ | refine r_newL ?_ | refine r_box ?_ | refine r_cut ?_ | refine r_o0 ?_ | refine r_o1 ?_ | refine r_ife ?_ | refine r_str ?_ | refine r_non ?_ | refine r_neg ?_ | refine r_isT ?_ | refine r_app ?_ | refine r_andV ?_ | refine r_andV1 ?_ | refine r_orV ?_ | refine r_orV1 ?_ | refine r_notV ?_ | refine r_glo (by with_unfolding_all rfl) ?_ | refine t_cmp ?_ | refine t_val ?_ | refine t_and ?_ | refine t_and1 ?_ | refine t_or ?_ | refine t_or1 ?_ | refine t_not ?_ | refine c_lst ?_ | refine c_cat ?_ | refine c_rep ?_ | refine c_cut ?_ | refine c_list ?_ | refine c_lc ?_ | refine o_none ?_ | refine o_some ?_ | refine i_seq ?_ | refine i_rng1 ?_ | refine i_rng2 ?_ | refine i_revr ?_ | refine i_rev ?_ | refine i_zip ?_ | refine i_enum ?_ | refine p_add ?_ | refine p_sub ?_ | refine p_lt ?_ | refine p_le ?_ | refine p_gt ?_ | refine p_ge ?_ | refine p_eq ?_ | refine p_ne ?_ | refine p_int ?_ | refine p_intB ?_ | refine p_abs ?_ | refine p_min ?_ | refine p_max ?_ | refine p_lenN ?_ | refine p_lenT ?_ | refine p_lenL ?_ | refine p_tupL ?_ | refine p_pow18 ?_ | refine p_idxR (by assumption) (by with_unfolding_all rfl) ?_ | refine p_idxT (by with_unfolding_all rfl) ?_ | refine p_idxL (by with_unfolding_all rfl) ?_ | refine p_idxN (by assumption) ?_ | refine ⟨_, rfl, ?_⟩ | refine p_mod (by omega) ?_ | refine p_lenI ?_ | refine p_lenW ?_ | refine p_lenRw ?_ | refine p_fdiv (lg31 (by omega)) ?_))
  refine ⟨by omega, ?_⟩
  refine wS_loop (fun k E S' => k ≤ m.length ∧ ∃ t u : Option D, E = [some (dI m), some (dI x), some (.int (mon (m.take k) (x.take k))), t, u] ∧ S' = []) _ 0 ⟨by omega, none, none, by simp [mon], rfl⟩ ?_ ?_
  · rintro j d E S' hd ⟨hk, t, u, rfl, rfl⟩
    obtain ⟨hj, rfl⟩ := rangeD_get hd
    have hj1 : j < m.length := by omega
    have hj2 : j < x.length := by omega
    have h1 := hm _ (List.getElem_mem hj1)
    have h2 := hx _ (List.getElem_mem hj2)
    with_reducible refine put_1 ?_
    repeat (with_reducible (first | refine s_cons ?_ | refine s_set ?_ | refine s_ret ?_ | refine s_expr ?_ | refine s_sub ?_ | refine s_nil ?_ | refine s_if ?_ | refine s_for ?_ | refine s_setC ?_ | refine s_boxC ?_ | refine s_retN ?_ | refine s_doc ?_ | refine r_var (by with_unfolding_all rfl) ?_ | refine r_int ?_ | refine r_bin ?_ | refine r_cmp ?_ | refine r_idx ?_ | refine r_cons ?_ | refine r_nil ?_ | refine r_bi ?_ | refine r_ty ?_ | refine r_call ?_ | refine r_callP ?_ | refine r_bl ?_ | refine r_tup ?_ | refine r_newL ?_ | refine r_box ?_ | refine r_cut ?_ | refine r_o0 ?_ | refine r_o1 ?_ | refine r_ife ?_ | refine r_str ?_ | refine r_non ?_ | refine r_neg ?_ | refine r_isT ?_ | refine r_app ?_ | refine r_andV ?_ | refine r_andV1 ?_ | refine r_orV ?_ | refine r_orV1 ?_ | refine r_notV ?_ | refine r_glo (by with_unfolding_all rfl) ?_ | refine t_cmp ?_ | refine t_val ?_ | refine t_and ?_ | refine t_and1 ?_ | refine t_or ?_ | refine t_or1 ?_ | refine t_not ?_ | refine c_lst ?_ | refine c_cat ?_ | refine c_rep ?_ | refine c_cut ?_ | refine c_list ?_ | refine c_lc ?_ | refine o_none ?_ | refine o_some ?_ | refine i_seq ?_ | refine i_rng1 ?_ | refine i_rng2 ?_ | refine i_revr ?_ | refine i_rev ?_ | refine i_zip ?_ | refine i_enum ?_ | refine p_add ?_ | refine p_sub ?_ | refine p_lt ?_ | refine p_le ?_ | refine p_gt ?_ | refine p_ge ?_ | refine p_eq ?_ | refine p_ne ?_ | refine p_int ?_ | refine p_intB ?_ | refine p_abs ?_ | refine p_min ?_ | refine p_max ?_ | refine p_lenN ?_ | refine p_lenT ?_ | refine p_lenL ?_ | refine p_tupL ?_ | refine p_pow18 ?_ | refine p_idxR (by assumption) (by with_unfolding_all rfl) ?_ | refine p_idxT (by with_unfolding_all rfl) ?_ | refine p_idxL (by with_unfolding_all rfl) ?_ | refine p_idxN (by assumption) ?_ | refine ⟨_, rfl, ?_⟩ | refine p_mod (by omega) ?_ | refine p_lenI ?_ | refine p_lenW ?_ | refine p_lenRw ?_ | refine p_fdiv (lg31 (by omega)) ?_))
    refine p_idxI (by omega) (show m[(0 + (j : Int)).toNat]? = some m[j] by rw [show (0 + (j : Int)).toNat = j by omega]; exact List.getElem?_eq_getElem hj1) ?_
    repeat (with_reducible (first | refine s_cons ?_ | refine s_set ?_ | refine s_ret ?_ | refine s_expr ?_ | refine s_sub ?_ | refine s_nil ?_ | refine s_if ?_ | refine s_for ?_ | refine s_setC ?_ | refine s_boxC ?_ | refine s_retN ?_ | refine s_doc ?_ | refine r_var (by with_unfolding_all rfl) ?_ | refine r_int ?_ | refine r_bin ?_ | refine r_cmp ?_ | refine r_idx ?_ | refine r_cons ?_ | refine r_nil ?_ | refine r_bi ?_ | refine r_ty ?_ | refine r_call ?_ | refine r_callP ?_ | refine r_bl ?_ | refine r_tup ?_ | refine r_newL ?_ | refine r_box ?_ | refine r_cut ?_ | refine r_o0 ?_ | refine r_o1 ?_ | refine r_ife ?_ | refine r_str ?_ | refine r_non ?_ | refine r_neg ?_ | refine r_isT ?_ | refine r_app ?_ | refine r_andV ?_ | refine r_andV1 ?_ | refine r_orV ?_ | refine r_orV1 ?_ | refine r_notV ?_ | refine r_glo (by with_unfolding_all rfl) ?_ | refine t_cmp ?_ | refine t_val ?_ | refine t_and ?_ | refine t_and1 ?_ | refine t_or ?_ | refine t_or1 ?_ | refine t_not ?_ | refine c_lst ?_ | refine c_cat ?_ | refine c_rep ?_ | refine c_cut ?_ | refine c_list ?_ | refine c_lc ?_ | refine o_none ?_ | refine o_some ?_ | refine i_seq ?_ | refine i_rng1 ?_ | refine i_rng2 ?_ | refine i_revr ?_ | refine i_rev ?_ | refine i_zip ?_ | refine i_enum ?_ | refine p_add ?_ | refine p_sub ?_ | refine p_lt ?_ | refine p_le ?_ | refine p_gt ?_ | refine p_ge ?_ | refine p_eq ?_ | refine p_ne ?_ | refine p_int ?_ | refine p_intB ?_ | refine p_abs ?_ | refine p_min ?_ | refine p_max ?_ | refine p_lenN ?_ | refine p_lenT ?_ | refine p_lenL ?_ | refine p_tupL ?_ | refine p_pow18 ?_ | refine p_idxR (by assumption) (by with_unfolding_all rfl) ?_ | refine p_idxT (by with_unfolding_all rfl) ?_ | refine p_idxL (by with_unfolding_all rfl) ?_ | refine p_idxN (by assumption) ?_ | refine ⟨_, rfl, ?_⟩ | refine p_mod (by omega) ?_ | refine p_lenI ?_ | refine p_lenW ?_ | refine p_lenRw ?_ | refine p_fdiv (lg31 (by omega)) ?_))
    refine ⟨by omega, ?_⟩
    have hb := mon_sm (k := 3) (m := m.take j) (x := x.take j) (fun e he => hm e (List.mem_of_mem_take he)) (fun a ha => hx a (List.mem_of_mem_take ha)) (by simp; omega)
    refine wS_loop (fun k E S' => ∃ u : Option D, E = [some (dI m), some (dI x), some (.int (mon (m.take j) (x.take j) * x[j] ^ k)), some (.int (0 + (j : Int))), u] ∧ S' = []) _ 0 ⟨u, by simp, rfl⟩ ?_ ?_
    · rintro j3 d3 E S' hd3 ⟨u, rfl, rfl⟩
      have hj3 := (rangeD_get hd3).1
      with_reducible refine put_1 ?_
      repeat (with_reducible (first | refine s_cons ?_ | refine s_set ?_ | refine s_ret ?_ | refine s_expr ?_ | refine s_sub ?_ | refine s_nil ?_ | refine s_if ?_ | refine s_for ?_ | refine s_setC ?_ | refine s_boxC ?_ | refine s_retN ?_ | refine s_doc ?_ | refine r_var (by with_unfolding_all rfl) ?_ | refine r_int ?_ | refine r_bin ?_ | refine r_cmp ?_ | refine r_idx ?_ | refine r_cons ?_ | refine r_nil ?_ | refine r_bi ?_ | refine r_ty ?_ | refine r_call ?_ | refine r_callP ?_ | refine r_bl ?_ | refine r_tup ?_ | refine r_newL ?_ | refine r_box ?_ | refine r_cut ?_ | refine r_o0 ?_ | refine r_o1 ?_ | refine r_ife ?_ | refine r_str ?_ | refine r_non ?_ | refine r_neg ?_ | refine r_isT ?_ | refine r_app ?_ | refine r_andV ?_ | refine r_andV1 ?_ | refine r_orV ?_ | refine r_orV1 ?_ | refine r_notV ?_ | refine r_glo (by with_unfolding_all rfl) ?_ | refine t_cmp ?_ | refine t_val ?_ | refine t_and ?_ | refine t_and1 ?_ | refine t_or ?_ | refine t_or1 ?_ | refine t_not ?_ | refine c_lst ?_ | refine c_cat ?_ | refine c_rep ?_ | refine c_cut ?_ | refine c_list ?_ | refine c_lc ?_ | refine o_none ?_ | refine o_some ?_ | refine i_seq ?_ | refine i_rng1 ?_ | refine i_rng2 ?_ | refine i_revr ?_ | refine i_rev ?_ | refine i_zip ?_ | refine i_enum ?_ | refine p_add ?_ | refine p_sub ?_ | refine p_lt ?_ | refine p_le ?_ | refine p_gt ?_ | refine p_ge ?_ | refine p_eq ?_ | refine p_ne ?_ | refine p_int ?_ | refine p_intB ?_ | refine p_abs ?_ | refine p_min ?_ | refine p_max ?_ | refine p_lenN ?_ | refine p_lenT ?_ | refine p_lenL ?_ | refine p_tupL ?_ | refine p_pow18 ?_ | refine p_idxR (by assumption) (by with_unfolding_all rfl) ?_ | refine p_idxT (by with_unfolding_all rfl) ?_ | refine p_idxL (by with_unfolding_all rfl) ?_ | refine p_idxN (by assumption) ?_ | refine ⟨_, rfl, ?_⟩ | refine p_mod (by omega) ?_ | refine p_lenI ?_ | refine p_lenW ?_ | refine p_lenRw ?_ | refine p_fdiv (lg31 (by omega)) ?_))
      refine p_idxI (by omega) (show x[(0 + (j : Int)).toNat]? = some x[j] by rw [show (0 + (j : Int)).toNat = j by omega]; exact List.getElem?_eq_getElem hj2) ?_
      refine p_mul (Sm.mulOk (Sm.mul hb (Sm.pow h2 (0 + j3))) h2 (by omega)) ?_
      repeat (with_reducible (first | refine s_cons ?_ | refine s_set ?_ | refine s_ret ?_ | refine s_expr ?_ | refine s_sub ?_ | refine s_nil ?_ | refine s_if ?_ | refine s_for ?_ | refine s_setC ?_ | refine s_boxC ?_ | refine s_retN ?_ | refine s_doc ?_ | refine r_var (by with_unfolding_all rfl) ?_ | refine r_int ?_ | refine r_bin ?_ | refine r_cmp ?_ | refine r_idx ?_ | refine r_cons ?_ | refine r_nil ?_ | refine r_bi ?_ | refine r_ty ?_ | refine r_call ?_ | refine r_callP ?_ | refine r_bl ?_ | refine r_tup ?_ | refine r_newL ?_ | refine r_box ?_ | refine r_cut ?_ | refine r_o0 ?_ | refine r_o1 ?_ | refine r_ife ?_ | refine r_str ?_ | refine r_non ?_ | refine r_neg ?_ | refine r_isT ?_ | refine r_app ?_ | refine r_andV ?_ | refine r_andV1 ?_ | refine r_orV ?_ | refine r_orV1 ?_ | refine r_notV ?_ | refine r_glo (by with_unfolding_all rfl) ?_ | refine t_cmp ?_ | refine t_val ?_ | refine t_and ?_ | refine t_and1 ?_ | refine t_or ?_ | refine t_or1 ?_ | refine t_not ?_ | refine c_lst ?_ | refine c_cat ?_ | refine c_rep ?_ | refine c_cut ?_ | refine c_list ?_ | refine c_lc ?_ | refine o_none ?_ | refine o_some ?_ | refine i_seq ?_ | refine i_rng1 ?_ | refine i_rng2 ?_ | refine i_revr ?_ | refine i_rev ?_ | refine i_zip ?_ | refine i_enum ?_ | refine p_add ?_ | refine p_sub ?_ | refine p_lt ?_ | refine p_le ?_ | refine p_gt ?_ | refine p_ge ?_ | refine p_eq ?_ | refine p_ne ?_ | refine p_int ?_ | refine p_intB ?_ | refine p_abs ?_ | refine p_min ?_ | refine p_max ?_ | refine p_lenN ?_ | refine p_lenT ?_ | refine p_lenL ?_ | refine p_tupL ?_ | refine p_pow18 ?_ | refine p_idxR (by assumption) (by with_unfolding_all rfl) ?_ | refine p_idxT (by with_unfolding_all rfl) ?_ | refine p_idxL (by with_unfolding_all rfl) ?_ | refine p_idxN (by assumption) ?_ | refine ⟨_, rfl, ?_⟩ | refine p_mod (by omega) ?_ | refine p_lenI ?_ | refine p_lenW ?_ | refine p_lenRw ?_ | refine p_fdiv (lg31 (by omega)) ?_))
      exact ⟨some d3, by simp [Int.pow_succ, Int.mul_assoc], rfl⟩
    · rintro E S' ⟨u, rfl, rfl⟩
      repeat (with_reducible (first | refine s_cons ?_ | refine s_set ?_ | refine s_ret ?_ | refine s_expr ?_ | refine s_sub ?_ | refine s_nil ?_ | refine s_if ?_ | refine s_for ?_ | refine s_setC ?_ | refine s_boxC ?_ | refine s_retN ?_ | refine s_doc ?_ | refine r_var (by with_unfolding_all rfl) ?_ | refine r_int ?_ | refine r_bin ?_ | refine r_cmp ?_ | refine r_idx ?_ | refine r_cons ?_ | refine r_nil ?_ | refine r_bi ?_ | refine r_ty ?_ | refine r_call ?_ | refine r_callP ?_ | refine r_bl ?_ | refine r_tup ?_ | refine r_newL ?_ | refine r_box ?_ | refine r_cut ?_ | refine r_o0 ?_ | refine r_o1 ?_ | refine r_ife ?_ | refine r_str ?_ | refine r_non ?_ | refine r_neg ?_ | refine r_isT ?_ | refine r_app ?_ | refine r_andV ?_ | refine r_andV1 ?_ | refine r_orV ?_ | refine r_orV1 ?_ | refine r_notV ?_ | refine r_glo (by with_unfolding_all rfl) ?_ | refine t_cmp ?_ | refine t_val ?_ | refine t_and ?_ | refine t_and1 ?_ | refine t_or ?_ | refine t_or1 ?_ | refine t_not ?_ | refine c_lst ?_ | refine c_cat ?_ | refine c_rep ?_ | refine c_cut ?_ | refine c_list ?_ | refine c_lc ?_ | refine o_none ?_ | refine o_some ?_ | refine i_seq ?_ | refine i_rng1 ?_ | refine i_rng2 ?_ | refine i_revr ?_ | refine i_rev ?_ | refine i_zip ?_ | refine i_enum ?_ | refine p_add ?_ | refine p_sub ?_ | refine p_lt ?_ | refine p_le ?_ | refine p_gt ?_ | refine p_ge ?_ | refine p_eq ?_ | refine p_ne ?_ | refine p_int ?_ | refine p_intB ?_ | refine p_abs ?_ | refine p_min ?_ | refine p_max ?_ | refine p_lenN ?_ | refine p_lenT ?_ | refine p_lenL ?_ | refine p_tupL ?_ | refine p_pow18 ?_ | refine p_idxR (by assumption) (by with_unfolding_all rfl) ?_ | refine p_idxT (by with_unfolding_all rfl) ?_ | refine p_idxL (by with_unfolding_all rfl) ?_ | refine p_idxN (by assumption) ?_ | refine ⟨_, rfl, ?_⟩ | refine p_mod (by omega) ?_ | refine p_lenI ?_ | refine p_lenW ?_ | refine p_lenRw ?_ | refine p_fdiv (lg31 (by omega)) ?_))
      refine ⟨by omega, some (.int (0 + (j : Int))), u, ?_, rfl⟩
      rw [take_snoc (show m[0 + j]? = some m[j] by rw [Nat.zero_add]; exact List.getElem?_eq_getElem hj1), take_snoc (show x[0 + j]? = some x[j] by rw [Nat.zero_add]; exact List.getElem?_eq_getElem hj2), mon_snoc (by simp; omega)]
      simp [rangeD_len]
  · rintro E S' ⟨_, t, u, rfl, rfl⟩
    repeat (with_reducible (first | refine s_cons ?_ | refine s_set ?_ | refine s_ret ?_ | refine s_expr ?_ | refine s_sub ?_ | refine s_nil ?_ | refine s_if ?_ | refine s_for ?_ | refine s_setC ?_ | refine s_boxC ?_ | refine s_retN ?_ | refine s_doc ?_ | refine r_var (by with_unfolding_all rfl) ?_ | refine r_int ?_ | refine r_bin ?_ | refine r_cmp ?_ | refine r_idx ?_ | refine r_cons ?_ | refine r_nil ?_ | refine r_bi ?_ | refine r_ty ?_ | refine r_call ?_ | refine r_callP ?_ | refine r_bl ?_ | refine r_tup ?_ | refine r_newL ?_ | refine r_box ?_ | refine r_cut ?_ | refine r_o0 ?_ | refine r_o1 ?_ | refine r_ife ?_ | refine r_str ?_ | refine r_non ?_ | refine r_neg ?_ | refine r_isT ?_ | refine r_app ?_ | refine r_andV ?_ | refine r_andV1 ?_ | refine r_orV ?_ | refine r_orV1 ?_ | refine r_notV ?_ | refine r_glo (by with_unfolding_all rfl) ?_ | refine t_cmp ?_ | refine t_val ?_ | refine t_and ?_ | refine t_and1 ?_ | refine t_or ?_ | refine t_or1 ?_ | refine t_not ?_ | refine c_lst ?_ | refine c_cat ?_ | refine c_rep ?_ | refine c_cut ?_ | refine c_list ?_ | refine c_lc ?_ | refine o_none ?_ | refine o_some ?_ | refine i_seq ?_ | refine i_rng1 ?_ | refine i_rng2 ?_ | refine i_revr ?_ | refine i_rev ?_ | refine i_zip ?_ | refine i_enum ?_ | refine p_add ?_ | refine p_sub ?_ | refine p_lt ?_ | refine p_le ?_ | refine p_gt ?_ | refine p_ge ?_ | refine p_eq ?_ | refine p_ne ?_ | refine p_int ?_ | refine p_intB ?_ | refine p_abs ?_ | refine p_min ?_ | refine p_max ?_ | refine p_lenN ?_ | refine p_lenT ?_ | refine p_lenL ?_ | refine p_tupL ?_ | refine p_pow18 ?_ | refine p_idxR (by assumption) (by with_unfolding_all rfl) ?_ | refine p_idxT (by with_unfolding_all rfl) ?_ | refine p_idxL (by with_unfolding_all rfl) ?_ | refine p_idxN (by assumption) ?_ | refine ⟨_, rfl, ?_⟩ | refine p_mod (by omega) ?_ | refine p_lenI ?_ | refine p_lenW ?_ | refine p_lenRw ?_ | refine p_fdiv (lg31 (by omega)) ?_))
    have e : (0 + (rangeD 0 (m.length : Int).toNat).length) = m.length := by simp [rangeD_len]
    show D.int (mon (m.take _) (x.take _)) = _
    rw [e, List.take_length, hml, List.take_length]
end K21
namespace K21
open PySem.Spec PyProof.Rows L2 PK
/-- n items, by a function of the place -/
def tab (n : Nat) (f : Nat → Int) : List D := (List.range n).map fun j => .int (f j)
theorem tab_len {n : Nat} {f : Nat → Int} : (tab n f).length = n := by simp [tab]
theorem tab_get {n j : Nat} {f : Nat → Int} (h : j < n) : (tab n f)[j]? = some (.int (f j)) := by
  unfold tab
  rw [List.getElem?_map, List.getElem?_range h]
  rfl
theorem tab_set {n j : Nat} {f g : Nat → Int} {v : Int} (h : j < n) (h1 : g j = v) (h2 : ∀ i, i ≠ j → i < n → g i = f i) : (tab n f).set j (.int v) = tab n g := by
  refine List.ext_getElem? fun i => ?_
  by_cases hi : i < n
  · by_cases e : j = i
    · subst e
      rw [List.getElem?_set_self (by rw [tab_len]; exact h), tab_get h, h1]
    · rw [List.getElem?_set_ne e, tab_get hi, tab_get hi, h2 i (Ne.symm e) hi]
  · rw [List.getElem?_eq_none (by simp [tab_len]; omega), List.getElem?_eq_none (by rw [tab_len]; omega)]
theorem tab_congr {n : Nat} {f g : Nat → Int} (h : ∀ i, i < n → f i = g i) : tab n f = tab n g := by
  unfold tab
  refine List.map_congr_left fun i hi => ?_
  rw [h i (List.mem_range.mp hi)]
theorem T_take {W R : List (List Int)} {w x : List Int} {i j : Nat} (hw : W[j]? = some w) (hx : R[i]? = some x) : T (W.take (j + 1)) (R.take (i + 1)) = T (W.take (j + 1)) (R.take i) + T (W.take j) (R.take i) * mon w x := by
  rw [take_snoc hw, take_snoc hx]
  exact T_snoc _ _ _ _
theorem revR_get {n k : Nat} {d : D} (h : (revR 0 (n : Int))[k]? = some d) : k < n ∧ d = .int ((n - 1 - k : Nat) : Int) := by
  unfold revR at h
  obtain ⟨h1, h2⟩ := rangeC_get h
  have : ((n : Int) - 0).toNat = n := by omega
  rw [this] at h1 h2
  refine ⟨h1, ?_⟩
  rw [h2]
  congr 1
  omega
theorem revR_len {n : Nat} : (revR 0 (n : Int)).length = n := by
  unfold revR rangeC
  rw [List.length_map, List.length_range]
  omega
theorem sp_wv {n w : Nat} {W R : List (List Int)} (hw : w ≤ 3) (hW : Wd w W) (hR : Rw w R) : wE (pr.call (n + 3) 5 [dW W, dR R]) [] (fun d S' => d = .int (T W R)) XF := by
  refine e_word_value ?_
  unfold ir_word_value
  have hWl := hW.len
  have hRl := hR.len
  repeat (with_reducible (first | refine s_cons ?_ | refine s_set ?_ | refine s_ret ?_ | refine s_expr ?_ | refine s_sub ?_ | refine s_nil ?_ | refine s_if ?_ | refine s_for ?_ | refine s_setC ?_ | refine s_boxC ?_ | refine s_retN ?_ | refine s_doc ?_ | refine r_var (by with_unfolding_all rfl) ?_ | refine r_int ?_ | refine r_bin ?_ | refine r_cmp ?_ | refine r_idx ?_ | refine r_cons ?_ | refine r_nil ?_ | refine r_bi ?_ | refine r_ty ?_ | refine r_call ?_ | refine r_callP ?_ | refine r_bl ?_ | refine r_tup ?_ | refine r_newL ?_ | refine r_box ?_ | refine r_cut ?_ | refine r_o0 ?_ | refine r_o1 ?_ | refine r_ife ?_ | refine r_str ?_ | refine r_non ?_ | refine r_neg ?_ | refine r_isT ?_ | refine r_app ?_ | refine r_andV ?_ | refine r_andV1 ?_ | refine r_orV ?_ | refine r_orV1 ?_ | refine r_notV ?_ | refine r_glo (by with_unfolding_all rfl) ?_ | refine t_cmp ?_ | refine t_val ?_ | refine t_and ?_ | refine t_and1 ?_ | refine t_or ?_ | refine t_or1 ?_ | refine t_not ?_ | refine c_lst ?_ | refine c_cat ?_ | refine c_rep ?_ | refine c_cut ?_ | refine c_list ?_ | refine c_lc ?_ | refine o_none ?_ | refine o_some ?_ | refine i_seq ?_ | refine i_rng1 ?_ | refine i_rng2 ?_ | refine i_revr ?_ | refine i_rev ?_ | refine i_zip ?_ | refine i_enum ?_ | refine p_add ?_ | refine p_sub ?_ | refine p_lt ?_ | refine p_le ?_ | refine p_gt ?_ | refine p_ge ?_ | refine p_eq ?_ | refine p_ne ?_ | refine p_int ?_ | refine p_intB ?_ | refine p_abs ?_ | refine p_min ?_ | refine p_max ?_ | refine p_lenN ?_ | refine p_lenT ?_ | refine p_lenL ?_ | refine p_tupL ?_ | refine p_pow18 ?_ | refine p_idxR (by assumption) (by with_unfolding_all rfl) ?_ | refine p_idxT (by with_unfolding_all rfl) ?_ | refine p_idxL (by with_unfolding_all rfl) ?_ | refine p_idxN (by assumption) ?_ | refine ⟨_, rfl, ?_⟩ | refine p_mod (by omega) ?_ | refine p_lenI ?_ | refine p_lenW ?_ | refine p_lenRw ?_ | refine p_fdiv (lg31 (by omega)) ?_))
  refine ⟨by simp, _, rfl, ?_⟩
  repeat (with_reducible (first | refine s_cons ?_ | refine s_set ?_ | refine s_ret ?_ | refine s_expr ?_ | refine s_sub ?_ | refine s_nil ?_ | refine s_if ?_ | refine s_for ?_ | refine s_setC ?_ | refine s_boxC ?_ | refine s_retN ?_ | refine s_doc ?_ | refine r_var (by with_unfolding_all rfl) ?_ | refine r_int ?_ | refine r_bin ?_ | refine r_cmp ?_ | refine r_idx ?_ | refine r_cons ?_ | refine r_nil ?_ | refine r_bi ?_ | refine r_ty ?_ | refine r_call ?_ | refine r_callP ?_ | refine r_bl ?_ | refine r_tup ?_ | refine r_newL ?_ | refine r_box ?_ | refine r_cut ?_ | refine r_o0 ?_ | refine r_o1 ?_ | refine r_ife ?_ | refine r_str ?_ | refine r_non ?_ | refine r_neg ?_ | refine r_isT ?_ | refine r_app ?_ | refine r_andV ?_ | refine r_andV1 ?_ | refine r_orV ?_ | refine r_orV1 ?_ | refine r_notV ?_ | refine r_glo (by with_unfolding_all rfl) ?_ | refine t_cmp ?_ | refine t_val ?_ | refine t_and ?_ | refine t_and1 ?_ | refine t_or ?_ | refine t_or1 ?_ | refine t_not ?_ | refine c_lst ?_ | refine c_cat ?_ | refine c_rep ?_ | refine c_cut ?_ | refine c_list ?_ | refine c_lc ?_ | refine o_none ?_ | refine o_some ?_ | refine i_seq ?_ | refine i_rng1 ?_ | refine i_rng2 ?_ | refine i_revr ?_ | refine i_rev ?_ | refine i_zip ?_ | refine i_enum ?_ | refine p_add ?_ | refine p_sub ?_ | refine p_lt ?_ | refine p_le ?_ | refine p_gt ?_ | refine p_ge ?_ | refine p_eq ?_ | refine p_ne ?_ | refine p_int ?_ | refine p_intB ?_ | refine p_abs ?_ | refine p_min ?_ | refine p_max ?_ | refine p_lenN ?_ | refine p_lenT ?_ | refine p_lenL ?_ | refine p_tupL ?_ | refine p_pow18 ?_ | refine p_idxR (by assumption) (by with_unfolding_all rfl) ?_ | refine p_idxT (by with_unfolding_all rfl) ?_ | refine p_idxL (by with_unfolding_all rfl) ?_ | refine p_idxN (by assumption) ?_ | refine ⟨_, rfl, ?_⟩ | refine p_mod (by omega) ?_ | refine p_lenI ?_ | refine p_lenW ?_ | refine p_lenRw ?_ | refine p_fdiv (lg31 (by omega)) ?_))
  refine ⟨by simp, ?_⟩
  repeat (with_reducible (first | refine s_cons ?_ | refine s_set ?_ | refine s_ret ?_ | refine s_expr ?_ | refine s_sub ?_ | refine s_nil ?_ | refine s_if ?_ | refine s_for ?_ | refine s_setC ?_ | refine s_boxC ?_ | refine s_retN ?_ | refine s_doc ?_ | refine r_var (by with_unfolding_all rfl) ?_ | refine r_int ?_ | refine r_bin ?_ | refine r_cmp ?_ | refine r_idx ?_ | refine r_cons ?_ | refine r_nil ?_ | refine r_bi ?_ | refine r_ty ?_ | refine r_call ?_ | refine r_callP ?_ | refine r_bl ?_ | refine r_tup ?_ | refine r_newL ?_ | refine r_box ?_ | refine r_cut ?_ | refine r_o0 ?_ | refine r_o1 ?_ | refine r_ife ?_ | refine r_str ?_ | refine r_non ?_ | refine r_neg ?_ | refine r_isT ?_ | refine r_app ?_ | refine r_andV ?_ | refine r_andV1 ?_ | refine r_orV ?_ | refine r_orV1 ?_ | refine r_notV ?_ | refine r_glo (by with_unfolding_all rfl) ?_ | refine t_cmp ?_ | refine t_val ?_ | refine t_and ?_ | refine t_and1 ?_ | refine t_or ?_ | refine t_or1 ?_ | refine t_not ?_ | refine c_lst ?_ | refine c_cat ?_ | refine c_rep ?_ | refine c_cut ?_ | refine c_list ?_ | refine c_lc ?_ | refine o_none ?_ | refine o_some ?_ | refine i_seq ?_ | refine i_rng1 ?_ | refine i_rng2 ?_ | refine i_revr ?_ | refine i_rev ?_ | refine i_zip ?_ | refine i_enum ?_ | refine p_add ?_ | refine p_sub ?_ | refine p_lt ?_ | refine p_le ?_ | refine p_gt ?_ | refine p_ge ?_ | refine p_eq ?_ | refine p_ne ?_ | refine p_int ?_ | refine p_intB ?_ | refine p_abs ?_ | refine p_min ?_ | refine p_max ?_ | refine p_lenN ?_ | refine p_lenT ?_ | refine p_lenL ?_ | refine p_tupL ?_ | refine p_pow18 ?_ | refine p_idxR (by assumption) (by with_unfolding_all rfl) ?_ | refine p_idxT (by with_unfolding_all rfl) ?_ | refine p_idxL (by with_unfolding_all rfl) ?_ | refine p_idxN (by assumption) ?_ | refine ⟨_, rfl, ?_⟩ | refine p_mod (by omega) ?_ | refine p_lenI ?_ | refine p_lenW ?_ | refine p_lenRw ?_ | refine p_fdiv (lg31 (by omega)) ?_))
  refine ⟨_, _, rfl, rfl, ⟨by omega, by omega, by simp; omega⟩, ?_⟩
  refine ⟨_, rfl, ?_⟩
  refine ⟨_, _, rfl, rfl, by simp [List.length_flatten]; omega, ?_⟩
  repeat (with_reducible (first | refine s_cons ?_ | refine s_set ?_ | refine s_ret ?_ | refine s_expr ?_ | refine s_sub ?_ | refine s_nil ?_ | refine s_if ?_ | refine s_for ?_ | refine s_setC ?_ | refine s_boxC ?_ | refine s_retN ?_ | refine s_doc ?_ | refine r_var (by with_unfolding_all rfl) ?_ | refine r_int ?_ | refine r_bin ?_ | refine r_cmp ?_ | refine r_idx ?_ | refine r_cons ?_ | refine r_nil ?_ | refine r_bi ?_ | refine r_ty ?_ | refine r_call ?_ | refine r_callP ?_ | refine r_bl ?_ | refine r_tup ?_ | refine r_newL ?_ | refine r_box ?_ | refine r_cut ?_ | refine r_o0 ?_ | refine r_o1 ?_ | refine r_ife ?_ | refine r_str ?_ | refine r_non ?_ | refine r_neg ?_ | refine r_isT ?_ | refine r_app ?_ | refine r_andV ?_ | refine r_andV1 ?_ | refine r_orV ?_ | refine r_orV1 ?_ | refine r_notV ?_ | refine r_glo (by with_unfolding_all rfl) ?_ | refine t_cmp ?_ | refine t_val ?_ | refine t_and ?_ | refine t_and1 ?_ | refine t_or ?_ | refine t_or1 ?_ | refine t_not ?_ | refine c_lst ?_ | refine c_cat ?_ | refine c_rep ?_ | refine c_cut ?_ | refine c_list ?_ | refine c_lc ?_ | refine o_none ?_ | refine o_some ?_ | refine i_seq ?_ | refine i_rng1 ?_ | refine i_rng2 ?_ | refine i_revr ?_ | refine i_rev ?_ | refine i_zip ?_ | refine i_enum ?_ | refine p_add ?_ | refine p_sub ?_ | refine p_lt ?_ | refine p_le ?_ | refine p_gt ?_ | refine p_ge ?_ | refine p_eq ?_ | refine p_ne ?_ | refine p_int ?_ | refine p_intB ?_ | refine p_abs ?_ | refine p_min ?_ | refine p_max ?_ | refine p_lenN ?_ | refine p_lenT ?_ | refine p_lenL ?_ | refine p_tupL ?_ | refine p_pow18 ?_ | refine p_idxR (by assumption) (by with_unfolding_all rfl) ?_ | refine p_idxT (by with_unfolding_all rfl) ?_ | refine p_idxL (by with_unfolding_all rfl) ?_ | refine p_idxN (by assumption) ?_ | refine ⟨_, rfl, ?_⟩ | refine p_mod (by omega) ?_ | refine p_lenI ?_ | refine p_lenW ?_ | refine p_lenRw ?_ | refine p_fdiv (lg31 (by omega)) ?_))
  refine wS_loop (fun k E S' => ∃ t u : Option D, E = [some (dW W), some (dR R), some (.ref 0), t, u] ∧ S' = [.lst (tab (W.length + 1) fun j => T (W.take j) (R.take k))]) _ 0 ⟨none, none, rfl, ?_⟩ ?_ ?_
  · show [DO.lst _] = _
    congr 2
    rw [Int.toNat_natCast]
    refine List.ext_getElem? fun i => ?_
    cases i with
    | zero => simp [tab, T]
    | succ i =>
      by_cases hi : i < W.length
      · rw [tab_get (by omega)]
        cases W with
        | nil => simp at hi
        | cons a b => simp [T, List.flatten_replicate_singleton] at hi ⊢; rw [List.getElem?_replicate, if_pos hi]
      · rw [List.getElem?_eq_none (by simp [List.length_flatten]; omega), List.getElem?_eq_none (by rw [tab_len]; omega)]
  · rintro i d E S' hd ⟨t, u, rfl, rfl⟩
    rw [List.getElem?_map, Option.map_eq_some_iff] at hd
    obtain ⟨x, hx, rfl⟩ := hd
    have hxm := hR.it x (List.mem_of_getElem? hx)
    with_reducible refine put_1 ?_
    repeat (with_reducible (first | refine s_cons ?_ | refine s_set ?_ | refine s_ret ?_ | refine s_expr ?_ | refine s_sub ?_ | refine s_nil ?_ | refine s_if ?_ | refine s_for ?_ | refine s_setC ?_ | refine s_boxC ?_ | refine s_retN ?_ | refine s_doc ?_ | refine r_var (by with_unfolding_all rfl) ?_ | refine r_int ?_ | refine r_bin ?_ | refine r_cmp ?_ | refine r_idx ?_ | refine r_cons ?_ | refine r_nil ?_ | refine r_bi ?_ | refine r_ty ?_ | refine r_call ?_ | refine r_callP ?_ | refine r_bl ?_ | refine r_tup ?_ | refine r_newL ?_ | refine r_box ?_ | refine r_cut ?_ | refine r_o0 ?_ | refine r_o1 ?_ | refine r_ife ?_ | refine r_str ?_ | refine r_non ?_ | refine r_neg ?_ | refine r_isT ?_ | refine r_app ?_ | refine r_andV ?_ | refine r_andV1 ?_ | refine r_orV ?_ | refine r_orV1 ?_ | refine r_notV ?_ | refine r_glo (by with_unfolding_all rfl) ?_ | refine t_cmp ?_ | refine t_val ?_ | refine t_and ?_ | refine t_and1 ?_ | refine t_or ?_ | refine t_or1 ?_ | refine t_not ?_ | refine c_lst ?_ | refine c_cat ?_ | refine c_rep ?_ | refine c_cut ?_ | refine c_list ?_ | refine c_lc ?_ | refine o_none ?_ | refine o_some ?_ | refine i_seq ?_ | refine i_rng1 ?_ | refine i_rng2 ?_ | refine i_revr ?_ | refine i_rev ?_ | refine i_zip ?_ | refine i_enum ?_ | refine p_add ?_ | refine p_sub ?_ | refine p_lt ?_ | refine p_le ?_ | refine p_gt ?_ | refine p_ge ?_ | refine p_eq ?_ | refine p_ne ?_ | refine p_int ?_ | refine p_intB ?_ | refine p_abs ?_ | refine p_min ?_ | refine p_max ?_ | refine p_lenN ?_ | refine p_lenT ?_ | refine p_lenL ?_ | refine p_tupL ?_ | refine p_pow18 ?_ | refine p_idxR (by assumption) (by with_unfolding_all rfl) ?_ | refine p_idxT (by with_unfolding_all rfl) ?_ | refine p_idxL (by with_unfolding_all rfl) ?_ | refine p_idxN (by assumption) ?_ | refine ⟨_, rfl, ?_⟩ | refine p_mod (by omega) ?_ | refine p_lenI ?_ | refine p_lenW ?_ | refine p_lenRw ?_ | refine p_fdiv (lg31 (by omega)) ?_))
    refine ⟨by omega, ?_⟩
    refine wS_loop (fun k E S' => ∃ u : Option D, E = [some (dW W), some (dR R), some (.ref 0), some (dI x), u] ∧ S' = [.lst (tab (W.length + 1) fun j => if W.length < j + k then T (W.take j) (R.take (i + 1)) else T (W.take j) (R.take i))]) _ 0 ⟨u, rfl, ?_⟩ ?_ ?_
    · rw [Nat.zero_add]
      congr 2
      refine tab_congr fun j hj => ?_
      rw [if_neg (by omega)]
    · rintro k d E S' hk ⟨u, rfl, rfl⟩
      obtain ⟨hk1, rfl⟩ := revR_get hk
      with_reducible refine put_1 ?_
      repeat (with_reducible (first | refine s_cons ?_ | refine s_set ?_ | refine s_ret ?_ | refine s_expr ?_ | refine s_sub ?_ | refine s_nil ?_ | refine s_if ?_ | refine s_for ?_ | refine s_setC ?_ | refine s_boxC ?_ | refine s_retN ?_ | refine s_doc ?_ | refine r_var (by with_unfolding_all rfl) ?_ | refine r_int ?_ | refine r_bin ?_ | refine r_cmp ?_ | refine r_idx ?_ | refine r_cons ?_ | refine r_nil ?_ | refine r_bi ?_ | refine r_ty ?_ | refine r_call ?_ | refine r_callP ?_ | refine r_bl ?_ | refine r_tup ?_ | refine r_newL ?_ | refine r_box ?_ | refine r_cut ?_ | refine r_o0 ?_ | refine r_o1 ?_ | refine r_ife ?_ | refine r_str ?_ | refine r_non ?_ | refine r_neg ?_ | refine r_isT ?_ | refine r_app ?_ | refine r_andV ?_ | refine r_andV1 ?_ | refine r_orV ?_ | refine r_orV1 ?_ | refine r_notV ?_ | refine r_glo (by with_unfolding_all rfl) ?_ | refine t_cmp ?_ | refine t_val ?_ | refine t_and ?_ | refine t_and1 ?_ | refine t_or ?_ | refine t_or1 ?_ | refine t_not ?_ | refine c_lst ?_ | refine c_cat ?_ | refine c_rep ?_ | refine c_cut ?_ | refine c_list ?_ | refine c_lc ?_ | refine o_none ?_ | refine o_some ?_ | refine i_seq ?_ | refine i_rng1 ?_ | refine i_rng2 ?_ | refine i_revr ?_ | refine i_rev ?_ | refine i_zip ?_ | refine i_enum ?_ | refine p_add ?_ | refine p_sub ?_ | refine p_lt ?_ | refine p_le ?_ | refine p_gt ?_ | refine p_ge ?_ | refine p_eq ?_ | refine p_ne ?_ | refine p_int ?_ | refine p_intB ?_ | refine p_abs ?_ | refine p_min ?_ | refine p_max ?_ | refine p_lenN ?_ | refine p_lenT ?_ | refine p_lenL ?_ | refine p_tupL ?_ | refine p_pow18 ?_ | refine p_idxR (by assumption) (by with_unfolding_all rfl) ?_ | refine p_idxT (by with_unfolding_all rfl) ?_ | refine p_idxL (by with_unfolding_all rfl) ?_ | refine p_idxN (by assumption) ?_ | refine ⟨_, rfl, ?_⟩ | refine p_mod (by omega) ?_ | refine p_lenI ?_ | refine p_lenW ?_ | refine p_lenRw ?_ | refine p_fdiv (lg31 (by omega)) ?_))
      have ep : W.length - 1 - k < W.length := by omega
      generalize ew : W.length - 1 - k = p at ep ⊢
      have hwp : W[p]? = some W[p] := List.getElem?_eq_getElem ep
      have hwm := hW.ex _ (List.getElem_mem ep)
      refine p_idxR rfl (by rw [atI_nn (by omega), show ((p : Int) + 1).toNat = p + 1 by omega]; exact tab_get (by omega)) ?_
      repeat (with_reducible (first | refine s_cons ?_ | refine s_set ?_ | refine s_ret ?_ | refine s_expr ?_ | refine s_sub ?_ | refine s_nil ?_ | refine s_if ?_ | refine s_for ?_ | refine s_setC ?_ | refine s_boxC ?_ | refine s_retN ?_ | refine s_doc ?_ | refine r_var (by with_unfolding_all rfl) ?_ | refine r_int ?_ | refine r_bin ?_ | refine r_cmp ?_ | refine r_idx ?_ | refine r_cons ?_ | refine r_nil ?_ | refine r_bi ?_ | refine r_ty ?_ | refine r_call ?_ | refine r_callP ?_ | refine r_bl ?_ | refine r_tup ?_ | refine r_newL ?_ | refine r_box ?_ | refine r_cut ?_ | refine r_o0 ?_ | refine r_o1 ?_ | refine r_ife ?_ | refine r_str ?_ | refine r_non ?_ | refine r_neg ?_ | refine r_isT ?_ | refine r_app ?_ | refine r_andV ?_ | refine r_andV1 ?_ | refine r_orV ?_ | refine r_orV1 ?_ | refine r_notV ?_ | refine r_glo (by with_unfolding_all rfl) ?_ | refine t_cmp ?_ | refine t_val ?_ | refine t_and ?_ | refine t_and1 ?_ | refine t_or ?_ | refine t_or1 ?_ | refine t_not ?_ | refine c_lst ?_ | refine c_cat ?_ | refine c_rep ?_ | refine c_cut ?_ | refine c_list ?_ | refine c_lc ?_ | refine o_none ?_ | refine o_some ?_ | refine i_seq ?_ | refine i_rng1 ?_ | refine i_rng2 ?_ | refine i_revr ?_ | refine i_rev ?_ | refine i_zip ?_ | refine i_enum ?_ | refine p_add ?_ | refine p_sub ?_ | refine p_lt ?_ | refine p_le ?_ | refine p_gt ?_ | refine p_ge ?_ | refine p_eq ?_ | refine p_ne ?_ | refine p_int ?_ | refine p_intB ?_ | refine p_abs ?_ | refine p_min ?_ | refine p_max ?_ | refine p_lenN ?_ | refine p_lenT ?_ | refine p_lenL ?_ | refine p_tupL ?_ | refine p_pow18 ?_ | refine p_idxR (by assumption) (by with_unfolding_all rfl) ?_ | refine p_idxT (by with_unfolding_all rfl) ?_ | refine p_idxL (by with_unfolding_all rfl) ?_ | refine p_idxN (by assumption) ?_ | refine ⟨_, rfl, ?_⟩ | refine p_mod (by omega) ?_ | refine p_lenI ?_ | refine p_lenW ?_ | refine p_lenRw ?_ | refine p_fdiv (lg31 (by omega)) ?_))
      refine p_idxR rfl (by rw [atI_nn (by omega), Int.toNat_natCast]; exact tab_get (by omega)) ?_
      repeat (with_reducible (first | refine s_cons ?_ | refine s_set ?_ | refine s_ret ?_ | refine s_expr ?_ | refine s_sub ?_ | refine s_nil ?_ | refine s_if ?_ | refine s_for ?_ | refine s_setC ?_ | refine s_boxC ?_ | refine s_retN ?_ | refine s_doc ?_ | refine r_var (by with_unfolding_all rfl) ?_ | refine r_int ?_ | refine r_bin ?_ | refine r_cmp ?_ | refine r_idx ?_ | refine r_cons ?_ | refine r_nil ?_ | refine r_bi ?_ | refine r_ty ?_ | refine r_call ?_ | refine r_callP ?_ | refine r_bl ?_ | refine r_tup ?_ | refine r_newL ?_ | refine r_box ?_ | refine r_cut ?_ | refine r_o0 ?_ | refine r_o1 ?_ | refine r_ife ?_ | refine r_str ?_ | refine r_non ?_ | refine r_neg ?_ | refine r_isT ?_ | refine r_app ?_ | refine r_andV ?_ | refine r_andV1 ?_ | refine r_orV ?_ | refine r_orV1 ?_ | refine r_notV ?_ | refine r_glo (by with_unfolding_all rfl) ?_ | refine t_cmp ?_ | refine t_val ?_ | refine t_and ?_ | refine t_and1 ?_ | refine t_or ?_ | refine t_or1 ?_ | refine t_not ?_ | refine c_lst ?_ | refine c_cat ?_ | refine c_rep ?_ | refine c_cut ?_ | refine c_list ?_ | refine c_lc ?_ | refine o_none ?_ | refine o_some ?_ | refine i_seq ?_ | refine i_rng1 ?_ | refine i_rng2 ?_ | refine i_revr ?_ | refine i_rev ?_ | refine i_zip ?_ | refine i_enum ?_ | refine p_add ?_ | refine p_sub ?_ | refine p_lt ?_ | refine p_le ?_ | refine p_gt ?_ | refine p_ge ?_ | refine p_eq ?_ | refine p_ne ?_ | refine p_int ?_ | refine p_intB ?_ | refine p_abs ?_ | refine p_min ?_ | refine p_max ?_ | refine p_lenN ?_ | refine p_lenT ?_ | refine p_lenL ?_ | refine p_tupL ?_ | refine p_pow18 ?_ | refine p_idxR (by assumption) (by with_unfolding_all rfl) ?_ | refine p_idxT (by with_unfolding_all rfl) ?_ | refine p_idxL (by with_unfolding_all rfl) ?_ | refine p_idxN (by assumption) ?_ | refine ⟨_, rfl, ?_⟩ | refine p_mod (by omega) ?_ | refine p_lenI ?_ | refine p_lenW ?_ | refine p_lenRw ?_ | refine p_fdiv (lg31 (by omega)) ?_))
      refine p_idxW (by omega) (by rw [Int.toNat_natCast]; exact hwp) ?_
      repeat (with_reducible (first | refine s_cons ?_ | refine s_set ?_ | refine s_ret ?_ | refine s_expr ?_ | refine s_sub ?_ | refine s_nil ?_ | refine s_if ?_ | refine s_for ?_ | refine s_setC ?_ | refine s_boxC ?_ | refine s_retN ?_ | refine s_doc ?_ | refine r_var (by with_unfolding_all rfl) ?_ | refine r_int ?_ | refine r_bin ?_ | refine r_cmp ?_ | refine r_idx ?_ | refine r_cons ?_ | refine r_nil ?_ | refine r_bi ?_ | refine r_ty ?_ | refine r_call ?_ | refine r_callP ?_ | refine r_bl ?_ | refine r_tup ?_ | refine r_newL ?_ | refine r_box ?_ | refine r_cut ?_ | refine r_o0 ?_ | refine r_o1 ?_ | refine r_ife ?_ | refine r_str ?_ | refine r_non ?_ | refine r_neg ?_ | refine r_isT ?_ | refine r_app ?_ | refine r_andV ?_ | refine r_andV1 ?_ | refine r_orV ?_ | refine r_orV1 ?_ | refine r_notV ?_ | refine r_glo (by with_unfolding_all rfl) ?_ | refine t_cmp ?_ | refine t_val ?_ | refine t_and ?_ | refine t_and1 ?_ | refine t_or ?_ | refine t_or1 ?_ | refine t_not ?_ | refine c_lst ?_ | refine c_cat ?_ | refine c_rep ?_ | refine c_cut ?_ | refine c_list ?_ | refine c_lc ?_ | refine o_none ?_ | refine o_some ?_ | refine i_seq ?_ | refine i_rng1 ?_ | refine i_rng2 ?_ | refine i_revr ?_ | refine i_rev ?_ | refine i_zip ?_ | refine i_enum ?_ | refine p_add ?_ | refine p_sub ?_ | refine p_lt ?_ | refine p_le ?_ | refine p_gt ?_ | refine p_ge ?_ | refine p_eq ?_ | refine p_ne ?_ | refine p_int ?_ | refine p_intB ?_ | refine p_abs ?_ | refine p_min ?_ | refine p_max ?_ | refine p_lenN ?_ | refine p_lenT ?_ | refine p_lenL ?_ | refine p_tupL ?_ | refine p_pow18 ?_ | refine p_idxR (by assumption) (by with_unfolding_all rfl) ?_ | refine p_idxT (by with_unfolding_all rfl) ?_ | refine p_idxL (by with_unfolding_all rfl) ?_ | refine p_idxN (by assumption) ?_ | refine ⟨_, rfl, ?_⟩ | refine p_mod (by omega) ?_ | refine p_lenI ?_ | refine p_lenW ?_ | refine p_lenRw ?_ | refine p_fdiv (lg31 (by omega)) ?_))
      refine ⟨rfl, by simp [D.noRefs, dI_noRef]; rfl, (sp_mono (n := n) hwm.2 hxm.2 (by omega)).to fun d S1 e => ?_⟩
      subst e
      refine ⟨rfl, ?_⟩
      have hWt : ∀ q, ∀ m ∈ W.take q, m.length = w ∧ ∀ e ∈ m, 0 ≤ e ∧ e ≤ 6 := fun q m hm => hW.ex m (List.mem_of_mem_take hm)
      have hRt : ∀ q, ∀ m ∈ R.take q, ∀ a ∈ m, Sm 42 a := fun q m hm => (hR.it m (List.mem_of_mem_take hm)).2
      rw [if_neg (by omega), if_neg (by omega)]
      have hRq : (R.take i).length ≤ 60 := by simp; omega
      refine p_mul (Sm.mulOk (T_sm hw (hWt p) (hRt i)) (mon_sm (k := 3) hwm.2 hxm.2 (by omega)) (by omega)) ?_
      repeat (with_reducible (first | refine s_cons ?_ | refine s_set ?_ | refine s_ret ?_ | refine s_expr ?_ | refine s_sub ?_ | refine s_nil ?_ | refine s_if ?_ | refine s_for ?_ | refine s_setC ?_ | refine s_boxC ?_ | refine s_retN ?_ | refine s_doc ?_ | refine r_var (by with_unfolding_all rfl) ?_ | refine r_int ?_ | refine r_bin ?_ | refine r_cmp ?_ | refine r_idx ?_ | refine r_cons ?_ | refine r_nil ?_ | refine r_bi ?_ | refine r_ty ?_ | refine r_call ?_ | refine r_callP ?_ | refine r_bl ?_ | refine r_tup ?_ | refine r_newL ?_ | refine r_box ?_ | refine r_cut ?_ | refine r_o0 ?_ | refine r_o1 ?_ | refine r_ife ?_ | refine r_str ?_ | refine r_non ?_ | refine r_neg ?_ | refine r_isT ?_ | refine r_app ?_ | refine r_andV ?_ | refine r_andV1 ?_ | refine r_orV ?_ | refine r_orV1 ?_ | refine r_notV ?_ | refine r_glo (by with_unfolding_all rfl) ?_ | refine t_cmp ?_ | refine t_val ?_ | refine t_and ?_ | refine t_and1 ?_ | refine t_or ?_ | refine t_or1 ?_ | refine t_not ?_ | refine c_lst ?_ | refine c_cat ?_ | refine c_rep ?_ | refine c_cut ?_ | refine c_list ?_ | refine c_lc ?_ | refine o_none ?_ | refine o_some ?_ | refine i_seq ?_ | refine i_rng1 ?_ | refine i_rng2 ?_ | refine i_revr ?_ | refine i_rev ?_ | refine i_zip ?_ | refine i_enum ?_ | refine p_add ?_ | refine p_sub ?_ | refine p_lt ?_ | refine p_le ?_ | refine p_gt ?_ | refine p_ge ?_ | refine p_eq ?_ | refine p_ne ?_ | refine p_int ?_ | refine p_intB ?_ | refine p_abs ?_ | refine p_min ?_ | refine p_max ?_ | refine p_lenN ?_ | refine p_lenT ?_ | refine p_lenL ?_ | refine p_tupL ?_ | refine p_pow18 ?_ | refine p_idxR (by assumption) (by with_unfolding_all rfl) ?_ | refine p_idxT (by with_unfolding_all rfl) ?_ | refine p_idxL (by with_unfolding_all rfl) ?_ | refine p_idxN (by assumption) ?_ | refine ⟨_, rfl, ?_⟩ | refine p_mod (by omega) ?_ | refine p_lenI ?_ | refine p_lenW ?_ | refine p_lenRw ?_ | refine p_fdiv (lg31 (by omega)) ?_))
      refine ⟨0, _, _, p + 1, rfl, rfl, rfl, ?_, ?_⟩
      · rw [tab_len, ixN_nn (by omega) (by omega)]
        exact congrArg some (by omega)
      repeat (with_reducible (first | refine s_cons ?_ | refine s_set ?_ | refine s_ret ?_ | refine s_expr ?_ | refine s_sub ?_ | refine s_nil ?_ | refine s_if ?_ | refine s_for ?_ | refine s_setC ?_ | refine s_boxC ?_ | refine s_retN ?_ | refine s_doc ?_ | refine r_var (by with_unfolding_all rfl) ?_ | refine r_int ?_ | refine r_bin ?_ | refine r_cmp ?_ | refine r_idx ?_ | refine r_cons ?_ | refine r_nil ?_ | refine r_bi ?_ | refine r_ty ?_ | refine r_call ?_ | refine r_callP ?_ | refine r_bl ?_ | refine r_tup ?_ | refine r_newL ?_ | refine r_box ?_ | refine r_cut ?_ | refine r_o0 ?_ | refine r_o1 ?_ | refine r_ife ?_ | refine r_str ?_ | refine r_non ?_ | refine r_neg ?_ | refine r_isT ?_ | refine r_app ?_ | refine r_andV ?_ | refine r_andV1 ?_ | refine r_orV ?_ | refine r_orV1 ?_ | refine r_notV ?_ | refine r_glo (by with_unfolding_all rfl) ?_ | refine t_cmp ?_ | refine t_val ?_ | refine t_and ?_ | refine t_and1 ?_ | refine t_or ?_ | refine t_or1 ?_ | refine t_not ?_ | refine c_lst ?_ | refine c_cat ?_ | refine c_rep ?_ | refine c_cut ?_ | refine c_list ?_ | refine c_lc ?_ | refine o_none ?_ | refine o_some ?_ | refine i_seq ?_ | refine i_rng1 ?_ | refine i_rng2 ?_ | refine i_revr ?_ | refine i_rev ?_ | refine i_zip ?_ | refine i_enum ?_ | refine p_add ?_ | refine p_sub ?_ | refine p_lt ?_ | refine p_le ?_ | refine p_gt ?_ | refine p_ge ?_ | refine p_eq ?_ | refine p_ne ?_ | refine p_int ?_ | refine p_intB ?_ | refine p_abs ?_ | refine p_min ?_ | refine p_max ?_ | refine p_lenN ?_ | refine p_lenT ?_ | refine p_lenL ?_ | refine p_tupL ?_ | refine p_pow18 ?_ | refine p_idxR (by assumption) (by with_unfolding_all rfl) ?_ | refine p_idxT (by with_unfolding_all rfl) ?_ | refine p_idxL (by with_unfolding_all rfl) ?_ | refine p_idxN (by assumption) ?_ | refine ⟨_, rfl, ?_⟩ | refine p_mod (by omega) ?_ | refine p_lenI ?_ | refine p_lenW ?_ | refine p_lenRw ?_ | refine p_fdiv (lg31 (by omega)) ?_))
      show [DO.lst _] = _
      congr 2
      refine tab_set (by omega) ?_ ?_
      · rw [if_pos (by omega)]
        exact T_take hwp hx
      · intro q hq hql
        by_cases hc : W.length < q + (0 + k)
        · rw [if_pos (by omega), if_pos hc]
        · rw [if_neg (by omega), if_neg hc]
    · rintro E S' ⟨u, rfl, rfl⟩
      repeat (with_reducible (first | refine s_cons ?_ | refine s_set ?_ | refine s_ret ?_ | refine s_expr ?_ | refine s_sub ?_ | refine s_nil ?_ | refine s_if ?_ | refine s_for ?_ | refine s_setC ?_ | refine s_boxC ?_ | refine s_retN ?_ | refine s_doc ?_ | refine r_var (by with_unfolding_all rfl) ?_ | refine r_int ?_ | refine r_bin ?_ | refine r_cmp ?_ | refine r_idx ?_ | refine r_cons ?_ | refine r_nil ?_ | refine r_bi ?_ | refine r_ty ?_ | refine r_call ?_ | refine r_callP ?_ | refine r_bl ?_ | refine r_tup ?_ | refine r_newL ?_ | refine r_box ?_ | refine r_cut ?_ | refine r_o0 ?_ | refine r_o1 ?_ | refine r_ife ?_ | refine r_str ?_ | refine r_non ?_ | refine r_neg ?_ | refine r_isT ?_ | refine r_app ?_ | refine r_andV ?_ | refine r_andV1 ?_ | refine r_orV ?_ | refine r_orV1 ?_ | refine r_notV ?_ | refine r_glo (by with_unfolding_all rfl) ?_ | refine t_cmp ?_ | refine t_val ?_ | refine t_and ?_ | refine t_and1 ?_ | refine t_or ?_ | refine t_or1 ?_ | refine t_not ?_ | refine c_lst ?_ | refine c_cat ?_ | refine c_rep ?_ | refine c_cut ?_ | refine c_list ?_ | refine c_lc ?_ | refine o_none ?_ | refine o_some ?_ | refine i_seq ?_ | refine i_rng1 ?_ | refine i_rng2 ?_ | refine i_revr ?_ | refine i_rev ?_ | refine i_zip ?_ | refine i_enum ?_ | refine p_add ?_ | refine p_sub ?_ | refine p_lt ?_ | refine p_le ?_ | refine p_gt ?_ | refine p_ge ?_ | refine p_eq ?_ | refine p_ne ?_ | refine p_int ?_ | refine p_intB ?_ | refine p_abs ?_ | refine p_min ?_ | refine p_max ?_ | refine p_lenN ?_ | refine p_lenT ?_ | refine p_lenL ?_ | refine p_tupL ?_ | refine p_pow18 ?_ | refine p_idxR (by assumption) (by with_unfolding_all rfl) ?_ | refine p_idxT (by with_unfolding_all rfl) ?_ | refine p_idxL (by with_unfolding_all rfl) ?_ | refine p_idxN (by assumption) ?_ | refine ⟨_, rfl, ?_⟩ | refine p_mod (by omega) ?_ | refine p_lenI ?_ | refine p_lenW ?_ | refine p_lenRw ?_ | refine p_fdiv (lg31 (by omega)) ?_))
      refine ⟨_, u, rfl, ?_⟩
      rw [revR_len]
      congr 2
      refine tab_congr fun q hq => ?_
      by_cases h0 : q = 0
      · subst h0
        rw [if_neg (by omega), List.take_zero, T_nil, T_nil]
      · rw [if_pos (by omega), Nat.zero_add]
  · rintro E S' ⟨t, u, rfl, rfl⟩
    repeat (with_reducible (first | refine s_cons ?_ | refine s_set ?_ | refine s_ret ?_ | refine s_expr ?_ | refine s_sub ?_ | refine s_nil ?_ | refine s_if ?_ | refine s_for ?_ | refine s_setC ?_ | refine s_boxC ?_ | refine s_retN ?_ | refine s_doc ?_ | refine r_var (by with_unfolding_all rfl) ?_ | refine r_int ?_ | refine r_bin ?_ | refine r_cmp ?_ | refine r_idx ?_ | refine r_cons ?_ | refine r_nil ?_ | refine r_bi ?_ | refine r_ty ?_ | refine r_call ?_ | refine r_callP ?_ | refine r_bl ?_ | refine r_tup ?_ | refine r_newL ?_ | refine r_box ?_ | refine r_cut ?_ | refine r_o0 ?_ | refine r_o1 ?_ | refine r_ife ?_ | refine r_str ?_ | refine r_non ?_ | refine r_neg ?_ | refine r_isT ?_ | refine r_app ?_ | refine r_andV ?_ | refine r_andV1 ?_ | refine r_orV ?_ | refine r_orV1 ?_ | refine r_notV ?_ | refine r_glo (by with_unfolding_all rfl) ?_ | refine t_cmp ?_ | refine t_val ?_ | refine t_and ?_ | refine t_and1 ?_ | refine t_or ?_ | refine t_or1 ?_ | refine t_not ?_ | refine c_lst ?_ | refine c_cat ?_ | refine c_rep ?_ | refine c_cut ?_ | refine c_list ?_ | refine c_lc ?_ | refine o_none ?_ | refine o_some ?_ | refine i_seq ?_ | refine i_rng1 ?_ | refine i_rng2 ?_ | refine i_revr ?_ | refine i_rev ?_ | refine i_zip ?_ | refine i_enum ?_ | refine p_add ?_ | refine p_sub ?_ | refine p_lt ?_ | refine p_le ?_ | refine p_gt ?_ | refine p_ge ?_ | refine p_eq ?_ | refine p_ne ?_ | refine p_int ?_ | refine p_intB ?_ | refine p_abs ?_ | refine p_min ?_ | refine p_max ?_ | refine p_lenN ?_ | refine p_lenT ?_ | refine p_lenL ?_ | refine p_tupL ?_ | refine p_pow18 ?_ | refine p_idxR (by assumption) (by with_unfolding_all rfl) ?_ | refine p_idxT (by with_unfolding_all rfl) ?_ | refine p_idxL (by with_unfolding_all rfl) ?_ | refine p_idxN (by assumption) ?_ | refine ⟨_, rfl, ?_⟩ | refine p_mod (by omega) ?_ | refine p_lenI ?_ | refine p_lenW ?_ | refine p_lenRw ?_ | refine p_fdiv (lg31 (by omega)) ?_))
    refine p_idxR rfl (by rw [atI_nn (by omega), Int.toNat_natCast]; exact tab_get (by omega)) ?_
    show D.int (T (W.take W.length) (R.take (0 + (R.map dI).length))) = _
    rw [List.take_length, List.length_map, Nat.zero_add, List.take_length]
theorem lawT_step {w : List Int} {W R : List (List Int)} {p : Nat} {x : List Int} (h : R[p]? = some x) : T (w :: W) (R.drop p) = mon w x * T W (R.drop (p + 1)) + T (w :: W) (R.drop (p + 1)) := by
  obtain ⟨hp, e⟩ := List.getElem?_eq_some_iff.mp h
  rw [List.drop_eq_getElem_cons hp, e, T]
theorem sp_lv {w : Nat} (hw : w ≤ 3) : ∀ {W R : List (List Int)} {n : Nat}, Wd w W → Rw w R → wE (pr.call (n + W.length + 2) 6 [dW W, dR R]) [] (fun d S' => d = .int (T W R)) XF
  | [], R, n, hW, hR => by
    refine e__law_value ?_
    unfold ir__law_value
    repeat (with_reducible (first | refine s_cons ?_ | refine s_set ?_ | refine s_ret ?_ | refine s_expr ?_ | refine s_sub ?_ | refine s_nil ?_ | refine s_if ?_ | refine s_for ?_ | refine s_setC ?_ | refine s_boxC ?_ | refine s_retN ?_ | refine s_doc ?_ | refine r_var (by with_unfolding_all rfl) ?_ | refine r_int ?_ | refine r_bin ?_ | refine r_cmp ?_ | refine r_idx ?_ | refine r_cons ?_ | refine r_nil ?_ | refine r_bi ?_ | refine r_ty ?_ | refine r_call ?_ | refine r_callP ?_ | refine r_bl ?_ | refine r_tup ?_ | refine r_newL ?_ | refine r_box ?_ | refine r_cut ?_ | refine r_o0 ?_ | refine r_o1 ?_ | refine r_ife ?_ | refine r_str ?_ | refine r_non ?_ | refine r_neg ?_ | refine r_isT ?_ | refine r_app ?_ | refine r_andV ?_ | refine r_andV1 ?_ | refine r_orV ?_ | refine r_orV1 ?_ | refine r_notV ?_ | refine r_glo (by with_unfolding_all rfl) ?_ | refine t_cmp ?_ | refine t_val ?_ | refine t_and ?_ | refine t_and1 ?_ | refine t_or ?_ | refine t_or1 ?_ | refine t_not ?_ | refine c_lst ?_ | refine c_cat ?_ | refine c_rep ?_ | refine c_cut ?_ | refine c_list ?_ | refine c_lc ?_ | refine o_none ?_ | refine o_some ?_ | refine i_seq ?_ | refine i_rng1 ?_ | refine i_rng2 ?_ | refine i_revr ?_ | refine i_rev ?_ | refine i_zip ?_ | refine i_enum ?_ | refine p_add ?_ | refine p_sub ?_ | refine p_lt ?_ | refine p_le ?_ | refine p_gt ?_ | refine p_ge ?_ | refine p_eq ?_ | refine p_ne ?_ | refine p_int ?_ | refine p_intB ?_ | refine p_abs ?_ | refine p_min ?_ | refine p_max ?_ | refine p_lenN ?_ | refine p_lenT ?_ | refine p_lenL ?_ | refine p_tupL ?_ | refine p_pow18 ?_ | refine p_idxR (by assumption) (by with_unfolding_all rfl) ?_ | refine p_idxT (by with_unfolding_all rfl) ?_ | refine p_idxL (by with_unfolding_all rfl) ?_ | refine p_idxN (by assumption) ?_ | refine ⟨_, rfl, ?_⟩ | refine p_mod (by omega) ?_ | refine p_lenI ?_ | refine p_lenW ?_ | refine p_lenRw ?_ | refine p_fdiv (lg31 (by omega)) ?_))
    refine ⟨by simp, ?_⟩
    refine p_eqG (eqOk_of dW_plain rfl (Nat.le_trans dW_depth (by decide)) (by decide)) ?_
    refine ⟨true, rfl, fun _ => ?_, fun z => by cases z⟩
    repeat (with_reducible (first | refine s_cons ?_ | refine s_set ?_ | refine s_ret ?_ | refine s_expr ?_ | refine s_sub ?_ | refine s_nil ?_ | refine s_if ?_ | refine s_for ?_ | refine s_setC ?_ | refine s_boxC ?_ | refine s_retN ?_ | refine s_doc ?_ | refine r_var (by with_unfolding_all rfl) ?_ | refine r_int ?_ | refine r_bin ?_ | refine r_cmp ?_ | refine r_idx ?_ | refine r_cons ?_ | refine r_nil ?_ | refine r_bi ?_ | refine r_ty ?_ | refine r_call ?_ | refine r_callP ?_ | refine r_bl ?_ | refine r_tup ?_ | refine r_newL ?_ | refine r_box ?_ | refine r_cut ?_ | refine r_o0 ?_ | refine r_o1 ?_ | refine r_ife ?_ | refine r_str ?_ | refine r_non ?_ | refine r_neg ?_ | refine r_isT ?_ | refine r_app ?_ | refine r_andV ?_ | refine r_andV1 ?_ | refine r_orV ?_ | refine r_orV1 ?_ | refine r_notV ?_ | refine r_glo (by with_unfolding_all rfl) ?_ | refine t_cmp ?_ | refine t_val ?_ | refine t_and ?_ | refine t_and1 ?_ | refine t_or ?_ | refine t_or1 ?_ | refine t_not ?_ | refine c_lst ?_ | refine c_cat ?_ | refine c_rep ?_ | refine c_cut ?_ | refine c_list ?_ | refine c_lc ?_ | refine o_none ?_ | refine o_some ?_ | refine i_seq ?_ | refine i_rng1 ?_ | refine i_rng2 ?_ | refine i_revr ?_ | refine i_rev ?_ | refine i_zip ?_ | refine i_enum ?_ | refine p_add ?_ | refine p_sub ?_ | refine p_lt ?_ | refine p_le ?_ | refine p_gt ?_ | refine p_ge ?_ | refine p_eq ?_ | refine p_ne ?_ | refine p_int ?_ | refine p_intB ?_ | refine p_abs ?_ | refine p_min ?_ | refine p_max ?_ | refine p_lenN ?_ | refine p_lenT ?_ | refine p_lenL ?_ | refine p_tupL ?_ | refine p_pow18 ?_ | refine p_idxR (by assumption) (by with_unfolding_all rfl) ?_ | refine p_idxT (by with_unfolding_all rfl) ?_ | refine p_idxL (by with_unfolding_all rfl) ?_ | refine p_idxN (by assumption) ?_ | refine ⟨_, rfl, ?_⟩ | refine p_mod (by omega) ?_ | refine p_lenI ?_ | refine p_lenW ?_ | refine p_lenRw ?_ | refine p_fdiv (lg31 (by omega)) ?_))
    rw [T_nil]
  | m :: W, R, n, hW, hR => by
    refine e__law_value ?_
    unfold ir__law_value
    have hWl := hW.len
    have hRl := hR.len
    have hm := hW.ex m (List.mem_cons_self ..)
    repeat (with_reducible (first | refine s_cons ?_ | refine s_set ?_ | refine s_ret ?_ | refine s_expr ?_ | refine s_sub ?_ | refine s_nil ?_ | refine s_if ?_ | refine s_for ?_ | refine s_setC ?_ | refine s_boxC ?_ | refine s_retN ?_ | refine s_doc ?_ | refine r_var (by with_unfolding_all rfl) ?_ | refine r_int ?_ | refine r_bin ?_ | refine r_cmp ?_ | refine r_idx ?_ | refine r_cons ?_ | refine r_nil ?_ | refine r_bi ?_ | refine r_ty ?_ | refine r_call ?_ | refine r_callP ?_ | refine r_bl ?_ | refine r_tup ?_ | refine r_newL ?_ | refine r_box ?_ | refine r_cut ?_ | refine r_o0 ?_ | refine r_o1 ?_ | refine r_ife ?_ | refine r_str ?_ | refine r_non ?_ | refine r_neg ?_ | refine r_isT ?_ | refine r_app ?_ | refine r_andV ?_ | refine r_andV1 ?_ | refine r_orV ?_ | refine r_orV1 ?_ | refine r_notV ?_ | refine r_glo (by with_unfolding_all rfl) ?_ | refine t_cmp ?_ | refine t_val ?_ | refine t_and ?_ | refine t_and1 ?_ | refine t_or ?_ | refine t_or1 ?_ | refine t_not ?_ | refine c_lst ?_ | refine c_cat ?_ | refine c_rep ?_ | refine c_cut ?_ | refine c_list ?_ | refine c_lc ?_ | refine o_none ?_ | refine o_some ?_ | refine i_seq ?_ | refine i_rng1 ?_ | refine i_rng2 ?_ | refine i_revr ?_ | refine i_rev ?_ | refine i_zip ?_ | refine i_enum ?_ | refine p_add ?_ | refine p_sub ?_ | refine p_lt ?_ | refine p_le ?_ | refine p_gt ?_ | refine p_ge ?_ | refine p_eq ?_ | refine p_ne ?_ | refine p_int ?_ | refine p_intB ?_ | refine p_abs ?_ | refine p_min ?_ | refine p_max ?_ | refine p_lenN ?_ | refine p_lenT ?_ | refine p_lenL ?_ | refine p_tupL ?_ | refine p_pow18 ?_ | refine p_idxR (by assumption) (by with_unfolding_all rfl) ?_ | refine p_idxT (by with_unfolding_all rfl) ?_ | refine p_idxL (by with_unfolding_all rfl) ?_ | refine p_idxN (by assumption) ?_ | refine ⟨_, rfl, ?_⟩ | refine p_mod (by omega) ?_ | refine p_lenI ?_ | refine p_lenW ?_ | refine p_lenRw ?_ | refine p_fdiv (lg31 (by omega)) ?_))
    refine ⟨by simp, ?_⟩
    refine p_eqG (eqOk_of dW_plain rfl (Nat.le_trans dW_depth (by decide)) (by decide)) ?_
    refine ⟨false, (congrArg D.bl eqv_nil).trans rfl, fun z => by (cases z), fun _ => ?_⟩
    repeat (with_reducible (first | refine s_cons ?_ | refine s_set ?_ | refine s_ret ?_ | refine s_expr ?_ | refine s_sub ?_ | refine s_nil ?_ | refine s_if ?_ | refine s_for ?_ | refine s_setC ?_ | refine s_boxC ?_ | refine s_retN ?_ | refine s_doc ?_ | refine r_var (by with_unfolding_all rfl) ?_ | refine r_int ?_ | refine r_bin ?_ | refine r_cmp ?_ | refine r_idx ?_ | refine r_cons ?_ | refine r_nil ?_ | refine r_bi ?_ | refine r_ty ?_ | refine r_call ?_ | refine r_callP ?_ | refine r_bl ?_ | refine r_tup ?_ | refine r_newL ?_ | refine r_box ?_ | refine r_cut ?_ | refine r_o0 ?_ | refine r_o1 ?_ | refine r_ife ?_ | refine r_str ?_ | refine r_non ?_ | refine r_neg ?_ | refine r_isT ?_ | refine r_app ?_ | refine r_andV ?_ | refine r_andV1 ?_ | refine r_orV ?_ | refine r_orV1 ?_ | refine r_notV ?_ | refine r_glo (by with_unfolding_all rfl) ?_ | refine t_cmp ?_ | refine t_val ?_ | refine t_and ?_ | refine t_and1 ?_ | refine t_or ?_ | refine t_or1 ?_ | refine t_not ?_ | refine c_lst ?_ | refine c_cat ?_ | refine c_rep ?_ | refine c_cut ?_ | refine c_list ?_ | refine c_lc ?_ | refine o_none ?_ | refine o_some ?_ | refine i_seq ?_ | refine i_rng1 ?_ | refine i_rng2 ?_ | refine i_revr ?_ | refine i_rev ?_ | refine i_zip ?_ | refine i_enum ?_ | refine p_add ?_ | refine p_sub ?_ | refine p_lt ?_ | refine p_le ?_ | refine p_gt ?_ | refine p_ge ?_ | refine p_eq ?_ | refine p_ne ?_ | refine p_int ?_ | refine p_intB ?_ | refine p_abs ?_ | refine p_min ?_ | refine p_max ?_ | refine p_lenN ?_ | refine p_lenT ?_ | refine p_lenL ?_ | refine p_tupL ?_ | refine p_pow18 ?_ | refine p_idxR (by assumption) (by with_unfolding_all rfl) ?_ | refine p_idxT (by with_unfolding_all rfl) ?_ | refine p_idxL (by with_unfolding_all rfl) ?_ | refine p_idxN (by assumption) ?_ | refine ⟨_, rfl, ?_⟩ | refine p_mod (by omega) ?_ | refine p_lenI ?_ | refine p_lenW ?_ | refine p_lenRw ?_ | refine p_fdiv (lg31 (by omega)) ?_))
    refine ⟨by omega, ?_⟩
    refine wS_loop (fun k E S' => ∃ u : Option D, E = [some (dW (m :: W)), some (dR R), some (.int (T (m :: W) R - T (m :: W) (R.drop k))), u] ∧ S' = []) _ 0 ⟨none, by simp, rfl⟩ ?_ ?_
    · rintro j d E S' hd ⟨u, rfl, rfl⟩
      obtain ⟨hj, rfl⟩ := rangeD_get hd
      have hj1 : j < R.length := by omega
      have hjx : R[j]? = some R[j] := List.getElem?_eq_getElem hj1
      have hx := hR.it _ (List.getElem_mem hj1)
      have hW' : Wd w W := ⟨by simp at hWl; omega, fun q hq => hW.ex q (List.mem_cons_of_mem _ hq)⟩
      have hR' : ∀ q, Rw w (R.drop q) := fun q => ⟨by simp; omega, fun z hz => hR.it z (List.mem_of_mem_drop hz)⟩
      with_reducible refine put_1 ?_
      repeat (with_reducible (first | refine s_cons ?_ | refine s_set ?_ | refine s_ret ?_ | refine s_expr ?_ | refine s_sub ?_ | refine s_nil ?_ | refine s_if ?_ | refine s_for ?_ | refine s_setC ?_ | refine s_boxC ?_ | refine s_retN ?_ | refine s_doc ?_ | refine r_var (by with_unfolding_all rfl) ?_ | refine r_int ?_ | refine r_bin ?_ | refine r_cmp ?_ | refine r_idx ?_ | refine r_cons ?_ | refine r_nil ?_ | refine r_bi ?_ | refine r_ty ?_ | refine r_call ?_ | refine r_callP ?_ | refine r_bl ?_ | refine r_tup ?_ | refine r_newL ?_ | refine r_box ?_ | refine r_cut ?_ | refine r_o0 ?_ | refine r_o1 ?_ | refine r_ife ?_ | refine r_str ?_ | refine r_non ?_ | refine r_neg ?_ | refine r_isT ?_ | refine r_app ?_ | refine r_andV ?_ | refine r_andV1 ?_ | refine r_orV ?_ | refine r_orV1 ?_ | refine r_notV ?_ | refine r_glo (by with_unfolding_all rfl) ?_ | refine t_cmp ?_ | refine t_val ?_ | refine t_and ?_ | refine t_and1 ?_ | refine t_or ?_ | refine t_or1 ?_ | refine t_not ?_ | refine c_lst ?_ | refine c_cat ?_ | refine c_rep ?_ | refine c_cut ?_ | refine c_list ?_ | refine c_lc ?_ | refine o_none ?_ | refine o_some ?_ | refine i_seq ?_ | refine i_rng1 ?_ | refine i_rng2 ?_ | refine i_revr ?_ | refine i_rev ?_ | refine i_zip ?_ | refine i_enum ?_ | refine p_add ?_ | refine p_sub ?_ | refine p_lt ?_ | refine p_le ?_ | refine p_gt ?_ | refine p_ge ?_ | refine p_eq ?_ | refine p_ne ?_ | refine p_int ?_ | refine p_intB ?_ | refine p_abs ?_ | refine p_min ?_ | refine p_max ?_ | refine p_lenN ?_ | refine p_lenT ?_ | refine p_lenL ?_ | refine p_tupL ?_ | refine p_pow18 ?_ | refine p_idxR (by assumption) (by with_unfolding_all rfl) ?_ | refine p_idxT (by with_unfolding_all rfl) ?_ | refine p_idxL (by with_unfolding_all rfl) ?_ | refine p_idxN (by assumption) ?_ | refine ⟨_, rfl, ?_⟩ | refine p_mod (by omega) ?_ | refine p_lenI ?_ | refine p_lenW ?_ | refine p_lenRw ?_ | refine p_fdiv (lg31 (by omega)) ?_))
      refine p_idxW (a := m) (by decide) rfl ?_
      repeat (with_reducible (first | refine s_cons ?_ | refine s_set ?_ | refine s_ret ?_ | refine s_expr ?_ | refine s_sub ?_ | refine s_nil ?_ | refine s_if ?_ | refine s_for ?_ | refine s_setC ?_ | refine s_boxC ?_ | refine s_retN ?_ | refine s_doc ?_ | refine r_var (by with_unfolding_all rfl) ?_ | refine r_int ?_ | refine r_bin ?_ | refine r_cmp ?_ | refine r_idx ?_ | refine r_cons ?_ | refine r_nil ?_ | refine r_bi ?_ | refine r_ty ?_ | refine r_call ?_ | refine r_callP ?_ | refine r_bl ?_ | refine r_tup ?_ | refine r_newL ?_ | refine r_box ?_ | refine r_cut ?_ | refine r_o0 ?_ | refine r_o1 ?_ | refine r_ife ?_ | refine r_str ?_ | refine r_non ?_ | refine r_neg ?_ | refine r_isT ?_ | refine r_app ?_ | refine r_andV ?_ | refine r_andV1 ?_ | refine r_orV ?_ | refine r_orV1 ?_ | refine r_notV ?_ | refine r_glo (by with_unfolding_all rfl) ?_ | refine t_cmp ?_ | refine t_val ?_ | refine t_and ?_ | refine t_and1 ?_ | refine t_or ?_ | refine t_or1 ?_ | refine t_not ?_ | refine c_lst ?_ | refine c_cat ?_ | refine c_rep ?_ | refine c_cut ?_ | refine c_list ?_ | refine c_lc ?_ | refine o_none ?_ | refine o_some ?_ | refine i_seq ?_ | refine i_rng1 ?_ | refine i_rng2 ?_ | refine i_revr ?_ | refine i_rev ?_ | refine i_zip ?_ | refine i_enum ?_ | refine p_add ?_ | refine p_sub ?_ | refine p_lt ?_ | refine p_le ?_ | refine p_gt ?_ | refine p_ge ?_ | refine p_eq ?_ | refine p_ne ?_ | refine p_int ?_ | refine p_intB ?_ | refine p_abs ?_ | refine p_min ?_ | refine p_max ?_ | refine p_lenN ?_ | refine p_lenT ?_ | refine p_lenL ?_ | refine p_tupL ?_ | refine p_pow18 ?_ | refine p_idxR (by assumption) (by with_unfolding_all rfl) ?_ | refine p_idxT (by with_unfolding_all rfl) ?_ | refine p_idxL (by with_unfolding_all rfl) ?_ | refine p_idxN (by assumption) ?_ | refine ⟨_, rfl, ?_⟩ | refine p_mod (by omega) ?_ | refine p_lenI ?_ | refine p_lenW ?_ | refine p_lenRw ?_ | refine p_fdiv (lg31 (by omega)) ?_))
      refine p_idxRw (by omega) (show R[(0 + (j : Int)).toNat]? = some R[j] by rw [show (0 + (j : Int)).toNat = j by omega]; exact hjx) ?_
      repeat (with_reducible (first | refine s_cons ?_ | refine s_set ?_ | refine s_ret ?_ | refine s_expr ?_ | refine s_sub ?_ | refine s_nil ?_ | refine s_if ?_ | refine s_for ?_ | refine s_setC ?_ | refine s_boxC ?_ | refine s_retN ?_ | refine s_doc ?_ | refine r_var (by with_unfolding_all rfl) ?_ | refine r_int ?_ | refine r_bin ?_ | refine r_cmp ?_ | refine r_idx ?_ | refine r_cons ?_ | refine r_nil ?_ | refine r_bi ?_ | refine r_ty ?_ | refine r_call ?_ | refine r_callP ?_ | refine r_bl ?_ | refine r_tup ?_ | refine r_newL ?_ | refine r_box ?_ | refine r_cut ?_ | refine r_o0 ?_ | refine r_o1 ?_ | refine r_ife ?_ | refine r_str ?_ | refine r_non ?_ | refine r_neg ?_ | refine r_isT ?_ | refine r_app ?_ | refine r_andV ?_ | refine r_andV1 ?_ | refine r_orV ?_ | refine r_orV1 ?_ | refine r_notV ?_ | refine r_glo (by with_unfolding_all rfl) ?_ | refine t_cmp ?_ | refine t_val ?_ | refine t_and ?_ | refine t_and1 ?_ | refine t_or ?_ | refine t_or1 ?_ | refine t_not ?_ | refine c_lst ?_ | refine c_cat ?_ | refine c_rep ?_ | refine c_cut ?_ | refine c_list ?_ | refine c_lc ?_ | refine o_none ?_ | refine o_some ?_ | refine i_seq ?_ | refine i_rng1 ?_ | refine i_rng2 ?_ | refine i_revr ?_ | refine i_rev ?_ | refine i_zip ?_ | refine i_enum ?_ | refine p_add ?_ | refine p_sub ?_ | refine p_lt ?_ | refine p_le ?_ | refine p_gt ?_ | refine p_ge ?_ | refine p_eq ?_ | refine p_ne ?_ | refine p_int ?_ | refine p_intB ?_ | refine p_abs ?_ | refine p_min ?_ | refine p_max ?_ | refine p_lenN ?_ | refine p_lenT ?_ | refine p_lenL ?_ | refine p_tupL ?_ | refine p_pow18 ?_ | refine p_idxR (by assumption) (by with_unfolding_all rfl) ?_ | refine p_idxT (by with_unfolding_all rfl) ?_ | refine p_idxL (by with_unfolding_all rfl) ?_ | refine p_idxN (by assumption) ?_ | refine ⟨_, rfl, ?_⟩ | refine p_mod (by omega) ?_ | refine p_lenI ?_ | refine p_lenW ?_ | refine p_lenRw ?_ | refine p_fdiv (lg31 (by omega)) ?_))
      refine k_pure [] rfl rfl (by simp [D.noRefs, dI_noRef]) ((sp_lawmono (n := n + W.length + 1) hm.2 hx.2 (by omega) (by omega)).to fun d S1 e => ?_)
      subst e
      refine ⟨rfl, ?_⟩
      repeat (with_reducible (first | refine s_cons ?_ | refine s_set ?_ | refine s_ret ?_ | refine s_expr ?_ | refine s_sub ?_ | refine s_nil ?_ | refine s_if ?_ | refine s_for ?_ | refine s_setC ?_ | refine s_boxC ?_ | refine s_retN ?_ | refine s_doc ?_ | refine r_var (by with_unfolding_all rfl) ?_ | refine r_int ?_ | refine r_bin ?_ | refine r_cmp ?_ | refine r_idx ?_ | refine r_cons ?_ | refine r_nil ?_ | refine r_bi ?_ | refine r_ty ?_ | refine r_call ?_ | refine r_callP ?_ | refine r_bl ?_ | refine r_tup ?_ | refine r_newL ?_ | refine r_box ?_ | refine r_cut ?_ | refine r_o0 ?_ | refine r_o1 ?_ | refine r_ife ?_ | refine r_str ?_ | refine r_non ?_ | refine r_neg ?_ | refine r_isT ?_ | refine r_app ?_ | refine r_andV ?_ | refine r_andV1 ?_ | refine r_orV ?_ | refine r_orV1 ?_ | refine r_notV ?_ | refine r_glo (by with_unfolding_all rfl) ?_ | refine t_cmp ?_ | refine t_val ?_ | refine t_and ?_ | refine t_and1 ?_ | refine t_or ?_ | refine t_or1 ?_ | refine t_not ?_ | refine c_lst ?_ | refine c_cat ?_ | refine c_rep ?_ | refine c_cut ?_ | refine c_list ?_ | refine c_lc ?_ | refine o_none ?_ | refine o_some ?_ | refine i_seq ?_ | refine i_rng1 ?_ | refine i_rng2 ?_ | refine i_revr ?_ | refine i_rev ?_ | refine i_zip ?_ | refine i_enum ?_ | refine p_add ?_ | refine p_sub ?_ | refine p_lt ?_ | refine p_le ?_ | refine p_gt ?_ | refine p_ge ?_ | refine p_eq ?_ | refine p_ne ?_ | refine p_int ?_ | refine p_intB ?_ | refine p_abs ?_ | refine p_min ?_ | refine p_max ?_ | refine p_lenN ?_ | refine p_lenT ?_ | refine p_lenL ?_ | refine p_tupL ?_ | refine p_pow18 ?_ | refine p_idxR (by assumption) (by with_unfolding_all rfl) ?_ | refine p_idxT (by with_unfolding_all rfl) ?_ | refine p_idxL (by with_unfolding_all rfl) ?_ | refine p_idxN (by assumption) ?_ | refine ⟨_, rfl, ?_⟩ | refine p_mod (by omega) ?_ | refine p_lenI ?_ | refine p_lenW ?_ | refine p_lenRw ?_ | refine p_fdiv (lg31 (by omega)) ?_))
      have e1 : D.tup (cutL (List.map dI (m :: W)) (some 1) none) = dW W := by
        rw [show (some (1 : Int)) = some ((1 : Nat) : Int) from rfl, cut_drop]; rfl
      have e2 : D.lst (cutL (List.map dI R) (some (0 + (j : Int) + 1)) none) = dR (R.drop (j + 1)) := by
        rw [show (0 + (j : Int) + 1) = ((j + 1 : Nat) : Int) by omega, cut_drop, ← List.map_drop]; rfl
      rw [e1, e2]
      refine k_pure [] rfl rfl (by simp [D.noRefs, dW_noRef, dR_noRef]) ?_
      rw [show n + (m :: W).length + 1 = n + W.length + 2 by simp; omega]
      refine (sp_lv hw (n := n) hW' (hR' (j + 1))).to fun d S1 e => ?_
      subst e
      refine ⟨rfl, ?_⟩
      have h1 := mon_sm (k := 3) hm.2 hx.2 (by omega)
      have h2 := T_sm hw (R := R.drop (j + 1)) (W := W) hW'.ex (fun x hx => (hR.it x (List.mem_of_mem_drop hx)).2)
      have h3 : (R.drop (j + 1)).length ≤ 60 := by simp; omega
      refine p_mul (Sm.mulOk h1 h2 (by omega)) ?_
      repeat (with_reducible (first | refine s_cons ?_ | refine s_set ?_ | refine s_ret ?_ | refine s_expr ?_ | refine s_sub ?_ | refine s_nil ?_ | refine s_if ?_ | refine s_for ?_ | refine s_setC ?_ | refine s_boxC ?_ | refine s_retN ?_ | refine s_doc ?_ | refine r_var (by with_unfolding_all rfl) ?_ | refine r_int ?_ | refine r_bin ?_ | refine r_cmp ?_ | refine r_idx ?_ | refine r_cons ?_ | refine r_nil ?_ | refine r_bi ?_ | refine r_ty ?_ | refine r_call ?_ | refine r_callP ?_ | refine r_bl ?_ | refine r_tup ?_ | refine r_newL ?_ | refine r_box ?_ | refine r_cut ?_ | refine r_o0 ?_ | refine r_o1 ?_ | refine r_ife ?_ | refine r_str ?_ | refine r_non ?_ | refine r_neg ?_ | refine r_isT ?_ | refine r_app ?_ | refine r_andV ?_ | refine r_andV1 ?_ | refine r_orV ?_ | refine r_orV1 ?_ | refine r_notV ?_ | refine r_glo (by with_unfolding_all rfl) ?_ | refine t_cmp ?_ | refine t_val ?_ | refine t_and ?_ | refine t_and1 ?_ | refine t_or ?_ | refine t_or1 ?_ | refine t_not ?_ | refine c_lst ?_ | refine c_cat ?_ | refine c_rep ?_ | refine c_cut ?_ | refine c_list ?_ | refine c_lc ?_ | refine o_none ?_ | refine o_some ?_ | refine i_seq ?_ | refine i_rng1 ?_ | refine i_rng2 ?_ | refine i_revr ?_ | refine i_rev ?_ | refine i_zip ?_ | refine i_enum ?_ | refine p_add ?_ | refine p_sub ?_ | refine p_lt ?_ | refine p_le ?_ | refine p_gt ?_ | refine p_ge ?_ | refine p_eq ?_ | refine p_ne ?_ | refine p_int ?_ | refine p_intB ?_ | refine p_abs ?_ | refine p_min ?_ | refine p_max ?_ | refine p_lenN ?_ | refine p_lenT ?_ | refine p_lenL ?_ | refine p_tupL ?_ | refine p_pow18 ?_ | refine p_idxR (by assumption) (by with_unfolding_all rfl) ?_ | refine p_idxT (by with_unfolding_all rfl) ?_ | refine p_idxL (by with_unfolding_all rfl) ?_ | refine p_idxN (by assumption) ?_ | refine ⟨_, rfl, ?_⟩ | refine p_mod (by omega) ?_ | refine p_lenI ?_ | refine p_lenW ?_ | refine p_lenRw ?_ | refine p_fdiv (lg31 (by omega)) ?_))
      refine ⟨some (.int (0 + (j : Int))), ?_, rfl⟩
      have st := lawT_step (w := m) (W := W) hjx
      have e3 : T (m :: W) R - T (m :: W) (R.drop (0 + j)) + mon m R[j] * T W (R.drop (j + 1)) = T (m :: W) R - T (m :: W) (R.drop (0 + j + 1)) := by
        rw [Nat.zero_add, st]
        omega
      simp only [List.set]
      rw [e3]
    · rintro E S' ⟨u, rfl, rfl⟩
      repeat (with_reducible (first | refine s_cons ?_ | refine s_set ?_ | refine s_ret ?_ | refine s_expr ?_ | refine s_sub ?_ | refine s_nil ?_ | refine s_if ?_ | refine s_for ?_ | refine s_setC ?_ | refine s_boxC ?_ | refine s_retN ?_ | refine s_doc ?_ | refine r_var (by with_unfolding_all rfl) ?_ | refine r_int ?_ | refine r_bin ?_ | refine r_cmp ?_ | refine r_idx ?_ | refine r_cons ?_ | refine r_nil ?_ | refine r_bi ?_ | refine r_ty ?_ | refine r_call ?_ | refine r_callP ?_ | refine r_bl ?_ | refine r_tup ?_ | refine r_newL ?_ | refine r_box ?_ | refine r_cut ?_ | refine r_o0 ?_ | refine r_o1 ?_ | refine r_ife ?_ | refine r_str ?_ | refine r_non ?_ | refine r_neg ?_ | refine r_isT ?_ | refine r_app ?_ | refine r_andV ?_ | refine r_andV1 ?_ | refine r_orV ?_ | refine r_orV1 ?_ | refine r_notV ?_ | refine r_glo (by with_unfolding_all rfl) ?_ | refine t_cmp ?_ | refine t_val ?_ | refine t_and ?_ | refine t_and1 ?_ | refine t_or ?_ | refine t_or1 ?_ | refine t_not ?_ | refine c_lst ?_ | refine c_cat ?_ | refine c_rep ?_ | refine c_cut ?_ | refine c_list ?_ | refine c_lc ?_ | refine o_none ?_ | refine o_some ?_ | refine i_seq ?_ | refine i_rng1 ?_ | refine i_rng2 ?_ | refine i_revr ?_ | refine i_rev ?_ | refine i_zip ?_ | refine i_enum ?_ | refine p_add ?_ | refine p_sub ?_ | refine p_lt ?_ | refine p_le ?_ | refine p_gt ?_ | refine p_ge ?_ | refine p_eq ?_ | refine p_ne ?_ | refine p_int ?_ | refine p_intB ?_ | refine p_abs ?_ | refine p_min ?_ | refine p_max ?_ | refine p_lenN ?_ | refine p_lenT ?_ | refine p_lenL ?_ | refine p_tupL ?_ | refine p_pow18 ?_ | refine p_idxR (by assumption) (by with_unfolding_all rfl) ?_ | refine p_idxT (by with_unfolding_all rfl) ?_ | refine p_idxL (by with_unfolding_all rfl) ?_ | refine p_idxN (by assumption) ?_ | refine ⟨_, rfl, ?_⟩ | refine p_mod (by omega) ?_ | refine p_lenI ?_ | refine p_lenW ?_ | refine p_lenRw ?_ | refine p_fdiv (lg31 (by omega)) ?_))
      show D.int (T (m :: W) R - T (m :: W) (R.drop _)) = _
      rw [rangeD_len, Nat.zero_add, Int.toNat_natCast, List.drop_length]
      simp [T]
theorem sp_whole {n : Nat} {v : Int} : wE (pr.call (n + 1) 7 [.int v]) [] (fun d S' => d = .bl true) XF := by
  refine e__law_whole ?_
  unfold ir__law_whole
  repeat (with_reducible (first | refine s_cons ?_ | refine s_set ?_ | refine s_ret ?_ | refine s_expr ?_ | refine s_sub ?_ | refine s_nil ?_ | refine s_if ?_ | refine s_for ?_ | refine s_setC ?_ | refine s_boxC ?_ | refine s_retN ?_ | refine s_doc ?_ | refine r_var (by with_unfolding_all rfl) ?_ | refine r_int ?_ | refine r_bin ?_ | refine r_cmp ?_ | refine r_idx ?_ | refine r_cons ?_ | refine r_nil ?_ | refine r_bi ?_ | refine r_ty ?_ | refine r_call ?_ | refine r_callP ?_ | refine r_bl ?_ | refine r_tup ?_ | refine r_newL ?_ | refine r_box ?_ | refine r_cut ?_ | refine r_o0 ?_ | refine r_o1 ?_ | refine r_ife ?_ | refine r_str ?_ | refine r_non ?_ | refine r_neg ?_ | refine r_isT ?_ | refine r_app ?_ | refine r_andV ?_ | refine r_andV1 ?_ | refine r_orV ?_ | refine r_orV1 ?_ | refine r_notV ?_ | refine r_glo (by with_unfolding_all rfl) ?_ | refine t_cmp ?_ | refine t_val ?_ | refine t_and ?_ | refine t_and1 ?_ | refine t_or ?_ | refine t_or1 ?_ | refine t_not ?_ | refine c_lst ?_ | refine c_cat ?_ | refine c_rep ?_ | refine c_cut ?_ | refine c_list ?_ | refine c_lc ?_ | refine o_none ?_ | refine o_some ?_ | refine i_seq ?_ | refine i_rng1 ?_ | refine i_rng2 ?_ | refine i_revr ?_ | refine i_rev ?_ | refine i_zip ?_ | refine i_enum ?_ | refine p_add ?_ | refine p_sub ?_ | refine p_lt ?_ | refine p_le ?_ | refine p_gt ?_ | refine p_ge ?_ | refine p_eq ?_ | refine p_ne ?_ | refine p_int ?_ | refine p_intB ?_ | refine p_abs ?_ | refine p_min ?_ | refine p_max ?_ | refine p_lenN ?_ | refine p_lenT ?_ | refine p_lenL ?_ | refine p_tupL ?_ | refine p_pow18 ?_ | refine p_idxR (by assumption) (by with_unfolding_all rfl) ?_ | refine p_idxT (by with_unfolding_all rfl) ?_ | refine p_idxL (by with_unfolding_all rfl) ?_ | refine p_idxN (by assumption) ?_ | refine ⟨_, rfl, ?_⟩ | refine p_mod (by omega) ?_ | refine p_lenI ?_ | refine p_lenW ?_ | refine p_lenRw ?_ | refine p_fdiv (lg31 (by omega)) ?_))
  refine ⟨fun _ => ?_, fun z => by cases z⟩
  repeat (with_reducible (first | refine s_cons ?_ | refine s_set ?_ | refine s_ret ?_ | refine s_expr ?_ | refine s_sub ?_ | refine s_nil ?_ | refine s_if ?_ | refine s_for ?_ | refine s_setC ?_ | refine s_boxC ?_ | refine s_retN ?_ | refine s_doc ?_ | refine r_var (by with_unfolding_all rfl) ?_ | refine r_int ?_ | refine r_bin ?_ | refine r_cmp ?_ | refine r_idx ?_ | refine r_cons ?_ | refine r_nil ?_ | refine r_bi ?_ | refine r_ty ?_ | refine r_call ?_ | refine r_callP ?_ | refine r_bl ?_ | refine r_tup ?_ | refine r_newL ?_ | refine r_box ?_ | refine r_cut ?_ | refine r_o0 ?_ | refine r_o1 ?_ | refine r_ife ?_ | refine r_str ?_ | refine r_non ?_ | refine r_neg ?_ | refine r_isT ?_ | refine r_app ?_ | refine r_andV ?_ | refine r_andV1 ?_ | refine r_orV ?_ | refine r_orV1 ?_ | refine r_notV ?_ | refine r_glo (by with_unfolding_all rfl) ?_ | refine t_cmp ?_ | refine t_val ?_ | refine t_and ?_ | refine t_and1 ?_ | refine t_or ?_ | refine t_or1 ?_ | refine t_not ?_ | refine c_lst ?_ | refine c_cat ?_ | refine c_rep ?_ | refine c_cut ?_ | refine c_list ?_ | refine c_lc ?_ | refine o_none ?_ | refine o_some ?_ | refine i_seq ?_ | refine i_rng1 ?_ | refine i_rng2 ?_ | refine i_revr ?_ | refine i_rev ?_ | refine i_zip ?_ | refine i_enum ?_ | refine p_add ?_ | refine p_sub ?_ | refine p_lt ?_ | refine p_le ?_ | refine p_gt ?_ | refine p_ge ?_ | refine p_eq ?_ | refine p_ne ?_ | refine p_int ?_ | refine p_intB ?_ | refine p_abs ?_ | refine p_min ?_ | refine p_max ?_ | refine p_lenN ?_ | refine p_lenT ?_ | refine p_lenL ?_ | refine p_tupL ?_ | refine p_pow18 ?_ | refine p_idxR (by assumption) (by with_unfolding_all rfl) ?_ | refine p_idxT (by with_unfolding_all rfl) ?_ | refine p_idxL (by with_unfolding_all rfl) ?_ | refine p_idxN (by assumption) ?_ | refine ⟨_, rfl, ?_⟩ | refine p_mod (by omega) ?_ | refine p_lenI ?_ | refine p_lenW ?_ | refine p_lenRw ?_ | refine p_fdiv (lg31 (by omega)) ?_))
  rfl
end K21
namespace K21
open PySem.Spec PyProof.Rows L2 PK
theorem flat1 {α : Type} {k : Nat} {a : α} : (List.replicate k [a]).flatten = List.replicate k a := List.flatten_replicate_singleton
theorem wd1 {w k : Nat} {e : Int} (hw : 1 ≤ w) (he : 0 ≤ e ∧ e ≤ 6) : (List.replicate (w - 1) (0 : Int) ++ [e]).length = w ∧ ∀ x ∈ List.replicate (w - 1) (0 : Int) ++ [e], 0 ≤ x ∧ x ≤ 6 := by
  refine ⟨by simp; omega, fun x hx => ?_⟩
  rcases List.mem_append.mp hx with h | h
  · rw [List.eq_of_mem_replicate h]; decide
  · rw [List.mem_singleton.mp h]; exact he
theorem wd2 {w k : Nat} {e : Int} (hw : 1 ≤ w) (he : 0 ≤ e ∧ e ≤ 6) : (e :: List.replicate (w - 1) (0 : Int)).length = w ∧ ∀ x ∈ e :: List.replicate (w - 1) (0 : Int), 0 ≤ x ∧ x ≤ 6 := by
  refine ⟨by simp; omega, fun x hx => ?_⟩
  rcases List.mem_cons.mp hx with h | h
  · rw [h]; exact he
  · rw [List.eq_of_mem_replicate h]; decide
theorem law_ok (ns : List Int) : wE (pr.call 12 0 [.scr ns]) [] (fun d _ => d = .bl true) XF := by
  refine e_law ?_
  unfold ir_law
  refine s_cons (s_set ?_)
  repeat (with_reducible (first | refine s_cons ?_ | refine s_set ?_ | refine s_ret ?_ | refine s_expr ?_ | refine s_sub ?_ | refine s_nil ?_ | refine s_if ?_ | refine s_for ?_ | refine s_setC ?_ | refine s_boxC ?_ | refine s_retN ?_ | refine s_doc ?_ | refine r_var (by with_unfolding_all rfl) ?_ | refine r_int ?_ | refine r_bin ?_ | refine r_cmp ?_ | refine r_idx ?_ | refine r_cons ?_ | refine r_nil ?_ | refine r_bi ?_ | refine r_ty ?_ | refine r_call ?_ | refine r_callP ?_ | refine r_bl ?_ | refine r_tup ?_ | refine r_newL ?_ | refine r_box ?_ | refine r_cut ?_ | refine r_o0 ?_ | refine r_o1 ?_ | refine r_ife ?_ | refine r_str ?_ | refine r_non ?_ | refine r_neg ?_ | refine r_isT ?_ | refine r_app ?_ | refine r_andV ?_ | refine r_andV1 ?_ | refine r_orV ?_ | refine r_orV1 ?_ | refine r_notV ?_ | refine r_glo (by with_unfolding_all rfl) ?_ | refine t_cmp ?_ | refine t_val ?_ | refine t_and ?_ | refine t_and1 ?_ | refine t_or ?_ | refine t_or1 ?_ | refine t_not ?_ | refine c_lst ?_ | refine c_cat ?_ | refine c_rep ?_ | refine c_cut ?_ | refine c_list ?_ | refine c_lc ?_ | refine o_none ?_ | refine o_some ?_ | refine i_seq ?_ | refine i_rng1 ?_ | refine i_rng2 ?_ | refine i_revr ?_ | refine i_rev ?_ | refine i_zip ?_ | refine i_enum ?_ | refine p_add ?_ | refine p_sub ?_ | refine p_lt ?_ | refine p_le ?_ | refine p_gt ?_ | refine p_ge ?_ | refine p_eq ?_ | refine p_ne ?_ | refine p_int ?_ | refine p_intB ?_ | refine p_abs ?_ | refine p_min ?_ | refine p_max ?_ | refine p_lenN ?_ | refine p_lenT ?_ | refine p_lenL ?_ | refine p_tupL ?_ | refine p_pow18 ?_ | refine p_idxR (by assumption) (by with_unfolding_all rfl) ?_ | refine p_idxT (by with_unfolding_all rfl) ?_ | refine p_idxL (by with_unfolding_all rfl) ?_ | refine p_idxN (by assumption) ?_ | refine p_mod (by omega) ?_ | refine p_lenI ?_ | refine p_lenW ?_ | refine p_lenRw ?_ | refine p_fdiv (lg31 (by omega)) ?_))
  refine k_call [] rfl rfl ((sp_tape (n := 10) (k := 0) (by decide)).to fun d S ⟨a, b, e1, e2, ha, hb, hb2⟩ => ?_)
  subst e1 e2
  have t0 : Tp ([] ++ [.lst [.int a, .int b]]) 0 := ⟨a, b, rfl, ha, hb, hb2⟩
  generalize ([] ++ [DO.lst [.int a, .int b]]) = S at t0
  repeat (with_reducible (first | refine s_cons ?_ | refine s_set ?_ | refine s_ret ?_ | refine s_expr ?_ | refine s_sub ?_ | refine s_nil ?_ | refine s_if ?_ | refine s_for ?_ | refine s_setC ?_ | refine s_boxC ?_ | refine s_retN ?_ | refine s_doc ?_ | refine r_var (by with_unfolding_all rfl) ?_ | refine r_int ?_ | refine r_bin ?_ | refine r_cmp ?_ | refine r_idx ?_ | refine r_cons ?_ | refine r_nil ?_ | refine r_bi ?_ | refine r_ty ?_ | refine r_call ?_ | refine r_callP ?_ | refine r_bl ?_ | refine r_tup ?_ | refine r_newL ?_ | refine r_box ?_ | refine r_cut ?_ | refine r_o0 ?_ | refine r_o1 ?_ | refine r_ife ?_ | refine r_str ?_ | refine r_non ?_ | refine r_neg ?_ | refine r_isT ?_ | refine r_app ?_ | refine r_andV ?_ | refine r_andV1 ?_ | refine r_orV ?_ | refine r_orV1 ?_ | refine r_notV ?_ | refine r_glo (by with_unfolding_all rfl) ?_ | refine t_cmp ?_ | refine t_val ?_ | refine t_and ?_ | refine t_and1 ?_ | refine t_or ?_ | refine t_or1 ?_ | refine t_not ?_ | refine c_lst ?_ | refine c_cat ?_ | refine c_rep ?_ | refine c_cut ?_ | refine c_list ?_ | refine c_lc ?_ | refine o_none ?_ | refine o_some ?_ | refine i_seq ?_ | refine i_rng1 ?_ | refine i_rng2 ?_ | refine i_revr ?_ | refine i_rev ?_ | refine i_zip ?_ | refine i_enum ?_ | refine p_add ?_ | refine p_sub ?_ | refine p_lt ?_ | refine p_le ?_ | refine p_gt ?_ | refine p_ge ?_ | refine p_eq ?_ | refine p_ne ?_ | refine p_int ?_ | refine p_intB ?_ | refine p_abs ?_ | refine p_min ?_ | refine p_max ?_ | refine p_lenN ?_ | refine p_lenT ?_ | refine p_lenL ?_ | refine p_tupL ?_ | refine p_pow18 ?_ | refine p_idxR (by assumption) (by with_unfolding_all rfl) ?_ | refine p_idxT (by with_unfolding_all rfl) ?_ | refine p_idxL (by with_unfolding_all rfl) ?_ | refine p_idxN (by assumption) ?_ | refine p_mod (by omega) ?_ | refine p_lenI ?_ | refine p_lenW ?_ | refine p_lenRw ?_ | refine p_fdiv (lg31 (by omega)) ?_))
  refine k_call [] rfl rfl ((sp_pick (n := 10) t0 (by decide)).to fun d S1 ⟨v, e, v0, v1, q1⟩ => ?_)
  subst e
  repeat (with_reducible (first | refine s_cons ?_ | refine s_set ?_ | refine s_ret ?_ | refine s_expr ?_ | refine s_sub ?_ | refine s_nil ?_ | refine s_if ?_ | refine s_for ?_ | refine s_setC ?_ | refine s_boxC ?_ | refine s_retN ?_ | refine s_doc ?_ | refine r_var (by with_unfolding_all rfl) ?_ | refine r_int ?_ | refine r_bin ?_ | refine r_cmp ?_ | refine r_idx ?_ | refine r_cons ?_ | refine r_nil ?_ | refine r_bi ?_ | refine r_ty ?_ | refine r_call ?_ | refine r_callP ?_ | refine r_bl ?_ | refine r_tup ?_ | refine r_newL ?_ | refine r_box ?_ | refine r_cut ?_ | refine r_o0 ?_ | refine r_o1 ?_ | refine r_ife ?_ | refine r_str ?_ | refine r_non ?_ | refine r_neg ?_ | refine r_isT ?_ | refine r_app ?_ | refine r_andV ?_ | refine r_andV1 ?_ | refine r_orV ?_ | refine r_orV1 ?_ | refine r_notV ?_ | refine r_glo (by with_unfolding_all rfl) ?_ | refine t_cmp ?_ | refine t_val ?_ | refine t_and ?_ | refine t_and1 ?_ | refine t_or ?_ | refine t_or1 ?_ | refine t_not ?_ | refine c_lst ?_ | refine c_cat ?_ | refine c_rep ?_ | refine c_cut ?_ | refine c_list ?_ | refine c_lc ?_ | refine o_none ?_ | refine o_some ?_ | refine i_seq ?_ | refine i_rng1 ?_ | refine i_rng2 ?_ | refine i_revr ?_ | refine i_rev ?_ | refine i_zip ?_ | refine i_enum ?_ | refine p_add ?_ | refine p_sub ?_ | refine p_lt ?_ | refine p_le ?_ | refine p_gt ?_ | refine p_ge ?_ | refine p_eq ?_ | refine p_ne ?_ | refine p_int ?_ | refine p_intB ?_ | refine p_abs ?_ | refine p_min ?_ | refine p_max ?_ | refine p_lenN ?_ | refine p_lenT ?_ | refine p_lenL ?_ | refine p_tupL ?_ | refine p_pow18 ?_ | refine p_idxR (by assumption) (by with_unfolding_all rfl) ?_ | refine p_idxT (by with_unfolding_all rfl) ?_ | refine p_idxL (by with_unfolding_all rfl) ?_ | refine p_idxN (by assumption) ?_ | refine p_mod (by omega) ?_ | refine p_lenI ?_ | refine p_lenW ?_ | refine p_lenRw ?_ | refine p_fdiv (lg31 (by omega)) ?_))
  refine k_call [] rfl rfl ((sp_pick (n := 10) q1.tp (by decide)).to fun d S2 ⟨c, e, c0, c1, q2⟩ => ?_)
  subst e
  obtain ⟨w, hw, hw1⟩ : ∃ w : Nat, (1 : Int) + v = w ∧ 1 ≤ w ∧ w ≤ 3 := ⟨(1 + v).toNat, by omega, by omega, by omega⟩
  rw [hw]
  repeat (with_reducible (first | refine s_cons ?_ | refine s_set ?_ | refine s_ret ?_ | refine s_expr ?_ | refine s_sub ?_ | refine s_nil ?_ | refine s_if ?_ | refine s_for ?_ | refine s_setC ?_ | refine s_boxC ?_ | refine s_retN ?_ | refine s_doc ?_ | refine r_var (by with_unfolding_all rfl) ?_ | refine r_int ?_ | refine r_bin ?_ | refine r_cmp ?_ | refine r_idx ?_ | refine r_cons ?_ | refine r_nil ?_ | refine r_bi ?_ | refine r_ty ?_ | refine r_call ?_ | refine r_callP ?_ | refine r_bl ?_ | refine r_tup ?_ | refine r_newL ?_ | refine r_box ?_ | refine r_cut ?_ | refine r_o0 ?_ | refine r_o1 ?_ | refine r_ife ?_ | refine r_str ?_ | refine r_non ?_ | refine r_neg ?_ | refine r_isT ?_ | refine r_app ?_ | refine r_andV ?_ | refine r_andV1 ?_ | refine r_orV ?_ | refine r_orV1 ?_ | refine r_notV ?_ | refine r_glo (by with_unfolding_all rfl) ?_ | refine t_cmp ?_ | refine t_val ?_ | refine t_and ?_ | refine t_and1 ?_ | refine t_or ?_ | refine t_or1 ?_ | refine t_not ?_ | refine c_lst ?_ | refine c_cat ?_ | refine c_rep ?_ | refine c_cut ?_ | refine c_list ?_ | refine c_lc ?_ | refine o_none ?_ | refine o_some ?_ | refine i_seq ?_ | refine i_rng1 ?_ | refine i_rng2 ?_ | refine i_revr ?_ | refine i_rev ?_ | refine i_zip ?_ | refine i_enum ?_ | refine p_add ?_ | refine p_sub ?_ | refine p_lt ?_ | refine p_le ?_ | refine p_gt ?_ | refine p_ge ?_ | refine p_eq ?_ | refine p_ne ?_ | refine p_int ?_ | refine p_intB ?_ | refine p_abs ?_ | refine p_min ?_ | refine p_max ?_ | refine p_lenN ?_ | refine p_lenT ?_ | refine p_lenL ?_ | refine p_tupL ?_ | refine p_pow18 ?_ | refine p_idxR (by assumption) (by with_unfolding_all rfl) ?_ | refine p_idxT (by with_unfolding_all rfl) ?_ | refine p_idxL (by with_unfolding_all rfl) ?_ | refine p_idxN (by assumption) ?_ | refine p_mod (by omega) ?_ | refine p_lenI ?_ | refine p_lenW ?_ | refine p_lenRw ?_ | refine p_fdiv (lg31 (by omega)) ?_))
  refine k_call [] rfl rfl ((sp_word (n := 9) q2.tp hw1.2).to fun d S3 ⟨W, e, hW, q3⟩ => ?_)
  subst e
  have t3 := q3.tp
  clear q1 q2 q3 t0
  refine s_cut (fun E S' => ∃ W, E = [some (.scr ns), some (.ref 0), some (.int w), some (.int c), some (dW W), none, none, none, none, none, none, none, none, none] ∧ Wd w W ∧ Tp S' 0) ?_ ?_
  · repeat (with_reducible (first | refine s_cons ?_ | refine s_set ?_ | refine s_ret ?_ | refine s_expr ?_ | refine s_sub ?_ | refine s_nil ?_ | refine s_if ?_ | refine s_for ?_ | refine s_setC ?_ | refine s_boxC ?_ | refine s_retN ?_ | refine s_doc ?_ | refine r_var (by with_unfolding_all rfl) ?_ | refine r_int ?_ | refine r_bin ?_ | refine r_cmp ?_ | refine r_idx ?_ | refine r_cons ?_ | refine r_nil ?_ | refine r_bi ?_ | refine r_ty ?_ | refine r_call ?_ | refine r_callP ?_ | refine r_bl ?_ | refine r_tup ?_ | refine r_newL ?_ | refine r_box ?_ | refine r_cut ?_ | refine r_o0 ?_ | refine r_o1 ?_ | refine r_ife ?_ | refine r_str ?_ | refine r_non ?_ | refine r_neg ?_ | refine r_isT ?_ | refine r_app ?_ | refine r_andV ?_ | refine r_andV1 ?_ | refine r_orV ?_ | refine r_orV1 ?_ | refine r_notV ?_ | refine r_glo (by with_unfolding_all rfl) ?_ | refine t_cmp ?_ | refine t_val ?_ | refine t_and ?_ | refine t_and1 ?_ | refine t_or ?_ | refine t_or1 ?_ | refine t_not ?_ | refine c_lst ?_ | refine c_cat ?_ | refine c_rep ?_ | refine c_cut ?_ | refine c_list ?_ | refine c_lc ?_ | refine o_none ?_ | refine o_some ?_ | refine i_seq ?_ | refine i_rng1 ?_ | refine i_rng2 ?_ | refine i_revr ?_ | refine i_rev ?_ | refine i_zip ?_ | refine i_enum ?_ | refine p_add ?_ | refine p_sub ?_ | refine p_lt ?_ | refine p_le ?_ | refine p_gt ?_ | refine p_ge ?_ | refine p_eq ?_ | refine p_ne ?_ | refine p_int ?_ | refine p_intB ?_ | refine p_abs ?_ | refine p_min ?_ | refine p_max ?_ | refine p_lenN ?_ | refine p_lenT ?_ | refine p_lenL ?_ | refine p_tupL ?_ | refine p_pow18 ?_ | refine p_idxR (by assumption) (by with_unfolding_all rfl) ?_ | refine p_idxT (by with_unfolding_all rfl) ?_ | refine p_idxL (by with_unfolding_all rfl) ?_ | refine p_idxN (by assumption) ?_ | refine p_mod (by omega) ?_ | refine p_lenI ?_ | refine p_lenW ?_ | refine p_lenRw ?_ | refine p_fdiv (lg31 (by omega)) ?_))
    refine ⟨_, rfl, fun _ => ?_, fun _ => ?_⟩
    · repeat (with_reducible (first | refine s_cons ?_ | refine s_set ?_ | refine s_ret ?_ | refine s_expr ?_ | refine s_sub ?_ | refine s_nil ?_ | refine s_if ?_ | refine s_for ?_ | refine s_setC ?_ | refine s_boxC ?_ | refine s_retN ?_ | refine s_doc ?_ | refine r_var (by with_unfolding_all rfl) ?_ | refine r_int ?_ | refine r_bin ?_ | refine r_cmp ?_ | refine r_idx ?_ | refine r_cons ?_ | refine r_nil ?_ | refine r_bi ?_ | refine r_ty ?_ | refine r_call ?_ | refine r_callP ?_ | refine r_bl ?_ | refine r_tup ?_ | refine r_newL ?_ | refine r_box ?_ | refine r_cut ?_ | refine r_o0 ?_ | refine r_o1 ?_ | refine r_ife ?_ | refine r_str ?_ | refine r_non ?_ | refine r_neg ?_ | refine r_isT ?_ | refine r_app ?_ | refine r_andV ?_ | refine r_andV1 ?_ | refine r_orV ?_ | refine r_orV1 ?_ | refine r_notV ?_ | refine r_glo (by with_unfolding_all rfl) ?_ | refine t_cmp ?_ | refine t_val ?_ | refine t_and ?_ | refine t_and1 ?_ | refine t_or ?_ | refine t_or1 ?_ | refine t_not ?_ | refine c_lst ?_ | refine c_cat ?_ | refine c_rep ?_ | refine c_cut ?_ | refine c_list ?_ | refine c_lc ?_ | refine o_none ?_ | refine o_some ?_ | refine i_seq ?_ | refine i_rng1 ?_ | refine i_rng2 ?_ | refine i_revr ?_ | refine i_rev ?_ | refine i_zip ?_ | refine i_enum ?_ | refine p_add ?_ | refine p_sub ?_ | refine p_lt ?_ | refine p_le ?_ | refine p_gt ?_ | refine p_ge ?_ | refine p_eq ?_ | refine p_ne ?_ | refine p_int ?_ | refine p_intB ?_ | refine p_abs ?_ | refine p_min ?_ | refine p_max ?_ | refine p_lenN ?_ | refine p_lenT ?_ | refine p_lenL ?_ | refine p_tupL ?_ | refine p_pow18 ?_ | refine p_idxR (by assumption) (by with_unfolding_all rfl) ?_ | refine p_idxT (by with_unfolding_all rfl) ?_ | refine p_idxL (by with_unfolding_all rfl) ?_ | refine p_idxN (by assumption) ?_ | refine p_mod (by omega) ?_ | refine p_lenI ?_ | refine p_lenW ?_ | refine p_lenRw ?_ | refine p_fdiv (lg31 (by omega)) ?_))
      refine ⟨by simp, ?_⟩
      repeat (with_reducible (first | refine s_cons ?_ | refine s_set ?_ | refine s_ret ?_ | refine s_expr ?_ | refine s_sub ?_ | refine s_nil ?_ | refine s_if ?_ | refine s_for ?_ | refine s_setC ?_ | refine s_boxC ?_ | refine s_retN ?_ | refine s_doc ?_ | refine r_var (by with_unfolding_all rfl) ?_ | refine r_int ?_ | refine r_bin ?_ | refine r_cmp ?_ | refine r_idx ?_ | refine r_cons ?_ | refine r_nil ?_ | refine r_bi ?_ | refine r_ty ?_ | refine r_call ?_ | refine r_callP ?_ | refine r_bl ?_ | refine r_tup ?_ | refine r_newL ?_ | refine r_box ?_ | refine r_cut ?_ | refine r_o0 ?_ | refine r_o1 ?_ | refine r_ife ?_ | refine r_str ?_ | refine r_non ?_ | refine r_neg ?_ | refine r_isT ?_ | refine r_app ?_ | refine r_andV ?_ | refine r_andV1 ?_ | refine r_orV ?_ | refine r_orV1 ?_ | refine r_notV ?_ | refine r_glo (by with_unfolding_all rfl) ?_ | refine t_cmp ?_ | refine t_val ?_ | refine t_and ?_ | refine t_and1 ?_ | refine t_or ?_ | refine t_or1 ?_ | refine t_not ?_ | refine c_lst ?_ | refine c_cat ?_ | refine c_rep ?_ | refine c_cut ?_ | refine c_list ?_ | refine c_lc ?_ | refine o_none ?_ | refine o_some ?_ | refine i_seq ?_ | refine i_rng1 ?_ | refine i_rng2 ?_ | refine i_revr ?_ | refine i_rev ?_ | refine i_zip ?_ | refine i_enum ?_ | refine p_add ?_ | refine p_sub ?_ | refine p_lt ?_ | refine p_le ?_ | refine p_gt ?_ | refine p_ge ?_ | refine p_eq ?_ | refine p_ne ?_ | refine p_int ?_ | refine p_intB ?_ | refine p_abs ?_ | refine p_min ?_ | refine p_max ?_ | refine p_lenN ?_ | refine p_lenT ?_ | refine p_lenL ?_ | refine p_tupL ?_ | refine p_pow18 ?_ | refine p_idxR (by assumption) (by with_unfolding_all rfl) ?_ | refine p_idxT (by with_unfolding_all rfl) ?_ | refine p_idxL (by with_unfolding_all rfl) ?_ | refine p_idxN (by assumption) ?_ | refine p_mod (by omega) ?_ | refine p_lenI ?_ | refine p_lenW ?_ | refine p_lenRw ?_ | refine p_fdiv (lg31 (by omega)) ?_))
      refine ⟨_, _, rfl, rfl, ⟨by omega, by omega, by simp; omega⟩, _, rfl, ?_⟩
      repeat (with_reducible (first | refine s_cons ?_ | refine s_set ?_ | refine s_ret ?_ | refine s_expr ?_ | refine s_sub ?_ | refine s_nil ?_ | refine s_if ?_ | refine s_for ?_ | refine s_setC ?_ | refine s_boxC ?_ | refine s_retN ?_ | refine s_doc ?_ | refine r_var (by with_unfolding_all rfl) ?_ | refine r_int ?_ | refine r_bin ?_ | refine r_cmp ?_ | refine r_idx ?_ | refine r_cons ?_ | refine r_nil ?_ | refine r_bi ?_ | refine r_ty ?_ | refine r_call ?_ | refine r_callP ?_ | refine r_bl ?_ | refine r_tup ?_ | refine r_newL ?_ | refine r_box ?_ | refine r_cut ?_ | refine r_o0 ?_ | refine r_o1 ?_ | refine r_ife ?_ | refine r_str ?_ | refine r_non ?_ | refine r_neg ?_ | refine r_isT ?_ | refine r_app ?_ | refine r_andV ?_ | refine r_andV1 ?_ | refine r_orV ?_ | refine r_orV1 ?_ | refine r_notV ?_ | refine r_glo (by with_unfolding_all rfl) ?_ | refine t_cmp ?_ | refine t_val ?_ | refine t_and ?_ | refine t_and1 ?_ | refine t_or ?_ | refine t_or1 ?_ | refine t_not ?_ | refine c_lst ?_ | refine c_cat ?_ | refine c_rep ?_ | refine c_cut ?_ | refine c_list ?_ | refine c_lc ?_ | refine o_none ?_ | refine o_some ?_ | refine i_seq ?_ | refine i_rng1 ?_ | refine i_rng2 ?_ | refine i_revr ?_ | refine i_rev ?_ | refine i_zip ?_ | refine i_enum ?_ | refine p_add ?_ | refine p_sub ?_ | refine p_lt ?_ | refine p_le ?_ | refine p_gt ?_ | refine p_ge ?_ | refine p_eq ?_ | refine p_ne ?_ | refine p_int ?_ | refine p_intB ?_ | refine p_abs ?_ | refine p_min ?_ | refine p_max ?_ | refine p_lenN ?_ | refine p_lenT ?_ | refine p_lenL ?_ | refine p_tupL ?_ | refine p_pow18 ?_ | refine p_idxR (by assumption) (by with_unfolding_all rfl) ?_ | refine p_idxT (by with_unfolding_all rfl) ?_ | refine p_idxL (by with_unfolding_all rfl) ?_ | refine p_idxN (by assumption) ?_ | refine p_mod (by omega) ?_ | refine p_lenI ?_ | refine p_lenW ?_ | refine p_lenRw ?_ | refine p_fdiv (lg31 (by omega)) ?_))
      refine ⟨by simp, _, rfl, _, _, rfl, rfl, by simp [List.length_flatten]; omega, _, rfl, ?_⟩
      repeat (with_reducible (first | refine s_cons ?_ | refine s_set ?_ | refine s_ret ?_ | refine s_expr ?_ | refine s_sub ?_ | refine s_nil ?_ | refine s_if ?_ | refine s_for ?_ | refine s_setC ?_ | refine s_boxC ?_ | refine s_retN ?_ | refine s_doc ?_ | refine r_var (by with_unfolding_all rfl) ?_ | refine r_int ?_ | refine r_bin ?_ | refine r_cmp ?_ | refine r_idx ?_ | refine r_cons ?_ | refine r_nil ?_ | refine r_bi ?_ | refine r_ty ?_ | refine r_call ?_ | refine r_callP ?_ | refine r_bl ?_ | refine r_tup ?_ | refine r_newL ?_ | refine r_box ?_ | refine r_cut ?_ | refine r_o0 ?_ | refine r_o1 ?_ | refine r_ife ?_ | refine r_str ?_ | refine r_non ?_ | refine r_neg ?_ | refine r_isT ?_ | refine r_app ?_ | refine r_andV ?_ | refine r_andV1 ?_ | refine r_orV ?_ | refine r_orV1 ?_ | refine r_notV ?_ | refine r_glo (by with_unfolding_all rfl) ?_ | refine t_cmp ?_ | refine t_val ?_ | refine t_and ?_ | refine t_and1 ?_ | refine t_or ?_ | refine t_or1 ?_ | refine t_not ?_ | refine c_lst ?_ | refine c_cat ?_ | refine c_rep ?_ | refine c_cut ?_ | refine c_list ?_ | refine c_lc ?_ | refine o_none ?_ | refine o_some ?_ | refine i_seq ?_ | refine i_rng1 ?_ | refine i_rng2 ?_ | refine i_revr ?_ | refine i_rev ?_ | refine i_zip ?_ | refine i_enum ?_ | refine p_add ?_ | refine p_sub ?_ | refine p_lt ?_ | refine p_le ?_ | refine p_gt ?_ | refine p_ge ?_ | refine p_eq ?_ | refine p_ne ?_ | refine p_int ?_ | refine p_intB ?_ | refine p_abs ?_ | refine p_min ?_ | refine p_max ?_ | refine p_lenN ?_ | refine p_lenT ?_ | refine p_lenL ?_ | refine p_tupL ?_ | refine p_pow18 ?_ | refine p_idxR (by assumption) (by with_unfolding_all rfl) ?_ | refine p_idxT (by with_unfolding_all rfl) ?_ | refine p_idxL (by with_unfolding_all rfl) ?_ | refine p_idxN (by assumption) ?_ | refine p_mod (by omega) ?_ | refine p_lenI ?_ | refine p_lenW ?_ | refine p_lenRw ?_ | refine p_fdiv (lg31 (by omega)) ?_))
      refine ⟨by simp, ?_⟩
      repeat (with_reducible (first | refine s_cons ?_ | refine s_set ?_ | refine s_ret ?_ | refine s_expr ?_ | refine s_sub ?_ | refine s_nil ?_ | refine s_if ?_ | refine s_for ?_ | refine s_setC ?_ | refine s_boxC ?_ | refine s_retN ?_ | refine s_doc ?_ | refine r_var (by with_unfolding_all rfl) ?_ | refine r_int ?_ | refine r_bin ?_ | refine r_cmp ?_ | refine r_idx ?_ | refine r_cons ?_ | refine r_nil ?_ | refine r_bi ?_ | refine r_ty ?_ | refine r_call ?_ | refine r_callP ?_ | refine r_bl ?_ | refine r_tup ?_ | refine r_newL ?_ | refine r_box ?_ | refine r_cut ?_ | refine r_o0 ?_ | refine r_o1 ?_ | refine r_ife ?_ | refine r_str ?_ | refine r_non ?_ | refine r_neg ?_ | refine r_isT ?_ | refine r_app ?_ | refine r_andV ?_ | refine r_andV1 ?_ | refine r_orV ?_ | refine r_orV1 ?_ | refine r_notV ?_ | refine r_glo (by with_unfolding_all rfl) ?_ | refine t_cmp ?_ | refine t_val ?_ | refine t_and ?_ | refine t_and1 ?_ | refine t_or ?_ | refine t_or1 ?_ | refine t_not ?_ | refine c_lst ?_ | refine c_cat ?_ | refine c_rep ?_ | refine c_cut ?_ | refine c_list ?_ | refine c_lc ?_ | refine o_none ?_ | refine o_some ?_ | refine i_seq ?_ | refine i_rng1 ?_ | refine i_rng2 ?_ | refine i_revr ?_ | refine i_rev ?_ | refine i_zip ?_ | refine i_enum ?_ | refine p_add ?_ | refine p_sub ?_ | refine p_lt ?_ | refine p_le ?_ | refine p_gt ?_ | refine p_ge ?_ | refine p_eq ?_ | refine p_ne ?_ | refine p_int ?_ | refine p_intB ?_ | refine p_abs ?_ | refine p_min ?_ | refine p_max ?_ | refine p_lenN ?_ | refine p_lenT ?_ | refine p_lenL ?_ | refine p_tupL ?_ | refine p_pow18 ?_ | refine p_idxR (by assumption) (by with_unfolding_all rfl) ?_ | refine p_idxT (by with_unfolding_all rfl) ?_ | refine p_idxL (by with_unfolding_all rfl) ?_ | refine p_idxN (by assumption) ?_ | refine p_mod (by omega) ?_ | refine p_lenI ?_ | refine p_lenW ?_ | refine p_lenRw ?_ | refine p_fdiv (lg31 (by omega)) ?_))
      refine ⟨[List.replicate (w - 1) 0 ++ [6]], ?_, ⟨by simp, fun m hm => ?_⟩, t3⟩
      · rw [flat1, show ((w : Int) - 1).toNat = w - 1 by omega]
        simp [dW, dI]
      · rw [List.mem_singleton.mp hm]
        exact wd1 (k := 0) hw1.1 (by decide)
    · repeat (with_reducible (first | refine s_cons ?_ | refine s_set ?_ | refine s_ret ?_ | refine s_expr ?_ | refine s_sub ?_ | refine s_nil ?_ | refine s_if ?_ | refine s_for ?_ | refine s_setC ?_ | refine s_boxC ?_ | refine s_retN ?_ | refine s_doc ?_ | refine r_var (by with_unfolding_all rfl) ?_ | refine r_int ?_ | refine r_bin ?_ | refine r_cmp ?_ | refine r_idx ?_ | refine r_cons ?_ | refine r_nil ?_ | refine r_bi ?_ | refine r_ty ?_ | refine r_call ?_ | refine r_callP ?_ | refine r_bl ?_ | refine r_tup ?_ | refine r_newL ?_ | refine r_box ?_ | refine r_cut ?_ | refine r_o0 ?_ | refine r_o1 ?_ | refine r_ife ?_ | refine r_str ?_ | refine r_non ?_ | refine r_neg ?_ | refine r_isT ?_ | refine r_app ?_ | refine r_andV ?_ | refine r_andV1 ?_ | refine r_orV ?_ | refine r_orV1 ?_ | refine r_notV ?_ | refine r_glo (by with_unfolding_all rfl) ?_ | refine t_cmp ?_ | refine t_val ?_ | refine t_and ?_ | refine t_and1 ?_ | refine t_or ?_ | refine t_or1 ?_ | refine t_not ?_ | refine c_lst ?_ | refine c_cat ?_ | refine c_rep ?_ | refine c_cut ?_ | refine c_list ?_ | refine c_lc ?_ | refine o_none ?_ | refine o_some ?_ | refine i_seq ?_ | refine i_rng1 ?_ | refine i_rng2 ?_ | refine i_revr ?_ | refine i_rev ?_ | refine i_zip ?_ | refine i_enum ?_ | refine p_add ?_ | refine p_sub ?_ | refine p_lt ?_ | refine p_le ?_ | refine p_gt ?_ | refine p_ge ?_ | refine p_eq ?_ | refine p_ne ?_ | refine p_int ?_ | refine p_intB ?_ | refine p_abs ?_ | refine p_min ?_ | refine p_max ?_ | refine p_lenN ?_ | refine p_lenT ?_ | refine p_lenL ?_ | refine p_tupL ?_ | refine p_pow18 ?_ | refine p_idxR (by assumption) (by with_unfolding_all rfl) ?_ | refine p_idxT (by with_unfolding_all rfl) ?_ | refine p_idxL (by with_unfolding_all rfl) ?_ | refine p_idxN (by assumption) ?_ | refine p_mod (by omega) ?_ | refine p_lenI ?_ | refine p_lenW ?_ | refine p_lenRw ?_ | refine p_fdiv (lg31 (by omega)) ?_))
      exact ⟨W, rfl, hW, t3⟩
  rintro E S4 ⟨W, rfl, hW, t4⟩
  refine s_cut (fun E S' => ∃ W o9, E = [some (.scr ns), some (.ref 0), some (.int w), some (.int c), some (dW W), none, none, none, none, o9, none, none, none, none] ∧ Wd w W ∧ Tp S' 0) ?_ ?_
  · repeat (with_reducible (first | refine s_cons ?_ | refine s_set ?_ | refine s_ret ?_ | refine s_expr ?_ | refine s_sub ?_ | refine s_nil ?_ | refine s_if ?_ | refine s_for ?_ | refine s_setC ?_ | refine s_boxC ?_ | refine s_retN ?_ | refine s_doc ?_ | refine r_var (by with_unfolding_all rfl) ?_ | refine r_int ?_ | refine r_bin ?_ | refine r_cmp ?_ | refine r_idx ?_ | refine r_cons ?_ | refine r_nil ?_ | refine r_bi ?_ | refine r_ty ?_ | refine r_call ?_ | refine r_callP ?_ | refine r_bl ?_ | refine r_tup ?_ | refine r_newL ?_ | refine r_box ?_ | refine r_cut ?_ | refine r_o0 ?_ | refine r_o1 ?_ | refine r_ife ?_ | refine r_str ?_ | refine r_non ?_ | refine r_neg ?_ | refine r_isT ?_ | refine r_app ?_ | refine r_andV ?_ | refine r_andV1 ?_ | refine r_orV ?_ | refine r_orV1 ?_ | refine r_notV ?_ | refine r_glo (by with_unfolding_all rfl) ?_ | refine t_cmp ?_ | refine t_val ?_ | refine t_and ?_ | refine t_and1 ?_ | refine t_or ?_ | refine t_or1 ?_ | refine t_not ?_ | refine c_lst ?_ | refine c_cat ?_ | refine c_rep ?_ | refine c_cut ?_ | refine c_list ?_ | refine c_lc ?_ | refine o_none ?_ | refine o_some ?_ | refine i_seq ?_ | refine i_rng1 ?_ | refine i_rng2 ?_ | refine i_revr ?_ | refine i_rev ?_ | refine i_zip ?_ | refine i_enum ?_ | refine p_add ?_ | refine p_sub ?_ | refine p_lt ?_ | refine p_le ?_ | refine p_gt ?_ | refine p_ge ?_ | refine p_eq ?_ | refine p_ne ?_ | refine p_int ?_ | refine p_intB ?_ | refine p_abs ?_ | refine p_min ?_ | refine p_max ?_ | refine p_lenN ?_ | refine p_lenT ?_ | refine p_lenL ?_ | refine p_tupL ?_ | refine p_pow18 ?_ | refine p_idxR (by assumption) (by with_unfolding_all rfl) ?_ | refine p_idxT (by with_unfolding_all rfl) ?_ | refine p_idxL (by with_unfolding_all rfl) ?_ | refine p_idxN (by assumption) ?_ | refine p_mod (by omega) ?_ | refine p_lenI ?_ | refine p_lenW ?_ | refine p_lenRw ?_ | refine p_fdiv (lg31 (by omega)) ?_))
    refine ⟨_, rfl, fun _ => ?_, fun _ => ?_⟩
    · repeat (with_reducible (first | refine s_cons ?_ | refine s_set ?_ | refine s_ret ?_ | refine s_expr ?_ | refine s_sub ?_ | refine s_nil ?_ | refine s_if ?_ | refine s_for ?_ | refine s_setC ?_ | refine s_boxC ?_ | refine s_retN ?_ | refine s_doc ?_ | refine r_var (by with_unfolding_all rfl) ?_ | refine r_int ?_ | refine r_bin ?_ | refine r_cmp ?_ | refine r_idx ?_ | refine r_cons ?_ | refine r_nil ?_ | refine r_bi ?_ | refine r_ty ?_ | refine r_call ?_ | refine r_callP ?_ | refine r_bl ?_ | refine r_tup ?_ | refine r_newL ?_ | refine r_box ?_ | refine r_cut ?_ | refine r_o0 ?_ | refine r_o1 ?_ | refine r_ife ?_ | refine r_str ?_ | refine r_non ?_ | refine r_neg ?_ | refine r_isT ?_ | refine r_app ?_ | refine r_andV ?_ | refine r_andV1 ?_ | refine r_orV ?_ | refine r_orV1 ?_ | refine r_notV ?_ | refine r_glo (by with_unfolding_all rfl) ?_ | refine t_cmp ?_ | refine t_val ?_ | refine t_and ?_ | refine t_and1 ?_ | refine t_or ?_ | refine t_or1 ?_ | refine t_not ?_ | refine c_lst ?_ | refine c_cat ?_ | refine c_rep ?_ | refine c_cut ?_ | refine c_list ?_ | refine c_lc ?_ | refine o_none ?_ | refine o_some ?_ | refine i_seq ?_ | refine i_rng1 ?_ | refine i_rng2 ?_ | refine i_revr ?_ | refine i_rev ?_ | refine i_zip ?_ | refine i_enum ?_ | refine p_add ?_ | refine p_sub ?_ | refine p_lt ?_ | refine p_le ?_ | refine p_gt ?_ | refine p_ge ?_ | refine p_eq ?_ | refine p_ne ?_ | refine p_int ?_ | refine p_intB ?_ | refine p_abs ?_ | refine p_min ?_ | refine p_max ?_ | refine p_lenN ?_ | refine p_lenT ?_ | refine p_lenL ?_ | refine p_tupL ?_ | refine p_pow18 ?_ | refine p_idxR (by assumption) (by with_unfolding_all rfl) ?_ | refine p_idxT (by with_unfolding_all rfl) ?_ | refine p_idxL (by with_unfolding_all rfl) ?_ | refine p_idxN (by assumption) ?_ | refine p_mod (by omega) ?_ | refine p_lenI ?_ | refine p_lenW ?_ | refine p_lenRw ?_ | refine p_fdiv (lg31 (by omega)) ?_))
      refine k_call [] rfl rfl ((sp_pick (n := 10) t4 (by decide)).to fun d S5 ⟨h, e, h0, h1, q⟩ => ?_)
      subst e
      repeat (with_reducible (first | refine s_cons ?_ | refine s_set ?_ | refine s_ret ?_ | refine s_expr ?_ | refine s_sub ?_ | refine s_nil ?_ | refine s_if ?_ | refine s_for ?_ | refine s_setC ?_ | refine s_boxC ?_ | refine s_retN ?_ | refine s_doc ?_ | refine r_var (by with_unfolding_all rfl) ?_ | refine r_int ?_ | refine r_bin ?_ | refine r_cmp ?_ | refine r_idx ?_ | refine r_cons ?_ | refine r_nil ?_ | refine r_bi ?_ | refine r_ty ?_ | refine r_call ?_ | refine r_callP ?_ | refine r_bl ?_ | refine r_tup ?_ | refine r_newL ?_ | refine r_box ?_ | refine r_cut ?_ | refine r_o0 ?_ | refine r_o1 ?_ | refine r_ife ?_ | refine r_str ?_ | refine r_non ?_ | refine r_neg ?_ | refine r_isT ?_ | refine r_app ?_ | refine r_andV ?_ | refine r_andV1 ?_ | refine r_orV ?_ | refine r_orV1 ?_ | refine r_notV ?_ | refine r_glo (by with_unfolding_all rfl) ?_ | refine t_cmp ?_ | refine t_val ?_ | refine t_and ?_ | refine t_and1 ?_ | refine t_or ?_ | refine t_or1 ?_ | refine t_not ?_ | refine c_lst ?_ | refine c_cat ?_ | refine c_rep ?_ | refine c_cut ?_ | refine c_list ?_ | refine c_lc ?_ | refine o_none ?_ | refine o_some ?_ | refine i_seq ?_ | refine i_rng1 ?_ | refine i_rng2 ?_ | refine i_revr ?_ | refine i_rev ?_ | refine i_zip ?_ | refine i_enum ?_ | refine p_add ?_ | refine p_sub ?_ | refine p_lt ?_ | refine p_le ?_ | refine p_gt ?_ | refine p_ge ?_ | refine p_eq ?_ | refine p_ne ?_ | refine p_int ?_ | refine p_intB ?_ | refine p_abs ?_ | refine p_min ?_ | refine p_max ?_ | refine p_lenN ?_ | refine p_lenT ?_ | refine p_lenL ?_ | refine p_tupL ?_ | refine p_pow18 ?_ | refine p_idxR (by assumption) (by with_unfolding_all rfl) ?_ | refine p_idxT (by with_unfolding_all rfl) ?_ | refine p_idxL (by with_unfolding_all rfl) ?_ | refine p_idxN (by assumption) ?_ | refine p_mod (by omega) ?_ | refine p_lenI ?_ | refine p_lenW ?_ | refine p_lenRw ?_ | refine p_fdiv (lg31 (by omega)) ?_))
      refine ⟨by simp, _, rfl, ?_⟩
      repeat (with_reducible (first | refine s_cons ?_ | refine s_set ?_ | refine s_ret ?_ | refine s_expr ?_ | refine s_sub ?_ | refine s_nil ?_ | refine s_if ?_ | refine s_for ?_ | refine s_setC ?_ | refine s_boxC ?_ | refine s_retN ?_ | refine s_doc ?_ | refine r_var (by with_unfolding_all rfl) ?_ | refine r_int ?_ | refine r_bin ?_ | refine r_cmp ?_ | refine r_idx ?_ | refine r_cons ?_ | refine r_nil ?_ | refine r_bi ?_ | refine r_ty ?_ | refine r_call ?_ | refine r_callP ?_ | refine r_bl ?_ | refine r_tup ?_ | refine r_newL ?_ | refine r_box ?_ | refine r_cut ?_ | refine r_o0 ?_ | refine r_o1 ?_ | refine r_ife ?_ | refine r_str ?_ | refine r_non ?_ | refine r_neg ?_ | refine r_isT ?_ | refine r_app ?_ | refine r_andV ?_ | refine r_andV1 ?_ | refine r_orV ?_ | refine r_orV1 ?_ | refine r_notV ?_ | refine r_glo (by with_unfolding_all rfl) ?_ | refine t_cmp ?_ | refine t_val ?_ | refine t_and ?_ | refine t_and1 ?_ | refine t_or ?_ | refine t_or1 ?_ | refine t_not ?_ | refine c_lst ?_ | refine c_cat ?_ | refine c_rep ?_ | refine c_cut ?_ | refine c_list ?_ | refine c_lc ?_ | refine o_none ?_ | refine o_some ?_ | refine i_seq ?_ | refine i_rng1 ?_ | refine i_rng2 ?_ | refine i_revr ?_ | refine i_rev ?_ | refine i_zip ?_ | refine i_enum ?_ | refine p_add ?_ | refine p_sub ?_ | refine p_lt ?_ | refine p_le ?_ | refine p_gt ?_ | refine p_ge ?_ | refine p_eq ?_ | refine p_ne ?_ | refine p_int ?_ | refine p_intB ?_ | refine p_abs ?_ | refine p_min ?_ | refine p_max ?_ | refine p_lenN ?_ | refine p_lenT ?_ | refine p_lenL ?_ | refine p_tupL ?_ | refine p_pow18 ?_ | refine p_idxR (by assumption) (by with_unfolding_all rfl) ?_ | refine p_idxT (by with_unfolding_all rfl) ?_ | refine p_idxL (by with_unfolding_all rfl) ?_ | refine p_idxN (by assumption) ?_ | refine p_mod (by omega) ?_ | refine p_lenI ?_ | refine p_lenW ?_ | refine p_lenRw ?_ | refine p_fdiv (lg31 (by omega)) ?_))
      refine ⟨by simp, ?_⟩
      repeat (with_reducible (first | refine s_cons ?_ | refine s_set ?_ | refine s_ret ?_ | refine s_expr ?_ | refine s_sub ?_ | refine s_nil ?_ | refine s_if ?_ | refine s_for ?_ | refine s_setC ?_ | refine s_boxC ?_ | refine s_retN ?_ | refine s_doc ?_ | refine r_var (by with_unfolding_all rfl) ?_ | refine r_int ?_ | refine r_bin ?_ | refine r_cmp ?_ | refine r_idx ?_ | refine r_cons ?_ | refine r_nil ?_ | refine r_bi ?_ | refine r_ty ?_ | refine r_call ?_ | refine r_callP ?_ | refine r_bl ?_ | refine r_tup ?_ | refine r_newL ?_ | refine r_box ?_ | refine r_cut ?_ | refine r_o0 ?_ | refine r_o1 ?_ | refine r_ife ?_ | refine r_str ?_ | refine r_non ?_ | refine r_neg ?_ | refine r_isT ?_ | refine r_app ?_ | refine r_andV ?_ | refine r_andV1 ?_ | refine r_orV ?_ | refine r_orV1 ?_ | refine r_notV ?_ | refine r_glo (by with_unfolding_all rfl) ?_ | refine t_cmp ?_ | refine t_val ?_ | refine t_and ?_ | refine t_and1 ?_ | refine t_or ?_ | refine t_or1 ?_ | refine t_not ?_ | refine c_lst ?_ | refine c_cat ?_ | refine c_rep ?_ | refine c_cut ?_ | refine c_list ?_ | refine c_lc ?_ | refine o_none ?_ | refine o_some ?_ | refine i_seq ?_ | refine i_rng1 ?_ | refine i_rng2 ?_ | refine i_revr ?_ | refine i_rev ?_ | refine i_zip ?_ | refine i_enum ?_ | refine p_add ?_ | refine p_sub ?_ | refine p_lt ?_ | refine p_le ?_ | refine p_gt ?_ | refine p_ge ?_ | refine p_eq ?_ | refine p_ne ?_ | refine p_int ?_ | refine p_intB ?_ | refine p_abs ?_ | refine p_min ?_ | refine p_max ?_ | refine p_lenN ?_ | refine p_lenT ?_ | refine p_lenL ?_ | refine p_tupL ?_ | refine p_pow18 ?_ | refine p_idxR (by assumption) (by with_unfolding_all rfl) ?_ | refine p_idxT (by with_unfolding_all rfl) ?_ | refine p_idxL (by with_unfolding_all rfl) ?_ | refine p_idxN (by assumption) ?_ | refine p_mod (by omega) ?_ | refine p_lenI ?_ | refine p_lenW ?_ | refine p_lenRw ?_ | refine p_fdiv (lg31 (by omega)) ?_))
      refine ⟨_, _, rfl, rfl, ⟨by omega, by omega, by simp; omega⟩, _, rfl, ?_⟩
      refine ⟨_, _, rfl, rfl, by simp [List.length_flatten]; omega, _, rfl, ?_⟩
      repeat (with_reducible (first | refine s_cons ?_ | refine s_set ?_ | refine s_ret ?_ | refine s_expr ?_ | refine s_sub ?_ | refine s_nil ?_ | refine s_if ?_ | refine s_for ?_ | refine s_setC ?_ | refine s_boxC ?_ | refine s_retN ?_ | refine s_doc ?_ | refine r_var (by with_unfolding_all rfl) ?_ | refine r_int ?_ | refine r_bin ?_ | refine r_cmp ?_ | refine r_idx ?_ | refine r_cons ?_ | refine r_nil ?_ | refine r_bi ?_ | refine r_ty ?_ | refine r_call ?_ | refine r_callP ?_ | refine r_bl ?_ | refine r_tup ?_ | refine r_newL ?_ | refine r_box ?_ | refine r_cut ?_ | refine r_o0 ?_ | refine r_o1 ?_ | refine r_ife ?_ | refine r_str ?_ | refine r_non ?_ | refine r_neg ?_ | refine r_isT ?_ | refine r_app ?_ | refine r_andV ?_ | refine r_andV1 ?_ | refine r_orV ?_ | refine r_orV1 ?_ | refine r_notV ?_ | refine r_glo (by with_unfolding_all rfl) ?_ | refine t_cmp ?_ | refine t_val ?_ | refine t_and ?_ | refine t_and1 ?_ | refine t_or ?_ | refine t_or1 ?_ | refine t_not ?_ | refine c_lst ?_ | refine c_cat ?_ | refine c_rep ?_ | refine c_cut ?_ | refine c_list ?_ | refine c_lc ?_ | refine o_none ?_ | refine o_some ?_ | refine i_seq ?_ | refine i_rng1 ?_ | refine i_rng2 ?_ | refine i_revr ?_ | refine i_rev ?_ | refine i_zip ?_ | refine i_enum ?_ | refine p_add ?_ | refine p_sub ?_ | refine p_lt ?_ | refine p_le ?_ | refine p_gt ?_ | refine p_ge ?_ | refine p_eq ?_ | refine p_ne ?_ | refine p_int ?_ | refine p_intB ?_ | refine p_abs ?_ | refine p_min ?_ | refine p_max ?_ | refine p_lenN ?_ | refine p_lenT ?_ | refine p_lenL ?_ | refine p_tupL ?_ | refine p_pow18 ?_ | refine p_idxR (by assumption) (by with_unfolding_all rfl) ?_ | refine p_idxT (by with_unfolding_all rfl) ?_ | refine p_idxL (by with_unfolding_all rfl) ?_ | refine p_idxN (by assumption) ?_ | refine p_mod (by omega) ?_ | refine p_lenI ?_ | refine p_lenW ?_ | refine p_lenRw ?_ | refine p_fdiv (lg31 (by omega)) ?_))
      refine ⟨by simp, ?_⟩
      repeat (with_reducible (first | refine s_cons ?_ | refine s_set ?_ | refine s_ret ?_ | refine s_expr ?_ | refine s_sub ?_ | refine s_nil ?_ | refine s_if ?_ | refine s_for ?_ | refine s_setC ?_ | refine s_boxC ?_ | refine s_retN ?_ | refine s_doc ?_ | refine r_var (by with_unfolding_all rfl) ?_ | refine r_int ?_ | refine r_bin ?_ | refine r_cmp ?_ | refine r_idx ?_ | refine r_cons ?_ | refine r_nil ?_ | refine r_bi ?_ | refine r_ty ?_ | refine r_call ?_ | refine r_callP ?_ | refine r_bl ?_ | refine r_tup ?_ | refine r_newL ?_ | refine r_box ?_ | refine r_cut ?_ | refine r_o0 ?_ | refine r_o1 ?_ | refine r_ife ?_ | refine r_str ?_ | refine r_non ?_ | refine r_neg ?_ | refine r_isT ?_ | refine r_app ?_ | refine r_andV ?_ | refine r_andV1 ?_ | refine r_orV ?_ | refine r_orV1 ?_ | refine r_notV ?_ | refine r_glo (by with_unfolding_all rfl) ?_ | refine t_cmp ?_ | refine t_val ?_ | refine t_and ?_ | refine t_and1 ?_ | refine t_or ?_ | refine t_or1 ?_ | refine t_not ?_ | refine c_lst ?_ | refine c_cat ?_ | refine c_rep ?_ | refine c_cut ?_ | refine c_list ?_ | refine c_lc ?_ | refine o_none ?_ | refine o_some ?_ | refine i_seq ?_ | refine i_rng1 ?_ | refine i_rng2 ?_ | refine i_revr ?_ | refine i_rev ?_ | refine i_zip ?_ | refine i_enum ?_ | refine p_add ?_ | refine p_sub ?_ | refine p_lt ?_ | refine p_le ?_ | refine p_gt ?_ | refine p_ge ?_ | refine p_eq ?_ | refine p_ne ?_ | refine p_int ?_ | refine p_intB ?_ | refine p_abs ?_ | refine p_min ?_ | refine p_max ?_ | refine p_lenN ?_ | refine p_lenT ?_ | refine p_lenL ?_ | refine p_tupL ?_ | refine p_pow18 ?_ | refine p_idxR (by assumption) (by with_unfolding_all rfl) ?_ | refine p_idxT (by with_unfolding_all rfl) ?_ | refine p_idxL (by with_unfolding_all rfl) ?_ | refine p_idxN (by assumption) ?_ | refine p_mod (by omega) ?_ | refine p_lenI ?_ | refine p_lenW ?_ | refine p_lenRw ?_ | refine p_fdiv (lg31 (by omega)) ?_))
      refine ⟨_, _, rfl, rfl, ⟨by omega, by omega, by simp; omega⟩, _, rfl, ?_⟩
      repeat (with_reducible (first | refine s_cons ?_ | refine s_set ?_ | refine s_ret ?_ | refine s_expr ?_ | refine s_sub ?_ | refine s_nil ?_ | refine s_if ?_ | refine s_for ?_ | refine s_setC ?_ | refine s_boxC ?_ | refine s_retN ?_ | refine s_doc ?_ | refine r_var (by with_unfolding_all rfl) ?_ | refine r_int ?_ | refine r_bin ?_ | refine r_cmp ?_ | refine r_idx ?_ | refine r_cons ?_ | refine r_nil ?_ | refine r_bi ?_ | refine r_ty ?_ | refine r_call ?_ | refine r_callP ?_ | refine r_bl ?_ | refine r_tup ?_ | refine r_newL ?_ | refine r_box ?_ | refine r_cut ?_ | refine r_o0 ?_ | refine r_o1 ?_ | refine r_ife ?_ | refine r_str ?_ | refine r_non ?_ | refine r_neg ?_ | refine r_isT ?_ | refine r_app ?_ | refine r_andV ?_ | refine r_andV1 ?_ | refine r_orV ?_ | refine r_orV1 ?_ | refine r_notV ?_ | refine r_glo (by with_unfolding_all rfl) ?_ | refine t_cmp ?_ | refine t_val ?_ | refine t_and ?_ | refine t_and1 ?_ | refine t_or ?_ | refine t_or1 ?_ | refine t_not ?_ | refine c_lst ?_ | refine c_cat ?_ | refine c_rep ?_ | refine c_cut ?_ | refine c_list ?_ | refine c_lc ?_ | refine o_none ?_ | refine o_some ?_ | refine i_seq ?_ | refine i_rng1 ?_ | refine i_rng2 ?_ | refine i_revr ?_ | refine i_rev ?_ | refine i_zip ?_ | refine i_enum ?_ | refine p_add ?_ | refine p_sub ?_ | refine p_lt ?_ | refine p_le ?_ | refine p_gt ?_ | refine p_ge ?_ | refine p_eq ?_ | refine p_ne ?_ | refine p_int ?_ | refine p_intB ?_ | refine p_abs ?_ | refine p_min ?_ | refine p_max ?_ | refine p_lenN ?_ | refine p_lenT ?_ | refine p_lenL ?_ | refine p_tupL ?_ | refine p_pow18 ?_ | refine p_idxR (by assumption) (by with_unfolding_all rfl) ?_ | refine p_idxT (by with_unfolding_all rfl) ?_ | refine p_idxL (by with_unfolding_all rfl) ?_ | refine p_idxN (by assumption) ?_ | refine p_mod (by omega) ?_ | refine p_lenI ?_ | refine p_lenW ?_ | refine p_lenRw ?_ | refine p_fdiv (lg31 (by omega)) ?_))
      refine ⟨by simp, _, rfl, _, _, rfl, rfl, by simp [List.length_flatten]; omega, _, rfl, ?_⟩
      repeat (with_reducible (first | refine s_cons ?_ | refine s_set ?_ | refine s_ret ?_ | refine s_expr ?_ | refine s_sub ?_ | refine s_nil ?_ | refine s_if ?_ | refine s_for ?_ | refine s_setC ?_ | refine s_boxC ?_ | refine s_retN ?_ | refine s_doc ?_ | refine r_var (by with_unfolding_all rfl) ?_ | refine r_int ?_ | refine r_bin ?_ | refine r_cmp ?_ | refine r_idx ?_ | refine r_cons ?_ | refine r_nil ?_ | refine r_bi ?_ | refine r_ty ?_ | refine r_call ?_ | refine r_callP ?_ | refine r_bl ?_ | refine r_tup ?_ | refine r_newL ?_ | refine r_box ?_ | refine r_cut ?_ | refine r_o0 ?_ | refine r_o1 ?_ | refine r_ife ?_ | refine r_str ?_ | refine r_non ?_ | refine r_neg ?_ | refine r_isT ?_ | refine r_app ?_ | refine r_andV ?_ | refine r_andV1 ?_ | refine r_orV ?_ | refine r_orV1 ?_ | refine r_notV ?_ | refine r_glo (by with_unfolding_all rfl) ?_ | refine t_cmp ?_ | refine t_val ?_ | refine t_and ?_ | refine t_and1 ?_ | refine t_or ?_ | refine t_or1 ?_ | refine t_not ?_ | refine c_lst ?_ | refine c_cat ?_ | refine c_rep ?_ | refine c_cut ?_ | refine c_list ?_ | refine c_lc ?_ | refine o_none ?_ | refine o_some ?_ | refine i_seq ?_ | refine i_rng1 ?_ | refine i_rng2 ?_ | refine i_revr ?_ | refine i_rev ?_ | refine i_zip ?_ | refine i_enum ?_ | refine p_add ?_ | refine p_sub ?_ | refine p_lt ?_ | refine p_le ?_ | refine p_gt ?_ | refine p_ge ?_ | refine p_eq ?_ | refine p_ne ?_ | refine p_int ?_ | refine p_intB ?_ | refine p_abs ?_ | refine p_min ?_ | refine p_max ?_ | refine p_lenN ?_ | refine p_lenT ?_ | refine p_lenL ?_ | refine p_tupL ?_ | refine p_pow18 ?_ | refine p_idxR (by assumption) (by with_unfolding_all rfl) ?_ | refine p_idxT (by with_unfolding_all rfl) ?_ | refine p_idxL (by with_unfolding_all rfl) ?_ | refine p_idxN (by assumption) ?_ | refine p_mod (by omega) ?_ | refine p_lenI ?_ | refine p_lenW ?_ | refine p_lenRw ?_ | refine p_fdiv (lg31 (by omega)) ?_))
      refine ⟨by simp, ?_⟩
      repeat (with_reducible (first | refine s_cons ?_ | refine s_set ?_ | refine s_ret ?_ | refine s_expr ?_ | refine s_sub ?_ | refine s_nil ?_ | refine s_if ?_ | refine s_for ?_ | refine s_setC ?_ | refine s_boxC ?_ | refine s_retN ?_ | refine s_doc ?_ | refine r_var (by with_unfolding_all rfl) ?_ | refine r_int ?_ | refine r_bin ?_ | refine r_cmp ?_ | refine r_idx ?_ | refine r_cons ?_ | refine r_nil ?_ | refine r_bi ?_ | refine r_ty ?_ | refine r_call ?_ | refine r_callP ?_ | refine r_bl ?_ | refine r_tup ?_ | refine r_newL ?_ | refine r_box ?_ | refine r_cut ?_ | refine r_o0 ?_ | refine r_o1 ?_ | refine r_ife ?_ | refine r_str ?_ | refine r_non ?_ | refine r_neg ?_ | refine r_isT ?_ | refine r_app ?_ | refine r_andV ?_ | refine r_andV1 ?_ | refine r_orV ?_ | refine r_orV1 ?_ | refine r_notV ?_ | refine r_glo (by with_unfolding_all rfl) ?_ | refine t_cmp ?_ | refine t_val ?_ | refine t_and ?_ | refine t_and1 ?_ | refine t_or ?_ | refine t_or1 ?_ | refine t_not ?_ | refine c_lst ?_ | refine c_cat ?_ | refine c_rep ?_ | refine c_cut ?_ | refine c_list ?_ | refine c_lc ?_ | refine o_none ?_ | refine o_some ?_ | refine i_seq ?_ | refine i_rng1 ?_ | refine i_rng2 ?_ | refine i_revr ?_ | refine i_rev ?_ | refine i_zip ?_ | refine i_enum ?_ | refine p_add ?_ | refine p_sub ?_ | refine p_lt ?_ | refine p_le ?_ | refine p_gt ?_ | refine p_ge ?_ | refine p_eq ?_ | refine p_ne ?_ | refine p_int ?_ | refine p_intB ?_ | refine p_abs ?_ | refine p_min ?_ | refine p_max ?_ | refine p_lenN ?_ | refine p_lenT ?_ | refine p_lenL ?_ | refine p_tupL ?_ | refine p_pow18 ?_ | refine p_idxR (by assumption) (by with_unfolding_all rfl) ?_ | refine p_idxT (by with_unfolding_all rfl) ?_ | refine p_idxL (by with_unfolding_all rfl) ?_ | refine p_idxN (by assumption) ?_ | refine p_mod (by omega) ?_ | refine p_lenI ?_ | refine p_lenW ?_ | refine p_lenRw ?_ | refine p_fdiv (lg31 (by omega)) ?_))
      refine ⟨[h :: List.replicate (w - 1) 0, List.replicate (w - 1) 0 ++ [6 - h]], some (.int h), ?_, ⟨by simp, fun m hm => ?_⟩, q.tp⟩
      · rw [flat1, show ((w : Int) - 1).toNat = w - 1 by omega]
        simp [dW, dI]
      · simp only [List.mem_cons, List.mem_nil_iff, or_false] at hm
        rcases hm with rfl | rfl
        · exact wd2 (k := 0) hw1.1 (by omega)
        · exact wd1 (k := 0) hw1.1 (by omega)
    · repeat (with_reducible (first | refine s_cons ?_ | refine s_set ?_ | refine s_ret ?_ | refine s_expr ?_ | refine s_sub ?_ | refine s_nil ?_ | refine s_if ?_ | refine s_for ?_ | refine s_setC ?_ | refine s_boxC ?_ | refine s_retN ?_ | refine s_doc ?_ | refine r_var (by with_unfolding_all rfl) ?_ | refine r_int ?_ | refine r_bin ?_ | refine r_cmp ?_ | refine r_idx ?_ | refine r_cons ?_ | refine r_nil ?_ | refine r_bi ?_ | refine r_ty ?_ | refine r_call ?_ | refine r_callP ?_ | refine r_bl ?_ | refine r_tup ?_ | refine r_newL ?_ | refine r_box ?_ | refine r_cut ?_ | refine r_o0 ?_ | refine r_o1 ?_ | refine r_ife ?_ | refine r_str ?_ | refine r_non ?_ | refine r_neg ?_ | refine r_isT ?_ | refine r_app ?_ | refine r_andV ?_ | refine r_andV1 ?_ | refine r_orV ?_ | refine r_orV1 ?_ | refine r_notV ?_ | refine r_glo (by with_unfolding_all rfl) ?_ | refine t_cmp ?_ | refine t_val ?_ | refine t_and ?_ | refine t_and1 ?_ | refine t_or ?_ | refine t_or1 ?_ | refine t_not ?_ | refine c_lst ?_ | refine c_cat ?_ | refine c_rep ?_ | refine c_cut ?_ | refine c_list ?_ | refine c_lc ?_ | refine o_none ?_ | refine o_some ?_ | refine i_seq ?_ | refine i_rng1 ?_ | refine i_rng2 ?_ | refine i_revr ?_ | refine i_rev ?_ | refine i_zip ?_ | refine i_enum ?_ | refine p_add ?_ | refine p_sub ?_ | refine p_lt ?_ | refine p_le ?_ | refine p_gt ?_ | refine p_ge ?_ | refine p_eq ?_ | refine p_ne ?_ | refine p_int ?_ | refine p_intB ?_ | refine p_abs ?_ | refine p_min ?_ | refine p_max ?_ | refine p_lenN ?_ | refine p_lenT ?_ | refine p_lenL ?_ | refine p_tupL ?_ | refine p_pow18 ?_ | refine p_idxR (by assumption) (by with_unfolding_all rfl) ?_ | refine p_idxT (by with_unfolding_all rfl) ?_ | refine p_idxL (by with_unfolding_all rfl) ?_ | refine p_idxN (by assumption) ?_ | refine p_mod (by omega) ?_ | refine p_lenI ?_ | refine p_lenW ?_ | refine p_lenRw ?_ | refine p_fdiv (lg31 (by omega)) ?_))
      exact ⟨W, none, rfl, hW, t4⟩
  rintro E S5 ⟨W, o9, rfl, hW, t5⟩
  repeat (with_reducible (first | refine s_cons ?_ | refine s_set ?_ | refine s_ret ?_ | refine s_expr ?_ | refine s_sub ?_ | refine s_nil ?_ | refine s_if ?_ | refine s_for ?_ | refine s_setC ?_ | refine s_boxC ?_ | refine s_retN ?_ | refine s_doc ?_ | refine r_var (by with_unfolding_all rfl) ?_ | refine r_int ?_ | refine r_bin ?_ | refine r_cmp ?_ | refine r_idx ?_ | refine r_cons ?_ | refine r_nil ?_ | refine r_bi ?_ | refine r_ty ?_ | refine r_call ?_ | refine r_callP ?_ | refine r_bl ?_ | refine r_tup ?_ | refine r_newL ?_ | refine r_box ?_ | refine r_cut ?_ | refine r_o0 ?_ | refine r_o1 ?_ | refine r_ife ?_ | refine r_str ?_ | refine r_non ?_ | refine r_neg ?_ | refine r_isT ?_ | refine r_app ?_ | refine r_andV ?_ | refine r_andV1 ?_ | refine r_orV ?_ | refine r_orV1 ?_ | refine r_notV ?_ | refine r_glo (by with_unfolding_all rfl) ?_ | refine t_cmp ?_ | refine t_val ?_ | refine t_and ?_ | refine t_and1 ?_ | refine t_or ?_ | refine t_or1 ?_ | refine t_not ?_ | refine c_lst ?_ | refine c_cat ?_ | refine c_rep ?_ | refine c_cut ?_ | refine c_list ?_ | refine c_lc ?_ | refine o_none ?_ | refine o_some ?_ | refine i_seq ?_ | refine i_rng1 ?_ | refine i_rng2 ?_ | refine i_revr ?_ | refine i_rev ?_ | refine i_zip ?_ | refine i_enum ?_ | refine p_add ?_ | refine p_sub ?_ | refine p_lt ?_ | refine p_le ?_ | refine p_gt ?_ | refine p_ge ?_ | refine p_eq ?_ | refine p_ne ?_ | refine p_int ?_ | refine p_intB ?_ | refine p_abs ?_ | refine p_min ?_ | refine p_max ?_ | refine p_lenN ?_ | refine p_lenT ?_ | refine p_lenL ?_ | refine p_tupL ?_ | refine p_pow18 ?_ | refine p_idxR (by assumption) (by with_unfolding_all rfl) ?_ | refine p_idxT (by with_unfolding_all rfl) ?_ | refine p_idxL (by with_unfolding_all rfl) ?_ | refine p_idxN (by assumption) ?_ | refine p_mod (by omega) ?_ | refine p_lenI ?_ | refine p_lenW ?_ | refine p_lenRw ?_ | refine p_fdiv (lg31 (by omega)) ?_))
  refine k_call [] rfl rfl ((sp_tape (n := 10) (k := 1) (by decide)).to fun d S ⟨a, b, e1, e2, ha, hb, hb2⟩ => ?_)
  subst e1 e2
  have t6 : Tp (S5 ++ [.lst [.int a, .int b]]) S5.length := ⟨a, b, by simp, ha, hb, hb2⟩
  generalize (S5 ++ [DO.lst [.int a, .int b]]) = S at t6
  generalize S5.length = r1 at t6
  repeat (with_reducible (first | refine s_cons ?_ | refine s_set ?_ | refine s_ret ?_ | refine s_expr ?_ | refine s_sub ?_ | refine s_nil ?_ | refine s_if ?_ | refine s_for ?_ | refine s_setC ?_ | refine s_boxC ?_ | refine s_retN ?_ | refine s_doc ?_ | refine r_var (by with_unfolding_all rfl) ?_ | refine r_int ?_ | refine r_bin ?_ | refine r_cmp ?_ | refine r_idx ?_ | refine r_cons ?_ | refine r_nil ?_ | refine r_bi ?_ | refine r_ty ?_ | refine r_call ?_ | refine r_callP ?_ | refine r_bl ?_ | refine r_tup ?_ | refine r_newL ?_ | refine r_box ?_ | refine r_cut ?_ | refine r_o0 ?_ | refine r_o1 ?_ | refine r_ife ?_ | refine r_str ?_ | refine r_non ?_ | refine r_neg ?_ | refine r_isT ?_ | refine r_app ?_ | refine r_andV ?_ | refine r_andV1 ?_ | refine r_orV ?_ | refine r_orV1 ?_ | refine r_notV ?_ | refine r_glo (by with_unfolding_all rfl) ?_ | refine t_cmp ?_ | refine t_val ?_ | refine t_and ?_ | refine t_and1 ?_ | refine t_or ?_ | refine t_or1 ?_ | refine t_not ?_ | refine c_lst ?_ | refine c_cat ?_ | refine c_rep ?_ | refine c_cut ?_ | refine c_list ?_ | refine c_lc ?_ | refine o_none ?_ | refine o_some ?_ | refine i_seq ?_ | refine i_rng1 ?_ | refine i_rng2 ?_ | refine i_revr ?_ | refine i_rev ?_ | refine i_zip ?_ | refine i_enum ?_ | refine p_add ?_ | refine p_sub ?_ | refine p_lt ?_ | refine p_le ?_ | refine p_gt ?_ | refine p_ge ?_ | refine p_eq ?_ | refine p_ne ?_ | refine p_int ?_ | refine p_intB ?_ | refine p_abs ?_ | refine p_min ?_ | refine p_max ?_ | refine p_lenN ?_ | refine p_lenT ?_ | refine p_lenL ?_ | refine p_tupL ?_ | refine p_pow18 ?_ | refine p_idxR (by assumption) (by with_unfolding_all rfl) ?_ | refine p_idxT (by with_unfolding_all rfl) ?_ | refine p_idxL (by with_unfolding_all rfl) ?_ | refine p_idxN (by assumption) ?_ | refine p_mod (by omega) ?_ | refine p_lenI ?_ | refine p_lenW ?_ | refine p_lenRw ?_ | refine p_fdiv (lg31 (by omega)) ?_))
  refine k_call [] rfl rfl ((sp_row (n := 8) t6 hw1.2).to fun d S7 ⟨R, e, hR, hR6⟩ => ?_)
  subst e
  refine s_cut (fun E _ => ∃ R, E = [some (.scr ns), some (.ref 0), some (.int w), some (.int c), some (dW W), some (dR R), none, none, none, o9, none, none, none, none] ∧ Rw w R) ?_ ?_
  · repeat (with_reducible (first | refine s_cons ?_ | refine s_set ?_ | refine s_ret ?_ | refine s_expr ?_ | refine s_sub ?_ | refine s_nil ?_ | refine s_if ?_ | refine s_for ?_ | refine s_setC ?_ | refine s_boxC ?_ | refine s_retN ?_ | refine s_doc ?_ | refine r_var (by with_unfolding_all rfl) ?_ | refine r_int ?_ | refine r_bin ?_ | refine r_cmp ?_ | refine r_idx ?_ | refine r_cons ?_ | refine r_nil ?_ | refine r_bi ?_ | refine r_ty ?_ | refine r_call ?_ | refine r_callP ?_ | refine r_bl ?_ | refine r_tup ?_ | refine r_newL ?_ | refine r_box ?_ | refine r_cut ?_ | refine r_o0 ?_ | refine r_o1 ?_ | refine r_ife ?_ | refine r_str ?_ | refine r_non ?_ | refine r_neg ?_ | refine r_isT ?_ | refine r_app ?_ | refine r_andV ?_ | refine r_andV1 ?_ | refine r_orV ?_ | refine r_orV1 ?_ | refine r_notV ?_ | refine r_glo (by with_unfolding_all rfl) ?_ | refine t_cmp ?_ | refine t_val ?_ | refine t_and ?_ | refine t_and1 ?_ | refine t_or ?_ | refine t_or1 ?_ | refine t_not ?_ | refine c_lst ?_ | refine c_cat ?_ | refine c_rep ?_ | refine c_cut ?_ | refine c_list ?_ | refine c_lc ?_ | refine o_none ?_ | refine o_some ?_ | refine i_seq ?_ | refine i_rng1 ?_ | refine i_rng2 ?_ | refine i_revr ?_ | refine i_rev ?_ | refine i_zip ?_ | refine i_enum ?_ | refine p_add ?_ | refine p_sub ?_ | refine p_lt ?_ | refine p_le ?_ | refine p_gt ?_ | refine p_ge ?_ | refine p_eq ?_ | refine p_ne ?_ | refine p_int ?_ | refine p_intB ?_ | refine p_abs ?_ | refine p_min ?_ | refine p_max ?_ | refine p_lenN ?_ | refine p_lenT ?_ | refine p_lenL ?_ | refine p_tupL ?_ | refine p_pow18 ?_ | refine p_idxR (by assumption) (by with_unfolding_all rfl) ?_ | refine p_idxT (by with_unfolding_all rfl) ?_ | refine p_idxL (by with_unfolding_all rfl) ?_ | refine p_idxN (by assumption) ?_ | refine p_mod (by omega) ?_ | refine p_lenI ?_ | refine p_lenW ?_ | refine p_lenRw ?_ | refine p_fdiv (lg31 (by omega)) ?_))
    refine ⟨_, rfl, fun _ => ?_, fun _ => ?_⟩
    · repeat (with_reducible (first | refine s_cons ?_ | refine s_set ?_ | refine s_ret ?_ | refine s_expr ?_ | refine s_sub ?_ | refine s_nil ?_ | refine s_if ?_ | refine s_for ?_ | refine s_setC ?_ | refine s_boxC ?_ | refine s_retN ?_ | refine s_doc ?_ | refine r_var (by with_unfolding_all rfl) ?_ | refine r_int ?_ | refine r_bin ?_ | refine r_cmp ?_ | refine r_idx ?_ | refine r_cons ?_ | refine r_nil ?_ | refine r_bi ?_ | refine r_ty ?_ | refine r_call ?_ | refine r_callP ?_ | refine r_bl ?_ | refine r_tup ?_ | refine r_newL ?_ | refine r_box ?_ | refine r_cut ?_ | refine r_o0 ?_ | refine r_o1 ?_ | refine r_ife ?_ | refine r_str ?_ | refine r_non ?_ | refine r_neg ?_ | refine r_isT ?_ | refine r_app ?_ | refine r_andV ?_ | refine r_andV1 ?_ | refine r_orV ?_ | refine r_orV1 ?_ | refine r_notV ?_ | refine r_glo (by with_unfolding_all rfl) ?_ | refine t_cmp ?_ | refine t_val ?_ | refine t_and ?_ | refine t_and1 ?_ | refine t_or ?_ | refine t_or1 ?_ | refine t_not ?_ | refine c_lst ?_ | refine c_cat ?_ | refine c_rep ?_ | refine c_cut ?_ | refine c_list ?_ | refine c_lc ?_ | refine o_none ?_ | refine o_some ?_ | refine i_seq ?_ | refine i_rng1 ?_ | refine i_rng2 ?_ | refine i_revr ?_ | refine i_rev ?_ | refine i_zip ?_ | refine i_enum ?_ | refine p_add ?_ | refine p_sub ?_ | refine p_lt ?_ | refine p_le ?_ | refine p_gt ?_ | refine p_ge ?_ | refine p_eq ?_ | refine p_ne ?_ | refine p_int ?_ | refine p_intB ?_ | refine p_abs ?_ | refine p_min ?_ | refine p_max ?_ | refine p_lenN ?_ | refine p_lenT ?_ | refine p_lenL ?_ | refine p_tupL ?_ | refine p_pow18 ?_ | refine p_idxR (by assumption) (by with_unfolding_all rfl) ?_ | refine p_idxT (by with_unfolding_all rfl) ?_ | refine p_idxL (by with_unfolding_all rfl) ?_ | refine p_idxN (by assumption) ?_ | refine p_mod (by omega) ?_ | refine p_lenI ?_ | refine p_lenW ?_ | refine p_lenRw ?_ | refine p_fdiv (lg31 (by omega)) ?_))
      refine ⟨_, rfl, by decide, by simp [rangeD], ?_⟩
      refine w_clInv (fun acc S' => ∃ R : List (List Int), acc = R.map dI ∧ (∀ m ∈ R, m.length = w ∧ ∀ x ∈ m, Sm 42 x)) _ [] ⟨[], rfl, by simp⟩ ?_ ?_
      · rintro d2 hd2 acc S8 ⟨R, rfl, hRm⟩
        obtain ⟨j, hj, rfl⟩ := List.mem_map.mp hd2
        have hj' : j < 60 := by simpa using List.mem_range.mp hj
        refine ⟨_, rfl, ?_⟩
        repeat (with_reducible (first | refine s_cons ?_ | refine s_set ?_ | refine s_ret ?_ | refine s_expr ?_ | refine s_sub ?_ | refine s_nil ?_ | refine s_if ?_ | refine s_for ?_ | refine s_setC ?_ | refine s_boxC ?_ | refine s_retN ?_ | refine s_doc ?_ | refine r_var (by with_unfolding_all rfl) ?_ | refine r_int ?_ | refine r_bin ?_ | refine r_cmp ?_ | refine r_idx ?_ | refine r_cons ?_ | refine r_nil ?_ | refine r_bi ?_ | refine r_ty ?_ | refine r_call ?_ | refine r_callP ?_ | refine r_bl ?_ | refine r_tup ?_ | refine r_newL ?_ | refine r_box ?_ | refine r_cut ?_ | refine r_o0 ?_ | refine r_o1 ?_ | refine r_ife ?_ | refine r_str ?_ | refine r_non ?_ | refine r_neg ?_ | refine r_isT ?_ | refine r_app ?_ | refine r_andV ?_ | refine r_andV1 ?_ | refine r_orV ?_ | refine r_orV1 ?_ | refine r_notV ?_ | refine r_glo (by with_unfolding_all rfl) ?_ | refine t_cmp ?_ | refine t_val ?_ | refine t_and ?_ | refine t_and1 ?_ | refine t_or ?_ | refine t_or1 ?_ | refine t_not ?_ | refine c_lst ?_ | refine c_cat ?_ | refine c_rep ?_ | refine c_cut ?_ | refine c_list ?_ | refine c_lc ?_ | refine o_none ?_ | refine o_some ?_ | refine i_seq ?_ | refine i_rng1 ?_ | refine i_rng2 ?_ | refine i_revr ?_ | refine i_rev ?_ | refine i_zip ?_ | refine i_enum ?_ | refine p_add ?_ | refine p_sub ?_ | refine p_lt ?_ | refine p_le ?_ | refine p_gt ?_ | refine p_ge ?_ | refine p_eq ?_ | refine p_ne ?_ | refine p_int ?_ | refine p_intB ?_ | refine p_abs ?_ | refine p_min ?_ | refine p_max ?_ | refine p_lenN ?_ | refine p_lenT ?_ | refine p_lenL ?_ | refine p_tupL ?_ | refine p_pow18 ?_ | refine p_idxR (by assumption) (by with_unfolding_all rfl) ?_ | refine p_idxT (by with_unfolding_all rfl) ?_ | refine p_idxL (by with_unfolding_all rfl) ?_ | refine p_idxN (by assumption) ?_ | refine p_mod (by omega) ?_ | refine p_lenI ?_ | refine p_lenW ?_ | refine p_lenRw ?_ | refine p_fdiv (lg31 (by omega)) ?_))
        refine ⟨_, rfl, ⟨by omega, by omega⟩, by simp [rangeD]; omega, ?_⟩
        refine w_clInv (fun acc S' => ∃ M : List Int, acc = M.map D.int ∧ ∀ x ∈ M, Sm 42 x) _ [] ⟨[], rfl, by simp⟩ ?_ ?_
        · rintro d3 hd3 acc S9 ⟨M, rfl, hM⟩
          obtain ⟨i, hi, rfl⟩ := List.mem_map.mp hd3
          have hi' : i < w := by simpa using List.mem_range.mp hi
          refine ⟨_, rfl, ?_⟩
          repeat (with_reducible (first | refine s_cons ?_ | refine s_set ?_ | refine s_ret ?_ | refine s_expr ?_ | refine s_sub ?_ | refine s_nil ?_ | refine s_if ?_ | refine s_for ?_ | refine s_setC ?_ | refine s_boxC ?_ | refine s_retN ?_ | refine s_doc ?_ | refine r_var (by with_unfolding_all rfl) ?_ | refine r_int ?_ | refine r_bin ?_ | refine r_cmp ?_ | refine r_idx ?_ | refine r_cons ?_ | refine r_nil ?_ | refine r_bi ?_ | refine r_ty ?_ | refine r_call ?_ | refine r_callP ?_ | refine r_bl ?_ | refine r_tup ?_ | refine r_newL ?_ | refine r_box ?_ | refine r_cut ?_ | refine r_o0 ?_ | refine r_o1 ?_ | refine r_ife ?_ | refine r_str ?_ | refine r_non ?_ | refine r_neg ?_ | refine r_isT ?_ | refine r_app ?_ | refine r_andV ?_ | refine r_andV1 ?_ | refine r_orV ?_ | refine r_orV1 ?_ | refine r_notV ?_ | refine r_glo (by with_unfolding_all rfl) ?_ | refine t_cmp ?_ | refine t_val ?_ | refine t_and ?_ | refine t_and1 ?_ | refine t_or ?_ | refine t_or1 ?_ | refine t_not ?_ | refine c_lst ?_ | refine c_cat ?_ | refine c_rep ?_ | refine c_cut ?_ | refine c_list ?_ | refine c_lc ?_ | refine o_none ?_ | refine o_some ?_ | refine i_seq ?_ | refine i_rng1 ?_ | refine i_rng2 ?_ | refine i_revr ?_ | refine i_rev ?_ | refine i_zip ?_ | refine i_enum ?_ | refine p_add ?_ | refine p_sub ?_ | refine p_lt ?_ | refine p_le ?_ | refine p_gt ?_ | refine p_ge ?_ | refine p_eq ?_ | refine p_ne ?_ | refine p_int ?_ | refine p_intB ?_ | refine p_abs ?_ | refine p_min ?_ | refine p_max ?_ | refine p_lenN ?_ | refine p_lenT ?_ | refine p_lenL ?_ | refine p_tupL ?_ | refine p_pow18 ?_ | refine p_idxR (by assumption) (by with_unfolding_all rfl) ?_ | refine p_idxT (by with_unfolding_all rfl) ?_ | refine p_idxL (by with_unfolding_all rfl) ?_ | refine p_idxN (by assumption) ?_ | refine p_mod (by omega) ?_ | refine p_lenI ?_ | refine p_lenW ?_ | refine p_lenRw ?_ | refine p_fdiv (lg31 (by omega)) ?_))
          refine p_mul (mul64 (by omega)) ?_
          repeat (with_reducible (first | refine s_cons ?_ | refine s_set ?_ | refine s_ret ?_ | refine s_expr ?_ | refine s_sub ?_ | refine s_nil ?_ | refine s_if ?_ | refine s_for ?_ | refine s_setC ?_ | refine s_boxC ?_ | refine s_retN ?_ | refine s_doc ?_ | refine r_var (by with_unfolding_all rfl) ?_ | refine r_int ?_ | refine r_bin ?_ | refine r_cmp ?_ | refine r_idx ?_ | refine r_cons ?_ | refine r_nil ?_ | refine r_bi ?_ | refine r_ty ?_ | refine r_call ?_ | refine r_callP ?_ | refine r_bl ?_ | refine r_tup ?_ | refine r_newL ?_ | refine r_box ?_ | refine r_cut ?_ | refine r_o0 ?_ | refine r_o1 ?_ | refine r_ife ?_ | refine r_str ?_ | refine r_non ?_ | refine r_neg ?_ | refine r_isT ?_ | refine r_app ?_ | refine r_andV ?_ | refine r_andV1 ?_ | refine r_orV ?_ | refine r_orV1 ?_ | refine r_notV ?_ | refine r_glo (by with_unfolding_all rfl) ?_ | refine t_cmp ?_ | refine t_val ?_ | refine t_and ?_ | refine t_and1 ?_ | refine t_or ?_ | refine t_or1 ?_ | refine t_not ?_ | refine c_lst ?_ | refine c_cat ?_ | refine c_rep ?_ | refine c_cut ?_ | refine c_list ?_ | refine c_lc ?_ | refine o_none ?_ | refine o_some ?_ | refine i_seq ?_ | refine i_rng1 ?_ | refine i_rng2 ?_ | refine i_revr ?_ | refine i_rev ?_ | refine i_zip ?_ | refine i_enum ?_ | refine p_add ?_ | refine p_sub ?_ | refine p_lt ?_ | refine p_le ?_ | refine p_gt ?_ | refine p_ge ?_ | refine p_eq ?_ | refine p_ne ?_ | refine p_int ?_ | refine p_intB ?_ | refine p_abs ?_ | refine p_min ?_ | refine p_max ?_ | refine p_lenN ?_ | refine p_lenT ?_ | refine p_lenL ?_ | refine p_tupL ?_ | refine p_pow18 ?_ | refine p_idxR (by assumption) (by with_unfolding_all rfl) ?_ | refine p_idxT (by with_unfolding_all rfl) ?_ | refine p_idxL (by with_unfolding_all rfl) ?_ | refine p_idxN (by assumption) ?_ | refine p_mod (by omega) ?_ | refine p_lenI ?_ | refine p_lenW ?_ | refine p_lenRw ?_ | refine p_fdiv (lg31 (by omega)) ?_))
          refine p_mul (mul64 (by omega)) ?_
          repeat (with_reducible (first | refine s_cons ?_ | refine s_set ?_ | refine s_ret ?_ | refine s_expr ?_ | refine s_sub ?_ | refine s_nil ?_ | refine s_if ?_ | refine s_for ?_ | refine s_setC ?_ | refine s_boxC ?_ | refine s_retN ?_ | refine s_doc ?_ | refine r_var (by with_unfolding_all rfl) ?_ | refine r_int ?_ | refine r_bin ?_ | refine r_cmp ?_ | refine r_idx ?_ | refine r_cons ?_ | refine r_nil ?_ | refine r_bi ?_ | refine r_ty ?_ | refine r_call ?_ | refine r_callP ?_ | refine r_bl ?_ | refine r_tup ?_ | refine r_newL ?_ | refine r_box ?_ | refine r_cut ?_ | refine r_o0 ?_ | refine r_o1 ?_ | refine r_ife ?_ | refine r_str ?_ | refine r_non ?_ | refine r_neg ?_ | refine r_isT ?_ | refine r_app ?_ | refine r_andV ?_ | refine r_andV1 ?_ | refine r_orV ?_ | refine r_orV1 ?_ | refine r_notV ?_ | refine r_glo (by with_unfolding_all rfl) ?_ | refine t_cmp ?_ | refine t_val ?_ | refine t_and ?_ | refine t_and1 ?_ | refine t_or ?_ | refine t_or1 ?_ | refine t_not ?_ | refine c_lst ?_ | refine c_cat ?_ | refine c_rep ?_ | refine c_cut ?_ | refine c_list ?_ | refine c_lc ?_ | refine o_none ?_ | refine o_some ?_ | refine i_seq ?_ | refine i_rng1 ?_ | refine i_rng2 ?_ | refine i_revr ?_ | refine i_rev ?_ | refine i_zip ?_ | refine i_enum ?_ | refine p_add ?_ | refine p_sub ?_ | refine p_lt ?_ | refine p_le ?_ | refine p_gt ?_ | refine p_ge ?_ | refine p_eq ?_ | refine p_ne ?_ | refine p_int ?_ | refine p_intB ?_ | refine p_abs ?_ | refine p_min ?_ | refine p_max ?_ | refine p_lenN ?_ | refine p_lenT ?_ | refine p_lenL ?_ | refine p_tupL ?_ | refine p_pow18 ?_ | refine p_idxR (by assumption) (by with_unfolding_all rfl) ?_ | refine p_idxT (by with_unfolding_all rfl) ?_ | refine p_idxL (by with_unfolding_all rfl) ?_ | refine p_idxN (by assumption) ?_ | refine p_mod (by omega) ?_ | refine p_lenI ?_ | refine p_lenW ?_ | refine p_lenRw ?_ | refine p_fdiv (lg31 (by omega)) ?_))
          refine ⟨M ++ [Int.fmod (7 * (0 + (j : Int)) + 3 * (0 + (i : Int))) 19 - 9], by simp, ?_⟩
          intro x hx
          rcases List.mem_append.mp hx with h | h
          · exact hM x h
          · rw [List.mem_singleton.mp h]
            have h1 := Int.fmod_nonneg_of_pos (7 * (0 + (j : Int)) + 3 * (0 + (i : Int))) (show (0 : Int) < 19 by decide)
            have h2 := Int.fmod_lt_of_pos (7 * (0 + (j : Int)) + 3 * (0 + (i : Int))) (show (0 : Int) < 19 by decide)
            exact Sm.of ⟨by omega, by omega⟩
        · rintro xs S9 ⟨M, hM, hMm⟩ hl
          refine ⟨_, rfl, ?_⟩
          repeat (with_reducible (first | refine s_cons ?_ | refine s_set ?_ | refine s_ret ?_ | refine s_expr ?_ | refine s_sub ?_ | refine s_nil ?_ | refine s_if ?_ | refine s_for ?_ | refine s_setC ?_ | refine s_boxC ?_ | refine s_retN ?_ | refine s_doc ?_ | refine r_var (by with_unfolding_all rfl) ?_ | refine r_int ?_ | refine r_bin ?_ | refine r_cmp ?_ | refine r_idx ?_ | refine r_cons ?_ | refine r_nil ?_ | refine r_bi ?_ | refine r_ty ?_ | refine r_call ?_ | refine r_callP ?_ | refine r_bl ?_ | refine r_tup ?_ | refine r_newL ?_ | refine r_box ?_ | refine r_cut ?_ | refine r_o0 ?_ | refine r_o1 ?_ | refine r_ife ?_ | refine r_str ?_ | refine r_non ?_ | refine r_neg ?_ | refine r_isT ?_ | refine r_app ?_ | refine r_andV ?_ | refine r_andV1 ?_ | refine r_orV ?_ | refine r_orV1 ?_ | refine r_notV ?_ | refine r_glo (by with_unfolding_all rfl) ?_ | refine t_cmp ?_ | refine t_val ?_ | refine t_and ?_ | refine t_and1 ?_ | refine t_or ?_ | refine t_or1 ?_ | refine t_not ?_ | refine c_lst ?_ | refine c_cat ?_ | refine c_rep ?_ | refine c_cut ?_ | refine c_list ?_ | refine c_lc ?_ | refine o_none ?_ | refine o_some ?_ | refine i_seq ?_ | refine i_rng1 ?_ | refine i_rng2 ?_ | refine i_revr ?_ | refine i_rev ?_ | refine i_zip ?_ | refine i_enum ?_ | refine p_add ?_ | refine p_sub ?_ | refine p_lt ?_ | refine p_le ?_ | refine p_gt ?_ | refine p_ge ?_ | refine p_eq ?_ | refine p_ne ?_ | refine p_int ?_ | refine p_intB ?_ | refine p_abs ?_ | refine p_min ?_ | refine p_max ?_ | refine p_lenN ?_ | refine p_lenT ?_ | refine p_lenL ?_ | refine p_tupL ?_ | refine p_pow18 ?_ | refine p_idxR (by assumption) (by with_unfolding_all rfl) ?_ | refine p_idxT (by with_unfolding_all rfl) ?_ | refine p_idxL (by with_unfolding_all rfl) ?_ | refine p_idxN (by assumption) ?_ | refine p_mod (by omega) ?_ | refine p_lenI ?_ | refine p_lenW ?_ | refine p_lenRw ?_ | refine p_fdiv (lg31 (by omega)) ?_))
          have hM' : xs = M.map D.int := hM
          subst hM'
          refine ⟨R ++ [M], by simp [dI], ?_⟩
          intro m hm
          rcases List.mem_append.mp hm with h | h
          · exact hRm m h
          · rw [List.mem_singleton.mp h]
            refine ⟨?_, hMm⟩
            rw [List.length_map, rangeD_len] at hl
            omega
      · rintro xs S9 ⟨M, hM, hMm⟩ hl
        refine ⟨_, rfl, ?_⟩
        repeat (with_reducible (first | refine s_cons ?_ | refine s_set ?_ | refine s_ret ?_ | refine s_expr ?_ | refine s_sub ?_ | refine s_nil ?_ | refine s_if ?_ | refine s_for ?_ | refine s_setC ?_ | refine s_boxC ?_ | refine s_retN ?_ | refine s_doc ?_ | refine r_var (by with_unfolding_all rfl) ?_ | refine r_int ?_ | refine r_bin ?_ | refine r_cmp ?_ | refine r_idx ?_ | refine r_cons ?_ | refine r_nil ?_ | refine r_bi ?_ | refine r_ty ?_ | refine r_call ?_ | refine r_callP ?_ | refine r_bl ?_ | refine r_tup ?_ | refine r_newL ?_ | refine r_box ?_ | refine r_cut ?_ | refine r_o0 ?_ | refine r_o1 ?_ | refine r_ife ?_ | refine r_str ?_ | refine r_non ?_ | refine r_neg ?_ | refine r_isT ?_ | refine r_app ?_ | refine r_andV ?_ | refine r_andV1 ?_ | refine r_orV ?_ | refine r_orV1 ?_ | refine r_notV ?_ | refine r_glo (by with_unfolding_all rfl) ?_ | refine t_cmp ?_ | refine t_val ?_ | refine t_and ?_ | refine t_and1 ?_ | refine t_or ?_ | refine t_or1 ?_ | refine t_not ?_ | refine c_lst ?_ | refine c_cat ?_ | refine c_rep ?_ | refine c_cut ?_ | refine c_list ?_ | refine c_lc ?_ | refine o_none ?_ | refine o_some ?_ | refine i_seq ?_ | refine i_rng1 ?_ | refine i_rng2 ?_ | refine i_revr ?_ | refine i_rev ?_ | refine i_zip ?_ | refine i_enum ?_ | refine p_add ?_ | refine p_sub ?_ | refine p_lt ?_ | refine p_le ?_ | refine p_gt ?_ | refine p_ge ?_ | refine p_eq ?_ | refine p_ne ?_ | refine p_int ?_ | refine p_intB ?_ | refine p_abs ?_ | refine p_min ?_ | refine p_max ?_ | refine p_lenN ?_ | refine p_lenT ?_ | refine p_lenL ?_ | refine p_tupL ?_ | refine p_pow18 ?_ | refine p_idxR (by assumption) (by with_unfolding_all rfl) ?_ | refine p_idxT (by with_unfolding_all rfl) ?_ | refine p_idxL (by with_unfolding_all rfl) ?_ | refine p_idxN (by assumption) ?_ | refine p_mod (by omega) ?_ | refine p_lenI ?_ | refine p_lenW ?_ | refine p_lenRw ?_ | refine p_fdiv (lg31 (by omega)) ?_))
        have hM' : xs = M.map dI := hM
        subst hM'
        refine ⟨M, rfl, ?_, hMm⟩
        rw [List.length_map, rangeD_len] at hl
        omega
    · repeat (with_reducible (first | refine s_cons ?_ | refine s_set ?_ | refine s_ret ?_ | refine s_expr ?_ | refine s_sub ?_ | refine s_nil ?_ | refine s_if ?_ | refine s_for ?_ | refine s_setC ?_ | refine s_boxC ?_ | refine s_retN ?_ | refine s_doc ?_ | refine r_var (by with_unfolding_all rfl) ?_ | refine r_int ?_ | refine r_bin ?_ | refine r_cmp ?_ | refine r_idx ?_ | refine r_cons ?_ | refine r_nil ?_ | refine r_bi ?_ | refine r_ty ?_ | refine r_call ?_ | refine r_callP ?_ | refine r_bl ?_ | refine r_tup ?_ | refine r_newL ?_ | refine r_box ?_ | refine r_cut ?_ | refine r_o0 ?_ | refine r_o1 ?_ | refine r_ife ?_ | refine r_str ?_ | refine r_non ?_ | refine r_neg ?_ | refine r_isT ?_ | refine r_app ?_ | refine r_andV ?_ | refine r_andV1 ?_ | refine r_orV ?_ | refine r_orV1 ?_ | refine r_notV ?_ | refine r_glo (by with_unfolding_all rfl) ?_ | refine t_cmp ?_ | refine t_val ?_ | refine t_and ?_ | refine t_and1 ?_ | refine t_or ?_ | refine t_or1 ?_ | refine t_not ?_ | refine c_lst ?_ | refine c_cat ?_ | refine c_rep ?_ | refine c_cut ?_ | refine c_list ?_ | refine c_lc ?_ | refine o_none ?_ | refine o_some ?_ | refine i_seq ?_ | refine i_rng1 ?_ | refine i_rng2 ?_ | refine i_revr ?_ | refine i_rev ?_ | refine i_zip ?_ | refine i_enum ?_ | refine p_add ?_ | refine p_sub ?_ | refine p_lt ?_ | refine p_le ?_ | refine p_gt ?_ | refine p_ge ?_ | refine p_eq ?_ | refine p_ne ?_ | refine p_int ?_ | refine p_intB ?_ | refine p_abs ?_ | refine p_min ?_ | refine p_max ?_ | refine p_lenN ?_ | refine p_lenT ?_ | refine p_lenL ?_ | refine p_tupL ?_ | refine p_pow18 ?_ | refine p_idxR (by assumption) (by with_unfolding_all rfl) ?_ | refine p_idxT (by with_unfolding_all rfl) ?_ | refine p_idxL (by with_unfolding_all rfl) ?_ | refine p_idxN (by assumption) ?_ | refine p_mod (by omega) ?_ | refine p_lenI ?_ | refine p_lenW ?_ | refine p_lenRw ?_ | refine p_fdiv (lg31 (by omega)) ?_))
      exact ⟨R, rfl, hR⟩
  rintro E S8 ⟨R, rfl, hR⟩
  refine s_cut (fun E _ => ∃ R, E = [some (.scr ns), some (.ref 0), some (.int w), some (.int c), some (dW W), some (dR R), none, none, none, o9, none, none, none, none] ∧ Rw w R) ?_ ?_
  · have go : wS (evB (pr.ev 11) (.cons (.set 5 (.new (.lc (.seq (.var 5)) (.name 8) [("_law_item", 8)] .none (.idx (.var 5) (.int 0))))) .nil)) [some (.scr ns), some (.ref 0), some (.int w), some (.int c), some (dW W), some (dR R), none, none, none, o9, none, none, none, none] S8 ⟨fun E _ => ∃ R, E = [some (.scr ns), some (.ref 0), some (.int w), some (.int c), some (dW W), some (dR R), none, none, none, o9, none, none, none, none] ∧ Rw w R, fun d _ => d = .bl true, fun _ _ => False, fun _ _ => False, fun c fs _ S => XF c fs S⟩ := by
      repeat (with_reducible (first | refine s_cons ?_ | refine s_set ?_ | refine s_ret ?_ | refine s_expr ?_ | refine s_sub ?_ | refine s_nil ?_ | refine s_if ?_ | refine s_for ?_ | refine s_setC ?_ | refine s_boxC ?_ | refine s_retN ?_ | refine s_doc ?_ | refine r_var (by with_unfolding_all rfl) ?_ | refine r_int ?_ | refine r_bin ?_ | refine r_cmp ?_ | refine r_idx ?_ | refine r_cons ?_ | refine r_nil ?_ | refine r_bi ?_ | refine r_ty ?_ | refine r_call ?_ | refine r_callP ?_ | refine r_bl ?_ | refine r_tup ?_ | refine r_newL ?_ | refine r_box ?_ | refine r_cut ?_ | refine r_o0 ?_ | refine r_o1 ?_ | refine r_ife ?_ | refine r_str ?_ | refine r_non ?_ | refine r_neg ?_ | refine r_isT ?_ | refine r_app ?_ | refine r_andV ?_ | refine r_andV1 ?_ | refine r_orV ?_ | refine r_orV1 ?_ | refine r_notV ?_ | refine r_glo (by with_unfolding_all rfl) ?_ | refine t_cmp ?_ | refine t_val ?_ | refine t_and ?_ | refine t_and1 ?_ | refine t_or ?_ | refine t_or1 ?_ | refine t_not ?_ | refine c_lst ?_ | refine c_cat ?_ | refine c_rep ?_ | refine c_cut ?_ | refine c_list ?_ | refine c_lc ?_ | refine o_none ?_ | refine o_some ?_ | refine i_seq ?_ | refine i_rng1 ?_ | refine i_rng2 ?_ | refine i_revr ?_ | refine i_rev ?_ | refine i_zip ?_ | refine i_enum ?_ | refine p_add ?_ | refine p_sub ?_ | refine p_lt ?_ | refine p_le ?_ | refine p_gt ?_ | refine p_ge ?_ | refine p_eq ?_ | refine p_ne ?_ | refine p_int ?_ | refine p_intB ?_ | refine p_abs ?_ | refine p_min ?_ | refine p_max ?_ | refine p_lenN ?_ | refine p_lenT ?_ | refine p_lenL ?_ | refine p_tupL ?_ | refine p_pow18 ?_ | refine p_idxR (by assumption) (by with_unfolding_all rfl) ?_ | refine p_idxT (by with_unfolding_all rfl) ?_ | refine p_idxL (by with_unfolding_all rfl) ?_ | refine p_idxN (by assumption) ?_ | refine p_mod (by omega) ?_ | refine p_lenI ?_ | refine p_lenW ?_ | refine p_lenRw ?_ | refine p_fdiv (lg31 (by omega)) ?_))
      refine ⟨_, rfl, by simp; have := hR.len; omega, ?_⟩
      cases R with
      | nil =>
        refine ⟨?_⟩
        refine ⟨_, rfl, ?_⟩
        exact ⟨[], rfl, hR⟩
      | cons x R =>
        refine w_clInv (fun acc S' => ∃ M : List (List Int), acc = M.map dI ∧ ∀ m ∈ M, m = x) _ [] ⟨[], rfl, by simp⟩ ?_ ?_
        · rintro d hd acc S9 ⟨M, rfl, hM⟩
          refine ⟨_, rfl, ?_⟩
          repeat (with_reducible (first | refine s_cons ?_ | refine s_set ?_ | refine s_ret ?_ | refine s_expr ?_ | refine s_sub ?_ | refine s_nil ?_ | refine s_if ?_ | refine s_for ?_ | refine s_setC ?_ | refine s_boxC ?_ | refine s_retN ?_ | refine s_doc ?_ | refine r_var (by with_unfolding_all rfl) ?_ | refine r_int ?_ | refine r_bin ?_ | refine r_cmp ?_ | refine r_idx ?_ | refine r_cons ?_ | refine r_nil ?_ | refine r_bi ?_ | refine r_ty ?_ | refine r_call ?_ | refine r_callP ?_ | refine r_bl ?_ | refine r_tup ?_ | refine r_newL ?_ | refine r_box ?_ | refine r_cut ?_ | refine r_o0 ?_ | refine r_o1 ?_ | refine r_ife ?_ | refine r_str ?_ | refine r_non ?_ | refine r_neg ?_ | refine r_isT ?_ | refine r_app ?_ | refine r_andV ?_ | refine r_andV1 ?_ | refine r_orV ?_ | refine r_orV1 ?_ | refine r_notV ?_ | refine r_glo (by with_unfolding_all rfl) ?_ | refine t_cmp ?_ | refine t_val ?_ | refine t_and ?_ | refine t_and1 ?_ | refine t_or ?_ | refine t_or1 ?_ | refine t_not ?_ | refine c_lst ?_ | refine c_cat ?_ | refine c_rep ?_ | refine c_cut ?_ | refine c_list ?_ | refine c_lc ?_ | refine o_none ?_ | refine o_some ?_ | refine i_seq ?_ | refine i_rng1 ?_ | refine i_rng2 ?_ | refine i_revr ?_ | refine i_rev ?_ | refine i_zip ?_ | refine i_enum ?_ | refine p_add ?_ | refine p_sub ?_ | refine p_lt ?_ | refine p_le ?_ | refine p_gt ?_ | refine p_ge ?_ | refine p_eq ?_ | refine p_ne ?_ | refine p_int ?_ | refine p_intB ?_ | refine p_abs ?_ | refine p_min ?_ | refine p_max ?_ | refine p_lenN ?_ | refine p_lenT ?_ | refine p_lenL ?_ | refine p_tupL ?_ | refine p_pow18 ?_ | refine p_idxR (by assumption) (by with_unfolding_all rfl) ?_ | refine p_idxT (by with_unfolding_all rfl) ?_ | refine p_idxL (by with_unfolding_all rfl) ?_ | refine p_idxN (by assumption) ?_ | refine p_mod (by omega) ?_ | refine p_lenI ?_ | refine p_lenW ?_ | refine p_lenRw ?_ | refine p_fdiv (lg31 (by omega)) ?_))
          refine p_idxRw (a := x) (by decide) rfl ?_
          refine ⟨M ++ [x], by simp, fun m hm => ?_⟩
          rcases List.mem_append.mp hm with h | h
          · exact hM m h
          · exact List.mem_singleton.mp h
        · rintro xs S9 ⟨M, hM, hMm⟩ hl
          have hM' : xs = M.map dI := hM
          subst hM'
          refine ⟨_, rfl, ?_⟩
          have hRl := hR.len
          refine ⟨M, rfl, ⟨by rw [List.length_map, List.length_map] at hl; omega, fun m hm => ?_⟩⟩
          rw [hMm m hm]
          exact hR.it _ (List.mem_cons_self ..)
    repeat (with_reducible (first | refine s_cons ?_ | refine s_set ?_ | refine s_ret ?_ | refine s_expr ?_ | refine s_sub ?_ | refine s_nil ?_ | refine s_if ?_ | refine s_for ?_ | refine s_setC ?_ | refine s_boxC ?_ | refine s_retN ?_ | refine s_doc ?_ | refine r_var (by with_unfolding_all rfl) ?_ | refine r_int ?_ | refine r_bin ?_ | refine r_cmp ?_ | refine r_idx ?_ | refine r_cons ?_ | refine r_nil ?_ | refine r_bi ?_ | refine r_ty ?_ | refine r_call ?_ | refine r_callP ?_ | refine r_bl ?_ | refine r_tup ?_ | refine r_newL ?_ | refine r_box ?_ | refine r_cut ?_ | refine r_o0 ?_ | refine r_o1 ?_ | refine r_ife ?_ | refine r_str ?_ | refine r_non ?_ | refine r_neg ?_ | refine r_isT ?_ | refine r_app ?_ | refine r_andV ?_ | refine r_andV1 ?_ | refine r_orV ?_ | refine r_orV1 ?_ | refine r_notV ?_ | refine r_glo (by with_unfolding_all rfl) ?_ | refine t_cmp ?_ | refine t_val ?_ | refine t_and ?_ | refine t_and1 ?_ | refine t_or ?_ | refine t_or1 ?_ | refine t_not ?_ | refine c_lst ?_ | refine c_cat ?_ | refine c_rep ?_ | refine c_cut ?_ | refine c_list ?_ | refine c_lc ?_ | refine o_none ?_ | refine o_some ?_ | refine i_seq ?_ | refine i_rng1 ?_ | refine i_rng2 ?_ | refine i_revr ?_ | refine i_rev ?_ | refine i_zip ?_ | refine i_enum ?_ | refine p_add ?_ | refine p_sub ?_ | refine p_lt ?_ | refine p_le ?_ | refine p_gt ?_ | refine p_ge ?_ | refine p_eq ?_ | refine p_ne ?_ | refine p_int ?_ | refine p_intB ?_ | refine p_abs ?_ | refine p_min ?_ | refine p_max ?_ | refine p_lenN ?_ | refine p_lenT ?_ | refine p_lenL ?_ | refine p_tupL ?_ | refine p_pow18 ?_ | refine p_idxR (by assumption) (by with_unfolding_all rfl) ?_ | refine p_idxT (by with_unfolding_all rfl) ?_ | refine p_idxL (by with_unfolding_all rfl) ?_ | refine p_idxN (by assumption) ?_ | refine p_mod (by omega) ?_ | refine p_lenI ?_ | refine p_lenW ?_ | refine p_lenRw ?_ | refine p_fdiv (lg31 (by omega)) ?_))
    refine ⟨_, rfl, fun _ => ?_, fun _ => ?_⟩
    · repeat (with_reducible (first | refine s_cons ?_ | refine s_set ?_ | refine s_ret ?_ | refine s_expr ?_ | refine s_sub ?_ | refine s_nil ?_ | refine s_if ?_ | refine s_for ?_ | refine s_setC ?_ | refine s_boxC ?_ | refine s_retN ?_ | refine s_doc ?_ | refine r_var (by with_unfolding_all rfl) ?_ | refine r_int ?_ | refine r_bin ?_ | refine r_cmp ?_ | refine r_idx ?_ | refine r_cons ?_ | refine r_nil ?_ | refine r_bi ?_ | refine r_ty ?_ | refine r_call ?_ | refine r_callP ?_ | refine r_bl ?_ | refine r_tup ?_ | refine r_newL ?_ | refine r_box ?_ | refine r_cut ?_ | refine r_o0 ?_ | refine r_o1 ?_ | refine r_ife ?_ | refine r_str ?_ | refine r_non ?_ | refine r_neg ?_ | refine r_isT ?_ | refine r_app ?_ | refine r_andV ?_ | refine r_andV1 ?_ | refine r_orV ?_ | refine r_orV1 ?_ | refine r_notV ?_ | refine r_glo (by with_unfolding_all rfl) ?_ | refine t_cmp ?_ | refine t_val ?_ | refine t_and ?_ | refine t_and1 ?_ | refine t_or ?_ | refine t_or1 ?_ | refine t_not ?_ | refine c_lst ?_ | refine c_cat ?_ | refine c_rep ?_ | refine c_cut ?_ | refine c_list ?_ | refine c_lc ?_ | refine o_none ?_ | refine o_some ?_ | refine i_seq ?_ | refine i_rng1 ?_ | refine i_rng2 ?_ | refine i_revr ?_ | refine i_rev ?_ | refine i_zip ?_ | refine i_enum ?_ | refine p_add ?_ | refine p_sub ?_ | refine p_lt ?_ | refine p_le ?_ | refine p_gt ?_ | refine p_ge ?_ | refine p_eq ?_ | refine p_ne ?_ | refine p_int ?_ | refine p_intB ?_ | refine p_abs ?_ | refine p_min ?_ | refine p_max ?_ | refine p_lenN ?_ | refine p_lenT ?_ | refine p_lenL ?_ | refine p_tupL ?_ | refine p_pow18 ?_ | refine p_idxR (by assumption) (by with_unfolding_all rfl) ?_ | refine p_idxT (by with_unfolding_all rfl) ?_ | refine p_idxL (by with_unfolding_all rfl) ?_ | refine p_idxN (by assumption) ?_ | refine p_mod (by omega) ?_ | refine p_lenI ?_ | refine p_lenW ?_ | refine p_lenRw ?_ | refine p_fdiv (lg31 (by omega)) ?_))
      refine ⟨_, rfl, fun _ => go, fun _ => ?_⟩
      repeat (with_reducible (first | refine s_cons ?_ | refine s_set ?_ | refine s_ret ?_ | refine s_expr ?_ | refine s_sub ?_ | refine s_nil ?_ | refine s_if ?_ | refine s_for ?_ | refine s_setC ?_ | refine s_boxC ?_ | refine s_retN ?_ | refine s_doc ?_ | refine r_var (by with_unfolding_all rfl) ?_ | refine r_int ?_ | refine r_bin ?_ | refine r_cmp ?_ | refine r_idx ?_ | refine r_cons ?_ | refine r_nil ?_ | refine r_bi ?_ | refine r_ty ?_ | refine r_call ?_ | refine r_callP ?_ | refine r_bl ?_ | refine r_tup ?_ | refine r_newL ?_ | refine r_box ?_ | refine r_cut ?_ | refine r_o0 ?_ | refine r_o1 ?_ | refine r_ife ?_ | refine r_str ?_ | refine r_non ?_ | refine r_neg ?_ | refine r_isT ?_ | refine r_app ?_ | refine r_andV ?_ | refine r_andV1 ?_ | refine r_orV ?_ | refine r_orV1 ?_ | refine r_notV ?_ | refine r_glo (by with_unfolding_all rfl) ?_ | refine t_cmp ?_ | refine t_val ?_ | refine t_and ?_ | refine t_and1 ?_ | refine t_or ?_ | refine t_or1 ?_ | refine t_not ?_ | refine c_lst ?_ | refine c_cat ?_ | refine c_rep ?_ | refine c_cut ?_ | refine c_list ?_ | refine c_lc ?_ | refine o_none ?_ | refine o_some ?_ | refine i_seq ?_ | refine i_rng1 ?_ | refine i_rng2 ?_ | refine i_revr ?_ | refine i_rev ?_ | refine i_zip ?_ | refine i_enum ?_ | refine p_add ?_ | refine p_sub ?_ | refine p_lt ?_ | refine p_le ?_ | refine p_gt ?_ | refine p_ge ?_ | refine p_eq ?_ | refine p_ne ?_ | refine p_int ?_ | refine p_intB ?_ | refine p_abs ?_ | refine p_min ?_ | refine p_max ?_ | refine p_lenN ?_ | refine p_lenT ?_ | refine p_lenL ?_ | refine p_tupL ?_ | refine p_pow18 ?_ | refine p_idxR (by assumption) (by with_unfolding_all rfl) ?_ | refine p_idxT (by with_unfolding_all rfl) ?_ | refine p_idxL (by with_unfolding_all rfl) ?_ | refine p_idxN (by assumption) ?_ | refine p_mod (by omega) ?_ | refine p_lenI ?_ | refine p_lenW ?_ | refine p_lenRw ?_ | refine p_fdiv (lg31 (by omega)) ?_))
      exact ⟨R, rfl, hR⟩
    · refine ⟨fun _ => go, fun z => by cases z⟩
  rintro E S9 ⟨R, rfl, hR⟩
  refine s_cut (fun E _ => E = [some (.scr ns), some (.ref 0), some (.int w), some (.int c), some (dW W), some (dR R), some (dR R), none, none, o9, none, none, none, none]) ?_ ?_
  · repeat (with_reducible (first | refine s_cons ?_ | refine s_set ?_ | refine s_ret ?_ | refine s_expr ?_ | refine s_sub ?_ | refine s_nil ?_ | refine s_if ?_ | refine s_for ?_ | refine s_setC ?_ | refine s_boxC ?_ | refine s_retN ?_ | refine s_doc ?_ | refine r_var (by with_unfolding_all rfl) ?_ | refine r_int ?_ | refine r_bin ?_ | refine r_cmp ?_ | refine r_idx ?_ | refine r_cons ?_ | refine r_nil ?_ | refine r_bi ?_ | refine r_ty ?_ | refine r_call ?_ | refine r_callP ?_ | refine r_bl ?_ | refine r_tup ?_ | refine r_newL ?_ | refine r_box ?_ | refine r_cut ?_ | refine r_o0 ?_ | refine r_o1 ?_ | refine r_ife ?_ | refine r_str ?_ | refine r_non ?_ | refine r_neg ?_ | refine r_isT ?_ | refine r_app ?_ | refine r_andV ?_ | refine r_andV1 ?_ | refine r_orV ?_ | refine r_orV1 ?_ | refine r_notV ?_ | refine r_glo (by with_unfolding_all rfl) ?_ | refine t_cmp ?_ | refine t_val ?_ | refine t_and ?_ | refine t_and1 ?_ | refine t_or ?_ | refine t_or1 ?_ | refine t_not ?_ | refine c_lst ?_ | refine c_cat ?_ | refine c_rep ?_ | refine c_cut ?_ | refine c_list ?_ | refine c_lc ?_ | refine o_none ?_ | refine o_some ?_ | refine i_seq ?_ | refine i_rng1 ?_ | refine i_rng2 ?_ | refine i_revr ?_ | refine i_rev ?_ | refine i_zip ?_ | refine i_enum ?_ | refine p_add ?_ | refine p_sub ?_ | refine p_lt ?_ | refine p_le ?_ | refine p_gt ?_ | refine p_ge ?_ | refine p_eq ?_ | refine p_ne ?_ | refine p_int ?_ | refine p_intB ?_ | refine p_abs ?_ | refine p_min ?_ | refine p_max ?_ | refine p_lenN ?_ | refine p_lenT ?_ | refine p_lenL ?_ | refine p_tupL ?_ | refine p_pow18 ?_ | refine p_idxR (by assumption) (by with_unfolding_all rfl) ?_ | refine p_idxT (by with_unfolding_all rfl) ?_ | refine p_idxL (by with_unfolding_all rfl) ?_ | refine p_idxN (by assumption) ?_ | refine p_mod (by omega) ?_ | refine p_lenI ?_ | refine p_lenW ?_ | refine p_lenRw ?_ | refine p_fdiv (lg31 (by omega)) ?_))
    refine ⟨_, rfl, by simp; have := hR.len; omega, ?_⟩
    refine w_clMap (fun d => d) _ ?_ ?_
    · intro d _
      exact ⟨_, rfl, rfl⟩
    · refine ⟨_, rfl, ?_⟩
      rw [List.map_id']
      rfl
  rintro E S10 rfl
  repeat (with_reducible (first | refine s_cons ?_ | refine s_set ?_ | refine s_ret ?_ | refine s_expr ?_ | refine s_sub ?_ | refine s_nil ?_ | refine s_if ?_ | refine s_for ?_ | refine s_setC ?_ | refine s_boxC ?_ | refine s_retN ?_ | refine s_doc ?_ | refine r_var (by with_unfolding_all rfl) ?_ | refine r_int ?_ | refine r_bin ?_ | refine r_cmp ?_ | refine r_idx ?_ | refine r_cons ?_ | refine r_nil ?_ | refine r_bi ?_ | refine r_ty ?_ | refine r_call ?_ | refine r_callP ?_ | refine r_bl ?_ | refine r_tup ?_ | refine r_newL ?_ | refine r_box ?_ | refine r_cut ?_ | refine r_o0 ?_ | refine r_o1 ?_ | refine r_ife ?_ | refine r_str ?_ | refine r_non ?_ | refine r_neg ?_ | refine r_isT ?_ | refine r_app ?_ | refine r_andV ?_ | refine r_andV1 ?_ | refine r_orV ?_ | refine r_orV1 ?_ | refine r_notV ?_ | refine r_glo (by with_unfolding_all rfl) ?_ | refine t_cmp ?_ | refine t_val ?_ | refine t_and ?_ | refine t_and1 ?_ | refine t_or ?_ | refine t_or1 ?_ | refine t_not ?_ | refine c_lst ?_ | refine c_cat ?_ | refine c_rep ?_ | refine c_cut ?_ | refine c_list ?_ | refine c_lc ?_ | refine o_none ?_ | refine o_some ?_ | refine i_seq ?_ | refine i_rng1 ?_ | refine i_rng2 ?_ | refine i_revr ?_ | refine i_rev ?_ | refine i_zip ?_ | refine i_enum ?_ | refine p_add ?_ | refine p_sub ?_ | refine p_lt ?_ | refine p_le ?_ | refine p_gt ?_ | refine p_ge ?_ | refine p_eq ?_ | refine p_ne ?_ | refine p_int ?_ | refine p_intB ?_ | refine p_abs ?_ | refine p_min ?_ | refine p_max ?_ | refine p_lenN ?_ | refine p_lenT ?_ | refine p_lenL ?_ | refine p_tupL ?_ | refine p_pow18 ?_ | refine p_idxR (by assumption) (by with_unfolding_all rfl) ?_ | refine p_idxT (by with_unfolding_all rfl) ?_ | refine p_idxL (by with_unfolding_all rfl) ?_ | refine p_idxN (by assumption) ?_ | refine p_mod (by omega) ?_ | refine p_lenI ?_ | refine p_lenW ?_ | refine p_lenRw ?_ | refine p_fdiv (lg31 (by omega)) ?_))
  refine k_pure [] rfl rfl (by simp [D.noRefs, dW_noRef, dR_noRef]) ((sp_wv (n := 8) hw1.2 hW hR).to fun d _ e => ?_)
  subst e
  refine ⟨rfl, ?_⟩
  refine s_cut (fun E _ => E = [some (.scr ns), some (.ref 0), some (.int w), some (.int c), some (dW W), some (dR R), some (dR R), some (.int (T W R)), none, o9, none, none, none, none]) ?_ ?_
  · repeat (with_reducible (first | refine s_cons ?_ | refine s_set ?_ | refine s_ret ?_ | refine s_expr ?_ | refine s_sub ?_ | refine s_nil ?_ | refine s_if ?_ | refine s_for ?_ | refine s_setC ?_ | refine s_boxC ?_ | refine s_retN ?_ | refine s_doc ?_ | refine r_var (by with_unfolding_all rfl) ?_ | refine r_int ?_ | refine r_bin ?_ | refine r_cmp ?_ | refine r_idx ?_ | refine r_cons ?_ | refine r_nil ?_ | refine r_bi ?_ | refine r_ty ?_ | refine r_call ?_ | refine r_callP ?_ | refine r_bl ?_ | refine r_tup ?_ | refine r_newL ?_ | refine r_box ?_ | refine r_cut ?_ | refine r_o0 ?_ | refine r_o1 ?_ | refine r_ife ?_ | refine r_str ?_ | refine r_non ?_ | refine r_neg ?_ | refine r_isT ?_ | refine r_app ?_ | refine r_andV ?_ | refine r_andV1 ?_ | refine r_orV ?_ | refine r_orV1 ?_ | refine r_notV ?_ | refine r_glo (by with_unfolding_all rfl) ?_ | refine t_cmp ?_ | refine t_val ?_ | refine t_and ?_ | refine t_and1 ?_ | refine t_or ?_ | refine t_or1 ?_ | refine t_not ?_ | refine c_lst ?_ | refine c_cat ?_ | refine c_rep ?_ | refine c_cut ?_ | refine c_list ?_ | refine c_lc ?_ | refine o_none ?_ | refine o_some ?_ | refine i_seq ?_ | refine i_rng1 ?_ | refine i_rng2 ?_ | refine i_revr ?_ | refine i_rev ?_ | refine i_zip ?_ | refine i_enum ?_ | refine p_add ?_ | refine p_sub ?_ | refine p_lt ?_ | refine p_le ?_ | refine p_gt ?_ | refine p_ge ?_ | refine p_eq ?_ | refine p_ne ?_ | refine p_int ?_ | refine p_intB ?_ | refine p_abs ?_ | refine p_min ?_ | refine p_max ?_ | refine p_lenN ?_ | refine p_lenT ?_ | refine p_lenL ?_ | refine p_tupL ?_ | refine p_pow18 ?_ | refine p_idxR (by assumption) (by with_unfolding_all rfl) ?_ | refine p_idxT (by with_unfolding_all rfl) ?_ | refine p_idxL (by with_unfolding_all rfl) ?_ | refine p_idxN (by assumption) ?_ | refine p_mod (by omega) ?_ | refine p_lenI ?_ | refine p_lenW ?_ | refine p_lenRw ?_ | refine p_fdiv (lg31 (by omega)) ?_))
    refine k_pure [] rfl rfl (by simp [D.noRefs, D.noRef]) ((sp_whole (n := 10)).to fun d _ e => ?_)
    subst e
    refine ⟨rfl, _, rfl, fun _ => ?_, fun z => by cases z⟩
    repeat (with_reducible (first | refine s_cons ?_ | refine s_set ?_ | refine s_ret ?_ | refine s_expr ?_ | refine s_sub ?_ | refine s_nil ?_ | refine s_if ?_ | refine s_for ?_ | refine s_setC ?_ | refine s_boxC ?_ | refine s_retN ?_ | refine s_doc ?_ | refine r_var (by with_unfolding_all rfl) ?_ | refine r_int ?_ | refine r_bin ?_ | refine r_cmp ?_ | refine r_idx ?_ | refine r_cons ?_ | refine r_nil ?_ | refine r_bi ?_ | refine r_ty ?_ | refine r_call ?_ | refine r_callP ?_ | refine r_bl ?_ | refine r_tup ?_ | refine r_newL ?_ | refine r_box ?_ | refine r_cut ?_ | refine r_o0 ?_ | refine r_o1 ?_ | refine r_ife ?_ | refine r_str ?_ | refine r_non ?_ | refine r_neg ?_ | refine r_isT ?_ | refine r_app ?_ | refine r_andV ?_ | refine r_andV1 ?_ | refine r_orV ?_ | refine r_orV1 ?_ | refine r_notV ?_ | refine r_glo (by with_unfolding_all rfl) ?_ | refine t_cmp ?_ | refine t_val ?_ | refine t_and ?_ | refine t_and1 ?_ | refine t_or ?_ | refine t_or1 ?_ | refine t_not ?_ | refine c_lst ?_ | refine c_cat ?_ | refine c_rep ?_ | refine c_cut ?_ | refine c_list ?_ | refine c_lc ?_ | refine o_none ?_ | refine o_some ?_ | refine i_seq ?_ | refine i_rng1 ?_ | refine i_rng2 ?_ | refine i_revr ?_ | refine i_rev ?_ | refine i_zip ?_ | refine i_enum ?_ | refine p_add ?_ | refine p_sub ?_ | refine p_lt ?_ | refine p_le ?_ | refine p_gt ?_ | refine p_ge ?_ | refine p_eq ?_ | refine p_ne ?_ | refine p_int ?_ | refine p_intB ?_ | refine p_abs ?_ | refine p_min ?_ | refine p_max ?_ | refine p_lenN ?_ | refine p_lenT ?_ | refine p_lenL ?_ | refine p_tupL ?_ | refine p_pow18 ?_ | refine p_idxR (by assumption) (by with_unfolding_all rfl) ?_ | refine p_idxT (by with_unfolding_all rfl) ?_ | refine p_idxL (by with_unfolding_all rfl) ?_ | refine p_idxN (by assumption) ?_ | refine p_mod (by omega) ?_ | refine p_lenI ?_ | refine p_lenW ?_ | refine p_lenRw ?_ | refine p_fdiv (lg31 (by omega)) ?_))
    refine k_pure [] rfl rfl (by simp [D.noRefs, dW_noRef, dR_noRef]) ?_
    have hlv := sp_lv (n := 9 - W.length) hw1.2 hW hR
    rw [show 9 - W.length + W.length + 2 = 11 by have := hW.len; omega] at hlv
    refine hlv.to fun d _ e => ?_
    subst e
    refine ⟨rfl, ?_⟩
    repeat (with_reducible (first | refine s_cons ?_ | refine s_set ?_ | refine s_ret ?_ | refine s_expr ?_ | refine s_sub ?_ | refine s_nil ?_ | refine s_if ?_ | refine s_for ?_ | refine s_setC ?_ | refine s_boxC ?_ | refine s_retN ?_ | refine s_doc ?_ | refine r_var (by with_unfolding_all rfl) ?_ | refine r_int ?_ | refine r_bin ?_ | refine r_cmp ?_ | refine r_idx ?_ | refine r_cons ?_ | refine r_nil ?_ | refine r_bi ?_ | refine r_ty ?_ | refine r_call ?_ | refine r_callP ?_ | refine r_bl ?_ | refine r_tup ?_ | refine r_newL ?_ | refine r_box ?_ | refine r_cut ?_ | refine r_o0 ?_ | refine r_o1 ?_ | refine r_ife ?_ | refine r_str ?_ | refine r_non ?_ | refine r_neg ?_ | refine r_isT ?_ | refine r_app ?_ | refine r_andV ?_ | refine r_andV1 ?_ | refine r_orV ?_ | refine r_orV1 ?_ | refine r_notV ?_ | refine r_glo (by with_unfolding_all rfl) ?_ | refine t_cmp ?_ | refine t_val ?_ | refine t_and ?_ | refine t_and1 ?_ | refine t_or ?_ | refine t_or1 ?_ | refine t_not ?_ | refine c_lst ?_ | refine c_cat ?_ | refine c_rep ?_ | refine c_cut ?_ | refine c_list ?_ | refine c_lc ?_ | refine o_none ?_ | refine o_some ?_ | refine i_seq ?_ | refine i_rng1 ?_ | refine i_rng2 ?_ | refine i_revr ?_ | refine i_rev ?_ | refine i_zip ?_ | refine i_enum ?_ | refine p_add ?_ | refine p_sub ?_ | refine p_lt ?_ | refine p_le ?_ | refine p_gt ?_ | refine p_ge ?_ | refine p_eq ?_ | refine p_ne ?_ | refine p_int ?_ | refine p_intB ?_ | refine p_abs ?_ | refine p_min ?_ | refine p_max ?_ | refine p_lenN ?_ | refine p_lenT ?_ | refine p_lenL ?_ | refine p_tupL ?_ | refine p_pow18 ?_ | refine p_idxR (by assumption) (by with_unfolding_all rfl) ?_ | refine p_idxT (by with_unfolding_all rfl) ?_ | refine p_idxL (by with_unfolding_all rfl) ?_ | refine p_idxN (by assumption) ?_ | refine p_mod (by omega) ?_ | refine p_lenI ?_ | refine p_lenW ?_ | refine p_lenRw ?_ | refine p_fdiv (lg31 (by omega)) ?_))
    refine ⟨_, rfl, fun _ => ?_, fun z => by simp at z⟩
    repeat (with_reducible (first | refine s_cons ?_ | refine s_set ?_ | refine s_ret ?_ | refine s_expr ?_ | refine s_sub ?_ | refine s_nil ?_ | refine s_if ?_ | refine s_for ?_ | refine s_setC ?_ | refine s_boxC ?_ | refine s_retN ?_ | refine s_doc ?_ | refine r_var (by with_unfolding_all rfl) ?_ | refine r_int ?_ | refine r_bin ?_ | refine r_cmp ?_ | refine r_idx ?_ | refine r_cons ?_ | refine r_nil ?_ | refine r_bi ?_ | refine r_ty ?_ | refine r_call ?_ | refine r_callP ?_ | refine r_bl ?_ | refine r_tup ?_ | refine r_newL ?_ | refine r_box ?_ | refine r_cut ?_ | refine r_o0 ?_ | refine r_o1 ?_ | refine r_ife ?_ | refine r_str ?_ | refine r_non ?_ | refine r_neg ?_ | refine r_isT ?_ | refine r_app ?_ | refine r_andV ?_ | refine r_andV1 ?_ | refine r_orV ?_ | refine r_orV1 ?_ | refine r_notV ?_ | refine r_glo (by with_unfolding_all rfl) ?_ | refine t_cmp ?_ | refine t_val ?_ | refine t_and ?_ | refine t_and1 ?_ | refine t_or ?_ | refine t_or1 ?_ | refine t_not ?_ | refine c_lst ?_ | refine c_cat ?_ | refine c_rep ?_ | refine c_cut ?_ | refine c_list ?_ | refine c_lc ?_ | refine o_none ?_ | refine o_some ?_ | refine i_seq ?_ | refine i_rng1 ?_ | refine i_rng2 ?_ | refine i_revr ?_ | refine i_rev ?_ | refine i_zip ?_ | refine i_enum ?_ | refine p_add ?_ | refine p_sub ?_ | refine p_lt ?_ | refine p_le ?_ | refine p_gt ?_ | refine p_ge ?_ | refine p_eq ?_ | refine p_ne ?_ | refine p_int ?_ | refine p_intB ?_ | refine p_abs ?_ | refine p_min ?_ | refine p_max ?_ | refine p_lenN ?_ | refine p_lenT ?_ | refine p_lenL ?_ | refine p_tupL ?_ | refine p_pow18 ?_ | refine p_idxR (by assumption) (by with_unfolding_all rfl) ?_ | refine p_idxT (by with_unfolding_all rfl) ?_ | refine p_idxL (by with_unfolding_all rfl) ?_ | refine p_idxN (by assumption) ?_ | refine p_mod (by omega) ?_ | refine p_lenI ?_ | refine p_lenW ?_ | refine p_lenRw ?_ | refine p_fdiv (lg31 (by omega)) ?_))
    refine p_neG (eqOk_of dR_plain dR_plain (Nat.le_trans dR_depth (by decide)) (Nat.le_trans dR_depth (by decide))) ?_
    refine ⟨false, congrArg (fun b => D.bl (!b)) (eqv_refl (dR R) dR_plain), fun z => (by cases z), fun _ => ?_⟩
    repeat (with_reducible (first | refine s_cons ?_ | refine s_set ?_ | refine s_ret ?_ | refine s_expr ?_ | refine s_sub ?_ | refine s_nil ?_ | refine s_if ?_ | refine s_for ?_ | refine s_setC ?_ | refine s_boxC ?_ | refine s_retN ?_ | refine s_doc ?_ | refine r_var (by with_unfolding_all rfl) ?_ | refine r_int ?_ | refine r_bin ?_ | refine r_cmp ?_ | refine r_idx ?_ | refine r_cons ?_ | refine r_nil ?_ | refine r_bi ?_ | refine r_ty ?_ | refine r_call ?_ | refine r_callP ?_ | refine r_bl ?_ | refine r_tup ?_ | refine r_newL ?_ | refine r_box ?_ | refine r_cut ?_ | refine r_o0 ?_ | refine r_o1 ?_ | refine r_ife ?_ | refine r_str ?_ | refine r_non ?_ | refine r_neg ?_ | refine r_isT ?_ | refine r_app ?_ | refine r_andV ?_ | refine r_andV1 ?_ | refine r_orV ?_ | refine r_orV1 ?_ | refine r_notV ?_ | refine r_glo (by with_unfolding_all rfl) ?_ | refine t_cmp ?_ | refine t_val ?_ | refine t_and ?_ | refine t_and1 ?_ | refine t_or ?_ | refine t_or1 ?_ | refine t_not ?_ | refine c_lst ?_ | refine c_cat ?_ | refine c_rep ?_ | refine c_cut ?_ | refine c_list ?_ | refine c_lc ?_ | refine o_none ?_ | refine o_some ?_ | refine i_seq ?_ | refine i_rng1 ?_ | refine i_rng2 ?_ | refine i_revr ?_ | refine i_rev ?_ | refine i_zip ?_ | refine i_enum ?_ | refine p_add ?_ | refine p_sub ?_ | refine p_lt ?_ | refine p_le ?_ | refine p_gt ?_ | refine p_ge ?_ | refine p_eq ?_ | refine p_ne ?_ | refine p_int ?_ | refine p_intB ?_ | refine p_abs ?_ | refine p_min ?_ | refine p_max ?_ | refine p_lenN ?_ | refine p_lenT ?_ | refine p_lenL ?_ | refine p_tupL ?_ | refine p_pow18 ?_ | refine p_idxR (by assumption) (by with_unfolding_all rfl) ?_ | refine p_idxT (by with_unfolding_all rfl) ?_ | refine p_idxL (by with_unfolding_all rfl) ?_ | refine p_idxN (by assumption) ?_ | refine p_mod (by omega) ?_ | refine p_lenI ?_ | refine p_lenW ?_ | refine p_lenRw ?_ | refine p_fdiv (lg31 (by omega)) ?_))
    rfl
  rintro E S11 rfl
  refine s_cut (fun E _ => E = [some (.scr ns), some (.ref 0), some (.int w), some (.int c), some (dW W), some (dR R), some (dR R), some (.int (T W R)), none, o9, none, none, none, none]) ?_ ?_
  · repeat (with_reducible (first | refine s_cons ?_ | refine s_set ?_ | refine s_ret ?_ | refine s_expr ?_ | refine s_sub ?_ | refine s_nil ?_ | refine s_if ?_ | refine s_for ?_ | refine s_setC ?_ | refine s_boxC ?_ | refine s_retN ?_ | refine s_doc ?_ | refine r_var (by with_unfolding_all rfl) ?_ | refine r_int ?_ | refine r_bin ?_ | refine r_cmp ?_ | refine r_idx ?_ | refine r_cons ?_ | refine r_nil ?_ | refine r_bi ?_ | refine r_ty ?_ | refine r_call ?_ | refine r_callP ?_ | refine r_bl ?_ | refine r_tup ?_ | refine r_newL ?_ | refine r_box ?_ | refine r_cut ?_ | refine r_o0 ?_ | refine r_o1 ?_ | refine r_ife ?_ | refine r_str ?_ | refine r_non ?_ | refine r_neg ?_ | refine r_isT ?_ | refine r_app ?_ | refine r_andV ?_ | refine r_andV1 ?_ | refine r_orV ?_ | refine r_orV1 ?_ | refine r_notV ?_ | refine r_glo (by with_unfolding_all rfl) ?_ | refine t_cmp ?_ | refine t_val ?_ | refine t_and ?_ | refine t_and1 ?_ | refine t_or ?_ | refine t_or1 ?_ | refine t_not ?_ | refine c_lst ?_ | refine c_cat ?_ | refine c_rep ?_ | refine c_cut ?_ | refine c_list ?_ | refine c_lc ?_ | refine o_none ?_ | refine o_some ?_ | refine i_seq ?_ | refine i_rng1 ?_ | refine i_rng2 ?_ | refine i_revr ?_ | refine i_rev ?_ | refine i_zip ?_ | refine i_enum ?_ | refine p_add ?_ | refine p_sub ?_ | refine p_lt ?_ | refine p_le ?_ | refine p_gt ?_ | refine p_ge ?_ | refine p_eq ?_ | refine p_ne ?_ | refine p_int ?_ | refine p_intB ?_ | refine p_abs ?_ | refine p_min ?_ | refine p_max ?_ | refine p_lenN ?_ | refine p_lenT ?_ | refine p_lenL ?_ | refine p_tupL ?_ | refine p_pow18 ?_ | refine p_idxR (by assumption) (by with_unfolding_all rfl) ?_ | refine p_idxT (by with_unfolding_all rfl) ?_ | refine p_idxL (by with_unfolding_all rfl) ?_ | refine p_idxN (by assumption) ?_ | refine p_mod (by omega) ?_ | refine p_lenI ?_ | refine p_lenW ?_ | refine p_lenRw ?_ | refine p_fdiv (lg31 (by omega)) ?_))
    refine ⟨by simp, ?_⟩
    repeat (with_reducible (first | refine s_cons ?_ | refine s_set ?_ | refine s_ret ?_ | refine s_expr ?_ | refine s_sub ?_ | refine s_nil ?_ | refine s_if ?_ | refine s_for ?_ | refine s_setC ?_ | refine s_boxC ?_ | refine s_retN ?_ | refine s_doc ?_ | refine r_var (by with_unfolding_all rfl) ?_ | refine r_int ?_ | refine r_bin ?_ | refine r_cmp ?_ | refine r_idx ?_ | refine r_cons ?_ | refine r_nil ?_ | refine r_bi ?_ | refine r_ty ?_ | refine r_call ?_ | refine r_callP ?_ | refine r_bl ?_ | refine r_tup ?_ | refine r_newL ?_ | refine r_box ?_ | refine r_cut ?_ | refine r_o0 ?_ | refine r_o1 ?_ | refine r_ife ?_ | refine r_str ?_ | refine r_non ?_ | refine r_neg ?_ | refine r_isT ?_ | refine r_app ?_ | refine r_andV ?_ | refine r_andV1 ?_ | refine r_orV ?_ | refine r_orV1 ?_ | refine r_notV ?_ | refine r_glo (by with_unfolding_all rfl) ?_ | refine t_cmp ?_ | refine t_val ?_ | refine t_and ?_ | refine t_and1 ?_ | refine t_or ?_ | refine t_or1 ?_ | refine t_not ?_ | refine c_lst ?_ | refine c_cat ?_ | refine c_rep ?_ | refine c_cut ?_ | refine c_list ?_ | refine c_lc ?_ | refine o_none ?_ | refine o_some ?_ | refine i_seq ?_ | refine i_rng1 ?_ | refine i_rng2 ?_ | refine i_revr ?_ | refine i_rev ?_ | refine i_zip ?_ | refine i_enum ?_ | refine p_add ?_ | refine p_sub ?_ | refine p_lt ?_ | refine p_le ?_ | refine p_gt ?_ | refine p_ge ?_ | refine p_eq ?_ | refine p_ne ?_ | refine p_int ?_ | refine p_intB ?_ | refine p_abs ?_ | refine p_min ?_ | refine p_max ?_ | refine p_lenN ?_ | refine p_lenT ?_ | refine p_lenL ?_ | refine p_tupL ?_ | refine p_pow18 ?_ | refine p_idxR (by assumption) (by with_unfolding_all rfl) ?_ | refine p_idxT (by with_unfolding_all rfl) ?_ | refine p_idxL (by with_unfolding_all rfl) ?_ | refine p_idxN (by assumption) ?_ | refine p_mod (by omega) ?_ | refine p_lenI ?_ | refine p_lenW ?_ | refine p_lenRw ?_ | refine p_fdiv (lg31 (by omega)) ?_))
    refine k_pure [] rfl rfl (by simp [D.noRefs, D.noRef, dR_noRef]) ((sp_wv (n := 8) (W := []) hw1.2 ⟨by simp, by simp⟩ hR).to fun d _ e => ?_)
    subst e
    refine ⟨rfl, ?_⟩
    repeat (with_reducible (first | refine s_cons ?_ | refine s_set ?_ | refine s_ret ?_ | refine s_expr ?_ | refine s_sub ?_ | refine s_nil ?_ | refine s_if ?_ | refine s_for ?_ | refine s_setC ?_ | refine s_boxC ?_ | refine s_retN ?_ | refine s_doc ?_ | refine r_var (by with_unfolding_all rfl) ?_ | refine r_int ?_ | refine r_bin ?_ | refine r_cmp ?_ | refine r_idx ?_ | refine r_cons ?_ | refine r_nil ?_ | refine r_bi ?_ | refine r_ty ?_ | refine r_call ?_ | refine r_callP ?_ | refine r_bl ?_ | refine r_tup ?_ | refine r_newL ?_ | refine r_box ?_ | refine r_cut ?_ | refine r_o0 ?_ | refine r_o1 ?_ | refine r_ife ?_ | refine r_str ?_ | refine r_non ?_ | refine r_neg ?_ | refine r_isT ?_ | refine r_app ?_ | refine r_andV ?_ | refine r_andV1 ?_ | refine r_orV ?_ | refine r_orV1 ?_ | refine r_notV ?_ | refine r_glo (by with_unfolding_all rfl) ?_ | refine t_cmp ?_ | refine t_val ?_ | refine t_and ?_ | refine t_and1 ?_ | refine t_or ?_ | refine t_or1 ?_ | refine t_not ?_ | refine c_lst ?_ | refine c_cat ?_ | refine c_rep ?_ | refine c_cut ?_ | refine c_list ?_ | refine c_lc ?_ | refine o_none ?_ | refine o_some ?_ | refine i_seq ?_ | refine i_rng1 ?_ | refine i_rng2 ?_ | refine i_revr ?_ | refine i_rev ?_ | refine i_zip ?_ | refine i_enum ?_ | refine p_add ?_ | refine p_sub ?_ | refine p_lt ?_ | refine p_le ?_ | refine p_gt ?_ | refine p_ge ?_ | refine p_eq ?_ | refine p_ne ?_ | refine p_int ?_ | refine p_intB ?_ | refine p_abs ?_ | refine p_min ?_ | refine p_max ?_ | refine p_lenN ?_ | refine p_lenT ?_ | refine p_lenL ?_ | refine p_tupL ?_ | refine p_pow18 ?_ | refine p_idxR (by assumption) (by with_unfolding_all rfl) ?_ | refine p_idxT (by with_unfolding_all rfl) ?_ | refine p_idxL (by with_unfolding_all rfl) ?_ | refine p_idxN (by assumption) ?_ | refine p_mod (by omega) ?_ | refine p_lenI ?_ | refine p_lenW ?_ | refine p_lenRw ?_ | refine p_fdiv (lg31 (by omega)) ?_))
    refine ⟨_, rfl, fun _ => ?_, fun z => by rw [T_nil] at z; simp at z⟩
    repeat (with_reducible (first | refine s_cons ?_ | refine s_set ?_ | refine s_ret ?_ | refine s_expr ?_ | refine s_sub ?_ | refine s_nil ?_ | refine s_if ?_ | refine s_for ?_ | refine s_setC ?_ | refine s_boxC ?_ | refine s_retN ?_ | refine s_doc ?_ | refine r_var (by with_unfolding_all rfl) ?_ | refine r_int ?_ | refine r_bin ?_ | refine r_cmp ?_ | refine r_idx ?_ | refine r_cons ?_ | refine r_nil ?_ | refine r_bi ?_ | refine r_ty ?_ | refine r_call ?_ | refine r_callP ?_ | refine r_bl ?_ | refine r_tup ?_ | refine r_newL ?_ | refine r_box ?_ | refine r_cut ?_ | refine r_o0 ?_ | refine r_o1 ?_ | refine r_ife ?_ | refine r_str ?_ | refine r_non ?_ | refine r_neg ?_ | refine r_isT ?_ | refine r_app ?_ | refine r_andV ?_ | refine r_andV1 ?_ | refine r_orV ?_ | refine r_orV1 ?_ | refine r_notV ?_ | refine r_glo (by with_unfolding_all rfl) ?_ | refine t_cmp ?_ | refine t_val ?_ | refine t_and ?_ | refine t_and1 ?_ | refine t_or ?_ | refine t_or1 ?_ | refine t_not ?_ | refine c_lst ?_ | refine c_cat ?_ | refine c_rep ?_ | refine c_cut ?_ | refine c_list ?_ | refine c_lc ?_ | refine o_none ?_ | refine o_some ?_ | refine i_seq ?_ | refine i_rng1 ?_ | refine i_rng2 ?_ | refine i_revr ?_ | refine i_rev ?_ | refine i_zip ?_ | refine i_enum ?_ | refine p_add ?_ | refine p_sub ?_ | refine p_lt ?_ | refine p_le ?_ | refine p_gt ?_ | refine p_ge ?_ | refine p_eq ?_ | refine p_ne ?_ | refine p_int ?_ | refine p_intB ?_ | refine p_abs ?_ | refine p_min ?_ | refine p_max ?_ | refine p_lenN ?_ | refine p_lenT ?_ | refine p_lenL ?_ | refine p_tupL ?_ | refine p_pow18 ?_ | refine p_idxR (by assumption) (by with_unfolding_all rfl) ?_ | refine p_idxT (by with_unfolding_all rfl) ?_ | refine p_idxL (by with_unfolding_all rfl) ?_ | refine p_idxN (by assumption) ?_ | refine p_mod (by omega) ?_ | refine p_lenI ?_ | refine p_lenW ?_ | refine p_lenRw ?_ | refine p_fdiv (lg31 (by omega)) ?_))
    refine ⟨by simp, _, rfl, ?_⟩
    repeat (with_reducible (first | refine s_cons ?_ | refine s_set ?_ | refine s_ret ?_ | refine s_expr ?_ | refine s_sub ?_ | refine s_nil ?_ | refine s_if ?_ | refine s_for ?_ | refine s_setC ?_ | refine s_boxC ?_ | refine s_retN ?_ | refine s_doc ?_ | refine r_var (by with_unfolding_all rfl) ?_ | refine r_int ?_ | refine r_bin ?_ | refine r_cmp ?_ | refine r_idx ?_ | refine r_cons ?_ | refine r_nil ?_ | refine r_bi ?_ | refine r_ty ?_ | refine r_call ?_ | refine r_callP ?_ | refine r_bl ?_ | refine r_tup ?_ | refine r_newL ?_ | refine r_box ?_ | refine r_cut ?_ | refine r_o0 ?_ | refine r_o1 ?_ | refine r_ife ?_ | refine r_str ?_ | refine r_non ?_ | refine r_neg ?_ | refine r_isT ?_ | refine r_app ?_ | refine r_andV ?_ | refine r_andV1 ?_ | refine r_orV ?_ | refine r_orV1 ?_ | refine r_notV ?_ | refine r_glo (by with_unfolding_all rfl) ?_ | refine t_cmp ?_ | refine t_val ?_ | refine t_and ?_ | refine t_and1 ?_ | refine t_or ?_ | refine t_or1 ?_ | refine t_not ?_ | refine c_lst ?_ | refine c_cat ?_ | refine c_rep ?_ | refine c_cut ?_ | refine c_list ?_ | refine c_lc ?_ | refine o_none ?_ | refine o_some ?_ | refine i_seq ?_ | refine i_rng1 ?_ | refine i_rng2 ?_ | refine i_revr ?_ | refine i_rev ?_ | refine i_zip ?_ | refine i_enum ?_ | refine p_add ?_ | refine p_sub ?_ | refine p_lt ?_ | refine p_le ?_ | refine p_gt ?_ | refine p_ge ?_ | refine p_eq ?_ | refine p_ne ?_ | refine p_int ?_ | refine p_intB ?_ | refine p_abs ?_ | refine p_min ?_ | refine p_max ?_ | refine p_lenN ?_ | refine p_lenT ?_ | refine p_lenL ?_ | refine p_tupL ?_ | refine p_pow18 ?_ | refine p_idxR (by assumption) (by with_unfolding_all rfl) ?_ | refine p_idxT (by with_unfolding_all rfl) ?_ | refine p_idxL (by with_unfolding_all rfl) ?_ | refine p_idxN (by assumption) ?_ | refine p_mod (by omega) ?_ | refine p_lenI ?_ | refine p_lenW ?_ | refine p_lenRw ?_ | refine p_fdiv (lg31 (by omega)) ?_))
    refine k_pure [] rfl rfl (by simp [D.noRefs, D.noRef, dW_noRef]) ((sp_wv (n := 8) (R := []) hw1.2 hW ⟨by simp, by simp⟩).to fun d _ e => ?_)
    subst e
    refine ⟨rfl, ?_⟩
    repeat (with_reducible (first | refine s_cons ?_ | refine s_set ?_ | refine s_ret ?_ | refine s_expr ?_ | refine s_sub ?_ | refine s_nil ?_ | refine s_if ?_ | refine s_for ?_ | refine s_setC ?_ | refine s_boxC ?_ | refine s_retN ?_ | refine s_doc ?_ | refine r_var (by with_unfolding_all rfl) ?_ | refine r_int ?_ | refine r_bin ?_ | refine r_cmp ?_ | refine r_idx ?_ | refine r_cons ?_ | refine r_nil ?_ | refine r_bi ?_ | refine r_ty ?_ | refine r_call ?_ | refine r_callP ?_ | refine r_bl ?_ | refine r_tup ?_ | refine r_newL ?_ | refine r_box ?_ | refine r_cut ?_ | refine r_o0 ?_ | refine r_o1 ?_ | refine r_ife ?_ | refine r_str ?_ | refine r_non ?_ | refine r_neg ?_ | refine r_isT ?_ | refine r_app ?_ | refine r_andV ?_ | refine r_andV1 ?_ | refine r_orV ?_ | refine r_orV1 ?_ | refine r_notV ?_ | refine r_glo (by with_unfolding_all rfl) ?_ | refine t_cmp ?_ | refine t_val ?_ | refine t_and ?_ | refine t_and1 ?_ | refine t_or ?_ | refine t_or1 ?_ | refine t_not ?_ | refine c_lst ?_ | refine c_cat ?_ | refine c_rep ?_ | refine c_cut ?_ | refine c_list ?_ | refine c_lc ?_ | refine o_none ?_ | refine o_some ?_ | refine i_seq ?_ | refine i_rng1 ?_ | refine i_rng2 ?_ | refine i_revr ?_ | refine i_rev ?_ | refine i_zip ?_ | refine i_enum ?_ | refine p_add ?_ | refine p_sub ?_ | refine p_lt ?_ | refine p_le ?_ | refine p_gt ?_ | refine p_ge ?_ | refine p_eq ?_ | refine p_ne ?_ | refine p_int ?_ | refine p_intB ?_ | refine p_abs ?_ | refine p_min ?_ | refine p_max ?_ | refine p_lenN ?_ | refine p_lenT ?_ | refine p_lenL ?_ | refine p_tupL ?_ | refine p_pow18 ?_ | refine p_idxR (by assumption) (by with_unfolding_all rfl) ?_ | refine p_idxT (by with_unfolding_all rfl) ?_ | refine p_idxL (by with_unfolding_all rfl) ?_ | refine p_idxN (by assumption) ?_ | refine p_mod (by omega) ?_ | refine p_lenI ?_ | refine p_lenW ?_ | refine p_lenRw ?_ | refine p_fdiv (lg31 (by omega)) ?_))
    refine ⟨by simp, ?_⟩
    refine p_eqG (eqOk_of dW_plain rfl (Nat.le_trans dW_depth (by decide)) (show (D.tup []).depth ≤ 64 by decide)) ?_
    have e0 := eqv_nil (xs := W)
    have key : T W [] = if decide (W = []) = true then 1 else 0 := by cases W <;> simp [T]
    rw [show derefL S11 (dW W) = dW W from rfl, show derefL S11 (D.tup []) = D.tup [] from rfl, e0]
    repeat (with_reducible (first | refine s_cons ?_ | refine s_set ?_ | refine s_ret ?_ | refine s_expr ?_ | refine s_sub ?_ | refine s_nil ?_ | refine s_if ?_ | refine s_for ?_ | refine s_setC ?_ | refine s_boxC ?_ | refine s_retN ?_ | refine s_doc ?_ | refine r_var (by with_unfolding_all rfl) ?_ | refine r_int ?_ | refine r_bin ?_ | refine r_cmp ?_ | refine r_idx ?_ | refine r_cons ?_ | refine r_nil ?_ | refine r_bi ?_ | refine r_ty ?_ | refine r_call ?_ | refine r_callP ?_ | refine r_bl ?_ | refine r_tup ?_ | refine r_newL ?_ | refine r_box ?_ | refine r_cut ?_ | refine r_o0 ?_ | refine r_o1 ?_ | refine r_ife ?_ | refine r_str ?_ | refine r_non ?_ | refine r_neg ?_ | refine r_isT ?_ | refine r_app ?_ | refine r_andV ?_ | refine r_andV1 ?_ | refine r_orV ?_ | refine r_orV1 ?_ | refine r_notV ?_ | refine r_glo (by with_unfolding_all rfl) ?_ | refine t_cmp ?_ | refine t_val ?_ | refine t_and ?_ | refine t_and1 ?_ | refine t_or ?_ | refine t_or1 ?_ | refine t_not ?_ | refine c_lst ?_ | refine c_cat ?_ | refine c_rep ?_ | refine c_cut ?_ | refine c_list ?_ | refine c_lc ?_ | refine o_none ?_ | refine o_some ?_ | refine i_seq ?_ | refine i_rng1 ?_ | refine i_rng2 ?_ | refine i_revr ?_ | refine i_rev ?_ | refine i_zip ?_ | refine i_enum ?_ | refine p_add ?_ | refine p_sub ?_ | refine p_lt ?_ | refine p_le ?_ | refine p_gt ?_ | refine p_ge ?_ | refine p_eq ?_ | refine p_ne ?_ | refine p_int ?_ | refine p_intB ?_ | refine p_abs ?_ | refine p_min ?_ | refine p_max ?_ | refine p_lenN ?_ | refine p_lenT ?_ | refine p_lenL ?_ | refine p_tupL ?_ | refine p_pow18 ?_ | refine p_idxR (by assumption) (by with_unfolding_all rfl) ?_ | refine p_idxT (by with_unfolding_all rfl) ?_ | refine p_idxL (by with_unfolding_all rfl) ?_ | refine p_idxN (by assumption) ?_ | refine p_mod (by omega) ?_ | refine p_lenI ?_ | refine p_lenW ?_ | refine p_lenRw ?_ | refine p_fdiv (lg31 (by omega)) ?_))
    refine ⟨_, rfl, fun z => ?_, fun _ => ?_⟩
    · rw [key] at z; simp at z
    repeat (with_reducible (first | refine s_cons ?_ | refine s_set ?_ | refine s_ret ?_ | refine s_expr ?_ | refine s_sub ?_ | refine s_nil ?_ | refine s_if ?_ | refine s_for ?_ | refine s_setC ?_ | refine s_boxC ?_ | refine s_retN ?_ | refine s_doc ?_ | refine r_var (by with_unfolding_all rfl) ?_ | refine r_int ?_ | refine r_bin ?_ | refine r_cmp ?_ | refine r_idx ?_ | refine r_cons ?_ | refine r_nil ?_ | refine r_bi ?_ | refine r_ty ?_ | refine r_call ?_ | refine r_callP ?_ | refine r_bl ?_ | refine r_tup ?_ | refine r_newL ?_ | refine r_box ?_ | refine r_cut ?_ | refine r_o0 ?_ | refine r_o1 ?_ | refine r_ife ?_ | refine r_str ?_ | refine r_non ?_ | refine r_neg ?_ | refine r_isT ?_ | refine r_app ?_ | refine r_andV ?_ | refine r_andV1 ?_ | refine r_orV ?_ | refine r_orV1 ?_ | refine r_notV ?_ | refine r_glo (by with_unfolding_all rfl) ?_ | refine t_cmp ?_ | refine t_val ?_ | refine t_and ?_ | refine t_and1 ?_ | refine t_or ?_ | refine t_or1 ?_ | refine t_not ?_ | refine c_lst ?_ | refine c_cat ?_ | refine c_rep ?_ | refine c_cut ?_ | refine c_list ?_ | refine c_lc ?_ | refine o_none ?_ | refine o_some ?_ | refine i_seq ?_ | refine i_rng1 ?_ | refine i_rng2 ?_ | refine i_revr ?_ | refine i_rev ?_ | refine i_zip ?_ | refine i_enum ?_ | refine p_add ?_ | refine p_sub ?_ | refine p_lt ?_ | refine p_le ?_ | refine p_gt ?_ | refine p_ge ?_ | refine p_eq ?_ | refine p_ne ?_ | refine p_int ?_ | refine p_intB ?_ | refine p_abs ?_ | refine p_min ?_ | refine p_max ?_ | refine p_lenN ?_ | refine p_lenT ?_ | refine p_lenL ?_ | refine p_tupL ?_ | refine p_pow18 ?_ | refine p_idxR (by assumption) (by with_unfolding_all rfl) ?_ | refine p_idxT (by with_unfolding_all rfl) ?_ | refine p_idxL (by with_unfolding_all rfl) ?_ | refine p_idxN (by assumption) ?_ | refine p_mod (by omega) ?_ | refine p_lenI ?_ | refine p_lenW ?_ | refine p_lenRw ?_ | refine p_fdiv (lg31 (by omega)) ?_))
    rfl
  rintro E S12 rfl
  repeat (with_reducible (first | refine s_cons ?_ | refine s_set ?_ | refine s_ret ?_ | refine s_expr ?_ | refine s_sub ?_ | refine s_nil ?_ | refine s_if ?_ | refine s_for ?_ | refine s_setC ?_ | refine s_boxC ?_ | refine s_retN ?_ | refine s_doc ?_ | refine r_var (by with_unfolding_all rfl) ?_ | refine r_int ?_ | refine r_bin ?_ | refine r_cmp ?_ | refine r_idx ?_ | refine r_cons ?_ | refine r_nil ?_ | refine r_bi ?_ | refine r_ty ?_ | refine r_call ?_ | refine r_callP ?_ | refine r_bl ?_ | refine r_tup ?_ | refine r_newL ?_ | refine r_box ?_ | refine r_cut ?_ | refine r_o0 ?_ | refine r_o1 ?_ | refine r_ife ?_ | refine r_str ?_ | refine r_non ?_ | refine r_neg ?_ | refine r_isT ?_ | refine r_app ?_ | refine r_andV ?_ | refine r_andV1 ?_ | refine r_orV ?_ | refine r_orV1 ?_ | refine r_notV ?_ | refine r_glo (by with_unfolding_all rfl) ?_ | refine t_cmp ?_ | refine t_val ?_ | refine t_and ?_ | refine t_and1 ?_ | refine t_or ?_ | refine t_or1 ?_ | refine t_not ?_ | refine c_lst ?_ | refine c_cat ?_ | refine c_rep ?_ | refine c_cut ?_ | refine c_list ?_ | refine c_lc ?_ | refine o_none ?_ | refine o_some ?_ | refine i_seq ?_ | refine i_rng1 ?_ | refine i_rng2 ?_ | refine i_revr ?_ | refine i_rev ?_ | refine i_zip ?_ | refine i_enum ?_ | refine p_add ?_ | refine p_sub ?_ | refine p_lt ?_ | refine p_le ?_ | refine p_gt ?_ | refine p_ge ?_ | refine p_eq ?_ | refine p_ne ?_ | refine p_int ?_ | refine p_intB ?_ | refine p_abs ?_ | refine p_min ?_ | refine p_max ?_ | refine p_lenN ?_ | refine p_lenT ?_ | refine p_lenL ?_ | refine p_tupL ?_ | refine p_pow18 ?_ | refine p_idxR (by assumption) (by with_unfolding_all rfl) ?_ | refine p_idxT (by with_unfolding_all rfl) ?_ | refine p_idxL (by with_unfolding_all rfl) ?_ | refine p_idxN (by assumption) ?_ | refine p_mod (by omega) ?_ | refine p_lenI ?_ | refine p_lenW ?_ | refine p_lenRw ?_ | refine p_fdiv (lg31 (by omega)) ?_))
  refine ⟨_, rfl, _, rfl, _, rfl, ?_⟩
  rw [show (some (3 : Int)) = some ((3 : Nat) : Int) from rfl, cut_take]
  refine ⟨_, rfl, ?_⟩
  refine wS_loop (fun k E S' => ∃ o8 o10 o11 : Option D, E = [some (.scr ns), some (.ref 0), some (.int w), some (.int c), some (dW W), some (dR R), some (dR R), some (.int (T W R)), o8, o9, o10, o11, none, none]) _ 0 ⟨none, none, none, rfl⟩ ?_ ?_
  · rintro i d E S13 hd ⟨o8, o10, o11, rfl⟩
    obtain ⟨x, hx, rfl⟩ := List.mem_map.mp (List.mem_of_mem_take (List.mem_of_getElem? hd))
    have hxm := hR.it x hx
    with_reducible refine put_1 ?_
    repeat (with_reducible (first | refine s_cons ?_ | refine s_set ?_ | refine s_ret ?_ | refine s_expr ?_ | refine s_sub ?_ | refine s_nil ?_ | refine s_if ?_ | refine s_for ?_ | refine s_setC ?_ | refine s_boxC ?_ | refine s_retN ?_ | refine s_doc ?_ | refine r_var (by with_unfolding_all rfl) ?_ | refine r_int ?_ | refine r_bin ?_ | refine r_cmp ?_ | refine r_idx ?_ | refine r_cons ?_ | refine r_nil ?_ | refine r_bi ?_ | refine r_ty ?_ | refine r_call ?_ | refine r_callP ?_ | refine r_bl ?_ | refine r_tup ?_ | refine r_newL ?_ | refine r_box ?_ | refine r_cut ?_ | refine r_o0 ?_ | refine r_o1 ?_ | refine r_ife ?_ | refine r_str ?_ | refine r_non ?_ | refine r_neg ?_ | refine r_isT ?_ | refine r_app ?_ | refine r_andV ?_ | refine r_andV1 ?_ | refine r_orV ?_ | refine r_orV1 ?_ | refine r_notV ?_ | refine r_glo (by with_unfolding_all rfl) ?_ | refine t_cmp ?_ | refine t_val ?_ | refine t_and ?_ | refine t_and1 ?_ | refine t_or ?_ | refine t_or1 ?_ | refine t_not ?_ | refine c_lst ?_ | refine c_cat ?_ | refine c_rep ?_ | refine c_cut ?_ | refine c_list ?_ | refine c_lc ?_ | refine o_none ?_ | refine o_some ?_ | refine i_seq ?_ | refine i_rng1 ?_ | refine i_rng2 ?_ | refine i_revr ?_ | refine i_rev ?_ | refine i_zip ?_ | refine i_enum ?_ | refine p_add ?_ | refine p_sub ?_ | refine p_lt ?_ | refine p_le ?_ | refine p_gt ?_ | refine p_ge ?_ | refine p_eq ?_ | refine p_ne ?_ | refine p_int ?_ | refine p_intB ?_ | refine p_abs ?_ | refine p_min ?_ | refine p_max ?_ | refine p_lenN ?_ | refine p_lenT ?_ | refine p_lenL ?_ | refine p_tupL ?_ | refine p_pow18 ?_ | refine p_idxR (by assumption) (by with_unfolding_all rfl) ?_ | refine p_idxT (by with_unfolding_all rfl) ?_ | refine p_idxL (by with_unfolding_all rfl) ?_ | refine p_idxN (by assumption) ?_ | refine p_mod (by omega) ?_ | refine p_lenI ?_ | refine p_lenW ?_ | refine p_lenRw ?_ | refine p_fdiv (lg31 (by omega)) ?_))
    refine ⟨_, rfl, ?_⟩
    refine wS_loop (fun k E S' => ∃ o10 o11 : Option D, E = [some (.scr ns), some (.ref 0), some (.int w), some (.int c), some (dW W), some (dR R), some (dR R), some (.int (T W R)), some (dI x), o9, o10, o11, none, none]) _ 0 ⟨_, _, rfl⟩ ?_ ?_
    · rintro j d E S14 hd ⟨o10, o11, rfl⟩
      obtain ⟨m, hm, rfl⟩ := List.mem_map.mp (List.mem_of_getElem? hd)
      have hmm := hW.ex m hm
      with_reducible refine put_1 ?_
      repeat (with_reducible (first | refine s_cons ?_ | refine s_set ?_ | refine s_ret ?_ | refine s_expr ?_ | refine s_sub ?_ | refine s_nil ?_ | refine s_if ?_ | refine s_for ?_ | refine s_setC ?_ | refine s_boxC ?_ | refine s_retN ?_ | refine s_doc ?_ | refine r_var (by with_unfolding_all rfl) ?_ | refine r_int ?_ | refine r_bin ?_ | refine r_cmp ?_ | refine r_idx ?_ | refine r_cons ?_ | refine r_nil ?_ | refine r_bi ?_ | refine r_ty ?_ | refine r_call ?_ | refine r_callP ?_ | refine r_bl ?_ | refine r_tup ?_ | refine r_newL ?_ | refine r_box ?_ | refine r_cut ?_ | refine r_o0 ?_ | refine r_o1 ?_ | refine r_ife ?_ | refine r_str ?_ | refine r_non ?_ | refine r_neg ?_ | refine r_isT ?_ | refine r_app ?_ | refine r_andV ?_ | refine r_andV1 ?_ | refine r_orV ?_ | refine r_orV1 ?_ | refine r_notV ?_ | refine r_glo (by with_unfolding_all rfl) ?_ | refine t_cmp ?_ | refine t_val ?_ | refine t_and ?_ | refine t_and1 ?_ | refine t_or ?_ | refine t_or1 ?_ | refine t_not ?_ | refine c_lst ?_ | refine c_cat ?_ | refine c_rep ?_ | refine c_cut ?_ | refine c_list ?_ | refine c_lc ?_ | refine o_none ?_ | refine o_some ?_ | refine i_seq ?_ | refine i_rng1 ?_ | refine i_rng2 ?_ | refine i_revr ?_ | refine i_rev ?_ | refine i_zip ?_ | refine i_enum ?_ | refine p_add ?_ | refine p_sub ?_ | refine p_lt ?_ | refine p_le ?_ | refine p_gt ?_ | refine p_ge ?_ | refine p_eq ?_ | refine p_ne ?_ | refine p_int ?_ | refine p_intB ?_ | refine p_abs ?_ | refine p_min ?_ | refine p_max ?_ | refine p_lenN ?_ | refine p_lenT ?_ | refine p_lenL ?_ | refine p_tupL ?_ | refine p_pow18 ?_ | refine p_idxR (by assumption) (by with_unfolding_all rfl) ?_ | refine p_idxT (by with_unfolding_all rfl) ?_ | refine p_idxL (by with_unfolding_all rfl) ?_ | refine p_idxN (by assumption) ?_ | refine p_mod (by omega) ?_ | refine p_lenI ?_ | refine p_lenW ?_ | refine p_lenRw ?_ | refine p_fdiv (lg31 (by omega)) ?_))
      refine k_pure [] rfl rfl (by simp [D.noRefs, dI_noRef]) ((sp_mono (n := 9) hmm.2 hxm.2 (by omega)).to fun d _ e => ?_)
      subst e
      refine ⟨rfl, ?_⟩
      repeat (with_reducible (first | refine s_cons ?_ | refine s_set ?_ | refine s_ret ?_ | refine s_expr ?_ | refine s_sub ?_ | refine s_nil ?_ | refine s_if ?_ | refine s_for ?_ | refine s_setC ?_ | refine s_boxC ?_ | refine s_retN ?_ | refine s_doc ?_ | refine r_var (by with_unfolding_all rfl) ?_ | refine r_int ?_ | refine r_bin ?_ | refine r_cmp ?_ | refine r_idx ?_ | refine r_cons ?_ | refine r_nil ?_ | refine r_bi ?_ | refine r_ty ?_ | refine r_call ?_ | refine r_callP ?_ | refine r_bl ?_ | refine r_tup ?_ | refine r_newL ?_ | refine r_box ?_ | refine r_cut ?_ | refine r_o0 ?_ | refine r_o1 ?_ | refine r_ife ?_ | refine r_str ?_ | refine r_non ?_ | refine r_neg ?_ | refine r_isT ?_ | refine r_app ?_ | refine r_andV ?_ | refine r_andV1 ?_ | refine r_orV ?_ | refine r_orV1 ?_ | refine r_notV ?_ | refine r_glo (by with_unfolding_all rfl) ?_ | refine t_cmp ?_ | refine t_val ?_ | refine t_and ?_ | refine t_and1 ?_ | refine t_or ?_ | refine t_or1 ?_ | refine t_not ?_ | refine c_lst ?_ | refine c_cat ?_ | refine c_rep ?_ | refine c_cut ?_ | refine c_list ?_ | refine c_lc ?_ | refine o_none ?_ | refine o_some ?_ | refine i_seq ?_ | refine i_rng1 ?_ | refine i_rng2 ?_ | refine i_revr ?_ | refine i_rev ?_ | refine i_zip ?_ | refine i_enum ?_ | refine p_add ?_ | refine p_sub ?_ | refine p_lt ?_ | refine p_le ?_ | refine p_gt ?_ | refine p_ge ?_ | refine p_eq ?_ | refine p_ne ?_ | refine p_int ?_ | refine p_intB ?_ | refine p_abs ?_ | refine p_min ?_ | refine p_max ?_ | refine p_lenN ?_ | refine p_lenT ?_ | refine p_lenL ?_ | refine p_tupL ?_ | refine p_pow18 ?_ | refine p_idxR (by assumption) (by with_unfolding_all rfl) ?_ | refine p_idxT (by with_unfolding_all rfl) ?_ | refine p_idxL (by with_unfolding_all rfl) ?_ | refine p_idxN (by assumption) ?_ | refine p_mod (by omega) ?_ | refine p_lenI ?_ | refine p_lenW ?_ | refine p_lenRw ?_ | refine p_fdiv (lg31 (by omega)) ?_))
      refine k_pure [] rfl rfl (by simp [D.noRefs, D.noRef]) ((sp_whole (n := 10)).to fun d _ e => ?_)
      subst e
      refine ⟨rfl, _, rfl, fun _ => ?_, fun z => (by cases z)⟩
      repeat (with_reducible (first | refine s_cons ?_ | refine s_set ?_ | refine s_ret ?_ | refine s_expr ?_ | refine s_sub ?_ | refine s_nil ?_ | refine s_if ?_ | refine s_for ?_ | refine s_setC ?_ | refine s_boxC ?_ | refine s_retN ?_ | refine s_doc ?_ | refine r_var (by with_unfolding_all rfl) ?_ | refine r_int ?_ | refine r_bin ?_ | refine r_cmp ?_ | refine r_idx ?_ | refine r_cons ?_ | refine r_nil ?_ | refine r_bi ?_ | refine r_ty ?_ | refine r_call ?_ | refine r_callP ?_ | refine r_bl ?_ | refine r_tup ?_ | refine r_newL ?_ | refine r_box ?_ | refine r_cut ?_ | refine r_o0 ?_ | refine r_o1 ?_ | refine r_ife ?_ | refine r_str ?_ | refine r_non ?_ | refine r_neg ?_ | refine r_isT ?_ | refine r_app ?_ | refine r_andV ?_ | refine r_andV1 ?_ | refine r_orV ?_ | refine r_orV1 ?_ | refine r_notV ?_ | refine r_glo (by with_unfolding_all rfl) ?_ | refine t_cmp ?_ | refine t_val ?_ | refine t_and ?_ | refine t_and1 ?_ | refine t_or ?_ | refine t_or1 ?_ | refine t_not ?_ | refine c_lst ?_ | refine c_cat ?_ | refine c_rep ?_ | refine c_cut ?_ | refine c_list ?_ | refine c_lc ?_ | refine o_none ?_ | refine o_some ?_ | refine i_seq ?_ | refine i_rng1 ?_ | refine i_rng2 ?_ | refine i_revr ?_ | refine i_rev ?_ | refine i_zip ?_ | refine i_enum ?_ | refine p_add ?_ | refine p_sub ?_ | refine p_lt ?_ | refine p_le ?_ | refine p_gt ?_ | refine p_ge ?_ | refine p_eq ?_ | refine p_ne ?_ | refine p_int ?_ | refine p_intB ?_ | refine p_abs ?_ | refine p_min ?_ | refine p_max ?_ | refine p_lenN ?_ | refine p_lenT ?_ | refine p_lenL ?_ | refine p_tupL ?_ | refine p_pow18 ?_ | refine p_idxR (by assumption) (by with_unfolding_all rfl) ?_ | refine p_idxT (by with_unfolding_all rfl) ?_ | refine p_idxL (by with_unfolding_all rfl) ?_ | refine p_idxN (by assumption) ?_ | refine p_mod (by omega) ?_ | refine p_lenI ?_ | refine p_lenW ?_ | refine p_lenRw ?_ | refine p_fdiv (lg31 (by omega)) ?_))
      refine k_pure [] rfl rfl (by simp [D.noRefs, dI_noRef]) ((sp_lawmono (n := 10) hmm.2 hxm.2 (by omega) (by omega)).to fun d _ e => ?_)
      subst e
      refine ⟨rfl, ?_⟩
      repeat (with_reducible (first | refine s_cons ?_ | refine s_set ?_ | refine s_ret ?_ | refine s_expr ?_ | refine s_sub ?_ | refine s_nil ?_ | refine s_if ?_ | refine s_for ?_ | refine s_setC ?_ | refine s_boxC ?_ | refine s_retN ?_ | refine s_doc ?_ | refine r_var (by with_unfolding_all rfl) ?_ | refine r_int ?_ | refine r_bin ?_ | refine r_cmp ?_ | refine r_idx ?_ | refine r_cons ?_ | refine r_nil ?_ | refine r_bi ?_ | refine r_ty ?_ | refine r_call ?_ | refine r_callP ?_ | refine r_bl ?_ | refine r_tup ?_ | refine r_newL ?_ | refine r_box ?_ | refine r_cut ?_ | refine r_o0 ?_ | refine r_o1 ?_ | refine r_ife ?_ | refine r_str ?_ | refine r_non ?_ | refine r_neg ?_ | refine r_isT ?_ | refine r_app ?_ | refine r_andV ?_ | refine r_andV1 ?_ | refine r_orV ?_ | refine r_orV1 ?_ | refine r_notV ?_ | refine r_glo (by with_unfolding_all rfl) ?_ | refine t_cmp ?_ | refine t_val ?_ | refine t_and ?_ | refine t_and1 ?_ | refine t_or ?_ | refine t_or1 ?_ | refine t_not ?_ | refine c_lst ?_ | refine c_cat ?_ | refine c_rep ?_ | refine c_cut ?_ | refine c_list ?_ | refine c_lc ?_ | refine o_none ?_ | refine o_some ?_ | refine i_seq ?_ | refine i_rng1 ?_ | refine i_rng2 ?_ | refine i_revr ?_ | refine i_rev ?_ | refine i_zip ?_ | refine i_enum ?_ | refine p_add ?_ | refine p_sub ?_ | refine p_lt ?_ | refine p_le ?_ | refine p_gt ?_ | refine p_ge ?_ | refine p_eq ?_ | refine p_ne ?_ | refine p_int ?_ | refine p_intB ?_ | refine p_abs ?_ | refine p_min ?_ | refine p_max ?_ | refine p_lenN ?_ | refine p_lenT ?_ | refine p_lenL ?_ | refine p_tupL ?_ | refine p_pow18 ?_ | refine p_idxR (by assumption) (by with_unfolding_all rfl) ?_ | refine p_idxT (by with_unfolding_all rfl) ?_ | refine p_idxL (by with_unfolding_all rfl) ?_ | refine p_idxN (by assumption) ?_ | refine p_mod (by omega) ?_ | refine p_lenI ?_ | refine p_lenW ?_ | refine p_lenRw ?_ | refine p_fdiv (lg31 (by omega)) ?_))
      refine ⟨_, rfl, fun z => by simp at z, fun _ => ?_⟩
      repeat (with_reducible (first | refine s_cons ?_ | refine s_set ?_ | refine s_ret ?_ | refine s_expr ?_ | refine s_sub ?_ | refine s_nil ?_ | refine s_if ?_ | refine s_for ?_ | refine s_setC ?_ | refine s_boxC ?_ | refine s_retN ?_ | refine s_doc ?_ | refine r_var (by with_unfolding_all rfl) ?_ | refine r_int ?_ | refine r_bin ?_ | refine r_cmp ?_ | refine r_idx ?_ | refine r_cons ?_ | refine r_nil ?_ | refine r_bi ?_ | refine r_ty ?_ | refine r_call ?_ | refine r_callP ?_ | refine r_bl ?_ | refine r_tup ?_ | refine r_newL ?_ | refine r_box ?_ | refine r_cut ?_ | refine r_o0 ?_ | refine r_o1 ?_ | refine r_ife ?_ | refine r_str ?_ | refine r_non ?_ | refine r_neg ?_ | refine r_isT ?_ | refine r_app ?_ | refine r_andV ?_ | refine r_andV1 ?_ | refine r_orV ?_ | refine r_orV1 ?_ | refine r_notV ?_ | refine r_glo (by with_unfolding_all rfl) ?_ | refine t_cmp ?_ | refine t_val ?_ | refine t_and ?_ | refine t_and1 ?_ | refine t_or ?_ | refine t_or1 ?_ | refine t_not ?_ | refine c_lst ?_ | refine c_cat ?_ | refine c_rep ?_ | refine c_cut ?_ | refine c_list ?_ | refine c_lc ?_ | refine o_none ?_ | refine o_some ?_ | refine i_seq ?_ | refine i_rng1 ?_ | refine i_rng2 ?_ | refine i_revr ?_ | refine i_rev ?_ | refine i_zip ?_ | refine i_enum ?_ | refine p_add ?_ | refine p_sub ?_ | refine p_lt ?_ | refine p_le ?_ | refine p_gt ?_ | refine p_ge ?_ | refine p_eq ?_ | refine p_ne ?_ | refine p_int ?_ | refine p_intB ?_ | refine p_abs ?_ | refine p_min ?_ | refine p_max ?_ | refine p_lenN ?_ | refine p_lenT ?_ | refine p_lenL ?_ | refine p_tupL ?_ | refine p_pow18 ?_ | refine p_idxR (by assumption) (by with_unfolding_all rfl) ?_ | refine p_idxT (by with_unfolding_all rfl) ?_ | refine p_idxL (by with_unfolding_all rfl) ?_ | refine p_idxN (by assumption) ?_ | refine p_mod (by omega) ?_ | refine p_lenI ?_ | refine p_lenW ?_ | refine p_lenRw ?_ | refine p_fdiv (lg31 (by omega)) ?_))
      exact ⟨_, _, rfl⟩
    · rintro E S14 ⟨o10, o11, rfl⟩
      repeat (with_reducible (first | refine s_cons ?_ | refine s_set ?_ | refine s_ret ?_ | refine s_expr ?_ | refine s_sub ?_ | refine s_nil ?_ | refine s_if ?_ | refine s_for ?_ | refine s_setC ?_ | refine s_boxC ?_ | refine s_retN ?_ | refine s_doc ?_ | refine r_var (by with_unfolding_all rfl) ?_ | refine r_int ?_ | refine r_bin ?_ | refine r_cmp ?_ | refine r_idx ?_ | refine r_cons ?_ | refine r_nil ?_ | refine r_bi ?_ | refine r_ty ?_ | refine r_call ?_ | refine r_callP ?_ | refine r_bl ?_ | refine r_tup ?_ | refine r_newL ?_ | refine r_box ?_ | refine r_cut ?_ | refine r_o0 ?_ | refine r_o1 ?_ | refine r_ife ?_ | refine r_str ?_ | refine r_non ?_ | refine r_neg ?_ | refine r_isT ?_ | refine r_app ?_ | refine r_andV ?_ | refine r_andV1 ?_ | refine r_orV ?_ | refine r_orV1 ?_ | refine r_notV ?_ | refine r_glo (by with_unfolding_all rfl) ?_ | refine t_cmp ?_ | refine t_val ?_ | refine t_and ?_ | refine t_and1 ?_ | refine t_or ?_ | refine t_or1 ?_ | refine t_not ?_ | refine c_lst ?_ | refine c_cat ?_ | refine c_rep ?_ | refine c_cut ?_ | refine c_list ?_ | refine c_lc ?_ | refine o_none ?_ | refine o_some ?_ | refine i_seq ?_ | refine i_rng1 ?_ | refine i_rng2 ?_ | refine i_revr ?_ | refine i_rev ?_ | refine i_zip ?_ | refine i_enum ?_ | refine p_add ?_ | refine p_sub ?_ | refine p_lt ?_ | refine p_le ?_ | refine p_gt ?_ | refine p_ge ?_ | refine p_eq ?_ | refine p_ne ?_ | refine p_int ?_ | refine p_intB ?_ | refine p_abs ?_ | refine p_min ?_ | refine p_max ?_ | refine p_lenN ?_ | refine p_lenT ?_ | refine p_lenL ?_ | refine p_tupL ?_ | refine p_pow18 ?_ | refine p_idxR (by assumption) (by with_unfolding_all rfl) ?_ | refine p_idxT (by with_unfolding_all rfl) ?_ | refine p_idxL (by with_unfolding_all rfl) ?_ | refine p_idxN (by assumption) ?_ | refine p_mod (by omega) ?_ | refine p_lenI ?_ | refine p_lenW ?_ | refine p_lenRw ?_ | refine p_fdiv (lg31 (by omega)) ?_))
      exact ⟨_, _, _, rfl⟩
  · rintro E S13 ⟨o8, o10, o11, rfl⟩
    repeat (with_reducible (first | refine s_cons ?_ | refine s_set ?_ | refine s_ret ?_ | refine s_expr ?_ | refine s_sub ?_ | refine s_nil ?_ | refine s_if ?_ | refine s_for ?_ | refine s_setC ?_ | refine s_boxC ?_ | refine s_retN ?_ | refine s_doc ?_ | refine r_var (by with_unfolding_all rfl) ?_ | refine r_int ?_ | refine r_bin ?_ | refine r_cmp ?_ | refine r_idx ?_ | refine r_cons ?_ | refine r_nil ?_ | refine r_bi ?_ | refine r_ty ?_ | refine r_call ?_ | refine r_callP ?_ | refine r_bl ?_ | refine r_tup ?_ | refine r_newL ?_ | refine r_box ?_ | refine r_cut ?_ | refine r_o0 ?_ | refine r_o1 ?_ | refine r_ife ?_ | refine r_str ?_ | refine r_non ?_ | refine r_neg ?_ | refine r_isT ?_ | refine r_app ?_ | refine r_andV ?_ | refine r_andV1 ?_ | refine r_orV ?_ | refine r_orV1 ?_ | refine r_notV ?_ | refine r_glo (by with_unfolding_all rfl) ?_ | refine t_cmp ?_ | refine t_val ?_ | refine t_and ?_ | refine t_and1 ?_ | refine t_or ?_ | refine t_or1 ?_ | refine t_not ?_ | refine c_lst ?_ | refine c_cat ?_ | refine c_rep ?_ | refine c_cut ?_ | refine c_list ?_ | refine c_lc ?_ | refine o_none ?_ | refine o_some ?_ | refine i_seq ?_ | refine i_rng1 ?_ | refine i_rng2 ?_ | refine i_revr ?_ | refine i_rev ?_ | refine i_zip ?_ | refine i_enum ?_ | refine p_add ?_ | refine p_sub ?_ | refine p_lt ?_ | refine p_le ?_ | refine p_gt ?_ | refine p_ge ?_ | refine p_eq ?_ | refine p_ne ?_ | refine p_int ?_ | refine p_intB ?_ | refine p_abs ?_ | refine p_min ?_ | refine p_max ?_ | refine p_lenN ?_ | refine p_lenT ?_ | refine p_lenL ?_ | refine p_tupL ?_ | refine p_pow18 ?_ | refine p_idxR (by assumption) (by with_unfolding_all rfl) ?_ | refine p_idxT (by with_unfolding_all rfl) ?_ | refine p_idxL (by with_unfolding_all rfl) ?_ | refine p_idxN (by assumption) ?_ | refine p_mod (by omega) ?_ | refine p_lenI ?_ | refine p_lenW ?_ | refine p_lenRw ?_ | refine p_fdiv (lg31 (by omega)) ?_))
    refine k_pure [] rfl rfl (by simp [D.noRefs, dW_noRef, dR_noRef]) ((sp_wv (n := 8) hw1.2 hW hR).to fun d _ e => ?_)
    subst e
    refine ⟨rfl, ?_⟩
    repeat (with_reducible (first | refine s_cons ?_ | refine s_set ?_ | refine s_ret ?_ | refine s_expr ?_ | refine s_sub ?_ | refine s_nil ?_ | refine s_if ?_ | refine s_for ?_ | refine s_setC ?_ | refine s_boxC ?_ | refine s_retN ?_ | refine s_doc ?_ | refine r_var (by with_unfolding_all rfl) ?_ | refine r_int ?_ | refine r_bin ?_ | refine r_cmp ?_ | refine r_idx ?_ | refine r_cons ?_ | refine r_nil ?_ | refine r_bi ?_ | refine r_ty ?_ | refine r_call ?_ | refine r_callP ?_ | refine r_bl ?_ | refine r_tup ?_ | refine r_newL ?_ | refine r_box ?_ | refine r_cut ?_ | refine r_o0 ?_ | refine r_o1 ?_ | refine r_ife ?_ | refine r_str ?_ | refine r_non ?_ | refine r_neg ?_ | refine r_isT ?_ | refine r_app ?_ | refine r_andV ?_ | refine r_andV1 ?_ | refine r_orV ?_ | refine r_orV1 ?_ | refine r_notV ?_ | refine r_glo (by with_unfolding_all rfl) ?_ | refine t_cmp ?_ | refine t_val ?_ | refine t_and ?_ | refine t_and1 ?_ | refine t_or ?_ | refine t_or1 ?_ | refine t_not ?_ | refine c_lst ?_ | refine c_cat ?_ | refine c_rep ?_ | refine c_cut ?_ | refine c_list ?_ | refine c_lc ?_ | refine o_none ?_ | refine o_some ?_ | refine i_seq ?_ | refine i_rng1 ?_ | refine i_rng2 ?_ | refine i_revr ?_ | refine i_rev ?_ | refine i_zip ?_ | refine i_enum ?_ | refine p_add ?_ | refine p_sub ?_ | refine p_lt ?_ | refine p_le ?_ | refine p_gt ?_ | refine p_ge ?_ | refine p_eq ?_ | refine p_ne ?_ | refine p_int ?_ | refine p_intB ?_ | refine p_abs ?_ | refine p_min ?_ | refine p_max ?_ | refine p_lenN ?_ | refine p_lenT ?_ | refine p_lenL ?_ | refine p_tupL ?_ | refine p_pow18 ?_ | refine p_idxR (by assumption) (by with_unfolding_all rfl) ?_ | refine p_idxT (by with_unfolding_all rfl) ?_ | refine p_idxL (by with_unfolding_all rfl) ?_ | refine p_idxN (by assumption) ?_ | refine p_mod (by omega) ?_ | refine p_lenI ?_ | refine p_lenW ?_ | refine p_lenRw ?_ | refine p_fdiv (lg31 (by omega)) ?_))
    exact congrArg D.bl (decide_eq_true rfl)
theorem sem (ns : List Int) (h : ns.length ≤ 63) : ∃ S, pr.call 12 0 [.scr ns] [] = .ok (.bl true) S := by
  obtain ⟨a, S, e, h⟩ := (law_ok ns).ok
  exact ⟨S, by rw [e, h]⟩
end K21
namespace K21
open PySem PySem.Spec PyProof.Rows L2 PK
abbrev R : PySem.W.OpenRow := PySem.W.OpenLaw.row PySem.Challenge.rw_keptnumbers_k21_ordered_sums
abbrev hk : PySem.W.Hook := He.hookD 4 pr.fa pr.fn
def ob (s : PySem.W.SharedT) : He.AlD := He.obsDG 4 pr.fa pr.fn (HandSHeadRun.getT s)
theorem ob_eq (s : PySem.W.SharedT) : ob s = hk.obs s.abs := He.obsDG_eq (HandSHeadRun.getT_eq s)
abbrev loose : List Str := ["__name__", "power", "monomial_value", "word_value", "_law_tape", "_law_pick", "_law_word", "_law_number", "_law_row", "_law_monomial", "_law_value", "_law_whole"]
theorem run (w : World) : HandSHeadRun.RunEq R (PySem.W.view R.prog [13]) hk ob 3000 loose w := by
  intro os
  kernel_rfl
theorem all_bd : ∀ F ∈ pr.fds, F.Bd := by
  intro F hF
  simp only [pr, List.mem_cons, List.mem_nil_iff, or_false] at hF
  rcases hF with rfl | rfl | rfl | rfl | rfl | rfl | rfl | rfl | rfl | rfl | rfl | rfl
  · exact PK.FD.BdN.bd bd_f_law
  · exact PK.FD.BdN.bd bd_f__law_tape
  · exact PK.FD.BdN.bd bd_f__law_pick
  · exact PK.FD.BdN.bd bd_f__law_word
  · exact PK.FD.BdN.bd bd_f__law_row
  · exact PK.FD.BdN.bd bd_f_word_value
  · exact PK.FD.BdN.bd bd_f__law_value
  · exact PK.FD.BdN.bd bd_f__law_whole
  · exact PK.FD.BdN.bd bd_f_monomial_value
  · exact PK.FD.BdN.bd bd_f__law_monomial
  · exact PK.FD.BdN.bd bd_f__law_number
  · exact PK.FD.BdN.bd bd_f_power
theorem all_ck : ∀ F ∈ pr.fds, F.chk pr = true := by
  intro F hF
  simp only [pr, List.mem_cons, List.mem_nil_iff, or_false] at hF
  rcases hF with rfl | rfl | rfl | rfl | rfl | rfl | rfl | rfl | rfl | rfl | rfl | rfl
  · exact ck_f_law
  · exact ck_f__law_tape
  · exact ck_f__law_pick
  · exact ck_f__law_word
  · exact ck_f__law_row
  · exact ck_f_word_value
  · exact ck_f__law_value
  · exact ck_f__law_whole
  · exact ck_f_monomial_value
  · exact ck_f__law_monomial
  · exact ck_f__law_number
  · exact ck_f_power
end K21
open PySem PySem.W PySem.Calls PyProof.Rows
theorem PySem.Challenge.cw_keptnumbers_k21_ordered_sums_holds : PySem.Challenge.rw_keptnumbers_k21_ordered_sums.Holds := by
  w_on; o_law
  refine HandSHeadRun.head_any (r := K21.R) (q := view K21.R.prog [13]) (H := K21.hk) (ob := K21.ob) (M := 3000) (loose := K21.loose) (d := HandSHeadRun.topDef K21.R.prog 13) (kwd := []) K21.ob_eq
    (by kernel_rfl) (fun s => by kernel_rfl) K21.run (by kernel_rfl) (by kernel_rfl) (by kernel_rfl) (by rfl) (by first | assumption | decide +kernel) (by decide +kernel) ⟨rfl, rfl, rfl, rfl, rfl, by decide +kernel⟩ ?hw ?hc
  case hw => w_witness2
  case hc => exact PK.walk_law (L := K21.f_law) (n := 12) (x := "_law_script") rfl (by decide) ⟨rfl, by decide, by decide⟩ (by kernel_rfl) rfl rfl rfl K21.bd_f_law rfl K21.all_bd rfl K21.all_ck K21.sem
