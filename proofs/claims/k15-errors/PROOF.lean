import PyProof.Rows.All
import Wide.All
import OpenK.AllK
import Wide.FinOn
import HandS.ForMost
import HandS.Exc
import HandS.Wide
import KE.KDictKeyed
import KE.KDictWalk
import HandS.CallSlots
import HandS.TupAny
import HandS.TupMul
import HandS.Style
import HandS.Zip
import HandS.Rev
import HandS.RevRange
import HandS.IsInst
import HandS.Deep
import HandS.Text
import KE.KDictDisplayH
import HandS.TryOnly
import HandS.ListEq
import PyProof.NeKinds
import HandS.DictEq
import HandS.DeepEq
import HandS.ExcOwn
import HandS.Defaults
import HandS.DictComp
import KE.KDictCopyH
import HandS.MakeKw
import HandS.Steps
import HandS.ExcInit
import HandS.ExcCtx
import PyProof.ExcBaseAll.ValueError
import HandS.TryMany
import KE.KExcIs
import KE.KIsAll
import HandS.Head0
import HandS.Head1
import HandS.Head2
import HandS.HeadEnd
import HandS.HeadHook1
import HandS.HeadHook2
import HandS.Codes
import PySem.Challenge.RW_keptnumbers_k15_errors_and_their_attribu
set_option Elab.async false
set_option linter.all false
set_option maxRecDepth 100000
set_option maxHeartbeats 0
namespace PK
open PySem PySem.Spec PyProof.Rows L2

/-! ### values of the evaluator: what never changes is a value; what may change is a cell of the store -/
inductive D where
  | non | bl (b : Bool) | int (i : Int) | str (x : Str)
  | tup (xs : List D) | lst (xs : List D) | dct (kvs : List (D × D))
  | ins (c : Nat) (fs : List (Nat × D)) | ref (r : Nat) | scr (ns : List Int)
inductive DO where
  | gone | lst (xs : List D) | dct (kvs : List (D × D)) | ins (c : Nat) (fs : List (Nat × D))
  | lkl (xs : List D) | lkd (kvs : List (D × D))
inductive Res (α : Type) where
  | ok (a : α) (S : List DO)
  | exc (c : Nat) (fs : List (Nat × D)) (S : List DO)
  | stuck
abbrev EM (α : Type) := List DO → Res α
@[inline] def EM.pure {α : Type} (a : α) : EM α := fun S => .ok a S
@[inline] def EM.bind {α β : Type} (m : EM α) (k : α → EM β) : EM β := fun S => match m S with
  | .ok a S' => k a S'
  | .exc c fs S' => .exc c fs S'
  | .stuck => .stuck
def EM.fail {α : Type} : EM α := fun _ => .stuck

/-- the class table: addresses and the names of fields -/
structure Cls where
  addr : Nat → Addr
  fld : Nat → Str
  prog : Program
  world : World
  exc : Addr → Option (Nat × Option Addr) := fun _ => none
/-- the numbers of exception classes -/
def xcl (c : Nat) : Bool := decide (c < 1000)

/-! ### keys that are tuples -/
mutual
def nkey : D → Option NestedKey
  | .non => some .none
  | .int i => some (.num i)
  | .str x => some (.text x)
  | .tup ds => match nkeys ds with
    | some ks => some (.tup ks)
    | none => none
  | _ => none
def nkeys : List D → Option (List NestedKey)
  | [] => some []
  | d :: ds => match nkey d, nkeys ds with
    | some k, some ks => some (k :: ks)
    | _, _ => none
end
/-- at a stands a dict with these entries: the keys, where their tuples stand, the values -/
def DkO (P : Program) (w : World) (a : Addr) (xs : List (NestedKey × Addr × Value)) (h : Heap) : Prop :=
  (a == sysModules) = false ∧ xs.length ≤ sizeLine ∧ (xs.map (·.1)).Nodup ∧ ∃ o es ep, h.get? a = some o ∧ o.ExactDict ∧ o.data = .dict es ep ∧ es.toList = xs.map (entryOfKey (nestedKind P w))

/-- a list that is known, or one of the written part -/
def FzL (K : PySem.W.Frag) (H : Hp) (a : Addr) (us : List V) : Prop := (∃ o, H a = some (.frz o (.lst us))) ∨
  ∃ (o : Obj) (its : Array Value) (n : Nat), K.lookup a = some o ∧ o.cls = .type "list" ∧ o.dict = none ∧ o.data = .seq its n ∧ its.size ≤ sizeLine ∧ Vals us its.toList
theorem FzL.sq {K : PySem.W.Frag} {H : Hp} {a : Addr} {us : List V} (h : FzL K H a us) : SqL K H a us := by
  rcases h with ⟨o, h⟩ | h
  · exact .inl (.inr ⟨o, h⟩)
  · exact .inr h
mutual
/-- v is the value d in the heap H; ρ: where the cells are -/
inductive RepV (K : PySem.W.Frag) (G : Cls) (ρ : List (Option Addr)) (H : Hp) : D → V → Prop
  | non : RepV K G ρ H .non .non
  | bl (b : Bool) : RepV K G ρ H (.bl b) (.bl b)
  | int (i : Int) : RepV K G ρ H (.int i) (.int i)
  | str (x : Str) : RepV K G ρ H (.str x) (.str x)
  | tup {xs : List D} {a : Addr} {us : List V} (h : SqT K H a us) (r : RepVs K G ρ H xs us) : RepV K G ρ H (.tup xs) (.ref a)
  | lst {xs : List D} {a : Addr} {us : List V} {o : Obj} (h : H a = some (.frz o (.lst us))) (r : RepVs K G ρ H xs us) : RepV K G ρ H (.lst xs) (.ref a)
  | dct {kvs : List (D × D)} {a : Addr} {u : HO} {o : Obj} (h : H a = some (.frz o u)) (r : RepD K G ρ H a kvs u) : RepV K G ρ H (.dct kvs) (.ref a)
  | ins {c : Nat} {fs : List (Nat × D)} {a dx : Addr} {us : List (Str × V)} {o : Obj} (hc : xcl c = false) (h : H a = some (.frz o (.ins (G.addr c) dx us))) (r : RepF K G ρ H fs us) : RepV K G ρ H (.ins c fs) (.ref a)
  | ex0 {c : Nat} {a : Addr} (hc : xcl c = true) (g : G.exc a = some (c, none)) : RepV K G ρ H (.ins c []) (.ref a)
  | ex1 {c : Nat} {fs : List (Nat × D)} {a dx : Addr} {us : List (Str × V)} (hc : xcl c = true) (g : G.exc a = some (c, some dx)) (h : H dx = some (.xd us)) (r : RepF K G ρ H fs us) : RepV K G ρ H (.ins c fs) (.ref a)
  | scr {ns : List Int} {a : Addr} (h : FzL K H a (ns.map V.int)) : RepV K G ρ H (.scr ns) (.ref a)
  | ref {r : Nat} {a : Addr} {x : Option Addr} (h : ρ[r]? = some x) (q : x = none ∨ x = some a) : RepV K G ρ H (.ref r) (.ref a)
inductive RepVs (K : PySem.W.Frag) (G : Cls) (ρ : List (Option Addr)) (H : Hp) : List D → List V → Prop
  | nil : RepVs K G ρ H [] []
  | cons {d : D} {v : V} {ds : List D} {vs : List V} (h : RepV K G ρ H d v) (r : RepVs K G ρ H ds vs) : RepVs K G ρ H (d :: ds) (v :: vs)
/-- the pairs of a dict -/
inductive RepD (K : PySem.W.Frag) (G : Cls) (ρ : List (Option Addr)) (H : Hp) : Addr → List (D × D) → HO → Prop
  | k {a : Addr} {kvs : List (D × D)} {us : List (Key × V)} (r : RepK K G ρ H kvs us) : RepD K G ρ H a kvs (.dK us)
  | t {a : Addr} {kvs : List (D × D)} {xs : List (NestedKey × Addr × Value)} (r : RepT K G ρ H kvs xs) : RepD K G ρ H a kvs (.ext (DkO G.prog G.world a xs))
inductive RepT (K : PySem.W.Frag) (G : Cls) (ρ : List (Option Addr)) (H : Hp) : List (D × D) → List (NestedKey × Addr × Value) → Prop
  | nil : RepT K G ρ H [] []
  | cons {kd d : D} {kn : NestedKey} {ka : Addr} {vv : V} {v : Value} {kvs : List (D × D)} {xs : List (NestedKey × Addr × Value)} (nk : nkey kd = some kn) (dp : kn.depth ≤ 8) (hk : RepV K G ρ H kd (.ref ka)) (h : RepV K G ρ H d vv) (rel : RelV vv v) (r : RepT K G ρ H kvs xs) : RepT K G ρ H ((kd, d) :: kvs) ((kn, ka, v) :: xs)
inductive RepK (K : PySem.W.Frag) (G : Cls) (ρ : List (Option Addr)) (H : Hp) : List (D × D) → List (Key × V) → Prop
  | nil : RepK K G ρ H [] []
  | int {i : Int} {d : D} {v : V} {kvs : List (D × D)} {us : List (Key × V)} (h : RepV K G ρ H d v) (r : RepK K G ρ H kvs us) : RepK K G ρ H ((.int i, d) :: kvs) ((Sum.inl i, v) :: us)
  | str {x : Str} {d : D} {v : V} {kvs : List (D × D)} {us : List (Key × V)} (h : RepV K G ρ H d v) (r : RepK K G ρ H kvs us) : RepK K G ρ H ((.str x, d) :: kvs) ((Sum.inr x, v) :: us)
inductive RepF (K : PySem.W.Frag) (G : Cls) (ρ : List (Option Addr)) (H : Hp) : List (Nat × D) → List (Str × V) → Prop
  | nil : RepF K G ρ H [] []
  | cons {f : Nat} {d : D} {v : V} {fs : List (Nat × D)} {us : List (Str × V)} (h : RepV K G ρ H d v) (r : RepF K G ρ H fs us) : RepF K G ρ H ((f, d) :: fs) ((G.fld f, v) :: us)
end

/-- from (ρ, H) to (ρ', H'): all that is no cell stands; a cell may be gone; new cells are new objects -/
structure Ext (ρ : List (Option Addr)) (H : Hp) (ρ' : List (Option Addr)) (H' : Hp) : Prop where
  keep : ∀ b o, H b = some o → (∀ i : Nat, ρ[i]? ≠ some (some b)) → H' b = some o
  tups : ∀ b us, H b = some (.tup us) → H' b = some (.tup us)
  frzs : ∀ b o u, H b = some (.frz o u) → H' b = some (.frz o u)
  xds : ∀ b us, H b = some (.xd us) → H' b = some (.xd us)
  dom : ∀ b, H' b = none → H b = none
  len : ρ.length ≤ ρ'.length
  old : ∀ (i : Nat), i < ρ.length → ρ'[i]? = ρ[i]? ∨ ρ'[i]? = some none
  new : ∀ (i : Nat) a, ρ.length ≤ i → ρ'[i]? = some (some a) → H a = none
theorem Ext.refl (ρ : List (Option Addr)) (H : Hp) : Ext ρ H ρ H :=
  ⟨fun _ _ h _ => h, fun _ _ h => h, fun _ _ _ h => h, fun _ _ h => h, fun _ h => h, Nat.le_refl _, fun _ _ => .inl rfl, fun i a h e => by
    rw [List.getElem?_eq_none_iff.mpr h] at e; cases e⟩
theorem Ext.trans {ρ ρ1 ρ2 : List (Option Addr)} {H H1 H2 : Hp} (a : Ext ρ H ρ1 H1) (b : Ext ρ1 H1 ρ2 H2) : Ext ρ H ρ2 H2 where
  keep := fun x o h n => by
    refine b.keep x o (a.keep x o h n) fun i e => ?_
    by_cases hi : i < ρ.length
    · rcases a.old i hi with q | q
      · exact n i (q.symm.trans e)
      · rw [q] at e; cases e
    · have := a.new i x (Nat.le_of_not_lt hi) e
      rw [h] at this; cases this
  tups := fun x us h => b.tups x us (a.tups x us h)
  frzs := fun x o u h => b.frzs x o u (a.frzs x o u h)
  xds := fun x us h => b.xds x us (a.xds x us h)
  dom := fun x h => a.dom x (b.dom x h)
  len := Nat.le_trans a.len b.len
  old := fun i hi => by
    rcases b.old i (Nat.lt_of_lt_of_le hi a.len) with q | q
    · rcases a.old i hi with p | p
      · exact .inl (q.trans p)
      · exact .inr (q.trans p)
    · exact .inr q
  new := fun i x hi e => by
    by_cases h1 : i < ρ1.length
    · rcases b.old i h1 with q | q
      · exact a.new i x hi (q.symm.trans e)
      · rw [q] at e; cases e
    · exact a.dom x (b.new i x (Nat.le_of_not_lt h1) e)

theorem SqT.ext {K : PySem.W.Frag} {ρ ρ' : List (Option Addr)} {H H' : Hp} {a : Addr} {us : List V} (x : Ext ρ H ρ' H') (h : SqT K H a us) : SqT K H' a us := by
  rcases h with (h | ⟨o, h⟩) | h
  · exact .inl (.inl (x.tups _ _ h))
  · exact .inl (.inr ⟨o, x.frzs _ _ _ h⟩)
  · exact .inr h

theorem FzL.ext {K : PySem.W.Frag} {ρ ρ' : List (Option Addr)} {H H' : Hp} {a : Addr} {us : List V} (x : Ext ρ H ρ' H') (h : FzL K H a us) : FzL K H' a us := by
  rcases h with ⟨o, h⟩ | h
  · exact .inl ⟨o, x.frzs _ _ _ h⟩
  · exact .inr h

section
variable {K : PySem.W.Frag} {G : Cls} {ρ ρ' : List (Option Addr)} {H H' : Hp}
mutual
theorem RepV.ext (x : Ext ρ H ρ' H') : ∀ {d : D} {v : V}, RepV K G ρ H d v → RepV K G ρ' H' d v
  | _, _, .non => .non
  | _, _, .bl b => .bl b
  | _, _, .int i => .int i
  | _, _, .str z => .str z
  | _, _, .tup h r => .tup (SqT.ext x h) (RepVs.ext x r)
  | _, _, .lst h r => .lst (x.frzs _ _ _ h) (RepVs.ext x r)
  | _, _, .dct h r => .dct (x.frzs _ _ _ h) (RepD.ext x r)
  | _, _, .ins hc h r => .ins hc (x.frzs _ _ _ h) (RepF.ext x r)
  | _, _, .ex0 hc g => .ex0 hc g
  | _, _, .ex1 hc g h r => .ex1 hc g (x.xds _ _ h) (RepF.ext x r)
  | _, _, .scr h => .scr (FzL.ext x h)
  | _, _, .ref (r := r) (a := a) (x := y) h q => by
    have hi : r < ρ.length := (List.getElem?_eq_some_iff.mp h).1
    rcases x.old r hi with e | e
    · exact .ref (e.trans h) q
    · exact .ref e (.inl rfl)
theorem RepVs.ext (x : Ext ρ H ρ' H') : ∀ {ds : List D} {vs : List V}, RepVs K G ρ H ds vs → RepVs K G ρ' H' ds vs
  | _, _, .nil => .nil
  | _, _, .cons h r => .cons (RepV.ext x h) (RepVs.ext x r)
theorem RepD.ext (x : Ext ρ H ρ' H') : ∀ {a : Addr} {kvs : List (D × D)} {u : HO}, RepD K G ρ H a kvs u → RepD K G ρ' H' a kvs u
  | _, _, _, .k r => .k (RepK.ext x r)
  | _, _, _, .t r => .t (RepT.ext x r)
theorem RepT.ext (x : Ext ρ H ρ' H') : ∀ {kvs : List (D × D)} {xs : List (NestedKey × Addr × Value)}, RepT K G ρ H kvs xs → RepT K G ρ' H' kvs xs
  | _, _, .nil => .nil
  | _, _, .cons nk dp hk h rel r => .cons nk dp (RepV.ext x hk) (RepV.ext x h) rel (RepT.ext x r)
theorem RepK.ext (x : Ext ρ H ρ' H') : ∀ {kvs : List (D × D)} {us : List (Key × V)}, RepK K G ρ H kvs us → RepK K G ρ' H' kvs us
  | _, _, .nil => .nil
  | _, _, .int h r => .int (RepV.ext x h) (RepK.ext x r)
  | _, _, .str h r => .str (RepV.ext x h) (RepK.ext x r)
theorem RepF.ext (x : Ext ρ H ρ' H') : ∀ {fs : List (Nat × D)} {us : List (Str × V)}, RepF K G ρ H fs us → RepF K G ρ' H' fs us
  | _, _, .nil => .nil
  | _, _, .cons h r => .cons (RepV.ext x h) (RepF.ext x r)
end
end
end PK
namespace PK
open PySem PySem.Spec PyProof.Rows L2

/-- the object u holds what o says -/
def RepC (K : PySem.W.Frag) (G : Cls) (ρ : List (Option Addr)) (H : Hp) (a : Addr) : DO → HO → Prop
  | .gone, _ => False
  | .lst xs, u => ∃ us, u = .lst us ∧ RepVs K G ρ H xs us
  | .dct kvs, u => RepD K G ρ H a kvs u
  | .ins c fs, u => xcl c = false ∧ ∃ dx us, u = .ins (G.addr c) dx us ∧ RepF K G ρ H fs us
  | .lkl xs, u => ∃ od us, u = .frz od (.lst us) ∧ RepVs K G ρ H xs us
  | .lkd kvs, u => ∃ od u', u = .frz od u' ∧ Mut (some u') ∧ RepD K G ρ H a kvs u'
/-- a cell's object: it may be written, or it is locked -/
def MutC (u : HO) : Prop := Mut (some u) ∨ ∃ od u', u = .frz od u' ∧ Mut (some u')
def DO.live : DO → Prop
  | .gone | .lkl _ | .lkd _ => False
  | _ => True
theorem RepD.mut {K : PySem.W.Frag} {G : Cls} {ρ : List (Option Addr)} {H : Hp} {a : Addr} {kvs : List (D × D)} {u : HO} (h : RepD K G ρ H a kvs u) : Mut (some u) := by
  cases h <;> trivial
theorem RepC.mut {K : PySem.W.Frag} {G : Cls} {ρ : List (Option Addr)} {H : Hp} {a : Addr} {o : DO} {u : HO} (l : o.live) (h : RepC K G ρ H a o u) : Mut (some u) := by
  cases o with
  | gone => exact l.elim
  | lst xs => obtain ⟨us, rfl, _⟩ := h; trivial
  | dct kvs => exact RepD.mut h
  | ins c fs => obtain ⟨_, dx, us, rfl, _⟩ := h; trivial
  | lkl xs => exact l.elim
  | lkd xs => exact l.elim
/-- the cell i of the store -/
def RepO (K : PySem.W.Frag) (G : Cls) (ρ : List (Option Addr)) (H : Hp) (i : Nat) (o : DO) : Prop :=
  o = .gone ∨ ∃ a u, ρ[i]? = some (some a) ∧ H a = some u ∧ RepC K G ρ H a o u
structure Rep (K : PySem.W.Frag) (G : Cls) (ρ : List (Option Addr)) (S : List DO) (H : Hp) : Prop where
  len : ρ.length = S.length
  inj : ∀ (i j : Nat) a, ρ[i]? = some (some a) → ρ[j]? = some (some a) → i = j
  obj : ∀ (i : Nat) o, S[i]? = some o → RepO K G ρ H i o
  trk : ∀ (i : Nat) a, ρ[i]? = some (some a) → ∃ o, H a = some o ∧ MutC o

/-- the slots -/
abbrev Env := List (Option D)
def RepE (K : PySem.W.Frag) (G : Cls) (ρ : List (Option Addr)) (H : Hp) (E : Env) (σ : L2.St) : Prop :=
  E.length = σ.length ∧ ∀ (i : Nat) d, E[i]? = some (some d) → ∃ v, σ[i]? = some (some v) ∧ RepV K G ρ H d v

section
variable {K : PySem.W.Frag} {G : Cls} {ρ ρ' : List (Option Addr)} {S : List DO} {H H' : Hp} {E : Env} {σ : L2.St}
theorem RepE.ext (x : Ext ρ H ρ' H') (r : RepE K G ρ H E σ) : RepE K G ρ' H' E σ :=
  ⟨r.1, fun i d e => let ⟨v, h, q⟩ := r.2 i d e; ⟨v, h, RepV.ext x q⟩⟩
theorem RepE.set {i : Nat} {d : D} {v : V} (r : RepE K G ρ H E σ) (h : RepV K G ρ H d v) : RepE K G ρ H (E.set i (some d)) (σ.set i (some v)) := by
  refine ⟨by simp [r.1], fun j d' e => ?_⟩
  by_cases hj : i = j
  · subst hj
    by_cases hi : i < E.length
    · rw [List.getElem?_set_self hi] at e
      cases e
      exact ⟨v, List.getElem?_set_self (by rw [← r.1]; exact hi), h⟩
    · rw [List.getElem?_eq_none (by simpa using hi)] at e; cases e
  · rw [List.getElem?_set_ne hj] at e
    rw [List.getElem?_set_ne hj]
    exact r.2 j d' e
theorem RepE.wipe {vs : List Nat} (r : RepE K G ρ H E σ) : ∀ vs : List Nat, RepE K G ρ H (vs.foldr (fun v E => E.set v none) E) (L2.wipe σ vs)
  | [] => r
  | v :: vs => by
    have ih := RepE.wipe (vs := vs) r vs
    refine ⟨by simp [List.foldr, L2.wipe, ih.1], fun j d e => ?_⟩
    simp only [List.foldr] at e
    unfold L2.wipe
    by_cases hj : v = j
    · subst hj
      by_cases hv : v < (List.foldr (fun v E => List.set E v none) E vs).length
      · rw [List.getElem?_set_self hv] at e; cases e
      · rw [List.getElem?_eq_none (by simpa using hv)] at e; cases e
    · rw [List.getElem?_set_ne hj] at e
      rw [List.getElem?_set_ne hj]
      exact ih.2 j d e

theorem RepC.ext {a : Addr} {o : DO} {u : HO} (x : Ext ρ H ρ' H') (r : RepC K G ρ H a o u) : RepC K G ρ' H' a o u := by
  cases o with
  | gone => exact r
  | lst xs => obtain ⟨us, h1, h2⟩ := r; exact ⟨us, h1, RepVs.ext x h2⟩
  | dct kvs => exact RepD.ext x r
  | ins c fs => obtain ⟨hc, dx, us, h1, h2⟩ := r; exact ⟨hc, dx, us, h1, RepF.ext x h2⟩
  | lkl xs => obtain ⟨od, us, h1, h2⟩ := r; exact ⟨od, us, h1, RepVs.ext x h2⟩
  | lkd kvs => obtain ⟨od, u', h1, h2, h3⟩ := r; exact ⟨od, u', h1, h2, RepD.ext x h3⟩
theorem RepO.ext {i : Nat} {o : DO} (x : Ext ρ H ρ' H') (hi : i < ρ.length) (hr : ρ'[i]? = ρ[i]?) (hs : ∀ a, ρ[i]? = some (some a) → H' a = H a) (r : RepO K G ρ H i o) : RepO K G ρ' H' i o := by
  rcases r with r | ⟨a, u, h1, h2, h3⟩
  · exact .inl r
  · exact .inr ⟨a, u, hr.trans h1, (hs a h1).trans h2, RepC.ext x h3⟩
/-- the same cells, their objects as they were -/
theorem Rep.same (r : Rep K G ρ S H) (x : Ext ρ H ρ H') (hs : ∀ (i : Nat) a, ρ[i]? = some (some a) → H' a = H a) : Rep K G ρ S H' where
  len := r.len
  inj := r.inj
  obj := fun i o e => (r.obj i o e).ext x (by rw [r.len]; exact (List.getElem?_eq_some_iff.mp e).1) rfl fun a h => hs i a h
  trk := fun i a e => by
    obtain ⟨o, h, m⟩ := r.trk i a e
    exact ⟨o, (hs i a e).trans h, m⟩
theorem Rep.notNew (r : Rep K G ρ S H) {p : Addr} (hp : H p = none) (i : Nat) : ρ[i]? ≠ some (some p) := fun e => by
  obtain ⟨o, h, _⟩ := r.trk i p e
  rw [hp] at h; cases h
/-- a new object that is no cell -/
theorem Ext.laid {p : Addr} {o : HO} (hp : H p = none) : Ext ρ H ρ (upd H p o) where
  keep := fun b u h _ => by rw [upd_ne (ne_of_none h hp)]; exact h
  tups := fun b u h => by rw [upd_ne (ne_of_none h hp)]; exact h
  frzs := fun b u v h => by rw [upd_ne (ne_of_none h hp)]; exact h
  xds := fun b u h => by rw [upd_ne (ne_of_none h hp)]; exact h
  dom := fun b h => by
    by_cases e : b = p
    · rw [e]; exact hp
    · rw [upd_ne e] at h; exact h
  len := Nat.le_refl _
  old := fun _ _ => .inl rfl
  new := fun i a h e => by rw [List.getElem?_eq_none_iff.mpr h] at e; cases e
theorem Rep.laid (r : Rep K G ρ S H) {p : Addr} {o : HO} (hp : H p = none) : Rep K G ρ S (upd H p o) :=
  r.same (Ext.laid hp) fun i a e => upd_ne fun z => r.notNew hp i (z ▸ e)
/-- two in a row at one place -/
theorem Ext.laid2 {p : Addr} {o u : HO} (hp : H p = none) : Ext ρ H ρ (upd (upd H p o) p u) := by
  rw [upd_upd]; exact Ext.laid hp
theorem Rep.laid2 (r : Rep K G ρ S H) {p : Addr} {o u : HO} (hp : H p = none) : Rep K G ρ S (upd (upd H p o) p u) := by
  rw [upd_upd]; exact r.laid hp

/-- a new cell -/
theorem Ext.cell {p : Addr} {o : HO} (hp : H p = none) : Ext ρ H (ρ ++ [some p]) (upd H p o) where
  keep := fun b u h _ => by rw [upd_ne (ne_of_none h hp)]; exact h
  tups := fun b u h => by rw [upd_ne (ne_of_none h hp)]; exact h
  frzs := fun b u v h => by rw [upd_ne (ne_of_none h hp)]; exact h
  xds := fun b u h => by rw [upd_ne (ne_of_none h hp)]; exact h
  dom := fun b h => by
    by_cases e : b = p
    · rw [e]; exact hp
    · rw [upd_ne e] at h; exact h
  len := by simp
  old := fun i hi => .inl (List.getElem?_append_left hi)
  new := fun i a h e => by
    rw [List.getElem?_append_right h] at e
    cases hk : i - ρ.length with
    | zero => rw [hk] at e; simp at e; rw [← e]; exact hp
    | succ n => rw [hk] at e; simp at e
theorem Rep.cell (r : Rep K G ρ S H) {p : Addr} {o : HO} {d : DO} (hp : H p = none) (m : Mut (some o)) (ro : RepO K G (ρ ++ [some p]) (upd H p o) ρ.length d) : Rep K G (ρ ++ [some p]) (S ++ [d]) (upd H p o) where
  len := by simp [r.len]
  inj := fun i j a h1 h2 => by
    have old : ∀ (k : Nat), (ρ ++ [some p])[k]? = some (some a) → (k < ρ.length ∧ ρ[k]? = some (some a)) ∨ (k = ρ.length ∧ a = p) := fun k e => by
      by_cases hk : k < ρ.length
      · rw [List.getElem?_append_left hk] at e; exact .inl ⟨hk, e⟩
      · have hk' := Nat.le_of_not_lt hk
        rw [List.getElem?_append_right hk'] at e
        cases q : k - ρ.length with
        | zero => rw [q] at e; simp at e; exact .inr ⟨by omega, e.symm⟩
        | succ n => rw [q] at e; simp at e
    rcases old i h1 with ⟨_, e1⟩ | ⟨e1, q1⟩
    · rcases old j h2 with ⟨_, e2⟩ | ⟨e2, q2⟩
      · exact r.inj i j a e1 e2
      · rw [q2] at e1; exact absurd e1 (r.notNew hp i)
    · rcases old j h2 with ⟨_, e2⟩ | ⟨e2, q2⟩
      · rw [q1] at e2; exact absurd e2 (r.notNew hp j)
      · rw [e1, e2]
  obj := fun i o' e => by
    by_cases hi : i < S.length
    · rw [List.getElem?_append_left hi] at e
      have hi' : i < ρ.length := by rw [r.len]; exact hi
      exact (r.obj i o' e).ext (Ext.cell hp) hi' (List.getElem?_append_left hi') fun a h => upd_ne fun z => r.notNew hp i (z ▸ h)
    · have hi' := Nat.le_of_not_lt hi
      rw [List.getElem?_append_right hi'] at e
      cases q : i - S.length with
      | zero =>
        rw [q] at e; simp at e
        have : i = ρ.length := by rw [r.len]; omega
        rw [← e, this]; exact ro
      | succ n => rw [q] at e; simp at e
  trk := fun i a e => by
    by_cases hi : i < ρ.length
    · rw [List.getElem?_append_left hi] at e
      obtain ⟨u, h, m'⟩ := r.trk i a e
      exact ⟨u, by rw [upd_ne (ne_of_none h hp)]; exact h, m'⟩
    · rw [List.getElem?_append_right (Nat.le_of_not_lt hi)] at e
      cases q : i - ρ.length with
      | zero => rw [q] at e; simp at e; rw [← e]; exact ⟨o, upd_same, .inl m⟩
      | succ n => rw [q] at e; simp at e
/-- a cell is written -/
theorem Ext.wrote {i : Nat} {a : Addr} {o u : HO} (ha : ρ[i]? = some (some a)) (h0 : H a = some u) (m : Mut (some u)) : Ext ρ H ρ (upd H a o) where
  keep := fun b v h n => by rw [upd_ne (show b ≠ a from fun z => n i (by rw [z]; exact ha))]; exact h
  tups := fun b us h => by
    rw [upd_ne (fun z => ?_)]
    · exact h
    · subst z; rw [h0] at h; cases h; exact m
  frzs := fun b v us h => by
    rw [upd_ne (fun z => ?_)]
    · exact h
    · subst z; rw [h0] at h; cases h; exact m
  xds := fun b us h => by
    rw [upd_ne (fun z => ?_)]
    · exact h
    · subst z; rw [h0] at h; cases h; exact m
  dom := fun b h => by
    by_cases e : b = a
    · rw [e, upd_same] at h; cases h
    · rw [upd_ne e] at h; exact h
  len := Nat.le_refl _
  old := fun _ _ => .inl rfl
  new := fun j b h e => by rw [List.getElem?_eq_none_iff.mpr h] at e; cases e
theorem Rep.wroteC (r : Rep K G ρ S H) {i : Nat} {a : Addr} {o u : HO} {d : DO} (ha : ρ[i]? = some (some a)) (h0 : H a = some u) (m0 : Mut (some u)) (m : MutC o) (ro : RepO K G ρ (upd H a o) i d) : Rep K G ρ (S.set i d) (upd H a o) where
  len := by simp [r.len]
  inj := r.inj
  obj := fun j o' e => by
    have hx : Ext ρ H ρ (upd H a o) := Ext.wrote ha h0 m0
    by_cases hj : i = j
    · subst hj
      by_cases hi : i < S.length
      · rw [List.getElem?_set_self hi] at e; cases e; exact ro
      · rw [List.getElem?_eq_none (by simpa using hi)] at e; cases e
    · rw [List.getElem?_set_ne hj] at e
      exact (r.obj j o' e).ext hx (by rw [r.len]; exact (List.getElem?_eq_some_iff.mp e).1) rfl fun b h => upd_ne fun z => hj (r.inj i j a ha (z ▸ h))
  trk := fun j b e => by
    by_cases hb : b = a
    · rw [hb]; exact ⟨o, upd_same, m⟩
    · rw [upd_ne hb]; exact r.trk j b e
theorem Rep.wrote (r : Rep K G ρ S H) {i : Nat} {a : Addr} {o u : HO} {d : DO} (ha : ρ[i]? = some (some a)) (h0 : H a = some u) (m0 : Mut (some u)) (m : Mut (some o)) (ro : RepO K G ρ (upd H a o) i d) : Rep K G ρ (S.set i d) (upd H a o) := r.wroteC ha h0 m0 (.inl m) ro
/-- a cell is given up: its object is known from now on -/
theorem Ext.froze {i : Nat} {a : Addr} {o u : HO} (ha : ρ[i]? = some (some a)) (h0 : H a = some u) (m : Mut (some u)) : Ext ρ H (ρ.set i none) (upd H a o) where
  keep := fun b v h n => by rw [upd_ne (show b ≠ a from fun z => n i (by rw [z]; exact ha))]; exact h
  tups := fun b us h => by
    rw [upd_ne (fun z => ?_)]
    · exact h
    · subst z; rw [h0] at h; cases h; exact m
  frzs := fun b v us h => by
    rw [upd_ne (fun z => ?_)]
    · exact h
    · subst z; rw [h0] at h; cases h; exact m
  xds := fun b us h => by
    rw [upd_ne (fun z => ?_)]
    · exact h
    · subst z; rw [h0] at h; cases h; exact m
  dom := fun b h => by
    by_cases e : b = a
    · rw [e, upd_same] at h; cases h
    · rw [upd_ne e] at h; exact h
  len := by simp
  old := fun j hj => by
    by_cases e : i = j
    · subst e; exact .inr (List.getElem?_set_self hj)
    · exact .inl (List.getElem?_set_ne e)
  new := fun j b h e => by rw [List.getElem?_eq_none_iff.mpr (by simpa using h)] at e; cases e
theorem Rep.froze (r : Rep K G ρ S H) {i : Nat} {a : Addr} {o u : HO} (ha : ρ[i]? = some (some a)) (h0 : H a = some u) (m0 : Mut (some u)) : Rep K G (ρ.set i none) (S.set i .gone) (upd H a o) where
  len := by simp [r.len]
  inj := fun j k b h1 h2 => by
    have f : ∀ (l : Nat), (ρ.set i none)[l]? = some (some b) → ρ[l]? = some (some b) := fun l e => by
      by_cases hl : i = l
      · subst hl
        by_cases hi : i < ρ.length
        · rw [List.getElem?_set_self hi] at e; cases e
        · rw [List.getElem?_eq_none (by simpa using hi)] at e; cases e
      · rwa [List.getElem?_set_ne hl] at e
    exact r.inj j k b (f j h1) (f k h2)
  obj := fun j o' e => by
    by_cases hj : i = j
    · subst hj
      by_cases hi : i < S.length
      · rw [List.getElem?_set_self hi] at e; cases e; exact .inl rfl
      · rw [List.getElem?_eq_none (by simpa using hi)] at e; cases e
    · rw [List.getElem?_set_ne hj] at e
      exact (r.obj j o' e).ext (Ext.froze ha h0 m0) (by rw [r.len]; exact (List.getElem?_eq_some_iff.mp e).1) (List.getElem?_set_ne hj) fun b h => upd_ne fun z => hj (r.inj i j a ha (z ▸ h))
  trk := fun j b e => by
    by_cases hj : i = j
    · subst hj
      by_cases hi : i < ρ.length
      · rw [List.getElem?_set_self hi] at e; cases e
      · rw [List.getElem?_eq_none (by simpa using hi)] at e; cases e
    · rw [List.getElem?_set_ne hj] at e
      rw [upd_ne (show b ≠ a from fun z => hj (r.inj i j a ha (by rw [← z]; exact e)))]
      exact r.trk j b e
end

/-! ### freezing in the machine's state -/
section
variable {X : Cx} {pins : List (Addr × Obj)} {σ : L2.St} {H : Hp} {s : Shared}
theorem freeze {a : Addr} {u : HO} (I : Inv X pins σ H s) (h : H a = some u) (mu : Mut (some u)) : ∃ ob, Inv X pins σ (upd H a (.frz ob u)) s := I.lock h mu
end
end PK
namespace PK
open PySem PySem.Spec PyProof.Rows L2

/-- an exception's fields -/
def RepX (K : PySem.W.Frag) (G : Cls) (ρ : List (Option Addr)) (H : Hp) (fs : List (Nat × D)) (od : Option Addr) : Prop :=
  (fs = [] ∧ od = none) ∨ ∃ dx us, od = some dx ∧ H dx = some (.xd us) ∧ RepF K G ρ H fs us

/-- what a run of the evaluator gives, told to the machine -/
def Go (K : PySem.W.Frag) (G : Cls) {α β : Type} (R : List (Option Addr) → Hp → α → β → Prop) (W : L2.WX) (σ : L2.St) (ρ : List (Option Addr)) (H : Hp) (r : Res α) (Q : β → Hp → Prop) : Prop :=
  match r with
  | .ok a S' => ∀ ρ' b H', Ext ρ H ρ' H' → Rep K G ρ' S' H' → R ρ' H' a b → Q b H'
  | .exc c fs S' => ∀ ρ' H' od, Ext ρ H ρ' H' → Rep K G ρ' S' H' → RepX K G ρ' H' fs od → W (.ref (G.addr c)) od σ H'
  | .stuck => False
def tG (K : PySem.W.Frag) (G : Cls) {α β : Type} (R : List (Option Addr) → Hp → α → β → Prop) (W : L2.WX) (m : Env → EM α) : L2.St → Hp → (β → Hp → Prop) → Prop :=
  fun σ H Q => ∃ ρ S E, Rep K G ρ S H ∧ RepE K G ρ H E σ ∧ Go K G R W σ ρ H (m E S) Q
abbrev RD (K : PySem.W.Frag) (G : Cls) : List (Option Addr) → Hp → D → V → Prop := fun ρ H d v => RepV K G ρ H d v
abbrev RDs (K : PySem.W.Frag) (G : Cls) : List (Option Addr) → Hp → List D → List V → Prop := fun ρ H d v => RepVs K G ρ H d v
abbrev RB : List (Option Addr) → Hp → Bool → Bool → Prop := fun _ _ a b => a = b
abbrev tM (K : PySem.W.Frag) (G : Cls) (W : L2.WX) (m : Env → EM D) : TE := tG K G (RD K G) W m
abbrev tA (K : PySem.W.Frag) (G : Cls) (W : L2.WX) (m : Env → EM (List D)) : TA := tG K G (RDs K G) W m
abbrev tT (K : PySem.W.Frag) (G : Cls) (W : L2.WX) (m : Env → EM Bool) : TT := tG K G RB W m

section
variable {K : PySem.W.Frag} {G : Cls} {α β α' β' : Type} {R : List (Option Addr) → Hp → α → β → Prop} {R' : List (Option Addr) → Hp → α' → β' → Prop} {W : L2.WX} {σ : L2.St} {ρ ρ' : List (Option Addr)} {S : List DO} {H H' : Hp} {E : Env}
theorem Go.ext {r : Res α} {Q : β → Hp → Prop} (x : Ext ρ H ρ' H') (h : Go K G R W σ ρ H r Q) : Go K G R W σ ρ' H' r Q := by
  cases r with
  | ok a S' => exact fun ρ1 b H1 x1 r1 q => h ρ1 b H1 (x.trans x1) r1 q
  | exc c fs S' => exact fun ρ1 H1 od x1 r1 q => h ρ1 H1 od (x.trans x1) r1 q
  | stuck => exact h
theorem Go.mono {r : Res α} {Q Q' : β → Hp → Prop} (h : Go K G R W σ ρ H r Q) (i : ∀ b H', Q b H' → Q' b H') : Go K G R W σ ρ H r Q' := by
  cases r with
  | ok a S' => exact fun ρ1 b H1 x1 r1 q => i _ _ (h ρ1 b H1 x1 r1 q)
  | exc c fs S' => exact h
  | stuck => exact h
theorem Go.bind {m : EM α} {k : α → EM α'} {Q : β' → Hp → Prop} (h : Go K G R' W σ ρ H (EM.bind m k S) Q) :
    Go K G R W σ ρ H (m S) fun b H1 => ∃ ρ1 S1 a, Ext ρ H ρ1 H1 ∧ Rep K G ρ1 S1 H1 ∧ R ρ1 H1 a b ∧ Go K G R' W σ ρ1 H1 (k a S1) Q := by
  unfold EM.bind at h
  cases e : m S with
  | ok a S' =>
    rw [e] at h
    exact fun ρ1 b H1 x1 r1 q => ⟨ρ1, S', a, x1, r1, q, Go.ext x1 h⟩
  | exc c fs S' => rw [e] at h; exact h
  | stuck => rw [e] at h; exact h
/-- the first of two runs -/
theorem tG_bind {m : Env → EM α} {k : Env → α → EM α'} {Q : β' → Hp → Prop} (h : tG K G R' W (fun E => EM.bind (m E) (k E)) σ H Q) :
    tG K G R W m σ H fun b H1 => ∃ ρ1 S1 E a, Rep K G ρ1 S1 H1 ∧ RepE K G ρ1 H1 E σ ∧ R ρ1 H1 a b ∧ Go K G R' W σ ρ1 H1 (k E a S1) Q := by
  obtain ⟨ρ, S, E, r, re, g⟩ := h
  refine ⟨ρ, S, E, r, re, Go.mono (Go.bind g) ?_⟩
  rintro b H1 ⟨ρ1, S1, a, x1, r1, q, g1⟩
  exact ⟨ρ1, S1, E, a, r1, RepE.ext x1 re, q, g1⟩
theorem _root_.L2.PE.weak {X : Cx} {e : Expr} {t t' : TE} (h : PE X e t) (i : ∀ σ H Q, t' σ H Q → t σ H Q) : PE X e t' := ⟨fun pins s σ H Q I q => h.run pins s σ H Q I (i σ H Q q)⟩
theorem _root_.L2.PT.weak {X : Cx} {e : Expr} {t t' : TT} (h : PT X e t) (i : ∀ σ H Q, t' σ H Q → t σ H Q) : PT X e t' := ⟨fun pins s σ H Q I q => h.run pins s σ H Q I (i σ H Q q)⟩
theorem _root_.L2.PW.weak {X : Cx} {e : Expr} {t t' : TT} (h : PW X e t) (i : ∀ σ H Q, t' σ H Q → t σ H Q) : PW X e t' := ⟨fun wh pins s σ H Q I q => h.run wh pins s σ H Q I (i σ H Q q)⟩
theorem _root_.L2.PA.weak {X : Cx} {e : List Expr} {t t' : TA} (h : PA X e t) (i : ∀ σ H Q, t' σ H Q → t σ H Q) : PA X e t' := ⟨fun p pins s σ H Q I q => h.run p pins s σ H Q I (i σ H Q q)⟩
/-- the end of a run whose value stands: nothing else has changed -/
theorem Go.here {d : α} {v : β} {Q : β → Hp → Prop} (g : Go K G R W σ ρ H (EM.pure d S) Q) (r : Rep K G ρ S H) (q : R ρ H d v) : Q v H := g ρ v H (Ext.refl _ _) r q
def EM.ofO {α : Type} : Option α → EM α
  | some a => EM.pure a
  | none => EM.fail
theorem Go.ofO {o : Option α} {Q : β → Hp → Prop} (g : Go K G R W σ ρ H (EM.ofO o S) Q) (r : Rep K G ρ S H) : ∃ d, o = some d ∧ ∀ ρ' b H', Ext ρ H ρ' H' → Rep K G ρ' S H' → R ρ' H' d b → Q b H' := by
  cases o with
  | none => exact g.elim
  | some d => exact ⟨d, rfl, g⟩
end

/-! ### expressions -/
section
variable {X : Cx} {G : Cls} {W : L2.WX} {a b c : Expr} {pos : Pos} {ma mb mc : Env → EM D}
def eVar (i : Nat) : Env → EM D := fun E => match E[i]? with
  | some (some d) => EM.pure d
  | _ => EM.fail
theorem pm_var {i : Nat} {x : Str} (hN : X.N[i]? = some x) (hv : Vis X.env.scope x) (hd : (x == ("__debug__" : Str)) = false) (hcd : (x == ("__classdict__" : Str)) = false) : PE X (.Name x pos) (tM X.K G W (eVar i)) :=
  (pe_var hN hv hd hcd).weak fun σ H Q ⟨ρ, S, E, r, re, g⟩ => by
    unfold eVar at g
    cases e : E[i]? with
    | none => rw [e] at g; exact g.elim
    | some o =>
      cases o with
      | none => rw [e] at g; exact g.elim
      | some d =>
        rw [e] at g
        obtain ⟨v, h1, h2⟩ := re.2 i d e
        exact ⟨v, h1, g.here r h2⟩
theorem pm_c {d : D} {v : V} (h : PE X a (tC v)) (q : ∀ ρ H, RepV X.K G ρ H d v) : PE X a (tM X.K G W fun _ => EM.pure d) :=
  h.weak fun σ H Q ⟨ρ, S, E, r, re, g⟩ => g.here r (q ρ H)
theorem pm_int {i j} : PE X (.Constant (.int i) j pos) (tM X.K G W fun _ => EM.pure (.int i)) := pm_c pe_int fun _ _ => .int i
theorem pm_bl {i j} : PE X (.Constant (.bool i) j pos) (tM X.K G W fun _ => EM.pure (.bl i)) := pm_c pe_bl fun _ _ => .bl i
theorem pm_non {j} : PE X (.Constant .none j pos) (tM X.K G W fun _ => EM.pure .non) := pm_c pe_non fun _ _ => .non
theorem pm_str {i j} : PE X (.Constant (.str i) j pos) (tM X.K G W fun _ => EM.pure (.str i)) := pm_c pe_str fun _ _ => .str i

/-- nothing is raised -/
abbrev W0 : L2.WX := fun _ _ _ _ => False
/-- operations by values: a two-place one, a call's -/
def r2M (K : PySem.W.Frag) (G : Cls) (m : D → D → EM D) : R2 := fun vx vy H Q => ∃ ρ S x y, Rep K G ρ S H ∧ RepV K G ρ H x vx ∧ RepV K G ρ H y vy ∧ Go K G (RD K G) W0 [] ρ H (m x y S) Q
def r1M (K : PySem.W.Frag) (G : Cls) (m : D → EM D) : V → Hp → VK → Prop := fun vx H Q => ∃ ρ S x, Rep K G ρ S H ∧ RepV K G ρ H x vx ∧ Go K G (RD K G) W0 [] ρ H (m x S) Q
def rsM (K : PySem.W.Frag) (G : Cls) (m : List D → EM D) : List V → Hp → VK → Prop := fun vs H Q => ∃ ρ S xs, Rep K G ρ S H ∧ RepVs K G ρ H xs vs ∧ Go K G (RD K G) W0 [] ρ H (m xs S) Q
def rmM (K : PySem.W.Frag) (G : Cls) (m : D → List D → EM D) : V → List V → Hp → VK → Prop := fun vx vs H Q => ∃ ρ S x xs, Rep K G ρ S H ∧ RepV K G ρ H x vx ∧ RepVs K G ρ H xs vs ∧ Go K G (RD K G) W0 [] ρ H (m x xs S) Q
/-- an evaluator's step that raises nothing -/
def NoExc {α : Type} (m : EM α) : Prop := ∀ S c fs S', m S ≠ .exc c fs S'
theorem Go.w0 {α β : Type} {K : PySem.W.Frag} {R : List (Option Addr) → Hp → α → β → Prop} {σ : L2.St} {ρ : List (Option Addr)} {S : List DO} {H : Hp} {m : EM α} {Q : β → Hp → Prop} (n : NoExc m) (g : Go K G R W σ ρ H (m S) Q) : Go K G R W0 [] ρ H (m S) Q := by
  cases e : m S with
  | ok a S' => rw [e] at g; exact g
  | exc c fs S' => exact (n S c fs S' e).elim
  | stuck => rw [e] at g; exact g
def e2 (f : D → D → EM D) (ma mb : Env → EM D) : Env → EM D := fun E => EM.bind (ma E) fun x => EM.bind (mb E) fun y => f x y
def e1 (f : D → EM D) (ma : Env → EM D) : Env → EM D := fun E => EM.bind (ma E) f
def es (f : List D → EM D) (ma : Env → EM (List D)) : Env → EM D := fun E => EM.bind (ma E) f
theorem tM_2 {f : D → D → EM D} (n : ∀ x y, NoExc (f x y)) {σ : L2.St} {H : Hp} {Q : VK} (h : tM X.K G W (e2 f ma mb) σ H Q) : tOp (r2M X.K G f) (tM X.K G W ma) (tM X.K G W mb) σ H Q := by
  obtain ⟨ρ, S, E, rp, re, g⟩ := h
  refine ⟨ρ, S, E, rp, re, Go.mono (Go.bind g) ?_⟩
  rintro v1 H1 ⟨ρ1, S1, x, x1, r1, q1, g1⟩
  refine ⟨ρ1, S1, E, r1, RepE.ext x1 re, Go.mono (Go.bind g1) ?_⟩
  rintro v2 H2 ⟨ρ2, S2, y, x2, r2, q2, g2⟩
  exact ⟨ρ2, S2, x, y, r2, RepV.ext x2 q1, q2, g2.w0 (n x y)⟩
theorem pm_op {op : Operator} {m : D → D → EM D} (ho : OpR X (binaryOp op) (r2M X.K G m)) (n : ∀ x y, NoExc (m x y)) (ha : PE X a (tM X.K G W ma)) (hb : PE X b (tM X.K G W mb)) : PE X (.BinOp a op b pos) (tM X.K G W (e2 m ma mb)) :=
  (pe_op ho ha hb).weak fun σ H Q q => tM_2 n q
theorem pm_cmp {op : CmpOp} {m : D → D → EM D} (ho : OpR X (compareOp op) (r2M X.K G m)) (n : ∀ x y, NoExc (m x y)) (ha : PE X a (tM X.K G W ma)) (hb : PE X b (tM X.K G W mb)) (hm : behindInMarks op b = false) : PE X (.Compare a [op] [b] pos) (tM X.K G W (e2 m ma mb)) :=
  (pe_cmpR ho ha hb hm).weak fun σ H Q q => tM_2 n q
theorem pm_ix {m : D → D → EM D} (ho : IxR X (r2M X.K G m)) (n : ∀ x y, NoExc (m x y)) (ha : PE X a (tM X.K G W ma)) (hb : PE X b (tM X.K G W mb)) (hs : PlainIx b) : PE X (.Subscript a b pos) (tM X.K G W (e2 m ma mb)) :=
  (pe_ix ho ha hb hs).weak fun σ H Q q => tM_2 n q
theorem pm_un {op : UnaryOp} {m : D → EM D} (ho : UnR X (unaryOp op) (r1M X.K G m)) (n : ∀ x, NoExc (m x)) (ha : PE X a (tM X.K G W ma)) : PE X (.UnaryOp op a pos) (tM X.K G W (e1 m ma)) :=
  (pe_un ho ha).weak fun σ H Q ⟨ρ, S, E, rp, re, g⟩ => ⟨ρ, S, E, rp, re, Go.mono (Go.bind g) fun v1 H1 ⟨ρ1, S1, x, x1, r1, q1, g1⟩ => ⟨ρ1, S1, x, r1, q1, g1.w0 (n x)⟩⟩
def asB : D → Option Bool
  | .bl b => some b
  | _ => none
def eTest (m : Env → EM D) : Env → EM Bool := fun E => EM.bind (m E) fun d => EM.ofO (asB d)
theorem RepV.bl_inv {K : PySem.W.Frag} {ρ : List (Option Addr)} {H : Hp} {d : D} {v : V} {k : Bool} (h : RepV K G ρ H d v) (e : asB d = some k) : v = .bl k := by
  cases h <;> simp [asB] at e
  rw [e]
theorem tTest_of {m : Env → EM D} {t : TE} {σ : L2.St} {H : Hp} {Q : Bool → Hp → Prop} (i : ∀ Q', tM X.K G W m σ H Q' → t σ H Q') (h : tT X.K G W (eTest m) σ H Q) : tTest t σ H Q := by
  refine i _ ?_
  obtain ⟨ρ, S, E, rp, re, g⟩ := h
  refine ⟨ρ, S, E, rp, re, Go.mono (Go.bind g) ?_⟩
  rintro v H1 ⟨ρ1, S1, d, x1, r1, q1, g1⟩
  obtain ⟨k, e, kk⟩ := g1.ofO r1
  exact ⟨k, q1.bl_inv e, kk ρ1 k H1 (Ext.refl _ _) r1 rfl⟩
theorem pt_cmpM {op : CmpOp} {m : D → D → EM D} (ho : OpR X (compareOp op) (r2M X.K G m)) (n : ∀ x y, NoExc (m x y)) (ha : PE X a (tM X.K G W ma)) (hb : PE X b (tM X.K G W mb)) (hm : behindInMarks op b = false) : PT X (.Compare a [op] [b] pos) (tT X.K G W (eTest (e2 m ma mb))) :=
  (pt_cmpR ho ha hb hm).weak fun σ H Q q => tTest_of (fun Q' q' => tM_2 n q') q
theorem pt_valM {m : Env → EM D} (h : PE X a (tM X.K G W m)) (he : ∀ whole, isTrue a X.env whole = (do let v ← whole; standAt a.pos; holding [v] (truthy v))) : PT X a (tT X.K G W (eTest m)) :=
  (pt_val h he).weak fun σ H Q q => tTest_of (fun _ q' => q') q

/-! ### arguments -/
def eNil : Env → EM (List D) := fun _ => EM.pure []
def eCons (m : Env → EM D) (ms : Env → EM (List D)) : Env → EM (List D) := fun E => EM.bind (m E) fun x => EM.bind (ms E) fun xs => EM.pure (x :: xs)
theorem pa_nilM : PA X [] (tA X.K G W eNil) := pa_nil.weak fun σ H Q ⟨ρ, S, E, r, re, g⟩ => g.here r .nil
theorem pa_consM {e : Expr} {es : List Expr} {m : Env → EM D} {ms : Env → EM (List D)} (he : PE X e (tM X.K G W m)) (hr : PA X es (tA X.K G W ms)) (hs : starEach (e :: es) X.env = (false, eval e X.env) :: starEach es X.env) : PA X (e :: es) (tA X.K G W (eCons m ms)) :=
  (pa_cons he hr hs).weak fun σ H Q ⟨ρ, S, E, rp, re, g⟩ => by
    refine ⟨ρ, S, E, rp, re, Go.mono (Go.bind g) ?_⟩
    rintro v1 H1 ⟨ρ1, S1, x, x1, r1, q1, g1⟩
    refine ⟨ρ1, S1, E, r1, RepE.ext x1 re, Go.mono (Go.bind g1) ?_⟩
    rintro v2 H2 ⟨ρ2, S2, xs, x2, r2, q2, g2⟩
    exact g2.here r2 (.cons (RepV.ext x2 q1) q2)
/-! ### tuples -/
def mTup (xs : List D) : EM D := if xs.length ≤ 1000 then EM.pure (.tup xs) else EM.fail
theorem RepVs.length {K : PySem.W.Frag} {ρ : List (Option Addr)} {H : Hp} : ∀ {ds : List D} {vs : List V}, RepVs K G ρ H ds vs → ds.length = vs.length
  | _, _, .nil => rfl
  | _, _, .cons _ r => congrArg Nat.succ r.length
theorem line1000 {n : Nat} (h : n ≤ 1000) : n ≤ sizeLine := Nat.le_trans h (by rw [sizeLine_eq]; decide)
theorem pm_tup {es : List Expr} {ms : Env → EM (List D)} {x1} (h : PA X es (tA X.K G W ms)) : PE X (.Tuple es x1 pos) (tM X.K G W (PK.es mTup ms)) :=
  (pe_tup h).weak fun σ H Q ⟨ρ, S, E, rp, re, g⟩ => by
    refine ⟨ρ, S, E, rp, re, Go.mono (Go.bind g) ?_⟩
    rintro vs H1 ⟨ρ1, S1, xs, x1, r1, q1, g1⟩
    unfold mTup at g1
    by_cases hl : xs.length ≤ 1000
    · rw [if_pos hl] at g1
      refine ⟨by rw [← q1.length]; exact line1000 hl, fun p hp => ?_⟩
      exact g1 ρ1 (.ref p) _ (Ext.laid hp) (r1.laid hp) (.tup (SqT.of upd_same) (RepVs.ext (Ext.laid hp) q1))
    · rw [if_neg hl] at g1; exact g1.elim
/-! ### and, or, not, if else -/
def eAnd (m n : Env → EM Bool) : Env → EM Bool := fun E => EM.bind (m E) fun b => if b = true then n E else EM.pure false
def eOr (m n : Env → EM Bool) : Env → EM Bool := fun E => EM.bind (m E) fun b => if b = true then EM.pure true else n E
def eNot (m : Env → EM Bool) : Env → EM Bool := fun E => EM.bind (m E) fun b => EM.pure (!b)
def eIf {α : Type} (c : Env → EM Bool) (m n : Env → EM α) : Env → EM α := fun E => EM.bind (c E) fun b => if b = true then m E else n E
variable {rest : List Expr} {na nb nc : Env → EM Bool}
theorem pw_and1M (ha : PT X a (tT X.K G W na)) : PW X (.BoolOp .And [a] pos) (tT X.K G W na) := pw_and1 ha
theorem pw_or1M (ha : PT X a (tT X.K G W na)) : PW X (.BoolOp .Or [a] pos) (tT X.K G W na) := pw_or1 ha
theorem pw_andM (ha : PT X a (tT X.K G W na)) (hb : PW X (.BoolOp .And (b :: rest) pos) (tT X.K G W nb)) : PW X (.BoolOp .And (a :: b :: rest) pos) (tT X.K G W (eAnd na nb)) :=
  (pw_and ha hb).weak fun σ H Q ⟨ρ, S, E, rp, re, g⟩ => by
    refine ⟨ρ, S, E, rp, re, Go.mono (Go.bind g) ?_⟩
    rintro c H1 ⟨ρ1, S1, k, x1, r1, q1, g1⟩
    cases q1
    cases c with
    | true => rw [if_pos rfl] at g1 ⊢; exact ⟨ρ1, S1, E, r1, RepE.ext x1 re, g1⟩
    | false => rw [if_neg Bool.false_ne_true] at g1 ⊢; exact g1.here r1 rfl
theorem pw_orM (ha : PT X a (tT X.K G W na)) (hb : PW X (.BoolOp .Or (b :: rest) pos) (tT X.K G W nb)) : PW X (.BoolOp .Or (a :: b :: rest) pos) (tT X.K G W (eOr na nb)) :=
  (pw_or ha hb).weak fun σ H Q ⟨ρ, S, E, rp, re, g⟩ => by
    refine ⟨ρ, S, E, rp, re, Go.mono (Go.bind g) ?_⟩
    rintro c H1 ⟨ρ1, S1, k, x1, r1, q1, g1⟩
    cases q1
    cases c with
    | true => rw [if_pos rfl] at g1 ⊢; exact g1.here r1 rfl
    | false => rw [if_neg Bool.false_ne_true] at g1 ⊢; exact ⟨ρ1, S1, E, r1, RepE.ext x1 re, g1⟩
theorem pt_notM (ha : PT X a (tT X.K G W na)) : PT X (.UnaryOp .Not a pos) (tT X.K G W (eNot na)) :=
  (pt_not ha).weak fun σ H Q ⟨ρ, S, E, rp, re, g⟩ => by
    refine ⟨ρ, S, E, rp, re, Go.mono (Go.bind g) ?_⟩
    rintro c H1 ⟨ρ1, S1, k, x1, r1, q1, g1⟩
    cases q1
    exact g1.here r1 rfl
theorem pm_ife (hc : PT X c (tT X.K G W nc)) (ha : PE X a (tM X.K G W ma)) (hb : PE X b (tM X.K G W mb)) : PE X (.IfExp c a b pos) (tM X.K G W (eIf nc ma mb)) :=
  (pe_ifExp hc ha hb).weak fun σ H Q ⟨ρ, S, E, rp, re, g⟩ => by
    refine ⟨ρ, S, E, rp, re, Go.mono (Go.bind g) ?_⟩
    rintro k H1 ⟨ρ1, S1, k', x1, r1, q1, g1⟩
    cases q1
    cases k with
    | true => rw [if_pos rfl] at g1 ⊢; exact ⟨ρ1, S1, E, r1, RepE.ext x1 re, g1⟩
    | false => rw [if_neg Bool.false_ne_true] at g1 ⊢; exact ⟨ρ1, S1, E, r1, RepE.ext x1 re, g1⟩
/-- and, or of truth values, as a value -/
def eB (m : Env → EM Bool) : Env → EM D := fun E => EM.bind (m E) fun b => EM.pure (.bl b)
end
end PK
namespace PK
open PySem PySem.Spec PyProof.Rows L2

/-! ### looking at values -/
section
variable {K : PySem.W.Frag} {G : Cls} {ρ : List (Option Addr)} {S : List DO} {H : Hp}
theorem RepV.int_inv {i : Int} {v : V} (h : RepV K G ρ H (.int i) v) : v = .int i := by cases h; rfl
theorem RepV.str_inv {x : Str} {v : V} (h : RepV K G ρ H (.str x) v) : v = .str x := by cases h; rfl
theorem RepV.bl_inv' {b : Bool} {v : V} (h : RepV K G ρ H (.bl b) v) : v = .bl b := by cases h; rfl
theorem RepV.tup_inv {xs : List D} {v : V} (h : RepV K G ρ H (.tup xs) v) : ∃ a us, v = .ref a ∧ SqT K H a us ∧ RepVs K G ρ H xs us := by
  cases h with
  | tup h r => exact ⟨_, _, rfl, h, r⟩
theorem RepV.lst_inv {xs : List D} {v : V} (h : RepV K G ρ H (.lst xs) v) : ∃ a us o, v = .ref a ∧ H a = some (.frz o (.lst us)) ∧ RepVs K G ρ H xs us := by
  cases h with
  | lst h r => exact ⟨_, _, _, rfl, h, r⟩
theorem RepV.dct_inv {kvs : List (D × D)} {v : V} (h : RepV K G ρ H (.dct kvs) v) : ∃ a o u, v = .ref a ∧ H a = some (.frz o u) ∧ RepD K G ρ H a kvs u := by
  cases h with
  | dct h r => exact ⟨_, _, _, rfl, h, r⟩
theorem RepV.ins_inv {c : Nat} {fs : List (Nat × D)} {v : V} (hc : xcl c = false) (h : RepV K G ρ H (.ins c fs) v) : ∃ a dx us o, v = .ref a ∧ H a = some (.frz o (.ins (G.addr c) dx us)) ∧ RepF K G ρ H fs us := by
  cases h with
  | ins _ h r => exact ⟨_, _, _, _, rfl, h, r⟩
  | ex0 z => rw [hc] at z; cases z
  | ex1 z => rw [hc] at z; cases z
theorem RepV.scr_inv {ns : List Int} {v : V} (h : RepV K G ρ H (.scr ns) v) : ∃ a, v = .ref a ∧ FzL K H a (ns.map V.int) := by
  cases h with
  | scr h => exact ⟨_, rfl, h⟩
theorem RepVs.ofInts : ∀ ns : List Int, RepVs K G ρ H (ns.map .int) (ns.map V.int)
  | [] => .nil
  | n :: ns => .cons (.int n) (RepVs.ofInts ns)
theorem RepV.ref_inv {r : Nat} {v : V} (h : RepV K G ρ H (.ref r) v) : ∃ a x, v = .ref a ∧ ρ[r]? = some x ∧ (x = none ∨ x = some a) := by
  cases h with
  | ref h q => exact ⟨_, _, rfl, h, q⟩
/-- a cell that is asked -/
theorem Rep.at {r : Nat} {v : V} {o : DO} (rp : Rep K G ρ S H) (h : RepV K G ρ H (.ref r) v) (e : S[r]? = some o) (n : o.live) : ∃ a u, v = .ref a ∧ ρ[r]? = some (some a) ∧ H a = some u ∧ Mut (some u) ∧ RepC K G ρ H a o u := by
  obtain ⟨a, x, rfl, h1, q⟩ := h.ref_inv
  rcases rp.obj r o e with z | ⟨a', u, h2, h3, h4⟩
  · subst z; exact n.elim
  · rw [h1] at h2
    rcases q with q | q
    · rw [q] at h2; cases h2
    · rw [q] at h2; cases h2
      exact ⟨_, _, rfl, h1.trans (by rw [q]), h3, h4.mut n, h4⟩
theorem Rep.atL {r : Nat} {v : V} {o : DO} (rp : Rep K G ρ S H) (h : RepV K G ρ H (.ref r) v) (e : S[r]? = some o) (n : o ≠ .gone) : ∃ a u, v = .ref a ∧ ρ[r]? = some (some a) ∧ H a = some u ∧ RepC K G ρ H a o u := by
  obtain ⟨a, x, rfl, h1, q⟩ := h.ref_inv
  rcases rp.obj r o e with z | ⟨a', u, h2, h3, h4⟩
  · exact absurd z n
  · rw [h1] at h2
    rcases q with q | q
    · rw [q] at h2; cases h2
    · rw [q] at h2; cases h2
      exact ⟨_, _, rfl, h1.trans (by rw [q]), h3, h4⟩
def viewL (S : List DO) : D → Option (List D)
  | .lst xs => some xs
  | .ref r => match S[r]? with
    | some (.lst xs) => some xs
    | some (.lkl xs) => some xs
    | _ => none
  | _ => none
theorem viewL_ok {d : D} {v : V} {xs : List D} (rp : Rep K G ρ S H) (h : RepV K G ρ H d v) (e : viewL S d = some xs) : ∃ a us, v = .ref a ∧ Rd H a (.lst us) ∧ RepVs K G ρ H xs us := by
  unfold viewL at e
  split at e
  · cases e
    obtain ⟨a, us, o, rfl, h1, h2⟩ := h.lst_inv
    exact ⟨a, us, rfl, .inr ⟨o, h1⟩, h2⟩
  · split at e
    · rename_i hs
      cases e
      obtain ⟨a, u, rfl, _, h1, _, us, rfl, h2⟩ := rp.at h hs trivial
      exact ⟨a, us, rfl, .inl h1, h2⟩
    · rename_i hs
      cases e
      obtain ⟨a, u, rfl, _, h1, od, us, rfl, h2⟩ := rp.atL h hs (by intro z; cases z)
      exact ⟨a, us, rfl, .inr ⟨od, h1⟩, h2⟩
    · cases e
  · cases e
def viewT : D → Option (List D)
  | .tup xs => some xs
  | _ => none
theorem viewT_ok {d : D} {v : V} {xs : List D} (h : RepV K G ρ H d v) (e : viewT d = some xs) : ∃ a us, v = .ref a ∧ SqT K H a us ∧ RepVs K G ρ H xs us := by
  unfold viewT at e
  split at e
  · cases e; exact h.tup_inv
  · cases e
theorem RepVs.get : ∀ {xs : List D} {us : List V} {i : Nat} {d : D}, RepVs K G ρ H xs us → xs[i]? = some d → ∃ v, us[i]? = some v ∧ RepV K G ρ H d v
  | _, _, 0, _, .cons h _, e => by simp at e; subst e; exact ⟨_, rfl, h⟩
  | _, _, i + 1, d, .cons _ r, e => by
    obtain ⟨v, h1, h2⟩ := RepVs.get (i := i) (d := d) r (by simpa using e)
    exact ⟨v, by simpa using h1, h2⟩
  | _, _, _, _, .nil, e => by simp at e
theorem RepVs.append : ∀ {xs ys : List D} {us vs : List V}, RepVs K G ρ H xs us → RepVs K G ρ H ys vs → RepVs K G ρ H (xs ++ ys) (us ++ vs)
  | _, _, _, _, .nil, s => s
  | _, _, _, _, .cons h r, s => .cons h (RepVs.append r s)
theorem RepVs.set {d : D} {v : V} (h : RepV K G ρ H d v) : ∀ {xs : List D} {us : List V} (i : Nat), RepVs K G ρ H xs us → RepVs K G ρ H (xs.set i d) (us.set i v)
  | _, _, _, .nil => .nil
  | _, _, 0, .cons _ r => .cons h r
  | _, _, i + 1, .cons q r => .cons q (RepVs.set h i r)
theorem RepVs.take : ∀ {xs : List D} {us : List V} (n : Nat), RepVs K G ρ H xs us → RepVs K G ρ H (xs.take n) (us.take n)
  | _, _, 0, _ => .nil
  | _, _, _ + 1, .nil => .nil
  | _, _, n + 1, .cons h r => .cons h (RepVs.take n r)
theorem RepVs.drop : ∀ {xs : List D} {us : List V} (n : Nat), RepVs K G ρ H xs us → RepVs K G ρ H (xs.drop n) (us.drop n)
  | _, _, 0, r => r
  | _, _, _ + 1, .nil => .nil
  | _, _, n + 1, .cons _ r => RepVs.drop n r
theorem RepVs.reverse {xs : List D} {us : List V} (h : RepVs K G ρ H xs us) : RepVs K G ρ H xs.reverse us.reverse := by
  induction xs generalizing us with
  | nil => cases h; exact .nil
  | cons x xs ih =>
    cases h with
    | cons h r => rw [List.reverse_cons, List.reverse_cons]; exact (ih r).append (.cons h .nil)
theorem RepVs.rep {xs : List D} {us : List V} (h : RepVs K G ρ H xs us) : ∀ n : Nat, RepVs K G ρ H (List.replicate n xs).flatten (List.replicate n us).flatten
  | 0 => .nil
  | n + 1 => by rw [List.replicate_succ, List.replicate_succ, List.flatten_cons, List.flatten_cons]; exact h.append (RepVs.rep h n)
theorem RepVs.ints : ∀ {ns : List Int} {us : List V}, RepVs K G ρ H (ns.map .int) us → us = ns.map V.int
  | [], _, .nil => rfl
  | n :: ns, _, .cons h r => by rw [h.int_inv, RepVs.ints r]; rfl
theorem RepVs.strs : ∀ {ns : List Str} {us : List V}, RepVs K G ρ H (ns.map .str) us → us = ns.map V.str
  | [], _, .nil => rfl
  | n :: ns, _, .cons h r => by rw [h.str_inv, RepVs.strs r]; rfl
theorem RepVs.bls : ∀ {ns : List Bool} {us : List V}, RepVs K G ρ H (ns.map .bl) us → us = ns.map V.bl
  | [], _, .nil => rfl
  | n :: ns, _, .cons h r => by rw [h.bl_inv', RepVs.bls r]; rfl
end

/-! ### operators on numbers -/
section
variable {X : Cx} {G : Cls}
theorem noExc_pure {α : Type} {a : α} : NoExc (EM.pure a) := fun _ _ _ _ h => by cases h
theorem noExc_fail {α : Type} : NoExc (EM.fail : EM α) := fun _ _ _ _ h => by cases h
theorem noExc_ofO {α : Type} {o : Option α} : NoExc (EM.ofO o) := by cases o <;> first | exact noExc_pure | exact noExc_fail
theorem noExc_ite {α : Type} {c : Prop} [Decidable c] {m n : EM α} (h : NoExc m) (h' : NoExc n) : NoExc (if c then m else n) := by by_cases e : c <;> simp [e, h, h']
/-- a step that answers without looking at the store -/
def mulOk (i j : Int) : Prop := i.natAbs.log2 + j.natAbs.log2 ≤ 900000
instance (i j : Int) : Decidable (mulOk i j) := inferInstanceAs (Decidable (_ ≤ _))
def addO : D → D → Option D
  | .int i, .int j => some (.int (i + j))
  | .str a, .str b => if a.length + b.length ≤ 16777216 then some (.str (a ++ b)) else none
  | .tup xs, .tup ys => if xs.length + ys.length ≤ 16777216 then some (.tup (xs ++ ys)) else none
  | _, _ => none
def subO : D → D → Option D
  | .int i, .int j => some (.int (i - j))
  | _, _ => none
def repStr (x : Str) (n : Nat) : Str := ⟨(List.replicate n x.cps).foldl (· ++ ·) #[]⟩
def mulO : D → D → Option D
  | .int i, .int j => if mulOk i j then some (.int (i * j)) else none
  | .tup xs, .int k => if 2 ≤ k ∧ k ≤ 1000 ∧ xs.length ≤ 1000 ∧ 0 < xs.length then some (.tup (List.replicate k.toNat xs).flatten) else none
  | .str x, .int k => if 2 ≤ k ∧ k ≤ 16777216 ∧ 0 < x.length ∧ x.length * k.toNat ≤ 16777216 then some (.str (repStr x k.toNat)) else none
  | _, _ => none
def fdivO : D → D → Option D
  | .int i, .int j => if j ≠ 0 ∧ j.natAbs.log2 < 9000 then some (.int (i.fdiv j)) else none
  | _, _ => none
def modO : D → D → Option D
  | .int i, .int j => if j ≠ 0 then some (.int (i.fmod j)) else none
  | _, _ => none
def powO : D → D → Option D
  | .int i, .int j => if 0 ≤ j ∧ j ≤ 1000000 ∧ i.natAbs < 2 ^ 64 then some (.int (i ^ j.toNat)) else none
  | _, _ => none
theorem line_eq {n : Nat} (h : n ≤ 16777216) : n ≤ sizeLine := by rw [sizeLine_eq]; exact h
/-- an operator on two ints -/
theorem opInt {f : Value → Value → Sem Value} {m : D → D → Option D} (C : Int → Int → Prop) (g : Int → Int → V) (hr : OpR X f (rI C g))
    (hm : ∀ x y d, m x y = some d → ∃ i j, x = .int i ∧ y = .int j ∧ C i j ∧ ∀ ρ H, RepV X.K G ρ H d (g i j)) : OpR X f (r2M X.K G fun x y => EM.ofO (m x y)) := by
  intro pins s σ H vx vy v u Q I r1 r2 ⟨ρ, S, x, y, rp, q1, q2, g0⟩
  obtain ⟨d, e, k⟩ := g0.ofO rp
  obtain ⟨i, j, rfl, rfl, c, z⟩ := hm x y d e
  rw [q1.int_inv] at r1
  rw [q2.int_inv] at r2
  exact hr pins s σ H _ _ v u Q I r1 r2 ⟨i, j, rfl, rfl, c, k ρ _ H (Ext.refl _ _) rp (z ρ H)⟩
theorem op_fdivM0 : OpR X (binaryOp .FloorDiv) (rI (fun _ j => j ≠ 0 ∧ j.natAbs.log2 < 9000) fun i j => .int (i.fdiv j)) := opI fun _ _ _ _ _ _ _ hc q => floordiv_int hc.1 q (.inl (PyProof.noPylong_of_log2 hc.2))
theorem op_mulM0 : OpR X (binaryOp .Mult) (rI mulOk fun i j => .int (i * j)) := fun pins s σ H x y v u Q I r1 r2 ⟨i, j, e1, e2, c, q⟩ =>
  op_mulW pins s σ H x y v u Q I r1 r2 ⟨i, j, e1, e2, by unfold CMulW; unfold mulOk at c; omega, q⟩
theorem op_subM : OpR X (binaryOp .Sub) (r2M X.K G fun x y => EM.ofO (subO x y)) := opInt (fun _ _ => True) (fun i j => .int (i - j)) (fun pins s σ H x y v u Q I r1 r2 ⟨i, j, e1, e2, _, q⟩ => op_sub pins s σ H x y v u Q I r1 r2 ⟨i, j, e1, e2, q⟩) fun x y d e => by
  unfold subO at e
  split at e
  · cases e; exact ⟨_, _, rfl, rfl, trivial, fun _ _ => .int _⟩
  · cases e
theorem op_fdivM : OpR X (binaryOp .FloorDiv) (r2M X.K G fun x y => EM.ofO (fdivO x y)) := opInt _ (fun i j => .int (i.fdiv j)) op_fdivM0 fun x y d e => by
  unfold fdivO at e
  split at e
  · split at e
    · rename_i h; cases e; exact ⟨_, _, rfl, rfl, h, fun _ _ => .int _⟩
    · cases e
  · cases e
theorem op_modM : OpR X (binaryOp .Mod) (r2M X.K G fun x y => EM.ofO (modO x y)) := opInt _ (fun i j => .int (i.fmod j)) op_modN fun x y d e => by
  unfold modO at e
  split at e
  · split at e
    · rename_i h; cases e; exact ⟨_, _, rfl, rfl, h, fun _ _ => .int _⟩
    · cases e
  · cases e
theorem op_powM : OpR X (binaryOp .Pow) (r2M X.K G fun x y => EM.ofO (powO x y)) := opInt _ (fun i j => .int (i ^ j.toNat)) op_pow fun x y d e => by
  unfold powO at e
  split at e
  · split at e
    · rename_i h; cases e; exact ⟨_, _, rfl, rfl, h, fun _ _ => .int _⟩
    · cases e
  · cases e
theorem op_addM : OpR X (binaryOp .Add) (r2M X.K G fun x y => EM.ofO (addO x y)) := by
  intro pins s σ H vx vy v u Q I r1 r2 ⟨ρ, S, x, y, rp, q1, q2, g0⟩
  obtain ⟨d, e, k⟩ := g0.ofO rp
  unfold addO at e
  split at e
  · cases e
    rw [q1.int_inv] at r1; rw [q2.int_inv] at r2
    exact op_add pins s σ H _ _ v u Q I r1 r2 ⟨_, _, rfl, rfl, k ρ _ H (Ext.refl _ _) rp (.int _)⟩
  · split at e
    · rename_i hl
      cases e
      rw [q1.str_inv] at r1; rw [q2.str_inv] at r2
      exact op_add_str pins s σ H _ _ v u Q I r1 r2 ⟨_, _, rfl, rfl, line_eq hl, k ρ _ H (Ext.refl _ _) rp (.str _)⟩
    · cases e
  · split at e
    · rename_i hl
      cases e
      obtain ⟨a, us, rfl, t1, s1⟩ := q1.tup_inv
      obtain ⟨b, ws, rfl, t2, s2⟩ := q2.tup_inv
      refine op_catA pins s σ H _ _ v u Q I r1 r2 ⟨a, b, us, ws, rfl, rfl, t1, t2, by rw [← s1.length, ← s2.length]; exact line_eq hl, ?_⟩
      have sh : RepVs X.K G ρ H (_ ++ _) (us ++ ws) := s1.append s2
      have fin : ∀ p, H p = none → Q (.ref p) (upd H p (.tup (us ++ ws))) := fun p hp => k ρ (.ref p) _ (Ext.laid hp) (rp.laid hp) (.tup (SqT.of upd_same) (sh.ext (Ext.laid hp)))
      refine ⟨fun z => ?_, fun _ z => ?_, fun _ _ => fin⟩
      · subst z
        cases s1
        exact k ρ (.ref b) H (Ext.refl _ _) rp (.tup t2 s2)
      · subst z
        cases s2
        rw [List.append_nil] at k
        exact k ρ (.ref a) H (Ext.refl _ _) rp (.tup t1 s1)
    · cases e
  · cases e
theorem op_mul_str : OpR X (binaryOp .Mult) (fun x y H Q => ∃ i j, x = .str i ∧ y = .int j ∧ 2 ≤ j ∧ j ≤ 16777216 ∧ 0 < i.length ∧ i.length * j.toNat ≤ 16777216 ∧ Q (.str (repStr i j.toNat)) H) := by
  intro pins s σ H x y v u Q I rx ry h
  obtain ⟨i, j, rfl, rfl, h1, h2, h3, h4, q⟩ := h
  obtain ⟨t, rfl⟩ := rx
  obtain ⟨t', rfl⟩ := ry
  have e1 : (decide (j < -(2 ^ 63 : Int)) || decide (j ≥ 2 ^ 63)) = false := by
    rw [decide_eq_false (by omega), decide_eq_false (by omega)]; rfl
  have e2 : (j == 1 || i.length == 0) = false := by
    rw [Bool.or_eq_false_iff]
    exact ⟨beq_eq_false_iff_ne.mpr (by omega), beq_eq_false_iff_ne.mpr (by omega)⟩
  have hlen : (repStr i j.toNat).length ≤ 16777216 := by
    have : ∀ (n : Nat) (a : Array Nat), ((List.replicate n i.cps).foldl (· ++ ·) a).size = a.size + n * i.cps.size := fun n => by
      induction n with
      | zero => intro a; simp
      | succ n ih => intro a; rw [List.replicate_succ, List.foldl_cons, ih, Array.size_append, Nat.succ_mul]; omega
    show ((List.replicate j.toNat i.cps).foldl (· ++ ·) #[]).size ≤ _
    rw [this]
    simp only [List.size_toArray, List.length_nil, Nat.zero_add]
    rw [Nat.mul_comm]; exact h4
  refine PySem.P.mul_str e1 (fun _ _ => ?_) (fun _ _ => ?_) ?_
  · have : (i.length : Int) ≤ (2 ^ 63 - 1) / j := by
      have : (i.length : Int) * j ≤ 2 ^ 63 - 1 := by
        have h5 : ((i.length * j.toNat : Nat) : Int) ≤ 16777216 := Int.ofNat_le.mpr h4
        rw [Int.natCast_mul, Int.toNat_of_nonneg (by omega)] at h5
        omega
      exact Int.le_ediv_of_mul_le (by omega) this
    omega
  · unfold PySem.Builtin.Str.tooLong
    rw [decide_eq_false]
    rw [sizeLine_eq]; omega
  · rw [if_neg (by omega), if_neg (by rw [e2]; decide)]
    exact ⟨by rw [sizeLine_eq]; exact hlen, ⟨.str _, H, I.tok _, ⟨_, rfl⟩, q⟩⟩
theorem op_mulM : OpR X (binaryOp .Mult) (r2M X.K G fun x y => EM.ofO (mulO x y)) := by
  intro pins s σ H vx vy v u Q I r1 r2 ⟨ρ, S, x, y, rp, q1, q2, g0⟩
  obtain ⟨d, e, k⟩ := g0.ofO rp
  unfold mulO at e
  split at e
  · split at e
    · rename_i hl
      cases e
      rw [q1.int_inv] at r1; rw [q2.int_inv] at r2
      exact op_mulM0 pins s σ H _ _ v u Q I r1 r2 ⟨_, _, rfl, rfl, hl, k ρ _ H (Ext.refl _ _) rp (.int _)⟩
    · cases e
  · split at e
    · rename_i hl
      cases e
      obtain ⟨a, us, rfl, t1, s1⟩ := q1.tup_inv
      rw [q2.int_inv] at r2
      refine op_repT pins s σ H _ _ v u Q I r1 r2 ⟨a, _, us, rfl, rfl, t1, ?_, hl.1, hl.2.1, by rw [← s1.length]; exact hl.2.2.1, fun p hp => k ρ (.ref p) _ (Ext.laid hp) (rp.laid hp) (.tup (SqT.of upd_same) ((s1.rep _).ext (Ext.laid hp)))⟩
      intro z
      have := s1.length
      rw [z] at this
      simp at this
      have h2 := hl.2.2.2
      rw [this] at h2
      exact absurd h2 (by decide)
    · cases e
  · split at e
    · rename_i hl
      cases e
      rw [q1.str_inv] at r1; rw [q2.int_inv] at r2
      exact op_mul_str pins s σ H _ _ v u Q I r1 r2 ⟨_, _, rfl, rfl, hl.1, hl.2.1, hl.2.2.1, hl.2.2.2, k ρ _ H (Ext.refl _ _) rp (.str _)⟩
    · cases e
  · cases e
end
end PK
namespace PK
open PySem PySem.Spec PyProof.Rows L2

/-! ### equality -/
mutual
def toPy : D → PyData
  | .non => .none
  | .bl b => .bool b
  | .int i => .int i
  | .str x => .str x
  | .tup xs => .tuple (toPys xs)
  | .lst xs => .list (toPys xs)
  | .dct _ => .dict []
  | .ins _ _ => .dict []
  | .ref _ => .dict []
  | .scr ns => .list (ns.map .int)
def toPys : List D → List PyData
  | [] => []
  | x :: xs => toPy x :: toPys xs
end
mutual
/-- data: None, bools, ints, texts, tuples, lists; no cell, no dict, no object -/
def D.plain : D → Bool
  | .non | .bl _ | .int _ => true
  | .str x => PyData.strOk x
  | .tup xs => D.plains xs
  | .lst xs => D.plains xs
  | .dct _ | .ins _ _ | .ref _ => false
  | .scr _ => true
def D.plains : List D → Bool
  | [] => true
  | x :: xs => D.plain x && D.plains xs
end
mutual
def D.depth : D → Nat
  | .tup xs => D.depths xs + 1
  | .lst xs => D.depths xs + 1
  | .scr _ => 1
  | _ => 0
def D.depths : List D → Nat
  | [] => 0
  | x :: xs => max (D.depth x) (D.depths xs)
end
theorem depth_ints : ∀ ns : List Int, PyData.depthAll (ns.map .int) = 0
  | [] => rfl
  | n :: ns => by simp [PyData.depthAll, PyData.depth, depth_ints ns]
theorem canLay_ints : ∀ ns : List Int, PyData.canLayAll0 (ns.map .int) = true
  | [] => by simp [PyData.canLayAll0]
  | n :: ns => by simp [PyData.canLayAll0, PyData.canLay0, canLay_ints ns]
mutual
theorem depth_toPy : ∀ d : D, d.plain = true → (toPy d).depth = d.depth
  | .non, _ => rfl
  | .bl _, _ => rfl
  | .int _, _ => rfl
  | .str _, _ => rfl
  | .tup xs, h => by simp only [toPy, PyData.depth, D.depth]; rw [depths_toPy xs (by simpa [D.plain] using h)]
  | .lst xs, h => by simp only [toPy, PyData.depth, D.depth]; rw [depths_toPy xs (by simpa [D.plain] using h)]
  | .dct _, h => by simp [D.plain] at h
  | .ins _ _, h => by simp [D.plain] at h
  | .ref _, h => by simp [D.plain] at h
  | .scr ns, _ => by simp [toPy, PyData.depth, D.depth, depth_ints]
theorem depths_toPy : ∀ ds : List D, D.plains ds = true → PyData.depthAll (toPys ds) = D.depths ds
  | [], _ => rfl
  | d :: ds, h => by
    simp only [D.plains, Bool.and_eq_true] at h
    simp only [toPys, PyData.depthAll, D.depths]
    rw [depth_toPy d h.1, depths_toPy ds h.2]
end
mutual
theorem canLay_toPy : ∀ d : D, d.plain = true → (toPy d).canLay0 = true
  | .non, _ => by simp [toPy, PyData.canLay0]
  | .bl _, _ => by simp [toPy, PyData.canLay0]
  | .int _, _ => by simp [toPy, PyData.canLay0]
  | .str _, h => by simpa [toPy, PyData.canLay0, D.plain] using h
  | .tup xs, h => by simp only [toPy, PyData.canLay0]; exact canLays_toPy xs (by simpa [D.plain] using h)
  | .lst xs, h => by simp only [toPy, PyData.canLay0]; exact canLays_toPy xs (by simpa [D.plain] using h)
  | .dct _, h => by simp [D.plain] at h
  | .ins _ _, h => by simp [D.plain] at h
  | .ref _, h => by simp [D.plain] at h
  | .scr ns, _ => by simp only [toPy, PyData.canLay0]; exact canLay_ints ns
theorem canLays_toPy : ∀ ds : List D, D.plains ds = true → PyData.canLayAll0 (toPys ds) = true
  | [], _ => by simp [toPys, PyData.canLayAll0]
  | d :: ds, h => by
    simp only [D.plains, Bool.and_eq_true] at h
    simp only [toPys, PyData.canLayAll0, canLay_toPy d h.1, canLays_toPy ds h.2, Bool.and_self]
end
theorem shaped_toPy {d : D} (h : d.plain = true) (hd : d.depth ≤ 64) : SeqAt.shaped (toPy d) = true := by
  unfold SeqAt.shaped
  rw [canLay_toPy d h, depth_toPy d h]
  simp [hd]
section
variable {K : PySem.W.Frag} {G : Cls} {ρ : List (Option Addr)} {S : List DO} {H : Hp}
theorem DpAll.ints : ∀ ns : List Int, DpAll K H (ns.map V.int) (ns.map .int)
  | [] => .nil
  | n :: ns => .cons (.int n) (DpAll.ints ns)
mutual
theorem Dp.of : ∀ {d : D} {v : V}, RepV K G ρ H d v → d.plain = true → Dp K H v (toPy d)
  | _, _, .non, _ => .non
  | _, _, .bl b, _ => .bl b
  | _, _, .int i, _ => .int i
  | _, _, .str z, _ => .str z
  | _, _, .tup h r, p => .tup h (DpAll.of r (by simpa [D.plain] using p))
  | _, _, .lst h r, p => .lst (.inl (.inr ⟨_, h⟩)) (DpAll.of r (by simpa [D.plain] using p))
  | _, _, .dct _ _, p => by simp [D.plain] at p
  | _, _, .ins _ _ _, p => by simp [D.plain] at p
  | _, _, .ex0 _ _, p => by simp [D.plain] at p
  | _, _, .ex1 _ _ _ _, p => by simp [D.plain] at p
  | _, _, .ref _ _, p => by simp [D.plain] at p
  | _, _, .scr h, _ => .lst h.sq (DpAll.ints _)
theorem DpAll.of : ∀ {ds : List D} {vs : List V}, RepVs K G ρ H ds vs → D.plains ds = true → DpAll K H vs (toPys ds)
  | _, _, .nil, _ => .nil
  | _, _, .cons h r, p => by
    simp only [D.plains, Bool.and_eq_true] at p
    exact .cons (Dp.of h p.1) (DpAll.of r p.2)
end
end
/-- a list that is a cell is read for the comparison -/
def derefL (S : List DO) : D → D
  | .ref r => match S[r]? with
    | some (.lst xs) => .lst xs
    | some (.lkl xs) => .lst xs
    | _ => .ref r
  | d => d
def eqOk (x y : D) : Bool := x.plain && y.plain && decide (x.depth ≤ 64) && decide (y.depth ≤ 64)
def eqM (x y : D) : EM D := fun S => if eqOk (derefL S x) (derefL S y) = true then .ok (.bl (PyData.eqv (toPy (derefL S x)) (toPy (derefL S y)))) S else .stuck
def neM (x y : D) : EM D := fun S => if eqOk (derefL S x) (derefL S y) = true then .ok (.bl (!PyData.eqv (toPy (derefL S x)) (toPy (derefL S y)))) S else .stuck
section
variable {X : Cx} {G : Cls}
theorem noExc_eq {x y : D} : NoExc (eqM x y) := fun S c fs S' h => by unfold eqM at h; split at h <;> cases h
theorem noExc_ne {x y : D} : NoExc (neM x y) := fun S c fs S' h => by unfold neM at h; split at h <;> cases h
theorem derefL_ok {K : PySem.W.Frag} {ρ : List (Option Addr)} {S : List DO} {H : Hp} {d : D} {v : V} (rp : Rep K G ρ S H) (h : RepV K G ρ H d v) (p : (derefL S d).plain = true) : Dp K H v (toPy (derefL S d)) := by
  unfold derefL at p ⊢
  split at p
  · split at p
    · rename_i e
      obtain ⟨a, u, rfl, _, h1, _, us, rfl, h2⟩ := rp.at h e trivial
      exact .lst (SqL.of h1) (DpAll.of h2 (by simpa [D.plain] using p))
    · rename_i e
      obtain ⟨a, u, rfl, _, h1, od, us, rfl, h2⟩ := rp.atL h e (by intro z; cases z)
      exact .lst (.inl (.inr ⟨od, h1⟩)) (DpAll.of h2 (by simpa [D.plain] using p))
    · simp [D.plain] at p
  · exact Dp.of h p
theorem op_eqM (hu : X.A.units + 64 < cLine) : OpR X (compareOp .Eq) (r2M X.K G eqM) := by
  intro pins s σ H vx vy v u Q I r1 r2 ⟨ρ, S, x, y, rp, q1, q2, g⟩
  unfold eqM at g
  by_cases e : eqOk (derefL S x) (derefL S y) = true
  · rw [if_pos e] at g
    simp only [eqOk, Bool.and_eq_true, decide_eq_true_eq] at e
    exact op_eqD hu pins s σ H vx vy v u Q I r1 r2 ⟨_, _, derefL_ok rp q1 e.1.1.1, derefL_ok rp q2 e.1.1.2, shaped_toPy e.1.1.1 e.1.2, shaped_toPy e.1.1.2 e.2, g ρ _ H (Ext.refl _ _) rp (.bl _)⟩
  · rw [if_neg e] at g; exact g.elim
theorem op_neM (hu : X.A.units + 64 < cLine) : OpR X (compareOp .NotEq) (r2M X.K G neM) := by
  intro pins s σ H vx vy v u Q I r1 r2 ⟨ρ, S, x, y, rp, q1, q2, g⟩
  unfold neM at g
  by_cases e : eqOk (derefL S x) (derefL S y) = true
  · rw [if_pos e] at g
    simp only [eqOk, Bool.and_eq_true, decide_eq_true_eq] at e
    exact op_neD hu pins s σ H vx vy v u Q I r1 r2 ⟨_, _, derefL_ok rp q1 e.1.1.1, derefL_ok rp q2 e.1.1.2, shaped_toPy e.1.1.1 e.1.2, shaped_toPy e.1.1.2 e.2, g ρ _ H (Ext.refl _ _) rp (.bl _)⟩
  · rw [if_neg e] at g; exact g.elim
/-! ### order of ints, of texts; None -/
def cmpO (p : Int → Int → Bool) (q : Str → Str → Bool) : D → D → Option D
  | .int i, .int j => some (.bl (p i j))
  | .str i, .str j => some (.bl (q i j))
  | _, _ => none
theorem opCmp {f : Value → Value → Sem Value} {p : Int → Int → Bool} {q : Str → Str → Bool} (hr : OpR X f (rI0 fun i j => .bl (p i j))) (hs : OpR X f (fun x y H Q => ∃ i j, x = .str i ∧ y = .str j ∧ Q (.bl (q i j)) H)) : OpR X f (r2M X.K G fun x y => EM.ofO (cmpO p q x y)) := by
  intro pins s σ H vx vy v u Q I r1 r2 ⟨ρ, S, x, y, rp, q1, q2, g0⟩
  obtain ⟨d, e, k⟩ := g0.ofO rp
  unfold cmpO at e
  split at e
  · cases e
    rw [q1.int_inv] at r1; rw [q2.int_inv] at r2
    exact hr pins s σ H _ _ v u Q I r1 r2 ⟨_, _, rfl, rfl, k ρ _ H (Ext.refl _ _) rp (.bl _)⟩
  · cases e
    rw [q1.str_inv] at r1; rw [q2.str_inv] at r2
    exact hs pins s σ H _ _ v u Q I r1 r2 ⟨_, _, rfl, rfl, k ρ _ H (Ext.refl _ _) rp (.bl _)⟩
  · cases e
def strLt (a b : Str) : Bool := decide (a.cps.toList < b.cps.toList)
abbrev ltO := cmpO (fun i j => decide (i < j)) strLt
abbrev leO := cmpO (fun i j => decide (i ≤ j)) (fun a b => !strLt b a)
abbrev gtO := cmpO (fun i j => decide (j < i)) (fun a b => strLt b a)
abbrev geO := cmpO (fun i j => decide (j ≤ i)) (fun a b => !strLt a b)
theorem op_ltM : OpR X (compareOp .Lt) (r2M X.K G fun x y => EM.ofO (ltO x y)) := opCmp op_lt op_lt_str
theorem op_leM : OpR X (compareOp .LtE) (r2M X.K G fun x y => EM.ofO (leO x y)) := opCmp op_le op_le_str
theorem op_gtM : OpR X (compareOp .Gt) (r2M X.K G fun x y => EM.ofO (gtO x y)) := opCmp op_gt op_gt_str
theorem op_geM : OpR X (compareOp .GtE) (r2M X.K G fun x y => EM.ofO (geO x y)) := opCmp op_ge op_ge_str
def isNon : D → Bool
  | .non => true
  | _ => false
def isO : D → D → Option D
  | x, .non => some (.bl (isNon x))
  | _, _ => none
def isNotO : D → D → Option D
  | x, .non => some (.bl (!isNon x))
  | _, _ => none
theorem isNon_of {K : PySem.W.Frag} {ρ : List (Option Addr)} {H : Hp} {d : D} {v : V} (h : RepV K G ρ H d v) : decide (v = .non) = isNon d := by
  cases h <;> simp [isNon]
theorem op_isM : OpR X (compareOp .Is) (r2M X.K G fun x y => EM.ofO (isO x y)) := by
  intro pins s σ H vx vy v u Q I r1 r2 ⟨ρ, S, x, y, rp, q1, q2, g⟩
  obtain ⟨d, e, k⟩ := g.ofO rp
  unfold isO at e
  split at e
  · cases e
    cases q2
    refine op_isN pins s σ H _ _ v u Q I r1 r2 ⟨rfl, ?_⟩
    rw [isNon_of q1]
    exact k ρ _ H (Ext.refl _ _) rp (.bl _)
  · cases e
theorem op_isNotM : OpR X (compareOp .IsNot) (r2M X.K G fun x y => EM.ofO (isNotO x y)) := by
  intro pins s σ H vx vy v u Q I r1 r2 ⟨ρ, S, x, y, rp, q1, q2, g⟩
  obtain ⟨d, e, k⟩ := g.ofO rp
  unfold isNotO at e
  split at e
  · cases e
    cases q2
    refine op_notN pins s σ H _ _ v u Q I r1 r2 ⟨rfl, ?_⟩
    rw [isNon_of q1]
    exact k ρ _ H (Ext.refl _ _) rp (.bl _)
  · cases e
/-! ### minus -/
def negO : D → Option D
  | .int i => some (.int (-i))
  | _ => none
theorem un_negM : UnR X (unaryOp .USub) (r1M X.K G fun x => EM.ofO (negO x)) := by
  intro pins s σ H vx v Q I r1 ⟨ρ, S, x, rp, q1, g⟩
  obtain ⟨d, e, k⟩ := g.ofO rp
  unfold negO at e
  split at e
  · cases e
    rw [q1.int_inv] at r1
    exact un_neg pins s σ H _ v Q I r1 ⟨_, rfl, k ρ _ H (Ext.refl _ _) rp (.int _)⟩
  · cases e
/-! ### x[i] of a list, a tuple, a text -/
def idxM (x y : D) : EM D := fun S => match x, y with
  | .str z, .int i => match atI z.cps.toList i with
    | some c => if z.length ≤ 16777216 then .ok (.str ⟨#[c]⟩) S else .stuck
    | none => .stuck
  | .tup xs, .int i => match atI xs i with
    | some d => .ok d S
    | none => .stuck
  | .scr ns, .int i => match atI ns i with
    | some n => .ok (.int n) S
    | none => .stuck
  | x, .int i => match viewL S x with
    | some xs => match atI xs i with
      | some d => .ok d S
      | none => .stuck
    | none => .stuck
  | _, _ => .stuck
theorem noExc_idx {x y : D} : NoExc (idxM x y) := fun S c fs S' h => by
  unfold idxM at h
  split at h
  · split at h
    · split at h <;> cases h
    · cases h
  · split at h <;> cases h
  · split at h <;> cases h
  · split at h
    · split at h <;> cases h
    · cases h
  · cases h
theorem RepVs.atI {K : PySem.W.Frag} {ρ : List (Option Addr)} {H : Hp} {xs : List D} {us : List V} {i : Int} {d : D} (r : RepVs K G ρ H xs us) (e : L2.atI xs i = some d) : ∃ v, L2.atI us i = some v ∧ RepV K G ρ H d v := by
  unfold L2.atI at e ⊢
  rw [r.length] at e
  cases h : ixN us.length i with
  | none => rw [h] at e; cases e
  | some j =>
    rw [h] at e
    exact r.get e
theorem ix_M : IxR X (r2M X.K G idxM) := by
  intro value slice pins s σ H vx vy v u Q I r1 r2 ⟨ρ, S, x, y, rp, q1, q2, g⟩ hs
  unfold idxM at g
  split at g
  · split at g
    · rename_i c e
      split at g
      · rename_i hl
        rw [q1.str_inv] at r1; rw [q2.int_inv] at r2
        exact ix_str value slice pins s σ H _ _ v u Q I r1 r2 ⟨_, _, _, rfl, rfl, line_eq hl, e, g ρ _ H (Ext.refl _ _) rp (.str _)⟩ hs
      · exact g.elim
    · exact g.elim
  · split at g
    · rename_i d e
      obtain ⟨a, us, rfl, t1, s1⟩ := q1.tup_inv
      rw [q2.int_inv] at r2
      obtain ⟨w, e', rw'⟩ := s1.atI e
      exact ix_tup value slice pins s σ H _ _ v u Q I r1 r2 ⟨_, _, _, _, rfl, rfl, t1, e', g ρ _ H (Ext.refl _ _) rp rw'⟩ hs
    · exact g.elim
  · rename_i ns i
    split at g
    · rename_i d e
      obtain ⟨a, rfl, t1⟩ := q1.scr_inv
      rw [q2.int_inv] at r2
      refine ix_list value slice pins s σ H _ _ v u Q I r1 r2 ⟨_, _, _, _, rfl, rfl, t1.sq, ?_, g ρ _ H (Ext.refl _ _) rp (.int d)⟩ hs
      unfold L2.atI at e ⊢
      rw [List.length_map]
      cases h : ixN ns.length i with
      | none => rw [h] at e; cases e
      | some j => rw [h] at e; rw [Option.bind_some] at e ⊢; rw [List.getElem?_map, e]; rfl
    · exact g.elim
  · split at g
    · rename_i xs hv
      split at g
      · rename_i d e
        obtain ⟨a, us, rfl, t1, s1⟩ := viewL_ok rp q1 hv
        rw [q2.int_inv] at r2
        obtain ⟨w, e', rw'⟩ := s1.atI e
        exact ix_list value slice pins s σ H _ _ v u Q I r1 r2 ⟨_, _, _, _, rfl, rfl, .inl t1, e', g ρ _ H (Ext.refl _ _) rp rw'⟩ hs
      · exact g.elim
    · exact g.elim
  · exact g.elim
end
end PK
namespace PK
open PySem PySem.Spec PyProof.Rows L2

section
variable {X : Cx} {G : Cls} {W : L2.WX} {pos : Pos} {e : Expr} {es : List Expr} {ms : Env → EM (List D)}
theorem es_weak {m : List D → EM D} (n : ∀ xs, NoExc (m xs)) {σ : L2.St} {H : Hp} {Q : VK} (h : tM X.K G W (PK.es m ms) σ H Q) : tA X.K G W ms σ H fun vs H1 => rsM X.K G m vs H1 Q := by
  obtain ⟨ρ, S, E, rp, re, g⟩ := h
  refine ⟨ρ, S, E, rp, re, Go.mono (Go.bind g) ?_⟩
  rintro vs H1 ⟨ρ1, S1, xs, x1, r1, q1, g1⟩
  exact ⟨ρ1, S1, xs, r1, q1, g1.w0 (n xs)⟩
theorem pm_callB {x : Str} {bid : String} {p : Pos} {m : List D → EM D} (hc : CallR X (.builtin bid) (rsM X.K G m)) (n : ∀ xs, NoExc (m xs)) (hg : Gl X x) (hm : X.mg x = none) (hv : bootBuiltins x = some (.builtin bid)) (ha : PA X (e :: es) (tA X.K G W ms)) (hn : x ≠ "__name__") (hdb : (x == ("__debug__" : Str)) = false)
    (he : starEach (e :: es) X.env = (false, eval e X.env) :: starEach es X.env) (hpl : (backTo pos (starEach es X.env)).any (·.1) = false) : PE X (.Call (.Name x p) (e :: es) [] pos) (tM X.K G W (PK.es m ms)) :=
  (pe_callB hc hg hm hv ha hn hdb he hpl).weak fun σ H Q q => es_weak n q
theorem pm_callTy {x : Str} {T : String} {p : Pos} {m : List D → EM D} (hc : CallR X (.type T) (rsM X.K G m)) (n : ∀ xs, NoExc (m xs)) (hg : Gl X x) (hm : X.mg x = none) (hv : bootBuiltins x = some (.type T)) (ha : PA X (e :: es) (tA X.K G W ms)) (hn : x ≠ "__name__") (hdb : (x == ("__debug__" : Str)) = false)
    (he : starEach (e :: es) X.env = (false, eval e X.env) :: starEach es X.env) (hpl : (backTo pos (starEach es X.env)).any (·.1) = false) : PE X (.Call (.Name x p) (e :: es) [] pos) (tM X.K G W (PK.es m ms)) :=
  (pe_callTy hc hg hm hv ha hn hdb he hpl).weak fun σ H Q q => es_weak n q
end

/-! ### built-ins by values -/
def viewS (S : List DO) : D → Option (List D)
  | .tup xs => some xs
  | d => viewL S d
def lenM (xs : List D) : EM D := fun S => match xs with
  | [.str z] => if z.length ≤ 16777216 then .ok (.int z.length) S else .stuck
  | [.scr ns] => .ok (.int ns.length) S
  | [d] => match viewS S d with
    | some ys => .ok (.int ys.length) S
    | none => .stuck
  | _ => .stuck
def absO : List D → Option D
  | [.int i] => some (.int (if i < 0 then -i else i))
  | _ => none
def minO : List D → Option D
  | [.int i, .int j] => some (.int (if j < i then j else i))
  | _ => none
def maxO : List D → Option D
  | [.int i, .int j] => some (.int (if j > i then j else i))
  | _ => none
def intO : List D → Option D
  | [.int i] => some (.int i)
  | [.bl k] => some (.int (if k then 1 else 0))
  | [.str x] => match PySem.intText? x with
    | some n => if x.length ≤ 640 then some (.int n) else none
    | none => none
  | _ => none
def strO : List D → Option D
  | [.int i] => if i.natAbs.log2 < 1920 then some (.str (toString i)) else none
  | _ => none
/-- tuple(x) of a list or a tuple -/
def tupM (xs : List D) : EM D := fun S => match xs with
  | [d] => match viewS S d with
    | some ys => .ok (.tup ys) S
    | none => .stuck
  | _ => .stuck
/-- isinstance(x, int), .. -/
inductive Ty0 where | int | bool | str | list | tuple | dict
  deriving DecidableEq
def isTy (S : List DO) : Ty0 → D → Option Bool
  | t, .non => some false
  | t, .bl _ => some (decide (t = .bool ∨ t = .int))
  | t, .int _ => some (decide (t = .int))
  | t, .str _ => some (decide (t = .str))
  | t, .tup _ => some (decide (t = .tuple))
  | t, .lst _ => some (decide (t = .list))
  | t, .dct kvs => some (decide (t = .dict))
  | t, .ref r => match S[r]? with
    | some (.lst _) => some (decide (t = .list))
    | some (.lkl _) => some (decide (t = .list))
    | some (.dct _) => some (decide (t = .dict))
    | some (.lkd _) => some (decide (t = .dict))
    | _ => none
  | _, _ => none
def isTyM (t : Ty0) (x : D) : EM D := fun S => match isTy S t x with
  | some b => .ok (.bl b) S
  | none => .stuck
section
variable {X : Cx} {G : Cls}
theorem noExc_len {xs : List D} : NoExc (lenM xs) := fun S c fs S' h => by
  unfold lenM at h
  split at h
  · split at h <;> cases h
  · cases h
  · split at h <;> cases h
  · cases h
theorem noExc_tup {xs : List D} : NoExc (tupM xs) := fun S c fs S' h => by
  unfold tupM at h
  split at h
  · split at h <;> cases h
  · cases h
theorem noExc_isTy {t : Ty0} {x : D} : NoExc (isTyM t x) := fun S c fs S' h => by
  unfold isTyM at h
  split at h <;> cases h
theorem viewS_ok {K : PySem.W.Frag} {ρ : List (Option Addr)} {S : List DO} {H : Hp} {d : D} {v : V} {xs : List D} (rp : Rep K G ρ S H) (h : RepV K G ρ H d v) (e : viewS S d = some xs) : ∃ a us, v = .ref a ∧ (SqL K H a us ∨ SqT K H a us) ∧ RepVs K G ρ H xs us := by
  unfold viewS at e
  split at e
  · cases e
    obtain ⟨a, us, rfl, h1, h2⟩ := h.tup_inv
    exact ⟨a, us, rfl, .inr h1, h2⟩
  · obtain ⟨a, us, rfl, h1, h2⟩ := viewL_ok rp h e
    exact ⟨a, us, rfl, .inl (.inl h1), h2⟩
theorem RepVs.one {K : PySem.W.Frag} {ρ : List (Option Addr)} {H : Hp} {d : D} {vs : List V} (h : RepVs K G ρ H [d] vs) : ∃ v, vs = [v] ∧ RepV K G ρ H d v := by
  cases h with
  | cons h r => cases r; exact ⟨_, rfl, h⟩
theorem RepVs.two {K : PySem.W.Frag} {ρ : List (Option Addr)} {H : Hp} {d d' : D} {vs : List V} (h : RepVs K G ρ H [d, d'] vs) : ∃ v v', vs = [v, v'] ∧ RepV K G ρ H d v ∧ RepV K G ρ H d' v' := by
  cases h with
  | cons h r => cases r with
    | cons h' r => cases r; exact ⟨_, _, rfl, h, h'⟩
theorem cr_len : CallR X (.builtin "len") (rsM X.K G lenM) := by
  intro pins s σ H vs us Q I r ⟨ρ, S, xs, rp, q, g⟩
  unfold lenM at g
  split at g
  · obtain ⟨v, rfl, q1⟩ := q.one
    split at g
    · rename_i hl
      rw [q1.str_inv] at r
      exact call_len_str pins s σ H _ us Q I r ⟨_, rfl, line_eq hl, g ρ _ H (Ext.refl _ _) rp (.int _)⟩
    · exact g.elim
  · obtain ⟨v, rfl, q1⟩ := q.one
    obtain ⟨a, rfl, t1⟩ := q1.scr_inv
    refine call_len_seq pins s σ H _ us Q I r ⟨a, _, rfl, .inl t1.sq, ?_⟩
    rw [List.length_map]
    exact g ρ _ H (Ext.refl _ _) rp (.int _)
  · obtain ⟨v, rfl, q1⟩ := q.one
    split at g
    · rename_i ys hv
      obtain ⟨a, ws, rfl, h1, h2⟩ := viewS_ok rp q1 hv
      refine call_len_seq pins s σ H _ us Q I r ⟨a, ws, rfl, h1, ?_⟩
      rw [← h2.length]
      exact g ρ _ H (Ext.refl _ _) rp (.int _)
    · exact g.elim
  · exact g.elim
theorem cr_abs : CallR X (.builtin "abs") (rsM X.K G fun xs => EM.ofO (absO xs)) := by
  intro pins s σ H vs us Q I r ⟨ρ, S, xs, rp, q, g⟩
  obtain ⟨d, e, k⟩ := g.ofO rp
  unfold absO at e
  split at e
  · cases e
    obtain ⟨v, rfl, q1⟩ := q.one
    rw [q1.int_inv] at r
    exact call_abs pins s σ H _ us Q I r ⟨_, rfl, k ρ _ H (Ext.refl _ _) rp (.int _)⟩
  · cases e
theorem cr_minM (hc : X.calm = true) : CallR X (.builtin "min") (rsM X.K G fun xs => EM.ofO (minO xs)) := by
  intro pins s σ H vs us Q I r ⟨ρ, S, xs, rp, q, g⟩
  obtain ⟨d, e, k⟩ := g.ofO rp
  unfold minO at e
  split at e
  · cases e
    obtain ⟨v, v', rfl, q1, q2⟩ := q.two
    rw [q1.int_inv, q2.int_inv] at r
    exact call_min2 hc pins s σ H _ us Q I r ⟨_, _, rfl, k ρ _ H (Ext.refl _ _) rp (.int _)⟩
  · cases e
theorem cr_maxM (hc : X.calm = true) : CallR X (.builtin "max") (rsM X.K G fun xs => EM.ofO (maxO xs)) := by
  intro pins s σ H vs us Q I r ⟨ρ, S, xs, rp, q, g⟩
  obtain ⟨d, e, k⟩ := g.ofO rp
  unfold maxO at e
  split at e
  · cases e
    obtain ⟨v, v', rfl, q1, q2⟩ := q.two
    rw [q1.int_inv, q2.int_inv] at r
    exact call_max2 hc pins s σ H _ us Q I r ⟨_, _, rfl, k ρ _ H (Ext.refl _ _) rp (.int _)⟩
  · cases e
theorem cr_int : CallR X (.type "int") (rsM X.K G fun xs => EM.ofO (intO xs)) := by
  intro pins s σ H vs us Q I r ⟨ρ, S, xs, rp, q, g⟩
  obtain ⟨d, e, k⟩ := g.ofO rp
  unfold intO at e
  split at e
  · cases e
    obtain ⟨v, rfl, q1⟩ := q.one
    rw [q1.int_inv] at r
    exact call_int1 pins s σ H _ us Q I r (.inl ⟨_, rfl, k ρ _ H (Ext.refl _ _) rp (.int _)⟩)
  · cases e
    obtain ⟨v, rfl, q1⟩ := q.one
    rw [q1.bl_inv'] at r
    exact call_int1 pins s σ H _ us Q I r (.inr ⟨_, rfl, k ρ _ H (Ext.refl _ _) rp (.int _)⟩)
  · split at e
    · split at e
      · rename_i hn hl
        cases e
        obtain ⟨v, rfl, q1⟩ := q.one
        rw [q1.str_inv] at r
        exact call_int_str pins s σ H _ us Q I r ⟨_, _, rfl, hn, hl, k ρ _ H (Ext.refl _ _) rp (.int _)⟩
      · cases e
    · cases e
  · cases e
theorem cr_str : CallR X (.type "str") (rsM X.K G fun xs => EM.ofO (strO xs)) := by
  intro pins s σ H vs us Q I r ⟨ρ, S, xs, rp, q, g⟩
  obtain ⟨d, e, k⟩ := g.ofO rp
  unfold strO at e
  split at e
  · split at e
    · rename_i hl
      cases e
      obtain ⟨v, rfl, q1⟩ := q.one
      rw [q1.int_inv] at r
      exact call_str_int pins s σ H _ us Q I r ⟨_, rfl, hl, k ρ _ H (Ext.refl _ _) rp (.str _)⟩
    · cases e
  · cases e
theorem cr_tup : CallR X (.type "tuple") (rsM X.K G tupM) := by
  intro pins s σ H vs us Q I r ⟨ρ, S, xs, rp, q, g⟩
  unfold tupM at g
  split at g
  · obtain ⟨v, rfl, q1⟩ := q.one
    split at g
    · rename_i ys hv
      obtain ⟨a, ws, rfl, h1, h2⟩ := viewS_ok rp q1 hv
      rcases h1 with h1 | h1
      · exact call_tuple_of pins s σ H _ us Q I r ⟨a, ws, rfl, .inl ⟨h1, fun l hl => g ρ (.ref l) _ (Ext.laid hl) (rp.laid hl) (.tup (SqT.of upd_same) (h2.ext (Ext.laid hl)))⟩⟩
      · exact call_tuple_of pins s σ H _ us Q I r ⟨a, ws, rfl, .inr ⟨h1, g ρ (.ref a) H (Ext.refl _ _) rp (.tup h1 h2)⟩⟩
    · exact g.elim
  · exact g.elim
end
/-! ### new objects -/
section
variable {K : PySem.W.Frag} {G : Cls}
/-- an expression gives a new object, no cell -/
def GoF (K : PySem.W.Frag) (G : Cls) (W : L2.WX) (σ : L2.St) (ρ : List (Option Addr)) (H : Hp) (r : Res DO) (Q : VK) : Prop :=
  match r with
  | .ok o S' => ∀ ρ' p u H', Ext ρ H ρ' H' → Rep K G ρ' S' H' → H p = none → (∀ i : Nat, ρ'[i]? ≠ some (some p)) → H' p = some u → Mut (some u) → RepC K G ρ' H' p o u → Q (.ref p) H'
  | .exc c fs S' => ∀ ρ' H' od, Ext ρ H ρ' H' → Rep K G ρ' S' H' → RepX K G ρ' H' fs od → W (.ref (G.addr c)) od σ H'
  | .stuck => False
def tF (K : PySem.W.Frag) (G : Cls) (W : L2.WX) (m : Env → EM DO) : TE := fun σ H Q => ∃ ρ S E, Rep K G ρ S H ∧ RepE K G ρ H E σ ∧ GoF K G W σ ρ H (m E S) Q
def valOf : DO → Option D
  | .lst xs => some (.lst xs)
  | .dct kvs => some (.dct kvs)
  | .ins c fs => some (.ins c fs)
  | _ => none
def eNew (m : Env → EM DO) : Env → EM D := fun E => EM.bind (m E) fun o => EM.ofO (valOf o)
def eBox (m : Env → EM DO) : Env → EM D := fun E S => match m E S with
  | .ok o S' => .ok (.ref S'.length) (S' ++ [o])
  | .exc c fs S' => .exc c fs S'
  | .stuck => .stuck
theorem RepV.ofC {ρ : List (Option Addr)} {H : Hp} {o : DO} {d : D} {a : Addr} {u : HO} {ob : Obj} (e : valOf o = some d) (h : H a = some (.frz ob u)) (r : RepC K G ρ H a o u) : RepV K G ρ H d (.ref a) := by
  cases o with
  | gone => cases e
  | lkl xs => cases e
  | lkd xs => cases e
  | lst xs => cases e; obtain ⟨us, rfl, r⟩ := r; exact .lst h r
  | dct kvs => cases e; exact .dct h r
  | ins c fs => cases e; obtain ⟨hc, dx, us, rfl, r⟩ := r; exact .ins hc h r
theorem pe_frz {X : Cx} {e : Expr} {t : TE} (h : PE X e t) : PE X e fun σ H Q => t σ H fun v H1 => ∃ a u, v = .ref a ∧ H1 a = some u ∧ Mut (some u) ∧ ∀ ob, Q v (upd H1 a (.frz ob u)) := by
  refine ⟨fun pins s σ H Q I q => thn (h.run pins s σ H _ I q) ?_⟩
  rintro w s1 ⟨v, H1, I1, r1, a, u, rfl, h1, m, k⟩
  obtain ⟨ob, I2⟩ := freeze I1 h1 m
  exact ⟨_, _, I2, r1, k ob⟩
/-- a new object is known from now on -/
theorem Ext.known {ρ ρ' : List (Option Addr)} {H H' : Hp} {p : Addr} {u o : HO} (x : Ext ρ H ρ' H') (hp : H p = none) (n : ∀ i : Nat, ρ'[i]? ≠ some (some p)) (h : H' p = some u) (m : Mut (some u)) : Ext ρ H ρ' (upd H' p o) where
  keep := fun b v hb nb => by rw [upd_ne (ne_of_none hb hp)]; exact x.keep b v hb nb
  tups := fun b v hb => by rw [upd_ne (ne_of_none hb hp)]; exact x.tups b v hb
  frzs := fun b v w hb => by rw [upd_ne (ne_of_none hb hp)]; exact x.frzs b v w hb
  xds := fun b w hb => by rw [upd_ne (ne_of_none hb hp)]; exact x.xds b w hb
  dom := fun b hb => by
    by_cases e : b = p
    · rw [e]; exact hp
    · rw [upd_ne e] at hb; exact x.dom b hb
  len := x.len
  old := x.old
  new := x.new
theorem Ext.knows {ρ : List (Option Addr)} {H : Hp} {p : Addr} {u o : HO} (n : ∀ i : Nat, ρ[i]? ≠ some (some p)) (h : H p = some u) (m : Mut (some u)) {K : PySem.W.Frag} {ds : List D} : ∀ b v, H b = some v → b ≠ p → (upd H p o) b = some v := fun b v hb nb => by rw [upd_ne nb]; exact hb
/-- values lean on no object that may be written, but their own cells -/
theorem mut_tup {us : List V} : ¬ Mut (some (.tup us)) := fun h => h
theorem mut_frz {o : Obj} {u : HO} : ¬ Mut (some (.frz o u)) := fun h => h
end
section
variable {K : PySem.W.Frag} {G : Cls} {ρ : List (Option Addr)} {H : Hp} {p : Addr} {u o : HO}
theorem SqT.turn (m : Mut (H p)) {a : Addr} {us : List V} (h : SqT K H a us) : SqT K (upd H p o) a us := by
  rcases h with (h | ⟨ob, h⟩) | h
  · exact .inl (.inl (by rw [upd_ne (fun z => by subst z; rw [h] at m; exact m)]; exact h))
  · exact .inl (.inr ⟨ob, by rw [upd_ne (fun z => by subst z; rw [h] at m; exact m)]; exact h⟩)
  · exact .inr h
theorem frz_turn (m : Mut (H p)) {a : Addr} {ob : Obj} {v : HO} (h : H a = some (.frz ob v)) : upd H p o a = some (.frz ob v) := by
  rw [upd_ne (fun z => by subst z; rw [h] at m; exact m)]; exact h
theorem xd_turn (m : Mut (H p)) {a : Addr} {us : List (Str × V)} (h : H a = some (.xd us)) : upd H p o a = some (.xd us) := by
  rw [upd_ne (fun z => by subst z; rw [h] at m; exact m)]; exact h
mutual
theorem RepV.turn (m : Mut (H p)) : ∀ {d : D} {v : V}, RepV K G ρ H d v → RepV K G ρ (upd H p o) d v
  | _, _, .non => .non
  | _, _, .bl b => .bl b
  | _, _, .int i => .int i
  | _, _, .str z => .str z
  | _, _, .tup h r => .tup (SqT.turn m h) (RepVs.turn m r)
  | _, _, .lst h r => .lst (frz_turn m h) (RepVs.turn m r)
  | _, _, .dct h r => .dct (frz_turn m h) (RepD.turn m r)
  | _, _, .ins hc h r => .ins hc (frz_turn m h) (RepF.turn m r)
  | _, _, .ex0 hc g => .ex0 hc g
  | _, _, .ex1 hc g h r => .ex1 hc g (xd_turn m h) (RepF.turn m r)
  | _, _, .scr h => .scr (h.elim (fun ⟨o, h⟩ => .inl ⟨o, frz_turn m h⟩) .inr)
  | _, _, .ref h q => .ref h q
theorem RepVs.turn (m : Mut (H p)) : ∀ {ds : List D} {vs : List V}, RepVs K G ρ H ds vs → RepVs K G ρ (upd H p o) ds vs
  | _, _, .nil => .nil
  | _, _, .cons h r => .cons (RepV.turn m h) (RepVs.turn m r)
theorem RepD.turn (m : Mut (H p)) : ∀ {a : Addr} {kvs : List (D × D)} {u : HO}, RepD K G ρ H a kvs u → RepD K G ρ (upd H p o) a kvs u
  | _, _, _, .k r => .k (RepK.turn m r)
  | _, _, _, .t r => .t (RepT.turn m r)
theorem RepT.turn (m : Mut (H p)) : ∀ {kvs : List (D × D)} {xs : List (NestedKey × Addr × Value)}, RepT K G ρ H kvs xs → RepT K G ρ (upd H p o) kvs xs
  | _, _, .nil => .nil
  | _, _, .cons nk dp hk h rel r => .cons nk dp (RepV.turn m hk) (RepV.turn m h) rel (RepT.turn m r)
theorem RepK.turn (m : Mut (H p)) : ∀ {kvs : List (D × D)} {us : List (Key × V)}, RepK K G ρ H kvs us → RepK K G ρ (upd H p o) kvs us
  | _, _, .nil => .nil
  | _, _, .int h r => .int (RepV.turn m h) (RepK.turn m r)
  | _, _, .str h r => .str (RepV.turn m h) (RepK.turn m r)
theorem RepF.turn (m : Mut (H p)) : ∀ {fs : List (Nat × D)} {us : List (Str × V)}, RepF K G ρ H fs us → RepF K G ρ (upd H p o) fs us
  | _, _, .nil => .nil
  | _, _, .cons h r => .cons (RepV.turn m h) (RepF.turn m r)
end
theorem RepC.turn (m : Mut (H p)) {a : Addr} {d : DO} {v : HO} (r : RepC K G ρ H a d v) : RepC K G ρ (upd H p o) a d v := by
  cases d with
  | gone => exact r
  | lst xs => obtain ⟨us, e, r⟩ := r; exact ⟨us, e, RepVs.turn m r⟩
  | dct kvs => exact RepD.turn m r
  | ins c fs => obtain ⟨hc, dx, us, e, r⟩ := r; exact ⟨hc, dx, us, e, RepF.turn m r⟩
  | lkl xs => obtain ⟨od, us, e, r⟩ := r; exact ⟨od, us, e, RepVs.turn m r⟩
  | lkd kvs => obtain ⟨od, u', e, e2, r⟩ := r; exact ⟨od, u', e, e2, RepD.turn m r⟩
/-- an object that is no cell changes: the cells stand -/
theorem Rep.turn {S : List DO} (r : Rep K G ρ S H) (m : Mut (H p)) (n : ∀ i : Nat, ρ[i]? ≠ some (some p)) : Rep K G ρ S (upd H p o) where
  len := r.len
  inj := r.inj
  obj := fun i d e => by
    rcases r.obj i d e with z | ⟨a, v, h1, h2, h3⟩
    · exact .inl z
    · exact .inr ⟨a, v, h1, by rw [upd_ne (show a ≠ p from fun z => n i (by rw [← z]; exact h1))]; exact h2, RepC.turn m h3⟩
  trk := fun i a e => by
    rw [upd_ne (show a ≠ p from fun z => n i (by rw [← z]; exact e))]
    exact r.trk i a e
end
section
variable {X : Cx} {G : Cls} {W : L2.WX} {e : Expr} {m : Env → EM DO}
theorem pm_new (h : PE X e (tF X.K G W m)) : PE X e (tM X.K G W (eNew m)) :=
  (pe_frz h).weak fun σ H Q ⟨ρ, S, E, rp, re, g⟩ => by
    refine ⟨ρ, S, E, rp, re, ?_⟩
    unfold eNew EM.bind at g
    cases hm : m E S with
    | stuck => rw [hm] at g; exact g
    | exc c fs S' => rw [hm] at g; exact g
    | ok o S' =>
      rw [hm] at g
      intro ρ' p u H' x' r' hp n h' mu rc
      have g' : Go X.K G (RD X.K G) W σ ρ H (EM.ofO (valOf o) S') Q := g
      cases hv : valOf o with
      | none => rw [hv] at g'; exact g'.elim
      | some d =>
        rw [hv] at g'
        refine ⟨p, u, rfl, h', mu, fun ob => ?_⟩
        have mu' : Mut (H' p) := by rw [h']; exact mu
        exact g' ρ' (.ref p) _ (x'.known hp n h' mu) (r'.turn mu' n) (RepV.ofC hv upd_same (RepC.turn mu' rc))
theorem Ext.taken {ρ ρ' : List (Option Addr)} {H H' : Hp} {p : Addr} (x : Ext ρ H ρ' H') (hp : H p = none) : Ext ρ H (ρ' ++ [some p]) H' where
  keep := x.keep
  tups := x.tups
  frzs := x.frzs
  xds := x.xds
  dom := x.dom
  len := by have := x.len; simp; omega
  old := fun i hi => by
    rw [List.getElem?_append_left (Nat.lt_of_lt_of_le hi x.len)]
    exact x.old i hi
  new := fun i a hi e => by
    by_cases h1 : i < ρ'.length
    · rw [List.getElem?_append_left h1] at e
      exact x.new i a hi e
    · rw [List.getElem?_append_right (Nat.le_of_not_lt h1)] at e
      cases q : i - ρ'.length with
      | zero => rw [q] at e; simp at e; rw [← e]; exact hp
      | succ n => rw [q] at e; simp at e
end
section
variable {K : PySem.W.Frag} {G : Cls} {ρ : List (Option Addr)} {H : Hp} {q : Option Addr}
mutual
theorem RepV.app : ∀ {d : D} {v : V}, RepV K G ρ H d v → RepV K G (ρ ++ [q]) H d v
  | _, _, .non => .non
  | _, _, .bl b => .bl b
  | _, _, .int i => .int i
  | _, _, .str z => .str z
  | _, _, .tup h r => .tup h (RepVs.app r)
  | _, _, .lst h r => .lst h (RepVs.app r)
  | _, _, .dct h r => .dct h (RepD.app r)
  | _, _, .ins hc h r => .ins hc h (RepF.app r)
  | _, _, .ex0 hc g => .ex0 hc g
  | _, _, .ex1 hc g h r => .ex1 hc g h (RepF.app r)
  | _, _, .scr h => .scr h
  | _, _, .ref h q => .ref (by rw [List.getElem?_append_left (List.getElem?_eq_some_iff.mp h).1]; exact h) q
theorem RepVs.app : ∀ {ds : List D} {vs : List V}, RepVs K G ρ H ds vs → RepVs K G (ρ ++ [q]) H ds vs
  | _, _, .nil => .nil
  | _, _, .cons h r => .cons (RepV.app h) (RepVs.app r)
theorem RepD.app : ∀ {a : Addr} {kvs : List (D × D)} {u : HO}, RepD K G ρ H a kvs u → RepD K G (ρ ++ [q]) H a kvs u
  | _, _, _, .k r => .k (RepK.app r)
  | _, _, _, .t r => .t (RepT.app r)
theorem RepT.app : ∀ {kvs : List (D × D)} {xs : List (NestedKey × Addr × Value)}, RepT K G ρ H kvs xs → RepT K G (ρ ++ [q]) H kvs xs
  | _, _, .nil => .nil
  | _, _, .cons nk dp hk h rel r => .cons nk dp (RepV.app hk) (RepV.app h) rel (RepT.app r)
theorem RepK.app : ∀ {kvs : List (D × D)} {us : List (Key × V)}, RepK K G ρ H kvs us → RepK K G (ρ ++ [q]) H kvs us
  | _, _, .nil => .nil
  | _, _, .int h r => .int (RepV.app h) (RepK.app r)
  | _, _, .str h r => .str (RepV.app h) (RepK.app r)
theorem RepF.app : ∀ {fs : List (Nat × D)} {us : List (Str × V)}, RepF K G ρ H fs us → RepF K G (ρ ++ [q]) H fs us
  | _, _, .nil => .nil
  | _, _, .cons h r => .cons (RepV.app h) (RepF.app r)
end
theorem RepC.app {a : Addr} {d : DO} {v : HO} (r : RepC K G ρ H a d v) : RepC K G (ρ ++ [q]) H a d v := by
  cases d with
  | gone => exact r
  | lst xs => obtain ⟨us, e, r⟩ := r; exact ⟨us, e, RepVs.app r⟩
  | dct kvs => exact RepD.app r
  | ins c fs => obtain ⟨hc, dx, us, e, r⟩ := r; exact ⟨hc, dx, us, e, RepF.app r⟩
  | lkl xs => obtain ⟨od, us, e, r⟩ := r; exact ⟨od, us, e, RepVs.app r⟩
  | lkd kvs => obtain ⟨od, u', e, e2, r⟩ := r; exact ⟨od, u', e, e2, RepD.app r⟩
/-- a new object becomes a cell -/
theorem Rep.take {S : List DO} {d : DO} {p : Addr} {u : HO} (r : Rep K G ρ S H) (n : ∀ i : Nat, ρ[i]? ≠ some (some p)) (h : H p = some u) (m : Mut (some u)) (rc : RepC K G ρ H p d u) : Rep K G (ρ ++ [some p]) (S ++ [d]) H where
  len := by simp [r.len]
  inj := fun i j a h1 h2 => by
    have old : ∀ (k : Nat), (ρ ++ [some p])[k]? = some (some a) → (k < ρ.length ∧ ρ[k]? = some (some a)) ∨ (k = ρ.length ∧ a = p) := fun k e => by
      by_cases hk : k < ρ.length
      · rw [List.getElem?_append_left hk] at e; exact .inl ⟨hk, e⟩
      · have hk' := Nat.le_of_not_lt hk
        rw [List.getElem?_append_right hk'] at e
        cases q : k - ρ.length with
        | zero => rw [q] at e; simp at e; exact .inr ⟨by omega, e.symm⟩
        | succ n => rw [q] at e; simp at e
    rcases old i h1 with ⟨_, e1⟩ | ⟨e1, q1⟩
    · rcases old j h2 with ⟨_, e2⟩ | ⟨e2, q2⟩
      · exact r.inj i j a e1 e2
      · rw [q2] at e1; exact absurd e1 (n i)
    · rcases old j h2 with ⟨_, e2⟩ | ⟨e2, q2⟩
      · rw [q1] at e2; exact absurd e2 (n j)
      · rw [e1, e2]
  obj := fun i o' e => by
    by_cases hi : i < S.length
    · rw [List.getElem?_append_left hi] at e
      have hi' : i < ρ.length := by rw [r.len]; exact hi
      rcases r.obj i o' e with z | ⟨a, v, h1, h2, h3⟩
      · exact .inl z
      · exact .inr ⟨a, v, by rw [List.getElem?_append_left hi']; exact h1, h2, RepC.app h3⟩
    · have hi' := Nat.le_of_not_lt hi
      rw [List.getElem?_append_right hi'] at e
      cases q : i - S.length with
      | zero =>
        rw [q] at e; simp at e
        have : i = ρ.length := by rw [r.len]; omega
        rw [← e, this]
        exact .inr ⟨p, u, by simp, h, RepC.app rc⟩
      | succ n => rw [q] at e; simp at e
  trk := fun i a e => by
    by_cases hi : i < ρ.length
    · rw [List.getElem?_append_left hi] at e
      exact r.trk i a e
    · rw [List.getElem?_append_right (Nat.le_of_not_lt hi)] at e
      cases q : i - ρ.length with
      | zero => rw [q] at e; simp at e; rw [← e]; exact ⟨u, h, .inl m⟩
      | succ n => rw [q] at e; simp at e
end
section
variable {X : Cx} {G : Cls} {W : L2.WX} {e : Expr} {m : Env → EM DO}
theorem pm_box (h : PE X e (tF X.K G W m)) : PE X e (tM X.K G W (eBox m)) :=
  h.weak fun σ H Q ⟨ρ, S, E, rp, re, g⟩ => by
    refine ⟨ρ, S, E, rp, re, ?_⟩
    unfold eBox at g
    cases hm : m E S with
    | stuck => rw [hm] at g; exact g
    | exc c fs S' => rw [hm] at g; exact g
    | ok o S' =>
      rw [hm] at g
      intro ρ' p u H' x' r' hp n h' mu rc
      exact g (ρ' ++ [some p]) (.ref p) H' (x'.taken hp) (r'.take n h' mu rc) (.ref (x := some p) (by rw [← r'.len]; simp) (.inr rfl))
end
end PK
namespace PK
open PySem PySem.Spec PyProof.Rows L2

/-! ### list + list, list * int of lists that are known too -/
section
variable {X : Cx}
def rCatR : R2 := fun x y H Q => ∃ l b xs zs, x = .ref l ∧ y = .ref b ∧ Rd H l (.lst xs) ∧ Rd H b (.lst zs) ∧ xs.length + zs.length ≤ sizeLine ∧ ∀ p, H p = none → Q (.ref p) (upd H p (.lst (xs ++ zs)))
theorem op_catR : OpR X (binaryOp .Add) rCatR := fun pins s σ H x y v u Q I rx ry h => by
  rcases h with ⟨p, q, us, ws, ex, ey, hp, hq, hs, k⟩
  subst ex ey
  have ev : v = .ref p := rx
  have eu : u = .ref q := ry
  subst ev eu
  have ⟨_, l1, n1, v1, g1⟩ := hp.ok I.hok
  have ⟨_, l2, n2, v2, g2⟩ := hq.ok I.hok
  have hv : Vals (us ++ ws) (l1 ++ l2) := v1.append v2
  have hn : (us ++ ws).length ≤ sizeLine := List.length_append ▸ hs
  have J := I.lnew (t' := s.toks) hv hn
  have hz : l1.toArray.size + l2.toArray.size ≤ sizeLine := by
    have h1 := v1.length
    have h2 := v2.length
    simp only [List.size_toArray]
    omega
  have em : l1.toArray ++ l2.toArray = (l1 ++ l2).toArray := List.append_toArray _ _
  apply PySem.P.add_list (hsz := hz) g1 g2
  exact em ▸ ⟨V.ref s.heap.objs.size, _, J, rfl, k _ I.fresh⟩
end

/-! ### steps that give a new object, by values -/
section
variable {X : Cx} {G : Cls} {W : L2.WX} {a b e : Expr} {es : List Expr} {pos : Pos} {ma mb : Env → EM D} {ms : Env → EM (List D)}
theorem GoF.mono {K : PySem.W.Frag} {σ : L2.St} {ρ : List (Option Addr)} {H : Hp} {r : Res DO} {Q Q' : VK} (h : GoF K G W σ ρ H r Q) (i : ∀ v H', Q v H' → Q' v H') : GoF K G W σ ρ H r Q' := by
  cases r with
  | ok o S' => exact fun ρ' p u H' x r n1 n2 h' m c => i _ _ (h ρ' p u H' x r n1 n2 h' m c)
  | exc c fs S' => exact h
  | stuck => exact h
theorem GoF.bind {α β : Type} {K : PySem.W.Frag} {R : List (Option Addr) → Hp → α → β → Prop} {σ : L2.St} {ρ : List (Option Addr)} {S : List DO} {H : Hp} {m : EM α} {k : α → EM DO} {Q : VK} (h : GoF K G W σ ρ H (EM.bind m k S) Q) :
    Go K G R W σ ρ H (m S) fun b H1 => ∃ ρ1 S1 a, Ext ρ H ρ1 H1 ∧ Rep K G ρ1 S1 H1 ∧ R ρ1 H1 a b ∧ GoF K G W σ ρ1 H1 (k a S1) Q := by
  unfold EM.bind at h
  cases e : m S with
  | ok a S' =>
    rw [e] at h
    refine fun ρ1 b H1 x1 r1 q => ⟨ρ1, S', a, x1, r1, q, ?_⟩
    have h' : GoF K G W σ ρ H (k a S') Q := h
    cases e2 : k a S' with
    | ok o S2 => rw [e2] at h'; exact fun ρ' p u H' x r n1 n2 hh m c => h' ρ' p u H' (x1.trans x) r (x1.dom p n1) n2 hh m c
    | exc c fs S2 => rw [e2] at h'; exact fun ρ' H' od x r q => h' ρ' H' od (x1.trans x) r q
    | stuck => rw [e2] at h'; exact h'
  | exc c fs S' => rw [e] at h; exact h
  | stuck => rw [e] at h; exact h
/-- a new list of the values xs is laid at p -/
theorem GoF.list {K : PySem.W.Frag} {σ : L2.St} {ρ : List (Option Addr)} {S : List DO} {H : Hp} {xs : List D} {us : List V} {Q : VK} (g : GoF K G W σ ρ H (.ok (.lst xs) S) Q) (rp : Rep K G ρ S H) (r : RepVs K G ρ H xs us) {p : Addr} (hp : H p = none) : Q (.ref p) (upd H p (.lst us)) :=
  g ρ p _ _ (Ext.laid hp) (rp.laid hp) hp (rp.notNew hp) upd_same trivial ⟨us, rfl, r.ext (Ext.laid hp)⟩
def f2 (f : D → D → EM DO) (ma mb : Env → EM D) : Env → EM DO := fun E => EM.bind (ma E) fun x => EM.bind (mb E) fun y => f x y
def fs (f : List D → EM DO) (ms : Env → EM (List D)) : Env → EM DO := fun E => EM.bind (ms E) f
def r2F (K : PySem.W.Frag) (G : Cls) (m : D → D → EM DO) : R2 := fun vx vy H Q => ∃ ρ S x y, Rep K G ρ S H ∧ RepV K G ρ H x vx ∧ RepV K G ρ H y vy ∧ GoF K G W0 [] ρ H (m x y S) Q
def rsF (K : PySem.W.Frag) (G : Cls) (m : List D → EM DO) : List V → Hp → VK → Prop := fun vs H Q => ∃ ρ S xs, Rep K G ρ S H ∧ RepVs K G ρ H xs vs ∧ GoF K G W0 [] ρ H (m xs S) Q
theorem GoF.w0 {K : PySem.W.Frag} {σ : L2.St} {ρ : List (Option Addr)} {S : List DO} {H : Hp} {m : EM DO} {Q : VK} (n : NoExc m) (g : GoF K G W σ ρ H (m S) Q) : GoF K G W0 [] ρ H (m S) Q := by
  cases e : m S with
  | ok a S' => rw [e] at g; exact g
  | exc c fs S' => exact (n S c fs S' e).elim
  | stuck => rw [e] at g; exact g
theorem tF_2 {f : D → D → EM DO} (n : ∀ x y, NoExc (f x y)) {σ : L2.St} {H : Hp} {Q : VK} (h : tF X.K G W (f2 f ma mb) σ H Q) : tOp (r2F X.K G f) (tM X.K G W ma) (tM X.K G W mb) σ H Q := by
  obtain ⟨ρ, S, E, rp, re, g⟩ := h
  refine ⟨ρ, S, E, rp, re, Go.mono (GoF.bind g) ?_⟩
  rintro v1 H1 ⟨ρ1, S1, x, x1, r1, q1, g1⟩
  refine ⟨ρ1, S1, E, r1, RepE.ext x1 re, Go.mono (GoF.bind g1) ?_⟩
  rintro v2 H2 ⟨ρ2, S2, y, x2, r2, q2, g2⟩
  exact ⟨ρ2, S2, x, y, r2, RepV.ext x2 q1, q2, g2.w0 (n x y)⟩
theorem tF_s {f : List D → EM DO} (n : ∀ x, NoExc (f x)) {σ : L2.St} {H : Hp} {Q : VK} (h : tF X.K G W (PK.fs f ms) σ H Q) : tA X.K G W ms σ H fun vs H1 => rsF X.K G f vs H1 Q := by
  obtain ⟨ρ, S, E, rp, re, g⟩ := h
  refine ⟨ρ, S, E, rp, re, Go.mono (GoF.bind g) ?_⟩
  rintro v1 H1 ⟨ρ1, S1, x, x1, r1, q1, g1⟩
  exact ⟨ρ1, S1, x, r1, q1, g1.w0 (n x)⟩
/-! ### a list written out -/
def mLst (xs : List D) : EM DO := if xs.length ≤ 1000 then EM.pure (.lst xs) else EM.fail
theorem pf_lst (h : PA X es (tA X.K G W ms)) : PE X (.List es pos) (tF X.K G W (PK.fs mLst ms)) :=
  (pe_lst h).weak fun σ H Q ⟨ρ, S, E, rp, re, g⟩ => by
    refine ⟨ρ, S, E, rp, re, Go.mono (GoF.bind g) ?_⟩
    rintro vs H1 ⟨ρ1, S1, xs, x1, r1, q1, g1⟩
    unfold mLst at g1
    by_cases hl : xs.length ≤ 1000
    · rw [if_pos hl] at g1
      exact ⟨by rw [← q1.length]; exact line1000 hl, fun p hp => GoF.list g1 r1 q1 hp⟩
    · rw [if_neg hl] at g1; exact g1.elim
/-! ### list + list, list * int -/
def catM (x y : D) : EM DO := fun S => match viewL S x, viewL S y with
  | some xs, some ys => if xs.length + ys.length ≤ 16777216 then .ok (.lst (xs ++ ys)) S else .stuck
  | _, _ => .stuck
theorem noExc_cat {x y : D} : NoExc (catM x y) := fun S c fs S' h => by
  unfold catM at h
  split at h
  · split at h <;> cases h
  · cases h
theorem op_catF : OpR X (binaryOp .Add) (r2F X.K G catM) := by
  intro pins s σ H vx vy v u Q I r1 r2 ⟨ρ, S, x, y, rp, q1, q2, g⟩
  unfold catM at g
  split at g
  · rename_i xs ys h1 h2
    split at g
    · rename_i hl
      obtain ⟨a, us, rfl, t1, s1⟩ := viewL_ok rp q1 h1
      obtain ⟨b, ws, rfl, t2, s2⟩ := viewL_ok rp q2 h2
      exact op_catR pins s σ H _ _ v u Q I r1 r2 ⟨a, b, us, ws, rfl, rfl, t1, t2, by rw [← s1.length, ← s2.length]; exact line_eq hl, fun p hp => GoF.list g rp (s1.append s2) hp⟩
    · exact g.elim
  · exact g.elim
theorem pf_op {op : Operator} {m : D → D → EM DO} (ho : OpR X (binaryOp op) (r2F X.K G m)) (n : ∀ x y, NoExc (m x y)) (ha : PE X a (tM X.K G W ma)) (hb : PE X b (tM X.K G W mb)) : PE X (.BinOp a op b pos) (tF X.K G W (f2 m ma mb)) :=
  (pe_op ho ha hb).weak fun σ H Q q => tF_2 n q
def timesO : DO → D → Option DO
  | .lst xs, .int k => if -(2 ^ 63) ≤ k ∧ k < 2 ^ 63 ∧ xs.length * k.toNat ≤ 16777216 then some (.lst (List.replicate k.toNat xs).flatten) else none
  | _, _ => none
def repF (mc : Env → EM DO) (mb : Env → EM D) : Env → EM DO := fun E => EM.bind (mc E) fun o => EM.bind (mb E) fun y => EM.ofO (timesO o y)
theorem stays {K : PySem.W.Frag} {ρ ρ' : List (Option Addr)} {H H' : Hp} {p : Addr} {o : HO} (x : Ext ρ H ρ' H') (h : H p = some o) (n : ∀ i : Nat, ρ[i]? ≠ some (some p)) : H' p = some o := x.keep p o h n
theorem pf_rep {mc : Env → EM DO} (hc : PE X a (tF X.K G W mc)) (hb : PE X b (tM X.K G W mb)) : PE X (.BinOp a .Mult b pos) (tF X.K G W (repF mc mb)) :=
  (pe_op op_rep hc hb).weak fun σ H Q ⟨ρ, S, E, rp, re, g⟩ => by
    refine ⟨ρ, S, E, rp, re, ?_⟩
    unfold repF EM.bind at g
    cases hm : mc E S with
    | stuck => rw [hm] at g; exact g
    | exc c fs S1 => rw [hm] at g; exact g
    | ok o S1 =>
      rw [hm] at g
      intro ρ1 p u H1 x1 r1 hp n1 h1 mu rc
      refine ⟨ρ1, S1, E, r1, RepE.ext x1 re, ?_⟩
      dsimp only at g
      cases hb' : mb E S1 with
      | stuck => rw [hb'] at g; exact g.elim
      | exc c fs S2 => rw [hb'] at g; exact fun ρ2 H2 od x2 r2 z => g ρ2 H2 od (x1.trans x2) r2 z
      | ok y S2 =>
        rw [hb'] at g
        intro ρ2 w H2 x2 r2 q2
        dsimp only at g
        cases ho : timesO o y with
        | none => rw [ho] at g; exact g.elim
        | some o' =>
          rw [ho] at g
          unfold timesO at ho
          split at ho
          · rename_i xs k
            split at ho
            · rename_i hl
              cases ho
              obtain ⟨us, rfl, rs⟩ := rc
              refine ⟨p, k, us, rfl, q2.int_inv, x2.keep p _ h1 n1, hl.1, hl.2.1, by rw [← rs.length]; exact line_eq hl.2.2, fun p' hp' => ?_⟩
              have x3 := x1.trans x2
              exact g ρ2 p' _ _ (x3.trans (Ext.laid hp')) (r2.laid hp') (x3.dom _ hp') (r2.notNew hp') upd_same trivial ⟨_, rfl, (((rs.ext x2).rep k.toNat).ext (Ext.laid hp'))⟩
            · cases ho
          · cases ho
/-- list(x) of a list or a tuple -/
def listM (xs : List D) : EM DO := fun S => match xs with
  | [d] => match viewS S d with
    | some ys => .ok (.lst ys) S
    | none => .stuck
  | _ => .stuck
theorem noExc_list {xs : List D} : NoExc (listM xs) := fun S c fs S' h => by
  unfold listM at h
  split at h
  · split at h <;> cases h
  · cases h
theorem cr_listF : CallR X (.type "list") (rsF X.K G listM) := by
  intro pins s σ H vs us Q I r ⟨ρ, S, xs, rp, q, g⟩
  unfold listM at g
  split at g
  · obtain ⟨v, rfl, q1⟩ := q.one
    split at g
    · rename_i ys hv
      obtain ⟨a, ws, rfl, h1, h2⟩ := viewS_ok rp q1 hv
      exact call_list_of pins s σ H _ us Q I r ⟨a, ws, rfl, h1, fun l hl => GoF.list g rp h2 hl⟩
    · exact g.elim
  · exact g.elim
theorem pf_callTy {x : Str} {T : String} {p : Pos} {m : List D → EM DO} (hc : CallR X (.type T) (rsF X.K G m)) (n : ∀ xs, NoExc (m xs)) (hg : Gl X x) (hm : X.mg x = none) (hv : bootBuiltins x = some (.type T)) (ha : PA X (e :: es) (tA X.K G W ms)) (hn : x ≠ "__name__") (hdb : (x == ("__debug__" : Str)) = false)
    (he : starEach (e :: es) X.env = (false, eval e X.env) :: starEach es X.env) (hpl : (backTo pos (starEach es X.env)).any (·.1) = false) : PE X (.Call (.Name x p) (e :: es) [] pos) (tF X.K G W (PK.fs m ms)) :=
  (pe_callTy hc hg hm hv ha hn hdb he hpl).weak fun σ H Q q => tF_s n q
/-! ### slices -/
abbrev RO : List (Option Addr) → Hp → Option Int → Option Int → Prop := fun _ _ a b => a = b
abbrev tO (K : PySem.W.Frag) (G : Cls) (W : L2.WX) (m : Env → EM (Option Int)) : TO := tG K G RO W m
def eNoPart : Env → EM (Option Int) := fun _ => EM.pure none
def asI : D → Option (Option Int)
  | .int i => some (some i)
  | _ => none
def ePart (m : Env → EM D) : Env → EM (Option Int) := fun E => EM.bind (m E) fun d => EM.ofO (asI d)
theorem PO.weak {e : Option Expr} {t t' : TO} (h : PO X e t) (i : ∀ σ H Q, t' σ H Q → t σ H Q) : PO X e t' := ⟨fun pins s σ H Q I q => h.run pins s σ H Q I (i σ H Q q)⟩
theorem po_noneM : PO X none (tO X.K G W eNoPart) := PO.weak po_none fun σ H Q ⟨ρ, S, E, rp, re, g⟩ => g.here rp rfl
theorem po_someM (h : PE X e (tM X.K G W ma)) : PO X (some e) (tO X.K G W (ePart ma)) := PO.weak (po_some h) fun σ H Q ⟨ρ, S, E, rp, re, g⟩ => by
  refine ⟨ρ, S, E, rp, re, Go.mono (Go.bind g) ?_⟩
  rintro v1 H1 ⟨ρ1, S1, x, x1, r1, q1, g1⟩
  obtain ⟨d, e', k⟩ := g1.ofO r1
  unfold asI at e'
  split at e'
  · cases e'
    exact ⟨_, q1.int_inv, k ρ1 _ H1 (Ext.refl _ _) r1 rfl⟩
  · cases e'
def cutL {α : Type} (xs : List α) (lo hi : Option Int) : List α := (xs.drop (HT.sIx xs.length 0 lo)).take (HT.sIx xs.length xs.length hi - HT.sIx xs.length 0 lo)
theorem RepVs.cut {K : PySem.W.Frag} {ρ : List (Option Addr)} {H : Hp} {xs : List D} {us : List V} (r : RepVs K G ρ H xs us) (lo hi : Option Int) : RepVs K G ρ H (cutL xs lo hi) (cutV us lo hi) := by
  unfold cutL cutV
  rw [r.length]
  exact (r.drop _).take _
/-- t[lo:hi] of a tuple, a text -/
def cutO : D → Option Int → Option Int → Option D
  | .tup xs, lo, hi => some (.tup (cutL xs lo hi))
  | .str z, lo, hi => if z.length ≤ 16777216 then some (.str (cutS z lo hi)) else none
  | _, _, _ => none
def eCut (m : Env → EM D) (l h : Env → EM (Option Int)) : Env → EM D := fun E => EM.bind (m E) fun x => EM.bind (l E) fun lo => EM.bind (h E) fun hi => EM.ofO (cutO x lo hi)
def fCut (m : Env → EM D) (l h : Env → EM (Option Int)) : Env → EM DO := fun E => EM.bind (m E) fun x => EM.bind (l E) fun lo => EM.bind (h E) fun hi => fun S => match viewL S x with
  | some xs => .ok (.lst (cutL xs lo hi)) S
  | none => .stuck
variable {lo hi : Option Expr} {ml mh : Env → EM (Option Int)} {p2 : Pos}
theorem pm_cut (he : PE X e (tM X.K G W ma)) (hl : PO X lo (tO X.K G W ml)) (hh : PO X hi (tO X.K G W mh)) : PE X (.Subscript e (.Slice lo hi none p2) pos) (tM X.K G W (eCut ma ml mh)) :=
  (pe_slice (SlR.or sl_tupA sl_str) he hl hh).weak fun σ H Q ⟨ρ, S, E, rp, re, g⟩ => by
    refine ⟨ρ, S, E, rp, re, Go.mono (Go.bind g) ?_⟩
    rintro v1 H1 ⟨ρ1, S1, x, x1, r1, q1, g1⟩
    refine ⟨ρ1, S1, E, r1, RepE.ext x1 re, Go.mono (Go.bind g1) ?_⟩
    rintro o2 H2 ⟨ρ2, S2, l, x2, r2, q2, g2⟩
    cases q2
    refine ⟨ρ2, S2, E, r2, RepE.ext x2 (RepE.ext x1 re), Go.mono (Go.bind g2) ?_⟩
    rintro o3 H3 ⟨ρ3, S3, h, x3, r3, q3, g3⟩
    cases q3
    obtain ⟨d, e', k⟩ := g3.ofO r3
    have q1' := (q1.ext x2).ext x3
    unfold cutO at e'
    split at e'
    · cases e'
      obtain ⟨a, us, rfl, t1, s1⟩ := q1'.tup_inv
      refine .inl ⟨a, us, rfl, t1, fun z => ?_, fun _ p hp => k ρ3 (.ref p) _ (Ext.laid hp) (r3.laid hp) (.tup (SqT.of upd_same) ((s1.cut _ _).ext (Ext.laid hp)))⟩
      refine k ρ3 (.ref a) H3 (Ext.refl _ _) r3 (.tup t1 ?_)
      have c := s1.cut o2 o3
      unfold cutV at c
      rw [z.1, z.2] at c
      simpa using c
    · split at e'
      · rename_i hz
        cases e'
        rw [q1'.str_inv]
        exact .inr ⟨_, rfl, line_eq hz, k ρ3 _ H3 (Ext.refl _ _) r3 (.str _)⟩
      · cases e'
    · cases e'
theorem pf_cut (he : PE X e (tM X.K G W ma)) (hl : PO X lo (tO X.K G W ml)) (hh : PO X hi (tO X.K G W mh)) : PE X (.Subscript e (.Slice lo hi none p2) pos) (tF X.K G W (fCut ma ml mh)) :=
  (pe_slice sl_list he hl hh).weak fun σ H Q ⟨ρ, S, E, rp, re, g⟩ => by
    refine ⟨ρ, S, E, rp, re, Go.mono (GoF.bind g) ?_⟩
    rintro v1 H1 ⟨ρ1, S1, x, x1, r1, q1, g1⟩
    refine ⟨ρ1, S1, E, r1, RepE.ext x1 re, Go.mono (GoF.bind g1) ?_⟩
    rintro o2 H2 ⟨ρ2, S2, l, x2, r2, q2, g2⟩
    cases q2
    refine ⟨ρ2, S2, E, r2, RepE.ext x2 (RepE.ext x1 re), Go.mono (GoF.bind g2) ?_⟩
    rintro o3 H3 ⟨ρ3, S3, h, x3, r3, q3, g3⟩
    cases q3
    have q1' := (q1.ext x2).ext x3
    cases hv : viewL S3 x with
    | none => simp only [hv] at g3; exact g3.elim
    | some xs =>
      simp only [hv] at g3
      obtain ⟨a, us, rfl, t1, s1⟩ := viewL_ok r3 q1' hv
      exact ⟨a, us, rfl, .inl t1, fun p hp => GoF.list g3 r3 (s1.cut _ _) hp⟩
end
end PK
namespace PK
open PySem PySem.Spec PyProof.Rows L2

/-! ### what is walked -/
/-- J walks the values ds, whatever comes about -/
structure Walks (K : PySem.W.Frag) (G : Cls) (J : It) (ds : List D) (ρ : List (Option Addr)) (H : Hp) : Prop where
  stop : ∀ ρ' H', Ext ρ H ρ' H' → J.stop ds.length H'
  go : ∀ (i : Nat) d ρ' H', ds[i]? = some d → Ext ρ H ρ' H' → J.go i H' ∧ ∀ S x H2, Rep K G ρ' S H' → J.yld i H' x H2 → Ext ρ' H' ρ' H2 ∧ Rep K G ρ' S H2 ∧ RepV K G ρ' H2 d x
def tI (K : PySem.W.Frag) (G : Cls) (W : L2.WX) (m : Env → EM (List D)) : TI := fun σ H R => ∃ ρ S E, Rep K G ρ S H ∧ RepE K G ρ H E σ ∧ match m E S with
  | .ok ds S' => ∀ ρ' J H', Ext ρ H ρ' H' → Rep K G ρ' S' H' → Walks K G J ds ρ' H' → R J H'
  | .exc c fs S' => ∀ ρ' H' od, Ext ρ H ρ' H' → Rep K G ρ' S' H' → RepX K G ρ' H' fs od → W (.ref (G.addr c)) od σ H'
  | .stuck => False
theorem PI.weak {X : Cx} {tg e : Expr} {t t' : TI} (h : PI X tg e t) (i : ∀ σ H Q, t' σ H Q → t σ H Q) : PI X tg e t' := ⟨fun pins s σ H Q I q => h.run pins s σ H Q I (i σ H Q q)⟩
theorem PI.or {X : Cx} {tg e : Expr} {t t' : TI} (h : PI X tg e t) (h' : PI X tg e t') : PI X tg e fun σ H R => t σ H R ∨ t' σ H R := ⟨fun pins s σ H Q I q => q.elim (h.run pins s σ H Q I) (h'.run pins s σ H Q I)⟩
section
variable {K : PySem.W.Frag} {G : Cls} {ρ ρ' : List (Option Addr)} {S : List DO} {H H' : Hp} {W : L2.WX} {σ : L2.St}
/-- the walk's end: from values that a run gives -/
theorem tI_bind {α β : Type} {R' : List (Option Addr) → Hp → α → β → Prop} {m : Env → EM α} {k : Env → α → EM (List D)} {R : It → Hp → Prop} {E : Env} (rp : Rep K G ρ S H) (re : RepE K G ρ H E σ)
    (h : match EM.bind (m E) (k E) S with
      | .ok ds S' => ∀ ρ' J H', Ext ρ H ρ' H' → Rep K G ρ' S' H' → Walks K G J ds ρ' H' → R J H'
      | .exc c fs S' => ∀ ρ' H' od, Ext ρ H ρ' H' → Rep K G ρ' S' H' → RepX K G ρ' H' fs od → W (.ref (G.addr c)) od σ H'
      | .stuck => False) :
    tG K G R' W m σ H fun b H1 => ∃ ρ1 S1 a, Ext ρ H ρ1 H1 ∧ Rep K G ρ1 S1 H1 ∧ R' ρ1 H1 a b ∧ match k E a S1 with
      | .ok ds S' => ∀ ρ' J H', Ext ρ1 H1 ρ' H' → Rep K G ρ' S' H' → Walks K G J ds ρ' H' → R J H'
      | .exc c fs S' => ∀ ρ' H' od, Ext ρ1 H1 ρ' H' → Rep K G ρ' S' H' → RepX K G ρ' H' fs od → W (.ref (G.addr c)) od σ H'
      | .stuck => False := by
  refine ⟨ρ, S, E, rp, re, ?_⟩
  unfold EM.bind at h
  cases e : m E S with
  | ok a S' =>
    rw [e] at h
    refine fun ρ1 b H1 x1 r1 q => ⟨ρ1, S', a, x1, r1, q, ?_⟩
    have h' : (match k E a S' with
      | .ok ds S' => ∀ ρ' J H', Ext ρ H ρ' H' → Rep K G ρ' S' H' → Walks K G J ds ρ' H' → R J H'
      | .exc c fs S' => ∀ ρ' H' od, Ext ρ H ρ' H' → Rep K G ρ' S' H' → RepX K G ρ' H' fs od → W (.ref (G.addr c)) od σ H'
      | .stuck => False) := h
    cases e2 : k E a S' with
    | ok ds S2 => rw [e2] at h'; exact fun ρ' J H' x r w => h' ρ' J H' (x1.trans x) r w
    | exc c fs S2 => rw [e2] at h'; exact fun ρ' H' od x r w => h' ρ' H' od (x1.trans x) r w
    | stuck => rw [e2] at h'; exact h'
  | exc c fs S' => rw [e] at h; exact h
  | stuck => rw [e] at h; exact h
/-- a list, a tuple that stands -/
def StL (K : PySem.W.Frag) (ρ : List (Option Addr)) (H : Hp) (a : Addr) (us : List V) : Prop := ∀ ρ' H', Ext ρ H ρ' H' → SqL K H' a us
theorem StL.of {a : Addr} {us : List V} {o : Obj} (h : H a = some (.frz o (.lst us))) : StL K ρ H a us := fun ρ' H' x => .inl (.inr ⟨o, x.frzs _ _ _ h⟩)
theorem walks_list {a : Addr} {us : List V} {ds : List D} (h : StL K ρ H a us) (r : RepVs K G ρ H ds us) : Walks K G (Itl K a) ds ρ H where
  stop := fun ρ' H' x => ⟨us, h ρ' H' x, by rw [r.length]; exact Nat.le_refl _⟩
  go := fun i d ρ' H' e x => by
    obtain ⟨v, e', r'⟩ := r.get e
    refine ⟨⟨us, v, h ρ' H' x, e'⟩, fun S y H2 rp q => ?_⟩
    obtain ⟨rfl, q⟩ := q
    have := q us (h ρ' H2 x)
    rw [e'] at this; cases this
    exact ⟨Ext.refl _ _, rp, RepV.ext x r'⟩
theorem walks_tup {a : Addr} {us : List V} {ds : List D} (h : SqT K H a us) (r : RepVs K G ρ H ds us) : Walks K G (Itt K a) ds ρ H where
  stop := fun ρ' H' x => ⟨us, SqT.ext x h, by rw [r.length]; exact Nat.le_refl _⟩
  go := fun i d ρ' H' e x => by
    obtain ⟨v, e', r'⟩ := r.get e
    refine ⟨⟨us, v, SqT.ext x h, e'⟩, fun S y H2 rp q => ?_⟩
    obtain ⟨rfl, q⟩ := q
    have := q us (SqT.ext x h)
    rw [e'] at this; cases this
    exact ⟨Ext.refl _ _, rp, RepV.ext x r'⟩
def rangeD (lo : Int) (n : Nat) : List D := (List.range n).map fun i => .int (lo + (i : Nat))
theorem rangeD_get {lo : Int} {n i : Nat} {d : D} (e : (rangeD lo n)[i]? = some d) : i < n ∧ d = .int (lo + (i : Nat)) := by
  unfold rangeD at e
  rw [List.getElem?_map, Option.map_eq_some_iff] at e
  obtain ⟨j, e1, e2⟩ := e
  by_cases hi : i < n
  · rw [List.getElem?_range hi] at e1
    cases e1; exact ⟨hi, e2.symm⟩
  · rw [List.getElem?_eq_none (by simpa using Nat.le_of_not_lt hi)] at e1; cases e1
theorem walks_range (lo : Int) (n : Nat) : Walks K G (Itr lo n) (rangeD lo n) ρ H where
  stop := fun ρ' H' x => by simp [rangeD, Itr]
  go := fun i d ρ' H' e x => by
    obtain ⟨h1, rfl⟩ := rangeD_get e
    refine ⟨h1, fun S y H2 rp q => ?_⟩
    obtain ⟨rfl, rfl⟩ := q
    exact ⟨Ext.refl _ _, rp, .int _⟩
def rangeC (lo c : Int) (n : Nat) : List D := (List.range n).map fun i => .int (lo + (i : Nat) * c)
theorem rangeC_get {lo c : Int} {n i : Nat} {d : D} (e : (rangeC lo c n)[i]? = some d) : i < n ∧ d = .int (lo + (i : Nat) * c) := by
  unfold rangeC at e
  rw [List.getElem?_map, Option.map_eq_some_iff] at e
  obtain ⟨j, e1, e2⟩ := e
  by_cases hi : i < n
  · rw [List.getElem?_range hi] at e1
    cases e1; exact ⟨hi, e2.symm⟩
  · rw [List.getElem?_eq_none (by simpa using Nat.le_of_not_lt hi)] at e1; cases e1
theorem walks_rangeC (lo c : Int) (n : Nat) : Walks K G (Itc lo c n) (rangeC lo c n) ρ H where
  stop := fun ρ' H' x => by simp [rangeC, Itc]
  go := fun i d ρ' H' e x => by
    obtain ⟨h1, rfl⟩ := rangeC_get e
    refine ⟨h1, fun S y H2 rp q => ?_⟩
    obtain ⟨rfl, rfl⟩ := q
    exact ⟨Ext.refl _ _, rp, .int _⟩
theorem rev_get {us : List V} {ds : List D} (r : RepVs K G ρ H ds us) {i : Nat} {d : D} (e : ds.reverse[i]? = some d) : i < us.length ∧ ∃ v, us[us.length - 1 - i]? = some v ∧ RepV K G ρ H d v := by
  obtain ⟨v, e', r'⟩ := r.reverse.get e
  have hi : i < us.length := by
    have := (List.getElem?_eq_some_iff.mp e').1
    simpa using this
  rw [List.getElem?_reverse hi] at e'
  exact ⟨hi, v, e', r'⟩
theorem walks_revL {a : Addr} {us : List V} {ds : List D} (h : StL K ρ H a us) (r : RepVs K G ρ H ds us) : Walks K G (Itv K a us.length) ds.reverse ρ H where
  stop := fun ρ' H' x => by
    have := r.length
    simp [Itv, this]
  go := fun i d ρ' H' e x => by
    obtain ⟨hi, v, e', r'⟩ := rev_get r e
    refine ⟨⟨hi, us, v, h ρ' H' x, e'⟩, fun S y H2 rp q => ?_⟩
    obtain ⟨rfl, q⟩ := q
    have := q us (h ρ' H2 x)
    rw [e'] at this; cases this
    exact ⟨Ext.refl _ _, rp, RepV.ext x r'⟩
theorem walks_revT {a : Addr} {us : List V} {ds : List D} (h : SqT K H a us) (r : RepVs K G ρ H ds us) : Walks K G (RT.ItvT K a us.length) ds.reverse ρ H where
  stop := fun ρ' H' x => by
    have := r.length
    simp [RT.ItvT, this]
  go := fun i d ρ' H' e x => by
    obtain ⟨hi, v, e', r'⟩ := rev_get r e
    refine ⟨⟨hi, us, v, SqT.ext x h, e'⟩, fun S y H2 rp q => ?_⟩
    obtain ⟨rfl, q⟩ := q
    have := q us (SqT.ext x h)
    rw [e'] at this; cases this
    exact ⟨Ext.refl _ _, rp, RepV.ext x r'⟩
def pairD (x y : D) : D := .tup [x, y]
theorem zip_get {us vs : List V} {xs ys : List D} (r : RepVs K G ρ H xs us) (r' : RepVs K G ρ H ys vs) {i : Nat} {d : D} (e : (List.zipWith pairD xs ys)[i]? = some d) :
    ∃ x y u v, d = .tup [x, y] ∧ us[i]? = some u ∧ vs[i]? = some v ∧ RepV K G ρ H x u ∧ RepV K G ρ H y v := by
  rw [List.getElem?_zipWith] at e
  cases h1 : xs[i]? with
  | none => rw [h1] at e; cases e
  | some x =>
    cases h2 : ys[i]? with
    | none => rw [h1, h2] at e; cases e
    | some y =>
      rw [h1, h2] at e
      cases e
      obtain ⟨u, e1, q1⟩ := r.get h1
      obtain ⟨v, e2, q2⟩ := r'.get h2
      exact ⟨x, y, u, v, rfl, e1, e2, q1, q2⟩
theorem walks_zipL {a b : Addr} {us vs : List V} {xs ys : List D} (h : StL K ρ H a us) (h' : StL K ρ H b vs) (r : RepVs K G ρ H xs us) (r' : RepVs K G ρ H ys vs) : Walks K G (Itz K a b) (List.zipWith pairD xs ys) ρ H where
  stop := fun ρ' H' x => ⟨us, vs, h ρ' H' x, h' ρ' H' x, by have := r.length; have := r'.length; simp; omega⟩
  go := fun i d ρ' H' e x => by
    obtain ⟨p, q, u, v, rfl, e1, e2, q1, q2⟩ := zip_get r r' e
    refine ⟨⟨us, vs, u, v, h ρ' H' x, h' ρ' H' x, e1, e2⟩, fun S y H2 rp q => ?_⟩
    obtain ⟨T, u', v', rfl, hT, rfl, k1, k2⟩ := q
    have z1 := k1 us (h ρ' H' x)
    have z2 := k2 vs (h' ρ' H' x)
    rw [e1] at z1; cases z1
    rw [e2] at z2; cases z2
    exact ⟨Ext.laid hT, rp.laid hT, .tup (SqT.of upd_same) (.cons (RepV.ext (Ext.laid hT) (RepV.ext x q1)) (.cons (RepV.ext (Ext.laid hT) (RepV.ext x q2)) .nil))⟩
theorem walks_zipT {a b : Addr} {us vs : List V} {xs ys : List D} (h : SqT K H a us) (h' : SqT K H b vs) (r : RepVs K G ρ H xs us) (r' : RepVs K G ρ H ys vs) : Walks K G (RZ.ItzT K a b) (List.zipWith pairD xs ys) ρ H where
  stop := fun ρ' H' x => ⟨us, vs, SqT.ext x h, SqT.ext x h', by have := r.length; have := r'.length; simp; omega⟩
  go := fun i d ρ' H' e x => by
    obtain ⟨p, q, u, v, rfl, e1, e2, q1, q2⟩ := zip_get r r' e
    refine ⟨⟨us, vs, u, v, SqT.ext x h, SqT.ext x h', e1, e2⟩, fun S y H2 rp q => ?_⟩
    obtain ⟨T, u', v', rfl, hT, rfl, k1, k2⟩ := q
    have z1 := k1 us (SqT.ext x h)
    have z2 := k2 vs (SqT.ext x h')
    rw [e1] at z1; cases z1
    rw [e2] at z2; cases z2
    exact ⟨Ext.laid hT, rp.laid hT, .tup (SqT.of upd_same) (.cons (RepV.ext (Ext.laid hT) (RepV.ext x q1)) (.cons (RepV.ext (Ext.laid hT) (RepV.ext x q2)) .nil))⟩
def enumD (lo : Nat) : List D → List D
  | [] => []
  | x :: xs => .tup [.int (lo : Nat), x] :: enumD (lo + 1) xs
theorem enumD_length : ∀ (xs : List D) (lo : Nat), (enumD lo xs).length = xs.length
  | [], _ => rfl
  | x :: xs, lo => by simp [enumD, enumD_length xs]
theorem enumD_get : ∀ {xs : List D} {lo i : Nat} {d : D}, (enumD lo xs)[i]? = some d → ∃ x, xs[i]? = some x ∧ d = .tup [.int ((lo + i : Nat) : Int), x]
  | [], _, _, _, e => by simp [enumD] at e
  | x :: xs, lo, 0, d, e => by simp [enumD] at e; exact ⟨x, rfl, e.symm⟩
  | x :: xs, lo, i + 1, d, e => by
    simp [enumD] at e
    obtain ⟨y, h1, h2⟩ := enumD_get (xs := xs) (lo := lo + 1) (i := i) e
    refine ⟨y, by simpa using h1, ?_⟩
    rw [h2, show lo + 1 + i = lo + (i + 1) by omega]
theorem walks_enum {a : Addr} {us : List V} {ds : List D} (h : StL K ρ H a us) (r : RepVs K G ρ H ds us) : Walks K G (Ite K a) (enumD 0 ds) ρ H where
  stop := fun ρ' H' x => ⟨us, h ρ' H' x, by rw [enumD_length, r.length]; exact Nat.le_refl _⟩
  go := fun i d ρ' H' e x => by
    obtain ⟨y, e1, rfl⟩ := enumD_get e
    obtain ⟨v, e', r'⟩ := r.get e1
    refine ⟨⟨us, v, h ρ' H' x, e'⟩, fun S y H2 rp q => ?_⟩
    obtain ⟨T, u', rfl, hT, rfl, k1⟩ := q
    have z1 := k1 us (h ρ' H' x)
    rw [e'] at z1; cases z1
    refine ⟨Ext.laid hT, rp.laid hT, .tup (SqT.of upd_same) (.cons ?_ (.cons (RepV.ext (Ext.laid hT) (RepV.ext x r')) .nil))⟩
    rw [Nat.zero_add]
    exact .int _
end
/-! ### the walks of the text -/
def seqO : D → Option (List D)
  | .lst xs => some xs
  | .tup xs => some xs
  | _ => none
def eSeq (m : Env → EM D) : Env → EM (List D) := fun E => EM.bind (m E) fun d => EM.ofO (seqO d)
def eRev (m : Env → EM D) : Env → EM (List D) := fun E => EM.bind (m E) fun d => EM.ofO ((seqO d).map List.reverse)
def small62 (i : Int) : Bool := decide (-(2 ^ 62) ≤ i) && decide (i < 2 ^ 62)
def rng1O : List D → Option (List D)
  | [.int j] => if small62 j = true then some (rangeD 0 j.toNat) else none
  | _ => none
def rng2O : List D → Option (List D)
  | [.int i, .int j] => if small62 i = true ∧ small62 j = true then some (rangeD i (j - i).toNat) else none
  | _ => none
def revR (a b : Int) : List D := rangeC (a + (((b - a).toNat : Nat) : Int) - 1) (-1) (b - a).toNat
def rev1O : D → Option (List D)
  | .int j => if small62 j = true then some (revR 0 j) else none
  | _ => none
def zipO : List D → Option (List D)
  | [.lst xs, .lst ys] => some (List.zipWith pairD xs ys)
  | [.tup xs, .tup ys] => some (List.zipWith pairD xs ys)
  | _ => none
def enumO : List D → Option (List D)
  | [.lst xs] => some (enumD 0 xs)
  | _ => none
def eOf {α : Type} (f : α → Option (List D)) (m : Env → EM α) : Env → EM (List D) := fun E => EM.bind (m E) fun d => EM.ofO (f d)
section
variable {X : Cx} {G : Cls} {W : L2.WX} {tg e : Expr} {me : Env → EM D} {ms : Env → EM (List D)} {p pos : Pos}
theorem small62_iff {i : Int} (h : small62 i = true) : -(2 ^ 62) ≤ i ∧ i < 2 ^ 62 := by
  unfold small62 at h
  simpa using h
/-- from values by a partial function -/
theorem tI_of {α β : Type} {R' : List (Option Addr) → Hp → α → β → Prop} {f : α → Option (List D)} {m : Env → EM α} {σ : L2.St} {H : Hp} {R : It → Hp → Prop} {Q : β → Hp → Prop}
    (hf : ∀ (ρ : List (Option Addr)) (S : List DO) (H : Hp) (a : α) (b : β) (ds : List D), Rep X.K G ρ S H → R' ρ H a b → f a = some ds → (∀ J, Walks X.K G J ds ρ H → R J H) → Q b H) (h : tI X.K G W (eOf f m) σ H R) : tG X.K G R' W m σ H Q := by
  obtain ⟨ρ, S, E, rp, re, g⟩ := h
  obtain ⟨ρ, S, E, rp, re, g⟩ := tI_bind (R' := R') (m := m) (k := fun _ d => EM.ofO (f d)) rp re g
  refine ⟨ρ, S, E, rp, re, Go.mono g ?_⟩
  rintro b H1 ⟨ρ1, S1, a, x1, r1, q1, g1⟩
  cases hd : f a with
  | none => rw [hd] at g1; exact g1.elim
  | some ds =>
    rw [hd] at g1
    exact hf ρ1 S1 H1 a b ds r1 q1 hd fun J w => g1 ρ1 J H1 (Ext.refl _ _) r1 w
theorem pi_seqM (he : PE X e (tM X.K G W me)) : PI X tg e (tI X.K G W (eOf seqO me)) :=
  PI.weak (PI.or (pi_list he) (pi_tup he)) fun σ H R h => by
    -- which of the two is told by the value
    obtain ⟨ρ, S, E, rp, re, g⟩ := id h
    unfold eOf EM.bind at g
    cases hm : me E S with
    | stuck => rw [hm] at g; exact g.elim
    | exc c fs S' =>
      refine .inl ⟨ρ, S, E, rp, re, ?_⟩
      rw [hm] at g ⊢; exact g
    | ok d S' =>
      rw [hm] at g
      cases d with
      | lst xs =>
        refine .inl ⟨ρ, S, E, rp, re, ?_⟩
        rw [hm]
        intro ρ1 v H1 x1 r1 q1
        obtain ⟨a, us, o, rfl, h1, h2⟩ := q1.lst_inv
        exact ⟨a, rfl, ⟨us, .inl (.inr ⟨o, h1⟩)⟩, g ρ1 _ H1 x1 r1 (walks_list (StL.of h1) h2)⟩
      | tup xs =>
        refine .inr ⟨ρ, S, E, rp, re, ?_⟩
        rw [hm]
        intro ρ1 v H1 x1 r1 q1
        obtain ⟨a, us, rfl, h1, h2⟩ := q1.tup_inv
        exact ⟨a, rfl, ⟨us, h1⟩, g ρ1 _ H1 x1 r1 (walks_tup h1 h2)⟩
      | _ => exact g.elim
theorem pi_rng1M {a : Expr} (hg : Gl X "range") (hm : X.mg "range" = none) (ha : PA X [a] (tA X.K G W ms)) (hs : starEach [a] X.env = [(false, eval a X.env)]) : PI X tg (.Call (.Name "range" p) [a] [] pos) (tI X.K G W (eOf rng1O ms)) :=
  PI.weak (pi_range1 hg hm ha hs) fun σ H R h => tI_of (R' := RDs X.K G) (fun ρ S H1 xs vs ds rp q e k => by
    unfold rng1O at e
    split at e
    · split at e
      · rename_i hb
        cases e
        obtain ⟨v, rfl, q1⟩ := q.one
        have b := small62_iff hb
        exact ⟨_, by rw [q1.int_inv], b.1, b.2, k _ (walks_range 0 _)⟩
      · cases e
    · cases e) h
theorem pi_rng2M {a b : Expr} (hg : Gl X "range") (hm : X.mg "range" = none) (ha : PA X [a, b] (tA X.K G W ms)) (hs : starEach [a, b] X.env = [(false, eval a X.env), (false, eval b X.env)]) (hs2 : starEach [b] X.env = [(false, eval b X.env)]) : PI X tg (.Call (.Name "range" p) [a, b] [] pos) (tI X.K G W (eOf rng2O ms)) :=
  PI.weak (pi_range2 hg hm ha hs hs2) fun σ H R h => tI_of (R' := RDs X.K G) (fun ρ S H1 xs vs ds rp q e k => by
    unfold rng2O at e
    split at e
    · split at e
      · rename_i hb
        cases e
        obtain ⟨v, v', rfl, q1, q2⟩ := q.two
        have b1 := small62_iff hb.1
        have b2 := small62_iff hb.2
        exact ⟨_, _, by rw [q1.int_inv, q2.int_inv], ⟨b1.1, b1.2, b2.1, b2.2⟩, k _ (walks_range _ _)⟩
      · cases e
    · cases e) h
/-- reversed(range(n)) -/
theorem pi_revRM {a : Expr} {p2 pos2 : Pos} (hg : Gl X "reversed") (hm : X.mg "reversed" = none) (hg2 : Gl X "range") (hm2 : X.mg "range" = none) (ha : PE X a (tM X.K G W me)) (na : starEach [a] X.env = (false, eval a X.env) :: starEach [] X.env) : PI X tg (.Call (.Name "reversed" p) [.Call (.Name "range" p2) [a] [] pos2] [] pos) (tI X.K G W (eOf rev1O me)) :=
  PI.weak (pi_revR hg hm (prg_1 hg2 hm2 ha na) rfl) fun σ H R h => tI_of (R' := RD X.K G) (fun ρ S H1 x v ds rp q e k => by
    unfold rev1O at e
    split at e
    · split at e
      · rename_i j hb
        cases e
        have b := small62_iff hb
        exact ⟨j, q.int_inv, by decide, by decide, b.1, b.2, k _ (walks_rangeC _ _ _)⟩
      · cases e
    · cases e) h
theorem pi_revM (hg : Gl X "reversed") (hm : X.mg "reversed" = none) (he : PE X e (tM X.K G W me)) (hs : starEach [e] X.env = (false, eval e X.env) :: starEach [] X.env) : PI X tg (.Call (.Name "reversed" p) [e] [] pos) (tI X.K G W (eOf (fun d => (seqO d).map List.reverse) me)) :=
  PI.weak (RT.pi_revA hg hm he hs) fun σ H R h => tI_of (R' := RD X.K G) (fun ρ S H1 x v ds rp q e k => by
    cases x with
    | lst xs =>
      cases e
      obtain ⟨a, us, o, rfl, h1, h2⟩ := q.lst_inv
      exact ⟨a, us, rfl, .inl ⟨.inl (.inr ⟨o, h1⟩), k _ (walks_revL (StL.of h1) h2)⟩⟩
    | tup xs =>
      cases e
      obtain ⟨a, us, rfl, h1, h2⟩ := q.tup_inv
      exact ⟨a, us, rfl, .inr ⟨h1, k _ (walks_revT h1 h2)⟩⟩
    | _ => cases e) h
theorem pi_zipM {e e2 : Expr} {elts : List Expr} {kk : Nat} {tpos : Pos} (hg : Gl X "zip") (hm : X.mg "zip" = none) (ha : PA X [e, e2] (tA X.K G W ms)) (hs : starEach [e, e2] X.env = (false, eval e X.env) :: starEach [e2] X.env) (hpl : (backTo pos (starEach [e2] X.env)).any (·.1) = false) :
    PI X (.Tuple elts kk tpos) (.Call (.Name "zip" p) [e, e2] [] pos) (tI X.K G W (eOf zipO ms)) :=
  PI.weak (RZ.pi_zipA hg hm ha hs hpl) fun σ H R h => tI_of (R' := RDs X.K G) (fun ρ S H1 xs vs ds rp q e k => by
    unfold zipO at e
    split at e
    · cases e
      obtain ⟨v, v', rfl, q1, q2⟩ := q.two
      obtain ⟨a, us, o, rfl, h1, h2⟩ := q1.lst_inv
      obtain ⟨b, ws, o', rfl, h3, h4⟩ := q2.lst_inv
      exact ⟨a, b, us, ws, rfl, .inl ⟨.inl (.inr ⟨o, h1⟩), .inl (.inr ⟨o', h3⟩), k _ (walks_zipL (StL.of h1) (StL.of h3) h2 h4)⟩⟩
    · cases e
      obtain ⟨v, v', rfl, q1, q2⟩ := q.two
      obtain ⟨a, us, rfl, h1, h2⟩ := q1.tup_inv
      obtain ⟨b, ws, rfl, h3, h4⟩ := q2.tup_inv
      exact ⟨a, b, us, ws, rfl, .inr ⟨h1, h3, k _ (walks_zipT h1 h3 h2 h4)⟩⟩
    · cases e) h
theorem pi_enumM {e : Expr} {elts : List Expr} {kk : Nat} {tpos : Pos} (hg : Gl X "enumerate") (hm : X.mg "enumerate" = none) (ha : PA X [e] (tA X.K G W ms)) (hs : starEach [e] X.env = [(false, eval e X.env)]) :
    PI X (.Tuple elts kk tpos) (.Call (.Name "enumerate" p) [e] [] pos) (tI X.K G W (eOf enumO ms)) :=
  PI.weak (pi_enum hg hm ha hs) fun σ H R h => tI_of (R' := RDs X.K G) (fun ρ S H1 xs vs ds rp q e k => by
    unfold enumO at e
    split at e
    · cases e
      obtain ⟨v, rfl, q1⟩ := q.one
      obtain ⟨a, us, o, rfl, h1, h2⟩ := q1.lst_inv
      exact ⟨a, us, rfl, .inl (.inr ⟨o, h1⟩), k _ (walks_enum (StL.of h1) h2)⟩
    · cases e) h
end
end PK
namespace PK
open PySem PySem.Spec PyProof.Rows L2

/-! ### dicts with tuple keys, in the machine -/
section
variable {X : Cx} {G : Cls} {ρ : List (Option Addr)} {H : Hp} {s : Shared} {pins : List (Addr × Obj)} {σ : L2.St}
theorem tupAt (I : Inv X pins σ H s) {a : Addr} {us : List V} (h : SqT X.K H a us) : ∃ (o : Obj) (vs : Array Value) (n : Nat), s.heap.get? a = some o ∧ o.cls = .type "tuple" ∧ o.data = .seq vs n ∧ Vals us vs.toList := by
  rcases h with h | ⟨o, its, n, h1, h2, h3, h4, h5⟩
  · obtain ⟨_, its, r, o, e, c, n, d⟩ := h.ok I.hok
    exact ⟨o, _, n, e, c, d, by simpa using r⟩
  · exact ⟨o, its, n, I.kIn _ _ h1, h2, h3, h5⟩
mutual
theorem key_is (I : Inv X pins σ H s) : ∀ {d : D} {kn : NestedKey} {v : V} {u : Value}, RepV X.K G ρ H d v → nkey d = some kn → RelV v u → NestedIs s.heap kn u
  | .non, kn, v, u, q, e, r => by
    cases q
    simp only [nkey, Option.some.injEq] at e
    subst e
    cases (show u = Value.none from r)
    exact .none
  | .int i, kn, v, u, q, e, r => by
    rw [q.int_inv] at r
    simp only [nkey, Option.some.injEq] at e
    subst e
    obtain ⟨t, rfl⟩ := (show ∃ t, u = Value.int i t from r)
    exact .int i t
  | .str x, kn, v, u, q, e, r => by
    rw [q.str_inv] at r
    simp only [nkey, Option.some.injEq] at e
    subst e
    obtain ⟨t, rfl⟩ := (show ∃ t, u = Value.str x t from r)
    exact .text x t
  | .tup ds, kn, v, u, q, e, r => by
    obtain ⟨a, us, rfl, h1, h2⟩ := q.tup_inv
    cases (show u = Value.ref a from r)
    simp only [nkey] at e
    cases hk : nkeys ds with
    | none => rw [hk] at e; cases e
    | some ks =>
      rw [hk] at e
      cases e
      obtain ⟨o, vs, n, e1, e2, e3, e4⟩ := tupAt I h1
      exact .tup e1 e2 e3 (keys_is I h2 hk e4)
  | .bl _, _, _, _, _, e, _ => by simp [nkey] at e
  | .lst _, _, _, _, _, e, _ => by simp [nkey] at e
  | .dct _, _, _, _, _, e, _ => by simp [nkey] at e
  | .ins _ _, _, _, _, _, e, _ => by simp [nkey] at e
  | .ref _, _, _, _, _, e, _ => by simp [nkey] at e
  | .scr _, _, _, _, _, e, _ => by simp [nkey] at e
theorem keys_is (I : Inv X pins σ H s) : ∀ {ds : List D} {ks : List NestedKey} {vs : List V} {us : List Value}, RepVs X.K G ρ H ds vs → nkeys ds = some ks → Vals vs us → NestedAll s.heap ks us
  | [], ks, vs, us, q, e, r => by
    cases q
    cases r
    simp only [nkeys, Option.some.injEq] at e
    subst e
    exact .nil
  | d :: ds, ks, vs, us, q, e, r => by
    cases q with
    | cons q qs =>
      cases r with
      | cons r rs =>
        simp only [nkeys] at e
        cases h1 : nkey d with
        | none => rw [h1] at e; cases e
        | some k =>
          cases h2 : nkeys ds with
          | none => rw [h1, h2] at e; cases e
          | some ks' =>
            rw [h1, h2] at e
            cases e
            exact .cons (key_is I q h1 r) (keys_is I qs h2 rs)
end
theorem key_at (I : Inv X pins σ H s) {d : D} {kn : NestedKey} {a : Addr} (q : RepV X.K G ρ H d (.ref a)) (e : nkey d = some kn) (hd : kn.depth ≤ 8) : (nestedKind X.prog X.w).is s.heap kn a := ⟨key_is I q e rfl, hd⟩
theorem RepT.is (I : Inv X pins σ H s) : ∀ {kvs : List (D × D)} {xs : List (NestedKey × Addr × Value)}, RepT X.K G ρ H kvs xs → ∀ x ∈ xs, (nestedKind X.prog X.w).is s.heap x.1 x.2.1
  | _, _, .nil, x, hx => by cases hx
  | _, _, .cons nk dp hk h rel r, x, hx => by
    rcases List.mem_cons.mp hx with e | hx
    · subst e; exact key_at I hk nk dp
    · exact RepT.is I r x hx
theorem dict_at (I : Inv X pins σ H s) {a : Addr} {kvs : List (D × D)} {xs : List (NestedKey × Addr × Value)} (h : Rd H a (.ext (DkO X.prog X.w a xs))) (r : RepT X.K G ρ H kvs xs) :
    s.heap.DictOfH (nestedKind X.prog X.w) a xs ∧ (a == sysModules) = false ∧ xs.length ≤ sizeLine := by
  obtain ⟨⟨h1, h2, h3, o, es, ep, e1, e2, e3, e4⟩, _, _⟩ := h.ok I.hok
  exact ⟨⟨o, es, ep, e1, e2, e3, e4, RepT.is I r, h3⟩, h1, h2⟩
/-! look-ups by keys, on both sides -/
def keyEq (x y : D) : Bool := match nkey x, nkey y with
  | some a, some b => decide (a = b)
  | _, _ => false
def dget (kvs : List (D × D)) (k : D) : Option D := match kvs with
  | [] => none
  | (a, b) :: r => if keyEq a k = true then some b else dget r k
def dput (kvs : List (D × D)) (k v : D) : List (D × D) := match kvs with
  | [] => [(k, v)]
  | (a, b) :: r => if keyEq a k = true then (a, v) :: r else (a, b) :: dput r k v
theorem RepT.get {K : PySem.W.Frag} {k : D} {kn : NestedKey} (nk : nkey k = some kn) : ∀ {kvs : List (D × D)} {xs : List (NestedKey × Addr × Value)}, RepT K G ρ H kvs xs →
    (dget kvs k = none ∧ valueAt (pairsH xs) kn = none) ∨ ∃ d vv v, dget kvs k = some d ∧ valueAt (pairsH xs) kn = some v ∧ RepV K G ρ H d vv ∧ RelV vv v
  | _, _, .nil => .inl ⟨rfl, rfl⟩
  | _, _, .cons (kd := kd) (kn := kn') nk' dp hk h rel r => by
    unfold dget
    by_cases e : kn' = kn
    · right
      have : keyEq kd k = true := by unfold keyEq; rw [nk', nk]; simpa using e
      rw [if_pos this]
      exact ⟨_, _, _, rfl, by simp [pairsH, valueAt, e], h, rel⟩
    · have : keyEq kd k = false := by unfold keyEq; rw [nk', nk]; simpa using e
      rw [this, if_neg Bool.false_ne_true]
      rcases RepT.get nk r with ⟨h1, h2⟩ | ⟨d, vv, v, h1, h2, h3, h4⟩
      · exact .inl ⟨h1, by simpa [pairsH, valueAt, e] using h2⟩
      · exact .inr ⟨d, vv, v, h1, by simpa [pairsH, valueAt, e] using h2, h3, h4⟩
theorem storedH_cons {x : NestedKey × Addr × Value} {xs : List (NestedKey × Addr × Value)} {k : NestedKey} {a : Addr} {v : Value} (nd : ((x :: xs).map (·.1)).Nodup) :
    storedH (x :: xs) k a v = if x.1 = k then (x.1, x.2.1, v) :: xs else x :: storedH xs k a v := by
  simp only [List.map_cons, List.nodup_cons] at nd
  by_cases e : x.1 = k
  · rw [if_pos e]
    have h1 : (atKey (x :: xs) k).isSome = true := by simp [atKey, e]
    unfold storedH
    rw [if_pos h1, List.map_cons]
    have h2 : putAt k v x = (x.1, x.2.1, v) := by unfold putAt; rw [if_pos e]
    have h3 : xs.map (putAt k v) = xs := by
      conv => rhs; rw [← List.map_id xs]
      refine List.map_congr_left fun y hy => ?_
      have : y.1 ≠ k := fun z => nd.1 (by rw [e, ← z]; exact List.mem_map_of_mem hy)
      unfold putAt
      rw [if_neg this]
      rfl
    rw [h2, h3]
  · rw [if_neg e]
    have h1 : atKey (x :: xs) k = atKey xs k := by simp [atKey, e]
    unfold storedH
    rw [h1]
    have h2 : putAt k v x = x := by unfold putAt; rw [if_neg e]
    split
    · rw [List.map_cons, h2]
    · rfl
theorem RepT.put {K : PySem.W.Frag} {k d : D} {kn : NestedKey} {ka : Addr} {vv : V} {v : Value} (nk : nkey k = some kn) (dp : kn.depth ≤ 8) (hk : RepV K G ρ H k (.ref ka)) (h : RepV K G ρ H d vv) (rel : RelV vv v) :
    ∀ {kvs : List (D × D)} {xs : List (NestedKey × Addr × Value)}, RepT K G ρ H kvs xs → (xs.map (·.1)).Nodup → RepT K G ρ H (dput kvs k d) (storedH xs kn ka v)
  | _, _, .nil, _ => .cons nk dp hk h rel .nil
  | _, _, .cons (kd := kd) (kn := kn') nk' dp' hk' h' rel' r, nd => by
    rw [storedH_cons nd]
    unfold dput
    by_cases e : kn' = kn
    · have : keyEq kd k = true := by unfold keyEq; rw [nk', nk]; simpa using e
      rw [if_pos this, if_pos e]
      exact .cons nk' dp' hk' h rel r
    · have : keyEq kd k = false := by unfold keyEq; rw [nk', nk]; simpa using e
      rw [this, if_neg Bool.false_ne_true, if_neg e]
      exact .cons nk' dp' hk' h' rel' (RepT.put nk dp hk h rel r (by simp only [List.map_cons, List.nodup_cons] at nd; exact nd.2))
theorem dput_len (k v : D) : ∀ kvs : List (D × D), (dput kvs k v).length ≤ kvs.length + 1
  | [] => by simp [dput]
  | (a, b) :: r => by
    unfold dput
    split
    · simp
    · have := dput_len k v r
      simp only [List.length_cons]
      omega
theorem RepT.len {K : PySem.W.Frag} : ∀ {kvs : List (D × D)} {xs : List (NestedKey × Addr × Value)}, RepT K G ρ H kvs xs → kvs.length = xs.length
  | _, _, .nil => rfl
  | _, _, .cons _ _ _ _ _ r => congrArg Nat.succ r.len
/-- the tuple keys -/
def tkey (d : D) : Option NestedKey := match d with
  | .tup ds => match nkey (.tup ds) with
    | some k => if k.depth ≤ 8 then some k else none
    | none => none
  | _ => none
theorem tkey_ok {d : D} {kn : NestedKey} (h : tkey d = some kn) : nkey d = some kn ∧ kn.depth ≤ 8 ∧ ∃ ds, d = .tup ds := by
  unfold tkey at h
  split at h
  · split at h
    · rename_i k e
      split at h
      · cases h; exact ⟨e, ‹_›, _, rfl⟩
      · cases h
    · cases h
  · cases h
/-- an empty dict is one of tuple keys -/
theorem dk_nil {P : Program} {w : World} {h : Heap} {a : Addr} (x : ObjOk P w H h a (.dK [])) : DkO P w a [] h := by
  obtain ⟨_, hd, vs, rel, o, es, ep, e1, e2, e3, _, e5, _⟩ := x
  cases rel
  refine ⟨hd, Nat.zero_le _, List.nodup_nil, o, es, ep, e1, e2, e3, ?_⟩
  have := e5.length
  rw [List.length_nil, Array.length_toList] at this
  have e : es = #[] := Array.eq_empty_of_size_eq_zero this
  rw [e]
  rfl
theorem ext_ok {P : Program} {w : World} {h : Heap} {a : Addr} {xs : List (NestedKey × Addr × Value)} (x : DkO P w a xs h) : ObjOk P w H h a (.ext (DkO P w a xs)) := by
  refine ⟨x, ?_, fun h1 h2 y k => ?_⟩
  · obtain ⟨_, _, _, o, _, _, e, _⟩ := x
    exact ⟨o, e⟩
  · obtain ⟨y1, y2, y3, o, es, ep, e1, e2⟩ := y
    exact ⟨y1, y2, y3, o, es, ep, k o e1, e2⟩
/-- d[k] = v of a cell, k a tuple -/
theorem set_dT (hp : X.prog = G.prog) (hw : X.w = G.world) (hu : X.A.units + 64 < cLine) (I : Inv X pins σ H s) {a : Addr} {u : HO} {kvs : List (D × D)} (ha : H a = some u) (mu : Mut (some u)) (r : RepD X.K G ρ H a kvs u) (hkv : ∀ q ∈ kvs, (tkey q.1).isSome = true)
    {k d : D} {kn : NestedKey} {kv vv : V} {iv v : Value} (nk : tkey k = some kn) (hk : RepV X.K G ρ H k kv) (rk : RelV kv iv) (hv : RepV X.K G ρ H d vv) (rv : RelV vv v) (hl : kvs.length < 16777216) {Q : Hp → Prop}
    (q : ∀ u', Mut (some u') → (∀ ρ' H', Ext ρ H ρ' H' → RepD X.K G ρ' H' a (dput kvs k d) u') → Q (upd H a u')) :
    wpAny (model X.prog X.w) X.A (setItem (.ref a) iv v) (fun _ s' => ∃ H', Inv X pins σ H' s' ∧ Q H') X.xe s := by
  obtain ⟨k1, k2, ds, e3⟩ := tkey_ok nk
  subst e3
  obtain ⟨ka, us, rfl, _, _⟩ := hk.tup_inv
  cases (show iv = Value.ref ka from rk)
  have go : ∀ xs, DkO X.prog X.w a xs s.heap → RepT X.K G ρ H kvs xs → wpAny (model X.prog X.w) X.A (setItem (.ref a) (.ref ka) v) (fun _ s' => ∃ H', Inv X pins σ H' s' ∧ Q H') X.xe s := by
    intro xs hx hr
    obtain ⟨h1, h2, h3, o, es, ep, e1, e2, e4, e5⟩ := hx
    have hz : xs.length < sizeLine := by rw [← hr.len, sizeLine_eq]; exact hl
    refine wpAny_setItem_heap (hsz := Nat.le_of_lt hz) (knd := nestedKind X.prog X.w) (show X.A.in1.units + 8 < cLine by show X.A.units + 1 + 8 < cLine; omega) (key_at I hk k1 k2) ⟨o, es, ep, e1, e2, e4, e5, RepT.is I hr, h3⟩ fun h' dd sb => ?_
    obtain ⟨o', es', ep', f1, f2, f3, f4, _, f6⟩ := dd
    have hlen : (storedH xs kn ka v).length ≤ sizeLine := by
      have : (storedH xs kn ka v).length ≤ xs.length + 1 := by
        unfold storedH
        split <;> simp
      omega
    have new : DkO X.prog X.w a (storedH xs kn ka v) h' := ⟨h1, hlen, f6, o', es', ep', f1, f2, f3, f4⟩
    refine ⟨_, d_write I (by rw [ha]; exact mu) sb ⟨o', f1⟩ (ext_ok new), q _ trivial fun ρ' H' x => ?_⟩
    rw [hp, hw]
    exact .t (RepT.ext x (RepT.put k1 k2 hk hv rv hr h3))
  cases r with
  | t r =>
    obtain ⟨hx, _, _⟩ := I.hok a _ ha
    refine go _ ?_ r
    rw [hp, hw]
    exact hx
  | k r =>
    cases r with
    | nil => exact go [] (dk_nil (I.hok a _ ha)) .nil
    | int h r => have := hkv _ (List.mem_cons_self ..); simp [tkey] at this
    | str h r => have := hkv _ (List.mem_cons_self ..); simp [tkey] at this
/-! reading -/
def viewD (S : List DO) : D → Option (List (D × D))
  | .dct kvs => some kvs
  | .ref r => match S[r]? with
    | some (.dct kvs) => some kvs
    | some (.lkd kvs) => some kvs
    | _ => none
  | _ => none
theorem viewD_ok {K : PySem.W.Frag} {S : List DO} {d : D} {v : V} {kvs : List (D × D)} (rp : Rep K G ρ S H) (h : RepV K G ρ H d v) (e : viewD S d = some kvs) : ∃ a u, v = .ref a ∧ Rd H a u ∧ RepD K G ρ H a kvs u := by
  unfold viewD at e
  split at e
  · cases e
    obtain ⟨a, o, u, rfl, h1, h2⟩ := h.dct_inv
    exact ⟨a, u, rfl, .inr ⟨o, h1⟩, h2⟩
  · rename_i r
    split at e
    · rename_i kvs' hS
      cases e
      obtain ⟨a, u, rfl, _, h1, _, h2⟩ := rp.at h hS trivial
      exact ⟨a, u, rfl, .inl h1, h2⟩
    · rename_i kvs' hS
      cases e
      obtain ⟨a, u, rfl, _, h1, od, u', rfl, _, h2⟩ := rp.atL h hS (by intro z; cases z)
      exact ⟨a, u', rfl, .inr ⟨od, h1⟩, h2⟩
    · cases e
  · cases e
/-- all keys are tuples -/
def tkeys (kvs : List (D × D)) : Bool := kvs.all fun q => (tkey q.1).isSome
theorem dict_read (hp : X.prog = G.prog) (hw : X.w = G.world) (I : Inv X pins σ H s) {a : Addr} {u : HO} {kvs : List (D × D)} (h : Rd H a u) (r : RepD X.K G ρ H a kvs u) (ht : tkeys kvs = true) :
    ∃ xs, RepT X.K G ρ H kvs xs ∧ s.heap.DictOfH (nestedKind X.prog X.w) a xs ∧ (a == sysModules) = false ∧ xs.length ≤ sizeLine := by
  cases r with
  | @t a kvs xs r =>
    have h' : Rd H a (.ext (DkO X.prog X.w a xs)) := by rw [hp, hw]; exact h
    exact ⟨xs, r, dict_at I h' r⟩
  | k r =>
    cases r with
    | nil =>
      obtain ⟨h1, h2, h3, o, es, ep, e1, e2, e3, e4⟩ := dk_nil (h.ok I.hok)
      exact ⟨[], .nil, ⟨o, es, ep, e1, e2, e3, e4, fun x hx => (by cases hx), h3⟩, h1, h2⟩
    | int h r => simp [tkeys, tkey] at ht
    | str h r => simp [tkeys, tkey] at ht
/-- d[k], k in d, d.get(k, x) by a tuple key -/
def dixM (x y : D) : EM D := fun S => match viewD S x, tkey y with
  | some kvs, some _ => if tkeys kvs = true then (match dget kvs y with
    | some d => .ok d S
    | none => .stuck) else .stuck
  | _, _ => .stuck
theorem noExc_dix {x y : D} : NoExc (dixM x y) := fun S c fs S' h => by
  unfold dixM at h
  split at h
  · split at h
    · split at h <;> cases h
    · cases h
  · cases h
theorem room8 (hu : X.A.units + 64 < cLine) : (nestedKind X.prog X.w).room X.A.in1 := show X.A.units + 1 + 8 < cLine by omega
theorem ix_dixM (hp : X.prog = G.prog) (hw : X.w = G.world) (hu : X.A.units + 64 < cLine) : IxR X (r2M X.K G dixM) := by
  intro value slice pins s σ H vx vy v u Q I r1 r2 ⟨ρ, S, x, y, rp, q1, q2, g⟩ hs
  unfold dixM at g
  split at g
  · rename_i kvs kn hv hk
    split at g
    · rename_i ht
      split at g
      · rename_i d hd
        obtain ⟨a, u0, rfl, h1, h2⟩ := viewD_ok rp q1 hv
        obtain ⟨k1, k2, ds, rfl⟩ := tkey_ok hk
        obtain ⟨ka, us, rfl, _, _⟩ := q2.tup_inv
        cases (show v = Value.ref a from r1)
        cases (show u = Value.ref ka from r2)
        obtain ⟨xs, rt, hm, _, _⟩ := dict_read hp hw I h1 h2 ht
        rcases RepT.get k1 rt with ⟨e1, _⟩ | ⟨d', vv, w, e1, e2, e3, e4⟩
        · rw [hd] at e1; cases e1
        · rw [hd] at e1
          cases e1
          exact tail_any hm.typeIs PySem.F.slot_dict_getitem.lookup (getItem_keyed (room8 hu) (key_at I q2 k1 k2) ⟨xs, hm, rfl⟩ e2 ⟨vv, H, I.tok _, e4, g ρ vv H (Ext.refl _ _) rp e3⟩) hs
      · exact g.elim
    · exact g.elim
  · exact g.elim
/-- k in d -/
def dinM (x y : D) : EM D := fun S => match viewD S y, tkey x with
  | some kvs, some _ => if tkeys kvs = true then .ok (.bl (dget kvs x).isSome) S else .stuck
  | _, _ => .stuck
theorem noExc_din {x y : D} : NoExc (dinM x y) := fun S c fs S' h => by
  unfold dinM at h
  split at h
  · split at h <;> cases h
  · cases h
theorem op_dinM (hp : X.prog = G.prog) (hw : X.w = G.world) (hu : X.A.units + 64 < cLine) : OpR X (compareOp .In) (r2M X.K G dinM) := by
  intro pins s σ H vx vy v u Q I r1 r2 ⟨ρ, S, x, y, rp, q1, q2, g⟩
  unfold dinM at g
  split at g
  · rename_i kvs kn hv hk
    split at g
    · rename_i ht
      obtain ⟨a, u0, rfl, h1, h2⟩ := viewD_ok rp q2 hv
      obtain ⟨k1, k2, ds, rfl⟩ := tkey_ok hk
      obtain ⟨ka, us, rfl, _, _⟩ := q1.tup_inv
      cases (show v = Value.ref ka from r1)
      cases (show u = Value.ref a from r2)
      obtain ⟨xs, rt, hm, hd, _⟩ := dict_read hp hw I h1 h2 ht
      have e : (valueAt (pairsH xs) kn).isSome = (dget kvs (.tup ds)).isSome := by
        rcases RepT.get k1 rt with ⟨e1, e2⟩ | ⟨d', vv, w, e1, e2, e3, e4⟩ <;> rw [e1, e2] <;> rfl
      refine in_keyed (room8 hu) (key_at I q1 k1 k2) hd ⟨xs, hm, rfl⟩ ?_
      rw [e]
      exact ⟨.bl _, H, I.tok _, rfl, g ρ _ H (Ext.refl _ _) rp (.bl _)⟩
    · exact g.elim
  · exact g.elim
/-! methods of dicts -/
/-- a receiver told by a fact of one's own -/
theorem pe_recv {o e : Expr} {es : List Expr} {to : TE} {t : TA} {name : Str} {apos cpos : Pos} {T id : String} {r : V → List V → Hp → VK → Prop} {TR : V → Hp → Prop}
    (hR : ∀ (pins : List (Addr × Obj)) (s : Shared) (σ : L2.St) (H : Hp) (x : V) (v : Value), Inv X pins σ H s → RelV x v → TR x H → s.TypeIs v T ∧ ∀ b, v = .ref b → ∃ ob, s.heap.get? b = some ob ∧ ob.dict = none)
    (pa : PlainAttrs T) (slot : Slot T name id) (hty : typeOf (.builtin id) = pure (.type "method_descriptor")) (hm : MtR X id r) (ho : PE X o to) (ha : PA X (e :: es) t)
    (hbase : attributeBase o name X.env (eval o X.env) = eval o X.env)
    (hfew : ((backTo cpos (starEach (e :: es) X.env)).all (fun x => !x.1) && (backToKw cpos (keywordEach [] X.env)).all (fun x => x.1.isSome) && decide ((e :: es).length + ([] : List Keyword).length + (if ([] : List Keyword).isEmpty then 0 else 1) < 30)) = true)
    (hline : (apos.endLine == cpos.line) = true) (hs : starEach (e :: es) X.env = (false, eval e X.env) :: starEach es X.env) (hplain : (backTo cpos (starEach es X.env)).any (·.1) = false) :
    PE X (.Call (.Attribute o name apos) (e :: es) [] cpos) (fun σ H Q => to σ H fun x H1 => TR x H1 ∧ t σ H1 fun xs H2 => r x xs H2 Q) := by
  constructor
  intro pins s σ H Q I h
  apply wpAny_Call_method_late hbase hfew hline rfl
  refine thn (ho.run pins s σ H _ I h) ?_
  rintro v s1 ⟨x, H1, I1, r1, tr, q1⟩
  have ⟨k1, k2⟩ := hR pins s1 σ H1 x v I1 r1 tr
  refine ⟨T, id, pa, slot, hty, k1, k2, ?_⟩
  have A := ha.run cpos pins s1 σ H1 _ I1 q1
  have hb : (backTo cpos (starEach (e :: es) X.env)).any (·.1) = false := by rw [hs]; exact hplain
  rw [hs] at A hb ⊢
  refine Calls.callWith_builtin hb (Calls.evalArgs_plain (thn A ?_))
  rintro us s2 ⟨vs, H2, I2, r2, q2⟩
  exact hm pins s2 σ H2 x vs v us Q I2 r1 r2 q2
def isDct (X : Cx) (G : Cls) : V → Hp → Prop := fun x H => ∃ ρ S d kvs, Rep X.K G ρ S H ∧ RepV X.K G ρ H d x ∧ viewD S d = some kvs
theorem isDct_at (hp : X.prog = G.prog) (hw : X.w = G.world) {pins : List (Addr × Obj)} {s : Shared} {σ : L2.St} {H : Hp} {x : V} {v : Value} (I : Inv X pins σ H s) (rx : RelV x v) (h : isDct X G x H) :
    s.TypeIs v "dict" ∧ ∀ b, v = .ref b → ∃ ob, s.heap.get? b = some ob ∧ ob.dict = none := by
  obtain ⟨ρ, S, d, kvs, rp, q, hv⟩ := h
  obtain ⟨a, u, rfl, h1, h2⟩ := viewD_ok rp q hv
  cases (show v = Value.ref a from rx)
  have fin : ∀ o : Obj, s.heap.get? a = some o → o.ExactDict → s.TypeIs (.ref a) "dict" ∧ ∀ b, Value.ref a = .ref b → ∃ ob, s.heap.get? b = some ob ∧ ob.dict = none := fun o e c =>
    ⟨⟨o, e, c.1⟩, fun b z => by cases z; exact ⟨o, e, c.2.1⟩⟩
  cases h2 with
  | t r =>
    obtain ⟨⟨_, _, _, o, es, ep, e1, e2, _⟩, _⟩ := h1.ok I.hok
    exact fin o e1 e2
  | k r =>
    obtain ⟨_, _, vs, _, o, es, ep, e1, e2, _⟩ := h1.ok I.hok
    exact fin o e1 e2
/-- d.get(k, x) -/
def dgetM (x : D) (xs : List D) : EM D := fun S => match viewD S x, xs with
  | some kvs, [k] => (match tkey k with
    | some _ => if tkeys kvs = true then .ok ((dget kvs k).getD .non) S else .stuck
    | none => .stuck)
  | some kvs, [k, y] => (match tkey k with
    | some _ => if tkeys kvs = true then .ok ((dget kvs k).getD y) S else .stuck
    | none => .stuck)
  | _, _ => .stuck
theorem mt_dgetM (hp : X.prog = G.prog) (hw : X.w = G.world) (hu : X.A.units + 64 < cLine) : MtR X "dict.get" (rmM X.K G dgetM) := by
  intro pins s σ H vx vs v us Q I r1 r2 ⟨ρ, S, x, xs, rp, q1, q2, g⟩
  unfold dgetM at g
  split at g
  · rename_i kvs k hv
    split at g
    · rename_i kn hk
      split at g
      · rename_i ht
        obtain ⟨a, u0, rfl, h1, h2⟩ := viewD_ok rp q1 hv
        obtain ⟨w, rfl, q3⟩ := q2.one
        obtain ⟨k1, k2, ds, rfl⟩ := tkey_ok hk
        obtain ⟨ka, us', rfl, _, _⟩ := q3.tup_inv
        cases (show v = Value.ref a from r1)
        cases r2 with
        | cons r2 r3 =>
          cases r3
          cases (show _ = Value.ref ka from r2)
          obtain ⟨zs, rt, hm, hd, _⟩ := dict_read hp hw I h1 h2 ht
          refine get_keyed (room8 hu) (key_at I q3 k1 k2) hd ⟨zs, hm, rfl⟩ ?_
          rcases RepT.get k1 rt with ⟨e1, e2⟩ | ⟨d', vv, w', e1, e2, e3, e4⟩
          · rw [e1] at g; rw [e2]
            exact ⟨.non, H, I.tok _, rfl, g ρ _ H (Ext.refl _ _) rp .non⟩
          · rw [e1] at g; rw [e2]
            exact ⟨vv, H, I.tok _, e4, g ρ vv H (Ext.refl _ _) rp e3⟩
      · exact g.elim
    · exact g.elim
  · rename_i kvs k y hv
    split at g
    · rename_i kn hk
      split at g
      · rename_i ht
        obtain ⟨a, u0, rfl, h1, h2⟩ := viewD_ok rp q1 hv
        cases q2 with
        | cons q3 q4 =>
          cases q4 with
          | cons q4 q5 =>
            cases q5
            obtain ⟨k1, k2, ds, rfl⟩ := tkey_ok hk
            obtain ⟨ka, us', rfl, _, _⟩ := q3.tup_inv
            cases (show v = Value.ref a from r1)
            cases r2 with
            | cons r2 r3 =>
              cases r3 with
              | cons r3 r4 =>
                cases r4
                cases (show _ = Value.ref ka from r2)
                obtain ⟨zs, rt, hm, hd, _⟩ := dict_read hp hw I h1 h2 ht
                refine getOr_keyed (room8 hu) (key_at I q3 k1 k2) hd ⟨zs, hm, rfl⟩ ?_
                rcases RepT.get k1 rt with ⟨e1, e2⟩ | ⟨d', vv, w', e1, e2, e3, e4⟩
                · rw [e1] at g; rw [e2]
                  exact ⟨_, H, I.tok _, r3, g ρ _ H (Ext.refl _ _) rp q4⟩
                · rw [e1] at g; rw [e2]
                  exact ⟨vv, H, I.tok _, e4, g ρ vv H (Ext.refl _ _) rp e3⟩
      · exact g.elim
    · exact g.elim
  · exact g.elim
end
/-! ### for k in d -/
/-- the keys' tuples, one behind another -/
def ItX (P : Program) (w : World) (d : Addr) (o : Obj) (xs : List (NestedKey × Addr × Value)) : It where
  go := fun i H => H d = some (.frz o (.ext (DkO P w d xs))) ∧ i < xs.length
  yld := fun i H x H' => H' = H ∧ ∃ y, xs[i]? = some y ∧ x = .ref y.2.1
  stop := fun i H => H d = some (.frz o (.ext (DkO P w d xs))) ∧ xs.length ≤ i
theorem frzX {X : Cx} {H : Hp} {s : Shared} {pins : List (Addr × Obj)} {σ : L2.St} (I : Inv X pins σ H s) {d : Addr} {o : Obj} {xs : List (NestedKey × Addr × Value)} (h : H d = some (.frz o (.ext (DkO X.prog X.w d xs)))) :
    (d == sysModules) = false ∧ s.heap.get? d = some o ∧ o.ExactDict ∧ ∃ es ep, o.data = .dict es ep ∧ es.size = xs.length ∧ ∀ (i : Nat) y, xs[i]? = some y → ∃ en, es[i]? = some en ∧ en.key = .ref y.2.1 ∧ en.val = y.2.2 := by
  have ⟨g, ⟨h1, _, _, o', es, ep, e1, e2, e3, e4⟩, _⟩ := I.hok d _ h
  rw [g] at e1
  cases e1
  refine ⟨h1, g, e2, es, ep, e3, size_of_entries e4, fun i y hy => ?_⟩
  have q := entry_at e4 i
  rw [hy] at q
  exact ⟨_, q, rfl, rfl⟩
theorem turnX {P : Program} {w : World} {K : PySem.W.Frag} {tg : Expr} (it d : Addr) (o : Obj) (xs : List (NestedKey × Addr × Value)) {es : Array DictEntry} {ep : Nat} (hod : o.data = .dict es ep) :
    Turn P w K tg (ItX P w d o xs) [it] it (fun i h => h.IsKeyIter it d i xs.length ep) := by
  have only : ∀ b, b ∈ [it] → b = it := fun b hb => List.mem_singleton.mp hb
  refine ⟨List.mem_singleton.mpr rfl, fun i h st b hb => ?_, fun i h h' st k => st.at fun oi e => k it (List.mem_singleton.mpr rfl) oi e, ?_, ?_, ?_⟩
  · rw [only b hb]
    have ⟨oi, e, _, dd⟩ := st
    refine ⟨oi, e, fun v z => ?_⟩
    rw [dd] at z
    cases z
  · rintro X rfl rfl rfl hc i pins s σ H E I hf st ⟨hd, hi⟩
    have ⟨f0, f1, f2, f3, f4, f5⟩ := hf it (List.mem_singleton.mpr rfl)
    have ⟨_, hgd, _, es', ep', hdt, hsz, ent⟩ := frzX I hd
    obtain ⟨rfl, rfl⟩ := dict_ep hod hdt
    have hy : xs[i]? = some xs[i] := List.getElem?_eq_getElem hi
    have ⟨en, hen, hk, _⟩ := ent i _ hy
    apply next_key_item st hgd hdt hsz hen
    intro h' st' sb
    have J : Inv X pins σ H { s with heap := h' } := I.turned (t' := s.toks) (fun b ob hb e => (sb.2 b hb).trans e) f0 f1 f3 f4 f5
    have ⟨oi, e, c, dd⟩ := st'
    refine ⟨en.key, rfl, go_of (s := { s with heap := h' }) e c dd (by decide) ⟨.ref xs[i].2.1, H, J, ?_, ⟨rfl, _, hy, rfl⟩, st', fun b hb => (hf b hb).1⟩⟩
    exact hk
  · rintro X rfl rfl rfl hc i pins s σ H E I hf st ⟨hd, hi⟩
    have ⟨f0, f1, f2, f3, f4, f5⟩ := hf it (List.mem_singleton.mpr rfl)
    have ⟨_, hgd, _, es', ep', hdt, hsz, _⟩ := frzX I hd
    obtain ⟨rfl, rfl⟩ := dict_ep hod hdt
    exact next_key_end (I.ok.hd hc) st hgd hdt hsz hi fun h' eb => ⟨rfl, I.turned (t' := s.toks) (fun b ob hb e => eb b ob hb e) f0 f1 f3 f4 f5⟩
  · intro A i s Q E st h
    exact wpAny_pyIter_keyiter st h
theorem RepT.keyAt {K : PySem.W.Frag} {G : Cls} {ρ : List (Option Addr)} {H : Hp} : ∀ {kvs : List (D × D)} {xs : List (NestedKey × Addr × Value)}, RepT K G ρ H kvs xs → ∀ (i : Nat) (d : D), (kvs.map (·.1))[i]? = some d → ∃ y, xs[i]? = some y ∧ RepV K G ρ H d (.ref y.2.1)
  | _, _, .nil, i, d, e => by simp at e
  | _, _, .cons nk dp hk h rel r, 0, d, e => by
    simp only [List.map_cons, List.getElem?_cons_zero, Option.some.injEq] at e
    subst e
    exact ⟨_, rfl, hk⟩
  | _, _, .cons nk dp hk h rel r, i + 1, d, e => by
    simp only [List.map_cons, List.getElem?_cons_succ] at e
    exact RepT.keyAt r i d e
theorem walksX {K : PySem.W.Frag} {G : Cls} {ρ : List (Option Addr)} {H : Hp} {d : Addr} {o : Obj} {kvs : List (D × D)} {xs : List (NestedKey × Addr × Value)} (h : H d = some (.frz o (.ext (DkO G.prog G.world d xs)))) (r : RepT K G ρ H kvs xs) :
    PK.Walks K G (ItX G.prog G.world d o xs) (kvs.map (·.1)) ρ H where
  stop := fun ρ' H' x => ⟨x.frzs _ _ _ h, by rw [List.length_map, r.len]; exact Nat.le_refl _⟩
  go := fun i k ρ' H' e x => by
    have hi : i < xs.length := by
      have := (List.getElem?_eq_some_iff.mp e).1
      rw [List.length_map, r.len] at this
      exact this
    refine ⟨⟨x.frzs _ _ _ h, hi⟩, fun S v H2 rp q => ?_⟩
    obtain ⟨rfl, y, hy, rfl⟩ := q
    obtain ⟨y', hy', q'⟩ := r.keyAt i k e
    rw [hy] at hy'
    cases hy'
    exact ⟨Ext.refl _ _, rp, RepV.ext x q'⟩
def keysO : D → Option (List D)
  | .dct kvs => if tkeys kvs = true then some (kvs.map (·.1)) else none
  | _ => none
theorem pi_keysX {X : Cx} {G : Cls} {W : L2.WX} {tg e : Expr} {me : Env → EM D} (hp : X.prog = G.prog) (hw : X.w = G.world) (he : PE X e (tM X.K G W me)) : PI X tg e (tI X.K G W (eOf keysO me)) := by
  constructor
  intro pins s σ H R I h
  have h' : tM X.K G W me σ H (fun v H1 => ∃ ρ kvs a o u, v = .ref a ∧ H1 a = some (.frz o u) ∧ RepD X.K G ρ H1 a kvs u ∧ tkeys kvs = true ∧ ∀ J, PK.Walks X.K G J (kvs.map (·.1)) ρ H1 → R J H1) := by
    refine tI_of (fun ρ S H a b ds rp q e k => ?_) h
    unfold keysO at e
    split at e
    · rename_i kvs
      split at e
      · rename_i ht
        cases e
        obtain ⟨c, o, u, rfl, h1, h2⟩ := q.dct_inv
        exact ⟨ρ, kvs, c, o, u, rfl, h1, h2, ht, k⟩
      · cases e
    · cases e
  refine thn (he.run pins s σ H _ I h') ?_
  rintro v s1 ⟨x, H1, I1, rx, ρ, kvs, a, o, u, rfl, h1, h2, ht, k⟩
  cases (show v = Value.ref a from rx)
  cases h2 with
  | @t a kvs xs r =>
    have h3 : H1 a = some (.frz o (.ext (DkO X.prog X.w a xs))) := by rw [hp, hw]; exact h1
    have ⟨hs, hg, hx, es, ep, hd, hz, _⟩ := frzX I1 h3
    refine iter_keys hs hg hx hd (pi_one (tk := s1.toks) I1 _ (turnX _ a o xs hd) ⟨_, Heap.get?_push_size _ rfl, rfl, ?_⟩ (k _ ?_))
    · rw [hz] <;> rfl
    · rw [hp, hw]
      exact walksX h1 r
  | k r =>
    cases r with
    | nil =>
      have ⟨hs, hg, hx, es, ep, vs, hd, hz, _⟩ := I1.frzK h1
      refine iter_keys hs hg hx hd (pi_one (tk := s1.toks) I1 _ (turn_keys (d := a) (kvs := []) _ hd) ⟨_, Heap.get?_push_size _ rfl, rfl, ?_⟩ (k _ ?_))
      · rw [hz] <;> rfl
      · exact ⟨fun ρ' H' x => ⟨x.frzs _ _ _ h1, Nat.le_refl _⟩, fun i d ρ' H' e => by simp at e⟩
    | int h r => simp [tkeys, tkey] at ht
    | str h r => simp [tkeys, tkey] at ht
end PK
namespace PK
open PySem PySem.Spec PyProof.Rows L2
section
variable {X : Cx} {G : Cls}
/-- k not in d -/
def dninM (x y : D) : EM D := fun S => match viewD S y, tkey x with
  | some kvs, some _ => if tkeys kvs = true then .ok (.bl (!(dget kvs x).isSome)) S else .stuck
  | _, _ => .stuck
theorem noExc_dnin {x y : D} : NoExc (dninM x y) := fun S c fs S' h => by
  unfold dninM at h
  split at h
  · split at h <;> cases h
  · cases h
theorem op_dninM (hp : X.prog = G.prog) (hw : X.w = G.world) (hu : X.A.units + 64 < cLine) : OpR X (compareOp .NotIn) (r2M X.K G dninM) := by
  intro pins s σ H vx vy v u Q I r1 r2 ⟨ρ, S, x, y, rp, q1, q2, g⟩
  unfold dninM at g
  split at g
  · rename_i kvs kn hv hk
    split at g
    · rename_i ht
      obtain ⟨a, u0, rfl, h1, h2⟩ := viewD_ok rp q2 hv
      obtain ⟨k1, k2, ds, rfl⟩ := tkey_ok hk
      obtain ⟨ka, us, rfl, _, _⟩ := q1.tup_inv
      cases (show v = Value.ref ka from r1)
      cases (show u = Value.ref a from r2)
      obtain ⟨xs, rt, hm, hd, _⟩ := dict_read hp hw I h1 h2 ht
      have e : (valueAt (pairsH xs) kn).isSome = (dget kvs (.tup ds)).isSome := by
        rcases RepT.get k1 rt with ⟨e1, e2⟩ | ⟨d', vv, w, e1, e2, e3, e4⟩ <;> rw [e1, e2] <;> rfl
      refine notIn_keyed (room8 hu) (key_at I q1 k1 k2) hd ⟨xs, hm, rfl⟩ ?_
      rw [e]
      exact ⟨.bl _, H, I.tok _, rfl, g ρ _ H (Ext.refl _ _) rp (.bl _)⟩
    · exact g.elim
  · exact g.elim
/-- len(d) -/
def dlenM (xs : List D) : EM D := fun S => match xs with
  | [d] => (match viewD S d with
    | some kvs => if tkeys kvs = true then .ok (.int kvs.length) S else .stuck
    | none => .stuck)
  | _ => .stuck
theorem noExc_dlen {xs : List D} : NoExc (dlenM xs) := fun S c fs S' h => by
  unfold dlenM at h
  split at h
  · split at h
    · split at h <;> cases h
    · cases h
  · cases h
theorem cr_dlen (hp : X.prog = G.prog) (hw : X.w = G.world) : CallR X (.builtin "len") (rsM X.K G dlenM) := by
  intro pins s σ H vs us Q I r ⟨ρ, S, xs, rp, q, g⟩
  unfold dlenM at g
  split at g
  · split at g
    · rename_i kvs hv
      split at g
      · rename_i ht
        obtain ⟨v, rfl, q1⟩ := q.one
        obtain ⟨a, u0, rfl, h1, h2⟩ := viewD_ok rp q1 hv
        obtain ⟨zs, rt, hm, hd, hz⟩ := dict_read hp hw I h1 h2 ht
        obtain ⟨w, rfl, rx⟩ := vals1 r
        cases (show w = Value.ref a from rx)
        have hk : s.heap.DictKeyed (nestedKind X.prog X.w) a (pairsH zs) := ⟨zs, hm, rfl⟩
        have hl : (pairsH zs).length = kvs.length := by rw [pairsH_length, rt.len]
        have hb : kvs.length ≤ 16777216 := by rw [rt.len]; rw [sizeLine_eq] at hz; exact hz
        refine PyProof.Rows.call_len_slot (n := kvs.length) hm.typeIs PySem.F.slot_dict_len (fun Q' hq => len_keyed hd hk (by rw [hl]; exact hq)) (by omega) (by omega) ?_
        exact ⟨.int _, H, I.tok _, ⟨_, rfl⟩, g ρ _ H (Ext.refl _ _) rp (.int _)⟩
      · exact g.elim
    · exact g.elim
  · exact g.elim
/-- {k: v}, k a tuple -/
theorem pe_disp1 (hu : X.A.units + 64 < cLine) {k v : Expr} {pos : Pos} {tk tv : TE} (hk : PE X k tk) (hv : PE X v tv) :
    PE X (.Dict [some k] [v] pos) (fun σ H Q => ∀ p, H p = none → tk σ (upd H p (.dK [])) fun x H1 => tv σ H1 fun y H2 => H2 p = some (.dK []) ∧ ∃ (ka : Addr) (kn : NestedKey), x = .ref ka ∧
      (∀ (pins : List (Addr × Obj)) (s : Shared) (σ : L2.St), Inv X pins σ H2 s → (nestedKind X.prog X.w).is s.heap kn ka) ∧ ∀ w, RelV y w → Q (.ref p) (upd H2 p (.ext (DkO X.prog X.w p [(kn, ka, w)])))) := by
  constructor
  intro pins s σ H Q I q
  have hn := I.hok.fresh (Nat.le_refl s.heap.objs.size)
  have I1 := I.laid (a := s.heap.objs.size) (o := .dK []) (h' := s.heap.push { cls := .type "dict", data := .dict #[] }) (t' := s.toks) (fun _ _ q => Heap.get?_push_of_some _ q) (Nat.le_refl _) (dk_empty s.heap I.big)
  rw [arm_eval_Dict, show ((evalEachOpt [some k] X.env).zip ((evalEach [v] X.env).map fun v => do let x ← v; standAt pos; pure x)) = ([(eval k X.env, (do let x ← eval v X.env; standAt pos; pure x))] : List (Sem Value × Sem Value)).map (fun p => (some p.1, p.2)) from rfl, dictDisplay_pairs _ (by simp) (by simp)]
  refine wpAny_bind (wpAny_standAt (wpAny_bind (wpAny_subDictH (knd := nestedKind X.prog X.w) (show X.A.units + 8 < cLine by omega) (by simp) ?_)))
  refine wpAny_bind (thn (hk.run pins _ σ _ _ I1 (q _ hn)) ?_)
  rintro kv s1 ⟨x, H1, I2, rx, q1⟩
  refine wpAny_bind (wpAny_holding (wpAny_bind (thn (hv.run pins s1 σ H1 _ I2 q1) ?_)))
  rintro vv s2 ⟨y, H2, I3, ry, hp, ka, kn, rfl, hkey, q2⟩
  cases (show kv = Value.ref ka from rx)
  refine wpAny_bind (wpAny_standAt (wpAny_pure (wpAny_bind (wpAny_holding (wpAny_pure (wpAny_pure ?_))))))
  have hz := dk_nil (I3.hok _ _ hp)
  have J : (nestedKind X.prog X.w).is s2.heap kn ka := hkey _ s2 σ I3
  obtain ⟨h1, _, _, o, es, ep, e1, e2, e3, e4⟩ := hz
  refine ⟨[(kn, ka, vv)], ⟨rfl, rfl, J, trivial⟩, ⟨o, es, ep, e1, e2, e3, e4, fun x hx => (by cases hx), List.nodup_nil⟩, fun h' tk dd sb => wpAny_pure ⟨.ref s.heap.objs.size, _, ?_, rfl, q2 vv ry⟩⟩
  obtain ⟨o', es', ep', f1, f2, f3, f4, _, f6⟩ := dd
  exact d_write I3 (by rw [hp]; exact True.intro) sb ⟨o', f1⟩ (ext_ok ⟨h1, (by show 1 ≤ sizeLine; rw [sizeLine_eq]; decide), f6, o', es', ep', f1, f2, f3, f4⟩)
theorem notCellY {ρ ρ' : List (Option Addr)} {H H' : Hp} {p : Addr} {o : HO} (x : Ext ρ H ρ' H') (n : ∀ i : Nat, ρ[i]? ≠ some (some p)) (h : H p = some o) : ∀ i : Nat, ρ'[i]? ≠ some (some p) := fun i e => by
  by_cases hi : i < ρ.length
  · rcases x.old i hi with q | q
    · exact n i (q.symm.trans e)
    · rw [q] at e; cases e
  · have := x.new i p (Nat.le_of_not_lt hi) e
    rw [h] at this; cases this
def disp1O (k v : D) : Option DO := match tkey k with
  | some _ => some (.dct [(k, v)])
  | none => none
def fDisp1 (mk mv : Env → EM D) : Env → EM DO := fun E => EM.bind (mk E) fun k => EM.bind (mv E) fun v => EM.ofO (disp1O k v)
theorem pf_disp1 {W : L2.WX} {k v : Expr} {pos : Pos} {mk mv : Env → EM D} (hp : X.prog = G.prog) (hw : X.w = G.world) (hu : X.A.units + 64 < cLine) (hk : PE X k (tM X.K G W mk)) (hv : PE X v (tM X.K G W mv)) : PE X (.Dict [some k] [v] pos) (tF X.K G W (fDisp1 mk mv)) :=
  (pe_disp1 hu hk hv).weak fun σ H Q ⟨ρ, S, E, rp, re, g⟩ => by
    intro p h0
    have x0 : Ext ρ H ρ (upd H p (.dK [])) := Ext.laid h0
    refine ⟨ρ, S, E, rp.laid h0, RepE.ext x0 re, ?_⟩
    unfold fDisp1 EM.bind at g
    cases hm : mk E S with
    | stuck => rw [hm] at g; exact g.elim
    | exc c fs S1 => rw [hm] at g; exact fun ρ1 H1 od x1 r1 z => g ρ1 H1 od (x0.trans x1) r1 z
    | ok kd S1 =>
      rw [hm] at g
      dsimp only at g
      intro ρ1 v1 H1 x1 r1 q1
      have n1 := notCellY x1 (rp.notNew h0) upd_same
      have h1 : H1 p = some (.dK []) := x1.keep p _ upd_same (rp.notNew h0)
      refine ⟨ρ1, S1, E, r1, RepE.ext (x0.trans x1) re, ?_⟩
      cases hm2 : mv E S1 with
      | stuck => rw [hm2] at g; exact g.elim
      | exc c fs S2 => rw [hm2] at g; exact fun ρ2 H2 od x2 r2 z => g ρ2 H2 od ((x0.trans x1).trans x2) r2 z
      | ok vd S2 =>
        rw [hm2] at g
        dsimp only at g
        intro ρ2 v2 H2 x2 r2 q2
        have n2 := notCellY x2 n1 h1
        have h2 : H2 p = some (.dK []) := x2.keep p _ h1 n1
        unfold disp1O at g
        cases hk' : tkey kd with
        | none => rw [hk'] at g; exact g.elim
        | some kn =>
          rw [hk'] at g
          obtain ⟨k1, k2, ds, rfl⟩ := tkey_ok hk'
          have q1' := RepV.ext x2 q1
          obtain ⟨ka, us, rfl, _, _⟩ := q1.tup_inv
          refine ⟨h2, ka, kn, rfl, fun pins s σ I => key_at I q1' k1 k2, fun w rw' => ?_⟩
          have x02 := (x0.trans x1).trans x2
          have x3 : Ext ρ H ρ2 (upd H2 p (.ext (DkO X.prog X.w p [(kn, ka, w)]))) :=
            ⟨fun b o hb nb => by rw [upd_ne (ne_of_none hb h0)]; exact x02.keep b o hb nb, fun b o hb => by rw [upd_ne (ne_of_none hb h0)]; exact x02.tups b o hb, fun b o u hb => by rw [upd_ne (ne_of_none hb h0)]; exact x02.frzs b o u hb, fun b u hb => by rw [upd_ne (ne_of_none hb h0)]; exact x02.xds b u hb,
              fun b hb => by
                by_cases e : b = p
                · rw [e]; exact h0
                · rw [upd_ne e] at hb; exact x02.dom b hb,
              x02.len, x02.old, x02.new⟩
          have mu : Mut (H2 p) := by rw [h2]; exact True.intro
          have rt : RepT X.K G ρ2 (upd H2 p (.ext (DkO X.prog X.w p [(kn, ka, w)]))) [(.tup ds, vd)] [(kn, ka, w)] := .cons k1 k2 (RepV.turn mu q1') (RepV.turn mu q2) rw' .nil
          refine g ρ2 p (.ext (DkO X.prog X.w p [(kn, ka, w)])) _ x3 (r2.turn mu n2) h0 n2 upd_same trivial ?_
          rw [hp, hw] at rt ⊢
          exact .t rt
end
end PK
namespace PK
open PySem PySem.Spec PyProof.Rows L2

/-! ### for k, v in d.items() -/
def ItXi (P : Program) (w : World) (d : Addr) (o : Obj) (xs : List (NestedKey × Addr × Value)) (vs : List V) : It where
  go := fun i H => H d = some (.frz o (.ext (DkO P w d xs))) ∧ i < xs.length
  yld := fun i H x H' => ∃ T y v, xs[i]? = some y ∧ vs[i]? = some v ∧ x = .ref T ∧ H T = none ∧ H' = upd H T (.tup [.ref y.2.1, v])
  stop := fun i H => H d = some (.frz o (.ext (DkO P w d xs))) ∧ xs.length ≤ i
theorem turnXi {P : Program} {w : World} {K : PySem.W.Frag} {elts : List Expr} {kk : Nat} {tpos : Pos} (it d : Addr) (o : Obj) (xs : List (NestedKey × Addr × Value)) (vs : List V) (hv : ∀ (i : Nat) y, xs[i]? = some y → ∃ v, vs[i]? = some v ∧ RelV v y.2.2)
    {es : Array DictEntry} {ep : Nat} (hod : o.data = .dict es ep) : Turn P w K (.Tuple elts kk tpos) (ItXi P w d o xs vs) [it] it (fun i h => ∃ ok ov, IsItemIter h it d i xs.length ep ok ov) := by
  have only : ∀ b, b ∈ [it] → b = it := fun b hb => List.mem_singleton.mp hb
  have mem : it ∈ [it] := List.mem_singleton.mpr rfl
  refine ⟨mem, fun i h st b hb => ?_, fun i h h' st k => ?_, ?_, ?_, ?_⟩
  · rw [only b hb]
    have ⟨ok, ov, e⟩ := st
    exact ⟨_, e, fun v z => nomatch z⟩
  · have ⟨ok, ov, e⟩ := st
    exact ⟨ok, ov, k it mem _ e⟩
  · rintro X rfl rfl rfl hc i pins s σ H E I hf st ⟨hd, hi⟩
    have ⟨_, hgd, hx, es', ep', hdt, hsz, ent⟩ := frzX I hd
    obtain ⟨rfl, rfl⟩ := dict_ep hod hdt
    have hy : xs[i]? = some xs[i] := List.getElem?_eq_getElem hi
    have ⟨en, hen, hk, hval⟩ := ent i _ hy
    have ⟨v, hvi, rv⟩ := hv i _ hy
    have ⟨ok, ov, he⟩ := st
    rw [← hsz] at he
    have hi' : i < es'.size := by omega
    have hen' : es'[i] = en := by
      rw [Array.getElem?_eq_getElem hi'] at hen
      exact Option.some.inj hen
    have hlt : it < s.heap.objs.size := Heap.lt_size he
    apply wpAny_pyNext_items_item_raw he ⟨o, hgd, hx, hdt⟩ hi'
    intro h' ho hT _ hk'
    refine ⟨_, rfl, wpAny_letOwnedTupleGo_items (s := { s with heap := h' }) ho fun h'' he' sb => ?_⟩
    rw [hen', hk, hval] at hT
    have hT2 : h''.get? s.heap.objs.size = some { cls := .type "tuple", data := .seq #[.ref xs[i].2.1, xs[i].2.2] } := (sb.2 _ (Nat.ne_of_gt hlt)).trans hT
    have new : ObjOk X.prog X.w (upd H s.heap.objs.size (.tup [.ref xs[i].2.1, v])) h'' s.heap.objs.size (.tup [.ref xs[i].2.1, v]) :=
      ⟨by show 2 ≤ sizeLine; rw [sizeLine_eq]; decide, [.ref xs[i].2.1, xs[i].2.2], .cons rfl (.cons rv .nil), ⟨_, hT2, rfl, _, rfl⟩⟩
    have J := I.turnedNew (t' := s.toks) (ch := [it]) (fun b ob hb e => (sb.2 b (fun z => hb (by rw [z]; exact mem))).trans (hk' b ob (fun z => hb (by rw [z]; exact mem)) e)) hf (Nat.le_refl _) new
    refine ⟨.ref s.heap.objs.size, _, J, rfl, ⟨_, _, v, hy, hvi, rfl, I.hok.fresh (Nat.le_refl _), rfl⟩, ⟨_, _, hsz ▸ he'⟩, fun b hb => ?_⟩
    rw [only b hb, upd_ne (Nat.ne_of_lt hlt)]
    exact (hf it mem).1
  · rintro X rfl rfl rfl hc i pins s σ H E I hf st ⟨hd, hi⟩
    have ⟨f0, f1, f2, f3, f4, f5⟩ := hf it mem
    have ⟨_, hgd, hx, es', ep', hdt, hsz, _⟩ := frzX I hd
    obtain ⟨rfl, rfl⟩ := dict_ep hod hdt
    have ⟨ok, ov, he⟩ := st
    rw [← hsz] at he
    exact wpAny_pyNext_items_end_raw (I.ok.hd hc) he ⟨o, hgd, hx, hdt⟩ (by omega) fun h' eb => ⟨rfl, I.turned (t' := s.toks) (fun b ob hb e => eb b ob hb e) f0 f1 f3 f4 f5⟩
  · intro A i s Q E st h
    have ⟨_, _, e⟩ := st
    exact wpAny_pyIter_itemiter e h
theorem RepT.vals {K : PySem.W.Frag} {G : Cls} {ρ : List (Option Addr)} {H : Hp} : ∀ {kvs : List (D × D)} {xs : List (NestedKey × Addr × Value)}, RepT K G ρ H kvs xs →
    ∃ vs : List V, (∀ (i : Nat) y, xs[i]? = some y → ∃ v, vs[i]? = some v ∧ RelV v y.2.2) ∧ ∀ (i : Nat) q, kvs[i]? = some q → ∃ y v, xs[i]? = some y ∧ vs[i]? = some v ∧ RepV K G ρ H q.1 (.ref y.2.1) ∧ RepV K G ρ H q.2 v
  | _, _, .nil => ⟨[], fun i y e => by simp at e, fun i q e => by simp at e⟩
  | _, _, .cons (vv := vv) nk dp hk h rel r => by
    obtain ⟨vs, h1, h2⟩ := RepT.vals r
    refine ⟨vv :: vs, fun i y e => ?_, fun i q e => ?_⟩
    · cases i with
      | zero => simp only [List.getElem?_cons_zero, Option.some.injEq] at e; subst e; exact ⟨_, rfl, rel⟩
      | succ i => exact h1 i y e
    · cases i with
      | zero => simp only [List.getElem?_cons_zero, Option.some.injEq] at e; subst e; exact ⟨_, _, rfl, rfl, hk, h⟩
      | succ i => exact h2 i q e
theorem walksXi {K : PySem.W.Frag} {G : Cls} {ρ : List (Option Addr)} {H : Hp} {d : Addr} {o : Obj} {kvs : List (D × D)} {xs : List (NestedKey × Addr × Value)} {vs : List V} (h : H d = some (.frz o (.ext (DkO G.prog G.world d xs)))) (hl : kvs.length = xs.length)
    (r : ∀ (i : Nat) q, kvs[i]? = some q → ∃ y v, xs[i]? = some y ∧ vs[i]? = some v ∧ RepV K G ρ H q.1 (.ref y.2.1) ∧ RepV K G ρ H q.2 v) :
    PK.Walks K G (ItXi G.prog G.world d o xs vs) (kvs.map fun q => D.tup [q.1, q.2]) ρ H where
  stop := fun ρ' H' x => ⟨x.frzs _ _ _ h, by rw [List.length_map, hl]; exact Nat.le_refl _⟩
  go := fun i k ρ' H' e x => by
    rw [List.getElem?_map, Option.map_eq_some_iff] at e
    obtain ⟨q, e1, rfl⟩ := e
    have hi : i < xs.length := by rw [← hl]; exact (List.getElem?_eq_some_iff.mp e1).1
    refine ⟨⟨x.frzs _ _ _ h, hi⟩, fun S v H2 rp z => ?_⟩
    obtain ⟨T, y, w, h1, h2, rfl, hT, rfl⟩ := z
    obtain ⟨y', w', h3, h4, q1, q2⟩ := r i q e1
    rw [h1] at h3; cases h3
    rw [h2] at h4; cases h4
    exact ⟨Ext.laid hT, rp.laid hT, .tup (SqT.of upd_same) (.cons (RepV.ext (Ext.laid hT) (RepV.ext x q1)) (.cons (RepV.ext (Ext.laid hT) (RepV.ext x q2)) .nil))⟩
def itemsO : D → Option (List D)
  | .dct kvs => if tkeys kvs = true then some (kvs.map fun q => D.tup [q.1, q.2]) else none
  | _ => none
theorem pi_itemsX {X : Cx} {G : Cls} {W : L2.WX} {e : Expr} {elts : List Expr} {kk : Nat} {tpos apos cpos : Pos} {me : Env → EM D} (hp : X.prog = G.prog) (hw : X.w = G.world) (he : PE X e (tM X.K G W me))
    (hbase : attributeBase e "items" X.env (eval e X.env) = eval e X.env) (hline : (apos.endLine == cpos.line) = true) : PI X (.Tuple elts kk tpos) (.Call (.Attribute e "items" apos) [] [] cpos) (tI X.K G W (eOf itemsO me)) := by
  constructor
  intro pins s σ H R I h
  have h' : tM X.K G W me σ H (fun v H1 => ∃ ρ kvs a o u, v = .ref a ∧ H1 a = some (.frz o u) ∧ RepD X.K G ρ H1 a kvs u ∧ tkeys kvs = true ∧ ∀ J, PK.Walks X.K G J (kvs.map fun q => D.tup [q.1, q.2]) ρ H1 → R J H1) := by
    refine tI_of (fun ρ S H a b ds rp q e k => ?_) h
    unfold itemsO at e
    split at e
    · rename_i kvs
      split at e
      · rename_i ht
        cases e
        obtain ⟨c, o, u, rfl, h1, h2⟩ := q.dct_inv
        exact ⟨ρ, kvs, c, o, u, rfl, h1, h2, ht, k⟩
      · cases e
    · cases e
  apply wpAny_Call_method (T := "dict") (id := "dict.items") hbase rfl hline F.plainAttrs_dict F.slot_dict_items F.type_dict_items
  refine thn (he.run pins s σ H _ I h') ?_
  rintro v s1 ⟨x, H1, I1, rx, ρ, kvs, a, o, u, rfl, h1, h2, ht, k⟩
  cases (show v = Value.ref a from rx)
  have I2 : Inv X pins σ H1 { s1 with heap := s1.heap.push { cls := .type "dict_items", data := .fields #[.ref a] } } := I1.kept (t' := s1.toks) fun b ob q => Heap.get?_push_of_some _ q
  have go : (a == sysModules) = false → s1.heap.get? a = some o → o.ExactDict → ∀ (es : Array DictEntry) (ep : Nat), o.data = .dict es ep →
      ∀ (J : It) (tn : Nat → Heap → Prop), Turn X.prog X.w X.K (.Tuple elts kk tpos) J [s1.heap.objs.size + 1] (s1.heap.objs.size + 1) tn → (∀ h2 : Heap, h2.get? (s1.heap.objs.size + 1) = some { cls := .type "dict_itemiterator", data := .fields #[.none, .bool false, .ref a, .int 0 0, .int es.size 0, .int ep 0, .none, .none] } → tn 0 h2) → R J H1 →
      s1.TypeIs (.ref a) "dict" ∧ (∀ b, Value.ref a = .ref b → ∃ ob, s1.heap.get? b = some ob ∧ ob.dict = none) ∧ wpAny (model X.prog X.w) X.A (callWith cpos (.builtin "dict.items") [.ref a] [] []) (fun v s1 => wpAny (model X.prog X.w) X.A (pyIter v) (PIE X pins σ (.Tuple elts kk tpos) R) X.xe s1) X.xe s1 := by
    intro hs hg hx es ep hd J tn T st hR
    have hT : s1.TypeIs (.ref a) "dict" := ⟨o, hg, hx.1⟩
    refine ⟨hT, fun b z => by cases z; exact ⟨o, hg, hx.2.1⟩, ?_⟩
    have raw : s1.heap.DictRaw a es ep := ⟨o, hg, hx, hd⟩
    refine method_meetsIn F.slot_dict_items F.entry_dict_items rfl (PySem.evalArgs_none ⟨rfl, hT, F.args_dict_items_1 _, _, meets_dict_items_raw (prog := X.prog) (w := X.w) a hs, ⟨es, ep, raw⟩, ?_⟩)
    refine wpAny_pyIter_items_raw (d := a) ⟨_, Heap.get?_push_size _ rfl, rfl, rfl⟩ (raw.at fun o e => Heap.get?_push_of_some _ e) ?_
    have hz : (s1.heap.push { cls := .type "dict_items", data := .fields #[.ref a] }).objs.size = s1.heap.objs.size + 1 := by simp [Heap.push]
    refine pi_one (tk := s1.toks) I2 _ (J := J) (tn := tn) ?_ ?_ hR
    · rw [hz]; exact T
    · refine st _ ?_
      rw [← hz]
      exact Heap.get?_push_size _ rfl
  cases h2 with
  | @t a kvs xs r =>
    have h3 : H1 a = some (.frz o (.ext (DkO X.prog X.w a xs))) := by rw [hp, hw]; exact h1
    have ⟨hs, hg, hx, es, ep, hd, hz, _⟩ := frzX I1 h3
    obtain ⟨vs, v1, v2⟩ := r.vals
    refine go hs hg hx es ep hd _ _ (turnXi _ a o xs vs v1 hd) (fun h2 e => ⟨.none, .none, ?_⟩) (k _ ?_)
    · rw [← hz]; exact e
    · rw [hp, hw]
      exact walksXi h1 r.len v2
  | k r =>
    cases r with
    | nil =>
      have ⟨hs, hg, hx, es, ep, vs, hd, hz, _⟩ := I1.frzK h1
      refine go hs hg hx es ep hd _ _ (turn_items (d := a) (kvs := []) _ hd) (fun h2 e => ⟨.none, .none, ?_⟩) (k _ ?_)
      · rw [← hz]; exact e
      · exact ⟨fun ρ' H' x => ⟨x.frzs _ _ _ h1, Nat.le_refl _⟩, fun i d ρ' H' e => by simp at e⟩
    | int h r => simp [tkeys, tkey] at ht
    | str h r => simp [tkeys, tkey] at ht
end PK
namespace PK
open PySem PySem.Spec PyProof.Rows L2

/-! ### dicts whose keys are texts -/
def isS : D → Bool
  | .str _ => true
  | _ => false
theorem isS_ok {d : D} (h : isS d = true) : ∃ x, d = .str x := by
  cases d <;> simp [isS] at h
  exact ⟨_, rfl⟩
def skeys (kvs : List (D × D)) : Bool := kvs.all fun q => isS q.1
section
variable {X : Cx} {G : Cls} {ρ : List (Option Addr)} {H : Hp} {s : Shared} {pins : List (Addr × Obj)} {σ : L2.St}
theorem keyEq_str (x y : Str) : keyEq (.str x) (.str y) = decide (x = y) := by
  unfold keyEq nkey
  simp
/-- the pairs, as the library keeps them -/
theorem RepT.noS : ∀ {kvs : List (D × D)} {xs : List (NestedKey × Addr × Value)}, RepT X.K G ρ H kvs xs → skeys kvs = true → kvs = [] ∧ xs = []
  | _, _, .nil, _ => ⟨rfl, rfl⟩
  | _, _, .cons (kd := kd) nk dp hk h rel r, hs => by
    simp only [skeys, List.all_cons, Bool.and_eq_true] at hs
    obtain ⟨x, rfl⟩ := isS_ok hs.1
    cases hk
theorem RepK.get {K : PySem.W.Frag} {x : Str} : ∀ {kvs : List (D × D)} {us : List (Key × V)}, RepK K G ρ H kvs us → skeys kvs = true →
    (dget kvs (.str x) = none ∧ valV us (Sum.inr x) = none) ∨ ∃ d v, dget kvs (.str x) = some d ∧ valV us (Sum.inr x) = some v ∧ RepV K G ρ H d v
  | _, _, .nil, _ => .inl ⟨rfl, rfl⟩
  | _, _, .int h r, hs => by simp [skeys, isS] at hs
  | _, _, .str (x := y) h r, hs => by
    have hs' := hs
    simp only [skeys, List.all_cons, Bool.and_eq_true] at hs'
    unfold dget
    rw [keyEq_str]
    by_cases e : y = x
    · right
      subst e
      simp only [decide_true, if_true]
      exact ⟨_, _, rfl, valV_pos rfl, h⟩
    · simp only [e, decide_false, Bool.false_eq_true, if_false]
      rw [valV_neg (show ¬ (Sum.inr y : Key) = Sum.inr x from fun z => e (Sum.inr.inj z))]
      exact RepK.get r hs'.2
theorem putK_cons {p : Key × V} {us : List (Key × V)} {k : Key} {v : V} (nd : ((p :: us).map (·.1)).Nodup) : putK (p :: us) k v = if p.1 = k then (p.1, v) :: us else p :: putK us k v := by
  simp only [List.map_cons, List.nodup_cons] at nd
  unfold putK
  by_cases e : p.1 = k
  · rw [if_pos e]
    have h1 : ((p :: us).any fun kv => decide (kv.1 = k)) = true := by simp [e]
    rw [if_pos h1, List.map_cons, if_pos e]
    congr 1
    conv => rhs; rw [← List.map_id us]
    refine List.map_congr_left fun y hy => ?_
    have : y.1 ≠ k := fun z => nd.1 (by rw [e, ← z]; exact List.mem_map_of_mem hy)
    rw [if_neg this]
    rfl
  · rw [if_neg e]
    have h1 : ((p :: us).any fun kv => decide (kv.1 = k)) = us.any fun kv => decide (kv.1 = k) := by simp [e]
    rw [h1]
    split
    · rw [List.map_cons, if_neg e]
    · rfl
theorem RepK.put {K : PySem.W.Frag} {x : Str} {d : D} {v : V} (h : RepV K G ρ H d v) : ∀ {kvs : List (D × D)} {us : List (Key × V)}, RepK K G ρ H kvs us → skeys kvs = true → (us.map (·.1)).Nodup → RepK K G ρ H (dput kvs (.str x) d) (putK us (Sum.inr x) v)
  | _, _, .nil, _, _ => by
    show RepK K G ρ H [(D.str x, d)] [(Sum.inr x, v)]
    exact .str h .nil
  | _, _, .int h' r, hs, _ => by simp [skeys, isS] at hs
  | _, _, .str (x := y) h' r, hs, nd => by
    have hs' := hs
    simp only [skeys, List.all_cons, Bool.and_eq_true] at hs'
    rw [putK_cons nd]
    unfold dput
    rw [keyEq_str]
    by_cases e : y = x
    · subst e
      simp only [decide_true, if_true]
      exact .str h r
    · simp only [e, decide_false, Bool.false_eq_true, if_false]
      rw [if_neg (show ¬ (Sum.inr y : Key) = Sum.inr x from fun z => e (Sum.inr.inj z))]
      simp only [List.map_cons, List.nodup_cons] at nd
      exact .str h' (RepK.put h r hs'.2 nd.2)
theorem RepK.len {K : PySem.W.Frag} : ∀ {kvs : List (D × D)} {us : List (Key × V)}, RepK K G ρ H kvs us → kvs.length = us.length
  | _, _, .nil => rfl
  | _, _, .int h r => congrArg Nat.succ r.len
  | _, _, .str h r => congrArg Nat.succ r.len
theorem skeys_put {x : Str} {d : D} : ∀ {kvs : List (D × D)}, skeys kvs = true → skeys (dput kvs (.str x) d) = true
  | [], _ => rfl
  | (a, b) :: r, h => by
    simp only [skeys, List.all_cons, Bool.and_eq_true] at h
    unfold dput
    split
    · simp only [skeys, List.all_cons, Bool.and_eq_true]; exact h
    · simp only [skeys, List.all_cons, Bool.and_eq_true]
      exact ⟨h.1, skeys_put (kvs := r) h.2⟩
/-- an empty dict is one of text keys, too -/
theorem dk_nilS {P : Program} {w : World} {h : Heap} {a : Addr} (x : DkO P w a [] h) : (a == sysModules) = false ∧ h.DictOf (mixKind P w) a [] := by
  obtain ⟨hd, _, _, o, es, ep, e1, e2, e3, e4⟩ := x
  refine ⟨hd, o, es, ep, e1, e2, e3, ?_, ?_, List.nodup_nil⟩
  · have e : es = #[] := Array.eq_empty_of_size_eq_zero (by rw [← Array.length_toList, e4]; rfl)
    subst e
    intro q hq
    simp at hq
  · rw [e4]; exact .nil
theorem dict_readS (hp : X.prog = G.prog) (hw : X.w = G.world) (I : Inv X pins σ H s) {a : Addr} {u : HO} {kvs : List (D × D)} (h : Rd H a u) (r : RepD X.K G ρ H a kvs u) (hs : skeys kvs = true) :
    ∃ us vs, RepK X.K G ρ H kvs us ∧ KV us vs ∧ s.heap.DictOf (mixKind X.prog X.w) a vs ∧ (a == sysModules) = false ∧ (us.map (·.1)).Nodup ∧ us.length ≤ sizeLine := by
  cases r with
  | @t a kvs xs r =>
    obtain ⟨rfl, rfl⟩ := r.noS hs
    have h' : Rd H a (.ext (DkO X.prog X.w a [])) := by rw [hp, hw]; exact h
    obtain ⟨x, _⟩ := h'.ok I.hok
    obtain ⟨h1, h2⟩ := dk_nilS x
    exact ⟨[], [], .nil, .nil, h2, h1, List.nodup_nil, Nat.zero_le _⟩
  | k r =>
    obtain ⟨z, hd, vs, rel, dd⟩ := dk_rd I.hok h
    refine ⟨_, vs, r, rel, dd, hd, ?_, z⟩
    rw [rel.keys]
    obtain ⟨_, _, _, _, _, _, _, _, nd⟩ := dd
    exact nd
/-- d[x] = v of a cell, x a text -/
theorem set_dS (hp : X.prog = G.prog) (hw : X.w = G.world) (I : Inv X pins σ H s) {a : Addr} {u : HO} {kvs : List (D × D)} (ha : H a = some u) (mu : Mut (some u)) (r : RepD X.K G ρ H a kvs u) (hkv : skeys kvs = true)
    {x : Str} {d : D} {kv vv : V} {iv v : Value} (hk : RepV X.K G ρ H (.str x) kv) (rk : RelV kv iv) (hv : RepV X.K G ρ H d vv) (rv : RelV vv v) (hl : kvs.length < 16777216) {Q : Hp → Prop}
    (q : ∀ u', Mut (some u') → (∀ ρ' H', Ext ρ H ρ' H' → RepD X.K G ρ' H' a (dput kvs (.str x) d) u') → Q (upd H a u')) :
    wpAny (model X.prog X.w) X.A (setItem (.ref a) iv v) (fun _ s' => ∃ H', Inv X pins σ H' s' ∧ Q H') X.xe s := by
  rw [hk.str_inv] at rk
  obtain ⟨us, vs, r1, rel, dd, hd, nd, hz0⟩ := dict_readS hp hw I (.inl ha) r hkv
  have hz : vs.length ≤ sizeLine := by rw [← rel.length]; exact hz0
  have hlen : (putK us (Sum.inr x) vv).length ≤ sizeLine := by
    have h1 := length_putK us (Sum.inr x) vv
    have h2 := r1.len
    have h3 : sizeLine = 16777216 := sizeLine_eq
    omega
  refine wpAny_setItem_pairs (hsz := hz) (kV_is (k := Sum.inr x) rk) dd fun h' dd' hs => ?_
  have he : ∃ q, h'.get? a = some q := let ⟨q, _, _, hq, _⟩ := dd'; ⟨q, hq⟩
  refine ⟨_, d_write I (by rw [ha]; exact mu) hs he (dk_new hlen hd (rel.put (Sum.inr x) rv) dd'), q (.dK (putK us (Sum.inr x) vv)) trivial fun ρ' H' y => ?_⟩
  exact .k (RepK.ext y (RepK.put hv r1 hkv nd))
/-- d[x] -/
def sixM (x y : D) : EM D := fun S => match viewD S x with
  | some kvs => if skeys kvs = true ∧ isS y = true then (match dget kvs y with
    | some d => .ok d S
    | none => .stuck) else .stuck
  | none => .stuck
theorem noExc_six {x y : D} : NoExc (sixM x y) := fun S c fs S' h => by
  unfold sixM at h
  split at h
  · split at h
    · split at h <;> cases h
    · cases h
  · cases h
theorem ix_sixM (hp : X.prog = G.prog) (hw : X.w = G.world) : IxR X (r2M X.K G sixM) := by
  intro value slice pins s σ H vx vy v u Q I r1 r2 ⟨ρ, S, x, y, rp, q1, q2, g⟩ hs
  unfold sixM at g
  split at g
  · rename_i kvs hv
    split at g
    · rename_i ht
      obtain ⟨z, rfl⟩ := isS_ok ht.2
      split at g
      · rename_i d hd
        obtain ⟨a, u0, rfl, h1, h2⟩ := viewD_ok rp q1 hv
        rw [q2.str_inv] at r2
        cases (show v = Value.ref a from r1)
        obtain ⟨us, vs, rt, rel, dd, _, _, _⟩ := dict_readS hp hw I h1 h2 ht.1
        rcases RepK.get (x := z) rt ht.1 with ⟨e1, _⟩ | ⟨d', vv, e1, e2, e3⟩
        · rw [hd] at e1; cases e1
        · rw [hd] at e1
          cases e1
          have l := rel.val (Sum.inr z : Key)
          rw [e2] at l
          obtain ⟨w', hw', rw'⟩ := RelO.some_of (v := vv) (o := valueAt vs (Sum.inr z : Key)) l
          exact tail_any dd.typeIs PySem.F.slot_dict_getitem.lookup (wpAny_getItem_of (kV_is (k := Sum.inr z) r2) dd.mapOf hw' ⟨vv, H, I.tok _, rw', g ρ vv H (Ext.refl _ _) rp e3⟩) hs
      · exact g.elim
    · exact g.elim
  · exact g.elim
theorem RepK.keyAt {K : PySem.W.Frag} {G : Cls} {ρ : List (Option Addr)} {H : Hp} : ∀ {kvs : List (D × D)} {us : List (Key × V)}, RepK K G ρ H kvs us → ∀ (i : Nat) (d : D), (kvs.map (·.1))[i]? = some d → ∃ y, us[i]? = some y ∧ RepV K G ρ H d (kV y.1)
  | _, _, .nil, i, d, e => by simp at e
  | _, _, .int h r, 0, d, e => by
    simp only [List.map_cons, List.getElem?_cons_zero, Option.some.injEq] at e
    subst e
    exact ⟨_, rfl, .int _⟩
  | _, _, .str h r, 0, d, e => by
    simp only [List.map_cons, List.getElem?_cons_zero, Option.some.injEq] at e
    subst e
    exact ⟨_, rfl, .str _⟩
  | _, _, .int h r, i + 1, d, e => by
    simp only [List.map_cons, List.getElem?_cons_succ] at e
    exact RepK.keyAt r i d e
  | _, _, .str h r, i + 1, d, e => by
    simp only [List.map_cons, List.getElem?_cons_succ] at e
    exact RepK.keyAt r i d e
theorem walksK {K : PySem.W.Frag} {G : Cls} {ρ : List (Option Addr)} {H : Hp} {d : Addr} {o : Obj} {kvs : List (D × D)} {us : List (Key × V)} (h : H d = some (.frz o (.dK us))) (r : RepK K G ρ H kvs us) :
    PK.Walks K G (Itk d o us) (kvs.map (·.1)) ρ H where
  stop := fun ρ' H' x => ⟨x.frzs _ _ _ h, by rw [List.length_map, r.len]; exact Nat.le_refl _⟩
  go := fun i k ρ' H' e x => by
    have hi : i < us.length := by
      have := (List.getElem?_eq_some_iff.mp e).1
      rw [List.length_map, r.len] at this
      exact this
    refine ⟨⟨x.frzs _ _ _ h, hi⟩, fun S v H2 rp q => ?_⟩
    obtain ⟨y', hy', q'⟩ := r.keyAt i k e
    obtain ⟨rfl, k', v', hy, rfl⟩ := q
    rw [hy] at hy'
    cases hy'
    exact ⟨Ext.refl _ _, rp, RepV.ext x q'⟩
end
def keys2O : D → Option (List D)
  | .dct kvs => if (tkeys kvs || skeys kvs) = true then some (kvs.map (·.1)) else none
  | _ => none
theorem pi_keys2 {X : Cx} {G : Cls} {W : L2.WX} {tg e : Expr} {me : Env → EM D} (hp : X.prog = G.prog) (hw : X.w = G.world) (he : PE X e (tM X.K G W me)) : PI X tg e (tI X.K G W (eOf keys2O me)) := by
  constructor
  intro pins s σ H R I h
  have h' : tM X.K G W me σ H (fun v H1 => ∃ ρ kvs a o u, v = .ref a ∧ H1 a = some (.frz o u) ∧ RepD X.K G ρ H1 a kvs u ∧ (tkeys kvs || skeys kvs) = true ∧ ∀ J, PK.Walks X.K G J (kvs.map (·.1)) ρ H1 → R J H1) := by
    refine tI_of (fun ρ S H a b ds rp q e k => ?_) h
    unfold keys2O at e
    split at e
    · rename_i kvs
      split at e
      · rename_i ht
        cases e
        obtain ⟨c, o, u, rfl, h1, h2⟩ := q.dct_inv
        exact ⟨ρ, kvs, c, o, u, rfl, h1, h2, ht, k⟩
      · cases e
    · cases e
  refine thn (he.run pins s σ H _ I h') ?_
  rintro v s1 ⟨x, H1, I1, rx, ρ, kvs, a, o, u, rfl, h1, h2, ht, k⟩
  cases (show v = Value.ref a from rx)
  cases h2 with
  | @t a kvs xs r =>
    have h3 : H1 a = some (.frz o (.ext (DkO X.prog X.w a xs))) := by rw [hp, hw]; exact h1
    have ⟨hs, hg, hx, es, ep, hd, hz, _⟩ := frzX I1 h3
    refine iter_keys hs hg hx hd (pi_one (tk := s1.toks) I1 _ (turnX _ a o xs hd) ⟨_, Heap.get?_push_size _ rfl, rfl, ?_⟩ (k _ ?_))
    · rw [hz] <;> rfl
    · rw [hp, hw]
      exact walksX h1 r
  | k r =>
    have ⟨hs, hg, hx, es, ep, vs, hd, hz, _⟩ := I1.frzK h1
    refine iter_keys hs hg hx hd (pi_one (tk := s1.toks) I1 _ (turn_keys (d := a) _ hd) ⟨_, Heap.get?_push_size _ rfl, rfl, ?_⟩ (k _ (walksK h1 r)))
    rw [hz] <;> rfl
end PK
namespace PK
open PySem PySem.Spec PyProof.Rows L2

/-! ### targets -/
abbrev RE (K : PySem.W.Frag) (G : Cls) : List (Option Addr) → Hp → Env → L2.St → Prop := fun ρ H E σ => RepE K G ρ H E σ
def tTG (K : PySem.W.Frag) (G : Cls) (W : L2.WX) (m : D → Env → EM Env) : TG := fun v σ H Q => ∃ ρ S E d, Rep K G ρ S H ∧ RepE K G ρ H E σ ∧ RepV K G ρ H d v ∧ Go K G (RE K G) W σ ρ H (m d E S) Q
def tTGs (K : PySem.W.Frag) (G : Cls) (W : L2.WX) (m : List D → Env → EM Env) : TGs := fun v σ H Q => ∃ ρ S E d, Rep K G ρ S H ∧ RepE K G ρ H E σ ∧ RepVs K G ρ H d v ∧ Go K G (RE K G) W σ ρ H (m d E S) Q
theorem PG.weak {X : Cx} {e : Expr} {t t' : TG} (h : PG X e t) (i : ∀ v σ H Q, t' v σ H Q → t v σ H Q) : PG X e t' := ⟨fun pins s σ H v u Q I r q => h.run pins s σ H v u Q I r (i v σ H Q q)⟩
theorem PGs.weak {X : Cx} {e : List Expr} {t t' : TGs} (h : PGs X e t) (i : ∀ v σ H Q, t' v σ H Q → t v σ H Q) : PGs X e t' := ⟨fun pins s σ H v u Q I r q => h.run pins s σ H v u Q I r (i v σ H Q q)⟩
theorem PS.weak {X : Cx} {e : Stmt} {t t' : TS} (h : PS X e t) (i : ∀ D σ H, t' D σ H → t D σ H) : PS X e t' := ⟨fun pins s σ H Q I q => h.run pins s σ H Q I (i Q σ H q)⟩
theorem PSs.weak {X : Cx} {e : List Stmt} {t t' : TS} (h : PSs X e t) (i : ∀ D σ H, t' D σ H → t D σ H) : PSs X e t' := ⟨fun pins s σ H Q I q => h.run pins s σ H Q I (i Q σ H q)⟩
def mName (i : Nat) : D → Env → EM Env := fun d E => EM.pure (E.set i (some d))
/-! names, tuples of names -/
mutual
inductive Tgt where
  | name (i : Nat) | tup (ts : Tgts) | lst (ts : Tgts)
inductive Tgts where
  | nil | cons (t : Tgt) (ts : Tgts)
end
def Tgts.len : Tgts → Nat
  | .nil => 0
  | .cons _ ts => ts.len + 1
mutual
def Tgt.slots : Tgt → List Nat
  | .name i => [i]
  | .tup ts => ts.slots
  | .lst ts => ts.slots
def Tgts.slots : Tgts → List Nat
  | .nil => []
  | .cons t ts => t.slots ++ ts.slots
end
mutual
def Tgt.put : Tgt → D → Env → Option Env
  | .name i, d, E => some (E.set i (some d))
  | .tup ts, .tup xs, E => if xs.length = ts.len then ts.put xs E else none
  | .tup _, _, _ => none
  | .lst ts, .lst xs, E => if xs.length = ts.len then ts.put xs E else none
  | .lst _, _, _ => none
def Tgts.put : Tgts → List D → Env → Option Env
  | .nil, [], E => some E
  | .cons t ts, d :: ds, E => match t.put d E with
    | some E' => ts.put ds E'
    | none => none
  | _, _, _ => none
end
mutual
def Tgt.tg (K : PySem.W.Frag) : Tgt → TG
  | .name i => gName i
  | .tup ts => gTup K ts.len (ts.tg K)
  | .lst ts => gLst K ts.len (ts.tg K)
def Tgts.tg (K : PySem.W.Frag) : Tgts → TGs
  | .nil => gNil
  | .cons t ts => gCons (t.tg K) (ts.tg K)
end
theorem set_none_comm {α : Type} : ∀ (l : List (Option α)) (i j : Nat) (v : Option α), i ≠ j → (l.set i v).set j none = (l.set j none).set i v := fun l i j v h => List.set_comm v none h
theorem wipe_set {σ : L2.St} {i : Nat} {v : Option V} : ∀ {vs : List Nat}, i ∈ vs → L2.wipe (σ.set i v) vs = L2.wipe σ vs := by
  have skip : ∀ (vs : List Nat) (u : Option V), i ∉ vs → L2.wipe (σ.set i u) vs = (L2.wipe σ vs).set i u := by
    intro vs u
    induction vs with
    | nil => intro _; rfl
    | cons w vs ih =>
      intro h
      simp only [List.mem_cons, not_or] at h
      show (L2.wipe (σ.set i u) vs).set w none = ((L2.wipe σ vs).set w none).set i u
      rw [ih h.2, set_none_comm _ _ _ _ h.1]
  intro vs
  induction vs with
  | nil => intro h; cases h
  | cons w vs ih =>
    intro h
    show (L2.wipe (σ.set i v) vs).set w none = (L2.wipe σ vs).set w none
    by_cases hv : i ∈ vs
    · rw [ih hv]
    · have : i = w := by
        rcases List.mem_cons.mp h with e | e
        · exact e
        · exact absurd e hv
      subst this
      rw [skip vs v hv, List.set_set]
section
variable {K : PySem.W.Frag} {G : Cls} {ρ : List (Option Addr)} {H : Hp}
mutual
theorem Tgt.ok : ∀ (t : Tgt) {d : D} {v : V} {E E' : Env} {σ : L2.St}, RepE K G ρ H E σ → RepV K G ρ H d v → t.put d E = some E' →
    ∃ σ', (∀ Q : L2.St → Hp → Prop, Q σ' H → t.tg K v σ H Q) ∧ RepE K G ρ H E' σ' ∧ ∀ vs, (∀ i ∈ t.slots, i ∈ vs) → L2.wipe σ' vs = L2.wipe σ vs
  | .name i, d, v, E, E', σ, re, q, e => by
    unfold Tgt.put at e
    cases e
    exact ⟨σ.set i (some v), fun Q h => by unfold Tgt.tg; exact h, re.set q, fun vs hv => wipe_set (hv i (by simp [Tgt.slots]))⟩
  | .tup ts, d, v, E, E', σ, re, q, e => by
    cases d with
    | tup xs =>
      unfold Tgt.put at e
      split at e
      · rename_i hl
        obtain ⟨a, us, rfl, h1, h2⟩ := q.tup_inv
        obtain ⟨σ', h3, h4, h5⟩ := Tgts.ok ts re h2 e
        exact ⟨σ', fun Q h => by unfold Tgt.tg; exact ⟨a, us, rfl, h1, by rw [← h2.length]; exact hl, h3 Q h⟩, h4, fun vs hv => h5 vs (by simpa [Tgt.slots] using hv)⟩
      · cases e
    | _ => simp [Tgt.put] at e
  | .lst ts, d, v, E, E', σ, re, q, e => by
    cases d with
    | lst xs =>
      unfold Tgt.put at e
      split at e
      · rename_i hl
        obtain ⟨a, us, o, rfl, h1, h2⟩ := q.lst_inv
        obtain ⟨σ', h3, h4, h5⟩ := Tgts.ok ts re h2 e
        exact ⟨σ', fun Q h => by unfold Tgt.tg; exact ⟨a, us, rfl, .inl (.inr ⟨o, h1⟩), by rw [← h2.length]; exact hl, h3 Q h⟩, h4, fun vs hv => h5 vs (by simpa [Tgt.slots] using hv)⟩
      · cases e
    | _ => simp [Tgt.put] at e
theorem Tgts.ok : ∀ (t : Tgts) {d : List D} {v : List V} {E E' : Env} {σ : L2.St}, RepE K G ρ H E σ → RepVs K G ρ H d v → t.put d E = some E' →
    ∃ σ', (∀ Q : L2.St → Hp → Prop, Q σ' H → t.tg K v σ H Q) ∧ RepE K G ρ H E' σ' ∧ ∀ vs, (∀ i ∈ t.slots, i ∈ vs) → L2.wipe σ' vs = L2.wipe σ vs
  | .nil, d, v, E, E', σ, re, q, e => by
    cases d with
    | nil => simp [Tgts.put] at e; subst e; cases q; exact ⟨σ, fun Q h => by unfold Tgts.tg; exact ⟨rfl, h⟩, re, fun _ _ => rfl⟩
    | cons _ _ => simp [Tgts.put] at e
  | .cons t ts, d, v, E, E', σ, re, q, e => by
    cases d with
    | nil => simp [Tgts.put] at e
    | cons d0 ds0 =>
      unfold Tgts.put at e
      cases q with
      | cons q qs =>
        cases h1 : t.put d0 E with
        | none => rw [h1] at e; cases e
        | some E1 =>
          rw [h1] at e
          obtain ⟨σ1, a1, a2, a3⟩ := Tgt.ok t re q h1
          obtain ⟨σ2, b1, b2, b3⟩ := Tgts.ok ts a2 qs e
          refine ⟨σ2, fun Q h => ?_, b2, fun vs hv => ?_⟩
          · unfold Tgts.tg
            exact ⟨_, _, rfl, a1 _ (b1 Q h)⟩
          · rw [b3 vs (fun i hi => hv i (by simp [Tgts.slots, hi])), a3 vs (fun i hi => hv i (by simp [Tgts.slots, hi]))]
end
end
def mTgt (t : Tgt) : D → Env → EM Env := fun d E => EM.ofO (t.put d E)
/-- o[i] = v -/
def setM (o i v : D) : EM Unit := fun S => match o with
  | .ref r => (match S[r]? with
    | some (.lst xs) => (match i with
      | .int k => (match ixN xs.length k with
        | some j => .ok () (S.set r (.lst (xs.set j v)))
        | none => .stuck)
      | _ => .stuck)
    | some (.dct kvs) => (match tkey i with
      | some _ => if tkeys kvs = true ∧ kvs.length < 16777216 then .ok () (S.set r (.dct (dput kvs i v))) else .stuck
      | none => if isS i = true ∧ skeys kvs = true ∧ kvs.length < 16777216 then .ok () (S.set r (.dct (dput kvs i v))) else .stuck)
    | _ => .stuck)
  | _ => .stuck
def mSub (mo mi : Env → EM D) : D → Env → EM Env := fun d E => EM.bind (mo E) fun o => EM.bind (mi E) fun i => EM.bind (setM o i d) fun _ => EM.pure E
def rSet (K : PySem.W.Frag) (G : Cls) : V → V → V → Hp → (Hp → Prop) → Prop := fun vo vi vv H Q => ∃ ρ S o i d, Rep K G ρ S H ∧ RepV K G ρ H o vo ∧ RepV K G ρ H i vi ∧ RepV K G ρ H d vv ∧ match setM o i d S with
  | .ok _ S' => ∀ ρ' H', Ext ρ H ρ' H' → Rep K G ρ' S' H' → Q H'
  | _ => False
section
variable {X : Cx} {G : Cls} {W : L2.WX} {pos : Pos}
theorem pg_nameM {i : Nat} {x : Str} (hN : X.N.Nodup) (hi : X.N[i]? = some x) (hx : Loc X.env.scope x) (hf : X.fn x = true ∨ X.env.scope.names.lookup x = some .local) : PG X (.Name x pos) (tTG X.K G W (mName i)) :=
  PG.weak (pg_name hN hi hx hf) fun v σ H Q ⟨ρ, S, E, d, rp, re, q, g⟩ => g.here rp (re.set q)
theorem pg_tgt {tg : Expr} {t : Tgt} (h : PG X tg (t.tg X.K)) : PG X tg (tTG X.K G W (mTgt t)) :=
  PG.weak h fun v σ H Q ⟨ρ, S, E, d, rp, re, q, g⟩ => by
    obtain ⟨E', e, k⟩ := g.ofO rp
    obtain ⟨σ', h1, h2, _⟩ := t.ok re q e
    exact h1 Q (k ρ σ' H (Ext.refl _ _) rp h2)
theorem pset_M (hp : X.prog = G.prog) (hw : X.w = G.world) (hu : X.A.units + 64 < cLine) : PSet X (rSet X.K G) := by
  intro pins s σ H vo vi vv ov iv u Q I ro ri rv ⟨ρ, S, o, i, d, rp, qo, qi, qd, g⟩
  unfold setM at g
  split at g
  · rename_i r e
    split at e
    · rename_i rr
      split at e
      · rename_i xs hS
        split at e
        · rename_i k
          split at e
          · rename_i j hj
            cases e
            obtain ⟨a, uu, rfl, ha, h1, m, us, rfl, h2⟩ := rp.at qo hS trivial
            rw [qi.int_inv] at ri
            refine set_list pins s σ H _ _ vv ov iv u Q I ro ri rv ⟨a, us, k, j, rfl, rfl, h1, by rw [← h2.length]; exact hj, ?_⟩
            have x : Ext ρ H ρ (upd H a (.lst (us.set j vv))) := Ext.wrote ha h1 m
            exact g ρ _ x (rp.wrote ha h1 m trivial (.inr ⟨a, _, ha, upd_same, _, rfl, (h2.set qd j).ext x⟩))
          · cases e
        · cases e
      · rename_i kvs hS
        split at e
        · rename_i kn hk
          split at e
          · rename_i hc
            cases e
            obtain ⟨a, uu, rfl, ha, h1, m, hr⟩ := rp.at qo hS trivial
            cases (show ov = Value.ref a from ro)
            refine set_dT hp hw hu I h1 m hr (fun q hq => ?_) hk qi ri qd rv hc.2 fun u' mu' hx => ?_
            · have := hc.1
              unfold tkeys at this
              exact List.all_eq_true.mp this q hq
            · have x : Ext ρ H ρ (upd H a u') := Ext.wrote ha h1 m
              exact g ρ _ x (rp.wrote ha h1 m mu' (.inr ⟨a, _, ha, upd_same, hx ρ _ x⟩))
          · cases e
        · split at e
          · rename_i hc
            cases e
            obtain ⟨z, rfl⟩ := isS_ok hc.1
            obtain ⟨a, uu, rfl, ha, h1, m, hr⟩ := rp.at qo hS trivial
            cases (show ov = Value.ref a from ro)
            refine set_dS hp hw I h1 m hr hc.2.1 qi ri qd rv hc.2.2 fun u' mu' hx => ?_
            have x : Ext ρ H ρ (upd H a u') := Ext.wrote ha h1 m
            exact g ρ _ x (rp.wrote ha h1 m mu' (.inr ⟨a, _, ha, upd_same, hx ρ _ x⟩))
          · cases e
      · cases e
    · cases e
  · exact g.elim
theorem noExc_set {o i v : D} : NoExc (setM o i v) := fun S c fs S' h => by
  unfold setM at h
  split at h
  · split at h
    · split at h
      · split at h <;> cases h
      · cases h
    · split at h
      · split at h <;> cases h
      · split at h <;> cases h
    · cases h
  · cases h
theorem pg_subM (hp : X.prog = G.prog) (hw : X.w = G.world) (hu : X.A.units + 64 < cLine) {o i : Expr} {mo mi : Env → EM D} (ho : PE X o (tM X.K G W mo)) (hi : PE X i (tM X.K G W mi))
    (ha : ∀ v, assign (.Subscript o i pos) X.env v = (do
      let ov ← holding [v] (eval o X.env)
      let iv ← holding [v, ov] (eval i X.env)
      standAt pos
      holding [v, ov, iv] (setItem ov iv v)
      release [v, ov, iv] [])) : PG X (.Subscript o i pos) (tTG X.K G W (mSub mo mi)) :=
  PG.weak (pg_sub ho hi (pset_M (G := G) hp hw hu) ha) fun v σ H Q ⟨ρ, S, E, d, rp, re, q, g⟩ => by
    refine ⟨ρ, S, E, rp, re, Go.mono (Go.bind g) ?_⟩
    rintro v1 H1 ⟨ρ1, S1, o, x1, r1, q1, g1⟩
    refine ⟨ρ1, S1, E, r1, RepE.ext x1 re, Go.mono (Go.bind g1) ?_⟩
    rintro v2 H2 ⟨ρ2, S2, i, x2, r2, q2, g2⟩
    refine ⟨ρ2, S2, o, i, d, r2, RepV.ext x2 q1, q2, RepV.ext x2 (RepV.ext x1 q), ?_⟩
    unfold EM.bind at g2
    cases hs : setM o i d S2 with
    | ok a S3 =>
      rw [hs] at g2
      intro ρ3 H3 x3 r3
      exact g2 ρ3 σ H3 x3 r3 (RepE.ext x3 (RepE.ext x2 (RepE.ext x1 re)))
    | exc c fs S3 => exact (noExc_set _ _ _ _ hs).elim
    | stuck => rw [hs] at g2; exact g2
end

/-! ### statements -/
inductive SR where
  | nx (E : Env) (S : List DO) | rt (d : D) (S : List DO) | brk (E : Env) (S : List DO) | ct (E : Env) (S : List DO)
  | exc (c : Nat) (fs : List (Nat × D)) (E : Env) (S : List DO) | stuck
abbrev SM := Env → List DO → SR
def GoS (K : PySem.W.Frag) (G : Cls) (W : L2.WX) (ρ : List (Option Addr)) (H : Hp) (r : SR) (D : Ends) : Prop :=
  match r with
  | .nx E' S' => ∀ ρ' σ' H', Ext ρ H ρ' H' → Rep K G ρ' S' H' → RepE K G ρ' H' E' σ' → D.nx σ' H'
  | .rt d S' => ∀ ρ' v H', Ext ρ H ρ' H' → Rep K G ρ' S' H' → RepV K G ρ' H' d v → D.rt v H'
  | .brk E' S' => ∀ ρ' σ' H', Ext ρ H ρ' H' → Rep K G ρ' S' H' → RepE K G ρ' H' E' σ' → D.bk σ' H'
  | .ct E' S' => ∀ ρ' σ' H', Ext ρ H ρ' H' → Rep K G ρ' S' H' → RepE K G ρ' H' E' σ' → D.ct σ' H'
  | .exc c fs E' S' => ∀ ρ' σ' H' od, Ext ρ H ρ' H' → Rep K G ρ' S' H' → RepE K G ρ' H' E' σ' → RepX K G ρ' H' fs od → W (.ref (G.addr c)) od σ' H'
  | .stuck => False
def tS (K : PySem.W.Frag) (G : Cls) (W : L2.WX) (m : SM) : TS := fun D σ H => ∃ ρ S E, Rep K G ρ S H ∧ RepE K G ρ H E σ ∧ GoS K G W ρ H (m E S) D
section
variable {K : PySem.W.Frag} {G : Cls} {W : L2.WX} {ρ ρ' : List (Option Addr)} {S : List DO} {H H' : Hp} {E : Env} {σ : L2.St}
theorem GoS.ext {r : SR} {D : Ends} (x : Ext ρ H ρ' H') (h : GoS K G W ρ H r D) : GoS K G W ρ' H' r D := by
  cases r with
  | nx E' S' => exact fun ρ1 b H1 x1 r1 q => h ρ1 b H1 (x.trans x1) r1 q
  | rt E' S' => exact fun ρ1 b H1 x1 r1 q => h ρ1 b H1 (x.trans x1) r1 q
  | brk E' S' => exact fun ρ1 b H1 x1 r1 q => h ρ1 b H1 (x.trans x1) r1 q
  | ct E' S' => exact fun ρ1 b H1 x1 r1 q => h ρ1 b H1 (x.trans x1) r1 q
  | exc c fs E' S' => exact fun ρ1 σ' H1 od x1 r1 q z => h ρ1 σ' H1 od (x.trans x1) r1 q z
  | stuck => exact h
/-- a statement from an expression's run -/
def sOf {α : Type} (m : Env → EM α) (k : α → SM) : SM := fun E S => match m E S with
  | .ok a S' => k a E S'
  | .exc c fs S' => .exc c fs E S'
  | .stuck => .stuck
theorem GoS.of {α β : Type} {R : List (Option Addr) → Hp → α → β → Prop} {m : Env → EM α} {k : α → SM} {D : Ends} (re : RepE K G ρ H E σ) (h : GoS K G W ρ H (sOf m k E S) D) :
    Go K G R W σ ρ H (m E S) fun b H1 => ∃ ρ1 S1 a, Ext ρ H ρ1 H1 ∧ Rep K G ρ1 S1 H1 ∧ R ρ1 H1 a b ∧ RepE K G ρ1 H1 E σ ∧ GoS K G W ρ1 H1 (k a E S1) D := by
  unfold sOf at h
  cases e : m E S with
  | ok a S' => rw [e] at h; exact fun ρ1 b H1 x1 r1 q => ⟨ρ1, S', a, x1, r1, q, RepE.ext x1 re, GoS.ext x1 h⟩
  | exc c fs S' => rw [e] at h; exact fun ρ1 H1 od x1 r1 q => h ρ1 σ H1 od x1 r1 (RepE.ext x1 re) q
  | stuck => rw [e] at h; exact h
end
section
variable {X : Cx} {G : Cls} {W : L2.WX} {e c : Expr} {pos : Pos} {me : Env → EM D} {mc : Env → EM Bool} {ma mb : SM} {st : Stmt} {sts sa sb rest : List Stmt}
def sNext : SM := fun E S => .nx E S
def sSeq (m n : SM) : SM := fun E S => match m E S with
  | .nx E' S' => n E' S'
  | r => r
def sRet (m : Env → EM D) : SM := sOf m fun d _ S => .rt d S
def sRetN : SM := fun _ S => .rt .non S
def sExpr (m : Env → EM D) : SM := sOf m fun _ E S => .nx E S
def sIf (c : Env → EM Bool) (m n : SM) : SM := sOf c fun b E S => if b = true then m E S else n E S
def sAsg (m : Env → EM D) (g : D → Env → EM Env) : SM := sOf m fun d E S => match g d E S with
  | .ok E' S' => .nx E' S'
  | .exc c fs S' => .exc c fs E S'
  | .stuck => .stuck
theorem pss_nilM : PSs X [] (tS X.K G W sNext) := PSs.weak pss_nil fun D σ H ⟨ρ, S, E, rp, re, g⟩ => g ρ σ H (Ext.refl _ _) rp re
theorem pss_consM (h1 : PS X st (tS X.K G W ma)) (h2 : PSs X rest (tS X.K G W mb)) : PSs X (st :: rest) (tS X.K G W (sSeq ma mb)) :=
  PSs.weak (pss_cons h1 h2) fun D σ H ⟨ρ, S, E, rp, re, g⟩ => by
    refine ⟨ρ, S, E, rp, re, ?_⟩
    unfold sSeq at g
    cases hm : ma E S with
    | nx E' S' => rw [hm] at g; exact fun ρ1 σ1 H1 x1 r1 q1 => ⟨ρ1, S', E', r1, q1, GoS.ext x1 g⟩
    | rt d S' => rw [hm] at g; exact g
    | brk E' S' => rw [hm] at g; exact g
    | ct E' S' => rw [hm] at g; exact g
    | exc c fs E' S' => rw [hm] at g; exact g
    | stuck => rw [hm] at g; exact g
theorem ps_passM : PS X (.Pass pos) (tS X.K G W sNext) := PS.weak ps_pass fun D σ H ⟨ρ, S, E, rp, re, g⟩ => g ρ σ H (Ext.refl _ _) rp re
theorem ps_docM {x j pos'} : PS X (.Expr (.Constant (.str x) j pos) pos') (tS X.K G W sNext) := PS.weak ps_doc fun D σ H ⟨ρ, S, E, rp, re, g⟩ => g ρ σ H (Ext.refl _ _) rp re
def sBreak : SM := fun E S => .brk E S
def sCont : SM := fun E S => .ct E S
theorem ps_breakM : PS X (.Break pos) (tS X.K G W sBreak) := PS.weak ps_break fun D σ H ⟨ρ, S, E, rp, re, g⟩ => g ρ σ H (Ext.refl _ _) rp re
theorem ps_contM : PS X (.Continue pos) (tS X.K G W sCont) := PS.weak ps_continue fun D σ H ⟨ρ, S, E, rp, re, g⟩ => g ρ σ H (Ext.refl _ _) rp re
theorem ps_retM (he : PE X e (tM X.K G W me)) : PS X (.Return (some e) pos) (tS X.K G W (sRet me)) := PS.weak (ps_ret he) fun D σ H ⟨ρ, S, E, rp, re, g⟩ => by
  refine ⟨ρ, S, E, rp, re, Go.mono (GoS.of re g) ?_⟩
  rintro v H1 ⟨ρ1, S1, d, x1, r1, q1, _, g1⟩
  exact g1 ρ1 v H1 (Ext.refl _ _) r1 q1
theorem ps_retNM : PS X (.Return none pos) (tS X.K G W sRetN) := PS.weak ps_retN fun D σ H ⟨ρ, S, E, rp, re, g⟩ => g ρ .non H (Ext.refl _ _) rp .non
theorem ps_exprM (he : PE X e (tM X.K G W me)) (hs : swapsWith e none pos.line X.env = pure false) : PS X (.Expr e pos) (tS X.K G W (sExpr me)) := PS.weak (ps_expr he hs) fun D σ H ⟨ρ, S, E, rp, re, g⟩ => by
  refine ⟨ρ, S, E, rp, re, Go.mono (GoS.of re g) ?_⟩
  rintro v H1 ⟨ρ1, S1, d, x1, r1, q1, re1, g1⟩
  exact g1 ρ1 σ H1 (Ext.refl _ _) r1 re1
theorem ps_ifM (hc : PT X c (tT X.K G W mc)) (ha : PSs X sa (tS X.K G W ma)) (hb : PSs X sb (tS X.K G W mb)) : PS X (.If c sa sb pos) (tS X.K G W (sIf mc ma mb)) := PS.weak (ps_if hc ha hb) fun D σ H ⟨ρ, S, E, rp, re, g⟩ => by
  refine ⟨ρ, S, E, rp, re, Go.mono (GoS.of (R := RB) re g) ?_⟩
  rintro k H1 ⟨ρ1, S1, k', x1, r1, q1, re1, g1⟩
  cases q1
  cases k with
  | true => rw [if_pos rfl] at g1 ⊢; exact ⟨ρ1, S1, E, r1, re1, g1⟩
  | false => rw [if_neg Bool.false_ne_true] at g1 ⊢; exact ⟨ρ1, S1, E, r1, re1, g1⟩
theorem sAsg_of {m : Env → EM D} {g : D → Env → EM Env} {D : Ends} {σ : L2.St} {H : Hp} (h : tS X.K G W (sAsg m g) D σ H) : tAsg (tM X.K G W m) (tTG X.K G W g) D σ H := by
  obtain ⟨ρ, S, E, rp, re, g0⟩ := h
  refine ⟨ρ, S, E, rp, re, Go.mono (GoS.of re g0) ?_⟩
  rintro v H1 ⟨ρ1, S1, d, x1, r1, q1, re1, g1⟩
  refine ⟨ρ1, S1, E, d, r1, re1, q1, ?_⟩
  cases hg : g d E S1 with
  | ok E' S' => rw [hg] at g1; exact g1
  | exc c fs S' => rw [hg] at g1; exact fun ρ2 H2 od x2 r2 z => g1 ρ2 σ H2 od x2 r2 (RepE.ext x2 re1) z
  | stuck => rw [hg] at g1; exact g1
theorem ps_asgM {tg : Expr} {g : D → Env → EM Env} (he : PE X e (tM X.K G W me)) (hg : PG X tg (tTG X.K G W g)) (hs : swapsWithSole [tg] e pos.line X.env = pure false) (hw : swappedStores [tg] e X.env = pure none) (h1 : (assignEach [tg] X.env).map (·.2) = [assign tg X.env]) : PS X (.Assign [tg] e pos) (tS X.K G W (sAsg me g)) :=
  PS.weak (ps_asg he hg hs hw h1) fun D σ H h => sAsg_of h
theorem ps_setM {i : Nat} {x : Str} {pos' : Pos} (hN : X.N.Nodup) (hi : X.N[i]? = some x) (hx : Loc X.env.scope x) (he : PE X e (tM X.K G W me)) (hs : swapsWith e (some (.Name x pos')) pos.line X.env = pure false) (hf : X.fn x = true ∨ X.env.scope.names.lookup x = some .local) : PS X (.Assign [.Name x pos'] e pos) (tS X.K G W (sAsg me (mName i))) :=
  PS.weak (ps_set hN hi hx he hs hf) fun D σ H ⟨ρ, S, E, rp, re, g⟩ => by
    refine ⟨ρ, S, E, rp, re, Go.mono (GoS.of re g) ?_⟩
    rintro v H1 ⟨ρ1, S1, d, x1, r1, q1, re1, g1⟩
    exact g1 ρ1 _ H1 (Ext.refl _ _) r1 (re1.set q1)
/-! ### for -/
def sLoop (g : D → Env → EM Env) (body : SM) : List D → SM
  | [], E, S => .nx E S
  | d :: ds, E, S => match g d E S with
    | .ok E1 S1 => match body E1 S1 with
      | .nx E2 S2 => sLoop g body ds E2 S2
      | .ct E2 S2 => sLoop g body ds E2 S2
      | .brk E2 S2 => .nx E2 S2
      | r => r
    | .exc c fs S1 => .exc c fs E S1
    | .stuck => .stuck
def sFor (it : Env → EM (List D)) (g : D → Env → EM Env) (body : SM) : SM := sOf it fun ds E S => sLoop g body ds E S
theorem ps_forM {tg iter : Expr} {mi : Env → EM (List D)} {g : D → Env → EM Env} {body : List Stmt} {mb : SM} (hp : PassesOwn (model X.prog X.w) X.A X.env X.xe) (hc : X.calm = true) (hi : PI X tg iter (tI X.K G W mi)) (hg : PG X tg (tTG X.K G W g)) (hb : PSs X body (tS X.K G W mb))
    (hs : ∀ x, foldedSetIterable iter X.env x = pure x) : PS X (.For tg iter body [] pos) (tS X.K G W (sFor mi g mb)) :=
  PS.weak (ps_for hp hc hi hg hb hs) fun D σ H ⟨ρ, S, E, rp, re, g0⟩ => by
    refine ⟨ρ, S, E, rp, re, ?_⟩
    unfold sFor sOf at g0
    cases hm : mi E S with
    | stuck => rw [hm] at g0; exact g0.elim
    | exc c fs S' => rw [hm] at g0; exact fun ρ1 H1 od x1 r1 z => g0 ρ1 σ H1 od x1 r1 (RepE.ext x1 re) z
    | ok ds S' =>
      rw [hm] at g0
      intro ρ1 J H1 x1 r1 w
      refine ⟨fun i m σ' H' => m + i = ds.length ∧ ∃ ρ' S' E', Ext ρ1 H1 ρ' H' ∧ Rep X.K G ρ' S' H' ∧ RepE X.K G ρ' H' E' σ' ∧ GoS X.K G W ρ' H' (sLoop g mb (ds.drop i) E' S') D,
        ⟨ds.length, rfl, ρ1, S', E, Ext.refl _ _, r1, RepE.ext x1 re, GoS.ext x1 g0⟩, ?_⟩
      rintro i m σ' H' ⟨hm', ρ', S2, E', x', r', re', g'⟩
      by_cases hi : i < ds.length
      · refine .inr ?_
        have hd : ds[i]? = some ds[i] := List.getElem?_eq_getElem hi
        obtain ⟨go, yl⟩ := w.go i _ ρ' H' hd x'
        refine ⟨go, fun σ2 H2 => ∃ ρ2 S3 E2, Ext ρ1 H1 ρ2 H2 ∧ Rep X.K G ρ2 S3 H2 ∧ RepE X.K G ρ2 H2 E2 σ2 ∧ GoS X.K G W ρ2 H2 (sLoop g mb (ds.drop (i + 1)) E2 S3) D, ?_, fun v H2 y => ?_⟩
        · rintro σ2 H2 ⟨ρ2, S3, E2, z⟩
          exact ⟨m - 1, by omega, by omega, ρ2, S3, E2, z⟩
        · obtain ⟨xv, rv, qv⟩ := yl S2 v H2 r' y
          rw [List.drop_eq_getElem_cons hi] at g'
          unfold sLoop at g'
          refine ⟨ρ', S2, E', ds[i], rv, RepE.ext xv re', qv, ?_⟩
          cases hg2 : g ds[i] E' S2 with
          | stuck => rw [hg2] at g'; exact g'
          | exc c fs S3 => rw [hg2] at g'; exact fun ρ3 H3 od x3 r3 z => g' ρ3 σ' H3 od (xv.trans x3) r3 (RepE.ext x3 (RepE.ext xv re')) z
          | ok E1 S3 =>
            rw [hg2] at g'
            intro ρ3 σ3 H3 x3 r3 re3
            refine ⟨ρ3, S3, E1, r3, re3, ?_⟩
            have x13 : Ext ρ1 H1 ρ3 H3 := (x'.trans xv).trans x3
            have x03 : Ext ρ' H' ρ3 H3 := xv.trans x3
            dsimp only at g'
            cases hb2 : mb E1 S3 with
            | nx E2 S4 => rw [hb2] at g'; exact fun ρ4 σ4 H4 x4 r4 re4 => ⟨ρ4, S4, E2, x13.trans x4, r4, re4, GoS.ext (x03.trans x4) g'⟩
            | ct E2 S4 => rw [hb2] at g'; exact fun ρ4 σ4 H4 x4 r4 re4 => ⟨ρ4, S4, E2, x13.trans x4, r4, re4, GoS.ext (x03.trans x4) g'⟩
            | brk E2 S4 => rw [hb2] at g'; exact fun ρ4 σ4 H4 x4 r4 re4 => g' ρ4 σ4 H4 (x03.trans x4) r4 re4
            | rt d S4 => rw [hb2] at g'; exact GoS.ext x03 g'
            | exc c fs E2 S4 => rw [hb2] at g'; exact fun ρ4 σ4 H4 od x4 r4 re4 z => g' ρ4 σ4 H4 od (x03.trans x4) r4 re4 z
            | stuck => rw [hb2] at g'; exact g'
      · refine .inl ?_
        have e0 : i = ds.length := by omega
        subst e0
        rw [List.drop_length] at g'
        exact ⟨w.stop ρ' H' x', g' ρ' σ' H' (Ext.refl _ _) r' re'⟩
/-! ### while: at most n turns -/
def sWhile (c : Env → EM Bool) (body : SM) : Nat → SM
  | 0 => fun _ _ => .stuck
  | n + 1 => sOf c fun b E S => if b = true then (match body E S with
      | .nx E2 S2 => sWhile c body n E2 S2
      | .ct E2 S2 => sWhile c body n E2 S2
      | .brk E2 S2 => .nx E2 S2
      | r => r) else .nx E S
end
end PK
namespace PK
open PySem PySem.Spec PyProof.Rows L2

section
variable {X : Cx} {G : Cls} {W : L2.WX} {e c : Expr} {pos : Pos} {mc : Env → EM Bool} {mb : SM}
theorem ps_whileM {body : List Stmt} (n : Nat) (hp : PassesOwn (model X.prog X.w) X.A X.env X.xe) (hc : PT X c (tT X.K G W mc)) (hb : PSs X body (tS X.K G W mb)) : PS X (.While c body [] pos) (tS X.K G W (sWhile mc mb n)) :=
  PS.weak (ps_while hp hc hb) fun D σ H ⟨ρ, S, E, rp, re, g⟩ => by
    refine ⟨fun m σ' H' => ∃ ρ' S' E', Ext ρ H ρ' H' ∧ Rep X.K G ρ' S' H' ∧ RepE X.K G ρ' H' E' σ' ∧ GoS X.K G W ρ' H' (sWhile mc mb m E' S') D, ⟨n, ρ, S, E, Ext.refl _ _, rp, re, g⟩, ?_⟩
    rintro m σ' H' ⟨ρ', S', E', x', r', re', g'⟩
    cases m with
    | zero => exact g'.elim
    | succ m =>
      refine ⟨ρ', S', E', r', re', Go.mono (GoS.of (R := RB) re' g') ?_⟩
      rintro b H1 ⟨ρ1, S1, b', x1, r1, q1, re1, g1⟩
      cases q1
      cases b with
      | false => rw [if_neg Bool.false_ne_true] at g1 ⊢; exact g1 ρ1 σ' H1 (Ext.refl _ _) r1 re1
      | true =>
        rw [if_pos rfl] at g1 ⊢
        refine ⟨fun σ2 H2 => ∃ ρ2 S2 E2, Ext ρ H ρ2 H2 ∧ Rep X.K G ρ2 S2 H2 ∧ RepE X.K G ρ2 H2 E2 σ2 ∧ GoS X.K G W ρ2 H2 (sWhile mc mb m E2 S2) D, fun σ2 H2 z => ⟨m, Nat.lt_succ_self m, z⟩, ρ1, S1, E', r1, re1, ?_⟩
        cases hb2 : mb E' S1 with
        | nx E2 S4 => rw [hb2] at g1; exact fun ρ4 σ4 H4 x4 r4 re4 => ⟨ρ4, S4, E2, (x'.trans x1).trans x4, r4, re4, GoS.ext x4 g1⟩
        | ct E2 S4 => rw [hb2] at g1; exact fun ρ4 σ4 H4 x4 r4 re4 => ⟨ρ4, S4, E2, (x'.trans x1).trans x4, r4, re4, GoS.ext x4 g1⟩
        | brk E2 S4 => rw [hb2] at g1; exact fun ρ4 σ4 H4 x4 r4 re4 => g1 ρ4 σ4 H4 x4 r4 re4
        | rt d S4 => rw [hb2] at g1; exact g1
        | exc c fs E2 S4 => rw [hb2] at g1; exact g1
        | stuck => rw [hb2] at g1; exact g1
end

/-! ### list comprehensions -/
def wipeE (E : Env) (vs : List Nat) : Env := vs.foldr (fun v E => E.set v none) E
/-- one clause: t for the target, c the tests, m the element -/
def cLoop (t : Tgt) (c : Env → EM Bool) (m : Env → EM D) (Ew : Env) : List D → EM (List D)
  | [] => EM.pure []
  | d :: ds => match t.put d Ew with
    | none => EM.fail
    | some E1 => EM.bind (c E1) fun b => if b = true then EM.bind (m E1) fun x => EM.bind (cLoop t c m Ew ds) fun xs => EM.pure (x :: xs) else cLoop t c m Ew ds
/-- nothing may be raised within -/
def noX {α : Type} (m : EM α) : EM α := fun S => match m S with
  | .exc _ _ _ => .stuck
  | r => r
def fLc (mi : Env → EM (List D)) (t : Tgt) (c : Env → EM Bool) (m : Env → EM D) (vs : List Nat) : Env → EM DO := fun E => EM.bind (mi E) fun ds => if ds.length ≤ 16777216 then EM.bind (noX (cLoop t c m (wipeE E vs) ds)) fun xs => EM.pure (.lst xs) else EM.fail
def eYes : Env → EM Bool := fun _ => EM.pure true
section
variable {K : PySem.W.Frag} {G : Cls} {ρ ρ' : List (Option Addr)} {H H' : Hp} {S : List DO} {D0 : Addr}
/-- the end of a comprehension's loop: the rest of its items -/
def GoC (K : PySem.W.Frag) (G : Cls) (D0 : Addr) (ρ0 : List (Option Addr)) (H0 : Hp) (acc : List D) (r : Res (List D)) (Q : VK) : Prop := match r with
  | .ok xs S' => ∀ ρ' us H', Ext ρ0 H0 ρ' H' → Rep K G ρ' S' H' → (∀ i : Nat, ρ'[i]? ≠ some (some D0)) → H' D0 = some (.lst us) → RepVs K G ρ' H' (acc ++ xs) us → Q (.ref D0) H'
  | _ => False
theorem notCell (x : Ext ρ H ρ' H') (n : ∀ i : Nat, ρ[i]? ≠ some (some D0)) {o : HO} (h : H D0 = some o) : ∀ i : Nat, ρ'[i]? ≠ some (some D0) := fun i e => by
  by_cases hi : i < ρ.length
  · rcases x.old i hi with q | q
    · exact n i (q.symm.trans e)
    · rw [q] at e; cases e
  · have := x.new i D0 (Nat.le_of_not_lt hi) e
    rw [h] at this; cases this
theorem Ext.known' {ρ0 : List (Option Addr)} {H0 : Hp} {o : HO} (x : Ext ρ0 H0 ρ' H') (hp : H0 D0 = none) : Ext ρ0 H0 ρ' (upd H' D0 o) where
  keep := fun b v hb nb => by rw [upd_ne (ne_of_none hb hp)]; exact x.keep b v hb nb
  tups := fun b v hb => by rw [upd_ne (ne_of_none hb hp)]; exact x.tups b v hb
  frzs := fun b v w hb => by rw [upd_ne (ne_of_none hb hp)]; exact x.frzs b v w hb
  xds := fun b w hb => by rw [upd_ne (ne_of_none hb hp)]; exact x.xds b w hb
  dom := fun b hb => by
    by_cases e : b = D0
    · rw [e]; exact hp
    · rw [upd_ne e] at hb; exact x.dom b hb
  len := x.len
  old := x.old
  new := x.new
end
section
variable {X : Cx} {G : Cls} {W : L2.WX} {pos : Pos}
theorem pts_nilM : PTs X [] (tT X.K G W eYes) := ⟨fun pins s σ H Q I ⟨ρ, S, E, rp, re, g⟩ => pts_nil.run pins s σ H Q I (g.here rp rfl)⟩
theorem pts_oneM {c : Expr} {m : Env → EM Bool} (h : PT X c (tT X.K G W m)) : PTs X [c] (tT X.K G W m) := pts_one h
variable {elt tg iter : Expr} {ifs : List Expr} {scope : Scope} {own : List (Str × Nat)} {t : Tgt} {mi : Env → EM (List D)} {c : Env → EM Bool} {m : Env → EM D}
theorem tLc_of (ht : ∀ i ∈ t.slots, i ∈ own.map (·.2)) {σ : L2.St} {H : Hp} {Q : VK} (h : tF X.K G W (fLc mi t c m (own.map (·.2))) σ H Q) : tLc (tI X.K G W mi) (t.tg X.K) (tT X.K G W0 c) (tM X.K G W0 m) (own.map (·.2)) σ H Q := by
  obtain ⟨ρ, S, E, rp, re, g0⟩ := h
  refine ⟨ρ, S, E, rp, re, ?_⟩
  unfold fLc EM.bind at g0
  cases hm : mi E S with
  | stuck => rw [hm] at g0; exact g0.elim
  | exc cc fs S' => rw [hm] at g0; exact g0
  | ok ds S' =>
    rw [hm] at g0
    intro ρ1 J H1 x1 r1 w D0 hD
    dsimp only at g0
    by_cases hl : ds.length ≤ 16777216
    · rw [if_pos hl] at g0
      have w0 : GoC X.K G D0 ρ1 H1 [] (cLoop t c m (wipeE E (own.map (·.2))) ds S') Q := by
        unfold noX at g0
        cases hc : cLoop t c m (wipeE E (own.map (·.2))) ds S' with
        | stuck => rw [hc] at g0; exact g0
        | exc cc fs S2 => rw [hc] at g0; exact g0
        | ok xs S2 =>
          rw [hc] at g0
          intro ρ' us H' x' r' n hh ru
          exact g0 ρ' D0 (.lst us) H' (x1.trans x') r' (x1.dom _ hD) n hh trivial ⟨us, rfl, ru⟩
      refine ⟨fun i k H' => k + i = ds.length ∧ ∃ ρ' S2 acc us, Ext ρ1 H1 ρ' H' ∧ Rep X.K G ρ' S2 H' ∧ (∀ i : Nat, ρ'[i]? ≠ some (some D0)) ∧ H' D0 = some (.lst us) ∧ RepVs X.K G ρ' H' acc us ∧ acc.length ≤ i ∧ GoC X.K G D0 ρ1 H1 acc (cLoop t c m (wipeE E (own.map (·.2))) (ds.drop i) S2) Q,
        ⟨ds.length, rfl, ρ1, S', [], [], Ext.laid hD, r1.laid hD, r1.notNew hD, upd_same, .nil, Nat.le_refl _, w0⟩, ?_⟩
      rintro i k H' ⟨hk, ρ', S2, acc, us, x', r', n', hD', ru, hacc, g'⟩
      by_cases hi : i < ds.length
      · refine .inr ?_
        have hd : ds[i]? = some ds[i] := List.getElem?_eq_getElem hi
        obtain ⟨go, yl⟩ := w.go i _ ρ' H' hd x'
        refine ⟨go, fun H2 => ∃ ρ2 S3 acc us, Ext ρ1 H1 ρ2 H2 ∧ Rep X.K G ρ2 S3 H2 ∧ (∀ i : Nat, ρ2[i]? ≠ some (some D0)) ∧ H2 D0 = some (.lst us) ∧ RepVs X.K G ρ2 H2 acc us ∧ acc.length ≤ i + 1 ∧ GoC X.K G D0 ρ1 H1 acc (cLoop t c m (wipeE E (own.map (·.2))) (ds.drop (i + 1)) S3) Q, ?_, fun v H2 y => ?_⟩
        · rintro H2 ⟨ρ2, S3, acc, us, z⟩
          exact ⟨k - 1, by omega, by omega, ρ2, S3, acc, us, z⟩
        · obtain ⟨xv, rv, qv⟩ := yl S2 v H2 r' y
          rw [List.drop_eq_getElem_cons hi] at g'
          unfold cLoop at g'
          cases hp : t.put ds[i] (wipeE E (own.map (·.2))) with
          | none => rw [hp] at g'; exact g'.elim
          | some E1 =>
            rw [hp] at g'
            have rew : RepE X.K G ρ' H2 (wipeE E (own.map (·.2))) (L2.wipe σ (own.map (·.2))) := RepE.wipe (vs := []) (RepE.ext ((x1.trans x').trans xv) re) _
            obtain ⟨σ', k1, k2, k3⟩ := t.ok rew qv hp
            refine k1 _ ⟨?_, ?_⟩
            · rw [k3 _ ht]
              have idem : ∀ vs : List Nat, ∀ τ : L2.St, L2.wipe (L2.wipe τ vs) vs = L2.wipe τ vs := by
                intro vs τ
                have step : ∀ (us : List Nat) (τ : L2.St), (∀ u ∈ us, u ∈ vs) → L2.wipe (L2.wipe τ us) vs = L2.wipe τ vs := by
                  intro us
                  induction us with
                  | nil => intro τ _; rfl
                  | cons u us ih =>
                    intro τ hu
                    show L2.wipe ((L2.wipe τ us).set u none) vs = _
                    rw [wipe_set (hu u (by simp)), ih τ (fun z hz => hu z (by simp [hz]))]
                exact step vs τ fun u hu => hu
              exact idem _ _
            · have hD2 : H2 D0 = some (.lst us) := xv.keep _ _ hD' n'
              refine ⟨ρ', S2, E1, rv, k2, ?_⟩
              dsimp only at g'
              unfold EM.bind at g'
              cases hc : c E1 S2 with
              | stuck => rw [hc] at g'; exact g'
              | exc cc fs S3 => rw [hc] at g'; exact False.elim g'
              | ok b S3 =>
                rw [hc] at g'
                intro ρ3 b' H3 x3 r3 eb
                cases eb
                have hD3 : H3 D0 = some (.lst us) := x3.keep _ _ hD2 n'
                have n3 := notCell x3 n' hD2
                have x13 := (x'.trans xv).trans x3
                dsimp only at g'
                cases b with
                | false =>
                  rw [if_neg Bool.false_ne_true] at g' ⊢
                  exact ⟨ρ3, S3, acc, us, x13, r3, n3, hD3, RepVs.ext x3 (RepVs.ext xv ru), by omega, g'⟩
                | true =>
                  rw [if_pos rfl] at g' ⊢
                  refine ⟨ρ3, S3, E1, r3, RepE.ext x3 k2, ?_⟩
                  cases hm2 : m E1 S3 with
                  | stuck => rw [hm2] at g'; exact g'
                  | exc cc fs S4 => rw [hm2] at g'; exact False.elim g'
                  | ok d S4 =>
                    rw [hm2] at g'
                    intro ρ4 v4 H4 x4 r4 q4
                    have hD4 : H4 D0 = some (.lst us) := x4.keep _ _ hD3 n3
                    have n4 := notCell x4 n3 hD3
                    have x14 := x13.trans x4
                    have ru4 := RepVs.ext x4 (RepVs.ext x3 (RepVs.ext xv ru))
                    have mu : Mut (H4 D0) := by rw [hD4]; trivial
                    refine ⟨us, hD4, ?_, ρ4, S4, acc ++ [d], us ++ [v4], x14.known' hD, r4.turn mu n4, n4, upd_same, RepVs.turn mu (ru4.append (.cons q4 .nil)), by simp; omega, ?_⟩
                    · rw [← ru.length]
                      have := hacc
                      have hz : sizeLine = 16777216 := sizeLine_eq
                      omega
                    · dsimp only at g'
                      cases hr : cLoop t c m (wipeE E (own.map (·.2))) (ds.drop (i + 1)) S4 with
                      | stuck => rw [hr] at g'; exact g'
                      | exc cc fs S5 => rw [hr] at g'; exact g'
                      | ok xs S5 =>
                        rw [hr] at g'
                        intro ρ' us' H' x' r' n hh ru
                        exact g' ρ' us' H' x' r' n hh (by simpa using ru)
      · refine .inl ?_
        have e0 : i = ds.length := by omega
        subst e0
        rw [List.drop_length] at g'
        refine ⟨w.stop ρ' H' x', g' ρ' us H' x' r' n' hD' (by simpa using ru)⟩
    · rw [if_neg hl] at g0; exact g0.elim
theorem pf_lc (hc : X.calm = true) (hN : X.N.Nodup) (hi : PI X tg iter (tI X.K G W mi)) (ok : BlkOk X.N X.env.scope scope own) (hts : ∀ i ∈ t.slots, i ∈ own.map (·.2))
    (hg : ∀ (s : Shared) (H : Hp) (C : Addr) (cl : List (Str × Addr)) (fp : List Addr), PG (X.blk s H scope (compEnvC scope cl C X.env) fp) tg (t.tg X.K)) (ht : ∀ (s : Shared) (H : Hp) (C : Addr) (cl : List (Str × Addr)) (fp : List Addr), PTs (X.blk s H scope (compEnvC scope cl C X.env) fp) ifs (tT X.K G W0 c))
    (he : ∀ (s : Shared) (H : Hp) (C : Addr) (cl : List (Str × Addr)) (fp : List Addr), PE (X.blk s H scope (compEnvC scope cl C X.env) fp) elt (tM X.K G W0 m)) (hs : ∀ x, foldedSetIterable iter X.env x = pure x) :
    PE X (.ListComp elt [⟨tg, iter, ifs, 0⟩] scope pos) (tF X.K G W (fLc mi t c m (own.map (·.2)))) :=
  (pe_lc hc hN hi ok hg ht he hs).weak fun σ H Q h => tLc_of hts h
end
end PK
namespace PK
open PySem PySem.Spec PyProof.Rows L2

/-! ### a cell locked while a statement runs -/
mutual
/-- no value of the kind that is locked (true: lists, false: dicts) -/
def D.noL (k : Bool) : D → Bool
  | .non | .bl _ | .int _ | .str _ | .ref _ => true
  | .tup xs => D.noLs k xs
  | .lst xs => !k && D.noLs k xs
  | .dct kvs => k && D.noLK k kvs
  | .ins _ fs => D.noLF k fs
  | .scr _ => !k
def D.noLs (k : Bool) : List D → Bool
  | [] => true
  | x :: xs => D.noL k x && D.noLs k xs
def D.noLK (k : Bool) : List (D × D) → Bool
  | [] => true
  | (a, b) :: xs => D.noL k a && D.noL k b && D.noLK k xs
def D.noLF (k : Bool) : List (Nat × D) → Bool
  | [] => true
  | (_, b) :: xs => D.noL k b && D.noLF k xs
end
def DO.noL (k : Bool) : DO → Bool
  | .gone => true
  | .lst xs => D.noLs k xs
  | .dct kvs => D.noLK k kvs
  | .ins _ fs => D.noLF k fs
  | .lkl xs => D.noLs k xs
  | .lkd kvs => D.noLK k kvs
def UK (k : Bool) (u : HO) : Prop := match k with
  | true => ∃ us, u = .lst us
  | false => (∃ us, u = .dK us) ∨ ∃ φ, u = .ext φ
section
variable {K : PySem.W.Frag} {G : Cls} {ρ : List (Option Addr)} {H : Hp} {k : Bool} {a : Addr} {u : HO} {od : Obj}
theorem unl_ne (hd : H a = some (.frz od u)) {b : Addr} {o : HO} (h : H b = some o) (n : o ≠ .frz od u) : upd H a u b = some o := by
  rw [upd_ne (fun z => n (by subst z; rw [hd] at h; cases h; rfl))]; exact h
theorem UK.ntup (uk : UK k u) (us : List V) : u ≠ .tup us := by
  unfold UK at uk
  cases k
  · rcases uk with ⟨_, rfl⟩ | ⟨_, rfl⟩ <;> (intro z; cases z)
  · obtain ⟨_, rfl⟩ := uk; intro z; cases z
theorem UK.nins (uk : UK k u) (C dx : Addr) (us : List (Str × V)) : u ≠ .ins C dx us := by
  unfold UK at uk
  cases k
  · rcases uk with ⟨_, rfl⟩ | ⟨_, rfl⟩ <;> (intro z; cases z)
  · obtain ⟨_, rfl⟩ := uk; intro z; cases z
theorem UK.nlst (uk : UK false u) (us : List V) : u ≠ .lst us := by
  rcases uk with ⟨_, rfl⟩ | ⟨_, rfl⟩ <;> (intro z; cases z)
theorem UK.ndct (uk : UK true u) {b : Addr} {kvs : List (D × D)} {u' : HO} (r : RepD K G ρ H b kvs u') : u ≠ u' := by
  obtain ⟨_, rfl⟩ := uk
  cases r <;> (intro z; cases z)
theorem UK.mut (uk : UK k u) : Mut (some u) := by
  unfold UK at uk
  cases k
  · rcases uk with ⟨_, rfl⟩ | ⟨_, rfl⟩ <;> trivial
  · obtain ⟨_, rfl⟩ := uk; trivial
theorem SqT.unl (hd : H a = some (.frz od u)) (uk : UK k u) {b : Addr} {us : List V} (h : SqT K H b us) : SqT K (upd H a u) b us := by
  rcases h with (h | ⟨ob, h⟩) | h
  · exact .inl (.inl (unl_ne hd h (by intro z; cases z)))
  · exact .inl (.inr ⟨ob, unl_ne hd h (by intro z; cases z; exact uk.ntup _ rfl)⟩)
  · exact .inr h
mutual
theorem RepV.unl (hd : H a = some (.frz od u)) (uk : UK k u) : ∀ {d : D} {v : V}, RepV K G ρ H d v → d.noL k = true → RepV K G ρ (upd H a u) d v
  | _, _, .non, _ => .non
  | _, _, .bl b, _ => .bl b
  | _, _, .int i, _ => .int i
  | _, _, .str z, _ => .str z
  | _, _, .tup h r, p => .tup (SqT.unl hd uk h) (RepVs.unl hd uk r (by simpa [D.noL] using p))
  | _, _, .lst h r, p => by
    simp only [D.noL, Bool.and_eq_true, Bool.not_eq_true'] at p
    have uk' : UK false u := p.1 ▸ uk
    exact .lst (unl_ne hd h (by intro z; cases z; exact uk'.nlst _ rfl)) (RepVs.unl hd uk r p.2)
  | _, _, .dct h r, p => by
    simp only [D.noL, Bool.and_eq_true] at p
    have uk' : UK true u := p.1 ▸ uk
    exact .dct (unl_ne hd h (by intro z; cases z; exact uk'.ndct r rfl)) (RepD.unl hd uk r p.2)
  | _, _, .ins hc h r, p => .ins hc (unl_ne hd h (by intro z; cases z; exact uk.nins _ _ _ rfl)) (RepF.unl hd uk r (by simpa [D.noL] using p))
  | _, _, .ex0 hc g, p => .ex0 hc g
  | _, _, .ex1 hc g h r, p => .ex1 hc g (unl_ne hd h (by intro z; cases z)) (RepF.unl hd uk r (by simpa [D.noL] using p))
  | _, _, .scr h, p => by
    simp only [D.noL, Bool.not_eq_true'] at p
    have uk' : UK false u := p ▸ uk
    exact .scr (h.elim (fun ⟨o, h⟩ => .inl ⟨o, unl_ne hd h (by intro z; cases z; exact uk'.nlst _ rfl)⟩) .inr)
  | _, _, .ref h q, _ => .ref h q
theorem RepVs.unl (hd : H a = some (.frz od u)) (uk : UK k u) : ∀ {ds : List D} {vs : List V}, RepVs K G ρ H ds vs → D.noLs k ds = true → RepVs K G ρ (upd H a u) ds vs
  | _, _, .nil, _ => .nil
  | _, _, .cons h r, p => by
    simp only [D.noLs, Bool.and_eq_true] at p
    exact .cons (RepV.unl hd uk h p.1) (RepVs.unl hd uk r p.2)
theorem RepD.unl (hd : H a = some (.frz od u)) (uk : UK k u) : ∀ {b : Addr} {kvs : List (D × D)} {w : HO}, RepD K G ρ H b kvs w → D.noLK k kvs = true → RepD K G ρ (upd H a u) b kvs w
  | _, _, _, .k r, p => .k (RepK.unl hd uk r p)
  | _, _, _, .t r, p => .t (RepT.unl hd uk r p)
theorem RepT.unl (hd : H a = some (.frz od u)) (uk : UK k u) : ∀ {kvs : List (D × D)} {xs : List (NestedKey × Addr × Value)}, RepT K G ρ H kvs xs → D.noLK k kvs = true → RepT K G ρ (upd H a u) kvs xs
  | _, _, .nil, _ => .nil
  | _, _, .cons nk dp hk h rel r, p => by
    simp only [D.noLK, Bool.and_eq_true] at p
    exact .cons nk dp (RepV.unl hd uk hk p.1.1) (RepV.unl hd uk h p.1.2) rel (RepT.unl hd uk r p.2)
theorem RepK.unl (hd : H a = some (.frz od u)) (uk : UK k u) : ∀ {kvs : List (D × D)} {us : List (Key × V)}, RepK K G ρ H kvs us → D.noLK k kvs = true → RepK K G ρ (upd H a u) kvs us
  | _, _, .nil, _ => .nil
  | _, _, .int h r, p => by
    simp only [D.noLK, Bool.and_eq_true] at p
    exact .int (RepV.unl hd uk h p.1.2) (RepK.unl hd uk r p.2)
  | _, _, .str h r, p => by
    simp only [D.noLK, Bool.and_eq_true] at p
    exact .str (RepV.unl hd uk h p.1.2) (RepK.unl hd uk r p.2)
theorem RepF.unl (hd : H a = some (.frz od u)) (uk : UK k u) : ∀ {fs : List (Nat × D)} {us : List (Str × V)}, RepF K G ρ H fs us → D.noLF k fs = true → RepF K G ρ (upd H a u) fs us
  | _, _, .nil, _ => .nil
  | _, _, .cons h r, p => by
    simp only [D.noLF, Bool.and_eq_true] at p
    exact .cons (RepV.unl hd uk h p.1) (RepF.unl hd uk r p.2)
end
theorem RepC.unl (hd : H a = some (.frz od u)) (uk : UK k u) {b : Addr} {o : DO} {w : HO} (r : RepC K G ρ H b o w) (p : o.noL k = true) : RepC K G ρ (upd H a u) b o w := by
  cases o with
  | gone => exact r
  | lst xs => obtain ⟨us, e, r⟩ := r; exact ⟨us, e, RepVs.unl hd uk r p⟩
  | dct kvs => exact RepD.unl hd uk r p
  | ins c fs => obtain ⟨hc, dx, us, e, r⟩ := r; exact ⟨hc, dx, us, e, RepF.unl hd uk r p⟩
  | lkl xs => obtain ⟨od, us, e, r⟩ := r; exact ⟨od, us, e, RepVs.unl hd uk r p⟩
  | lkd kvs => obtain ⟨od, u', e, e2, r⟩ := r; exact ⟨od, u', e, e2, RepD.unl hd uk r p⟩
end
def lkO : DO → Option (DO × Bool)
  | .lst xs => some (.lkl xs, true)
  | .dct kvs => some (.lkd kvs, false)
  | _ => none
def unO : Bool → DO → Option DO
  | true, .lkl xs => some (.lst xs)
  | false, .lkd kvs => some (.dct kvs)
  | _, _ => none
def cleanE (k : Bool) (E : Env) : Bool := E.all fun o => match o with
  | some d => d.noL k
  | none => true
def unR (r : Nat) (k : Bool) : SR → SR
  | .nx E S => (match S[r]? with
    | some o => (match unO k o with
      | some o' => if cleanE k E = true ∧ S.all (DO.noL k) = true then .nx E (S.set r o') else .stuck
      | none => .stuck)
    | none => .stuck)
  | .brk E S => (match S[r]? with
    | some o => (match unO k o with
      | some o' => if cleanE k E = true ∧ S.all (DO.noL k) = true then .brk E (S.set r o') else .stuck
      | none => .stuck)
    | none => .stuck)
  | .ct E S => (match S[r]? with
    | some o => (match unO k o with
      | some o' => if cleanE k E = true ∧ S.all (DO.noL k) = true then .ct E (S.set r o') else .stuck
      | none => .stuck)
    | none => .stuck)
  | .rt d S => (match S[r]? with
    | some o => (match unO k o with
      | some o' => if d.noL k = true ∧ S.all (DO.noL k) = true then .rt d (S.set r o') else .stuck
      | none => .stuck)
    | none => .stuck)
  | .exc c fs E S => .exc c fs E S
  | .stuck => .stuck
def sLock (i : Nat) (m : SM) : SM := fun E S => match E[i]? with
  | some (some (.ref r)) => (match S[r]? with
    | some o => (match lkO o with
      | some (o', k) => unR r k (m E (S.set r o'))
      | none => .stuck)
    | none => .stuck)
  | _ => .stuck
section
variable {K : PySem.W.Frag} {G : Cls} {ρ ρ2 : List (Option Addr)} {H H2 : Hp} {S S2 : List DO} {a : Addr} {u : HO} {od : Obj} {r : Nat} {k : Bool}
theorem Ext.unl (h0 : H a = some u) (m : Mut (some u)) (hc : ρ[r]? = some (some a)) (x : Ext ρ (upd H a (.frz od u)) ρ2 H2) (h2 : H2 a = some (.frz od u)) : Ext ρ H ρ2 (upd H2 a u) where
  keep := fun b o h n => by
    have hb : b ≠ a := fun z => n r (by rw [z]; exact hc)
    rw [upd_ne hb]
    exact x.keep b o (by rw [upd_ne hb]; exact h) n
  tups := fun b us h => by
    have hb : b ≠ a := fun z => by subst z; rw [h0] at h; cases h; exact m
    rw [upd_ne hb]
    exact x.tups b us (by rw [upd_ne hb]; exact h)
  frzs := fun b o w h => by
    have hb : b ≠ a := fun z => by subst z; rw [h0] at h; cases h; exact m
    rw [upd_ne hb]
    exact x.frzs b o w (by rw [upd_ne hb]; exact h)
  xds := fun b w h => by
    have hb : b ≠ a := fun z => by subst z; rw [h0] at h; cases h; exact m
    rw [upd_ne hb]
    exact x.xds b w (by rw [upd_ne hb]; exact h)
  dom := fun b h => by
    have hb : b ≠ a := fun z => by subst z; rw [upd_same] at h; cases h
    rw [upd_ne hb] at h
    have := x.dom b h
    rwa [upd_ne hb] at this
  len := x.len
  old := x.old
  new := fun i b hi e => by
    have := x.new i b hi e
    have hb : b ≠ a := fun z => by subst z; rw [upd_same] at this; cases this
    rwa [upd_ne hb] at this
/-- the cell is unlocked -/
theorem Rep.unl (rp : Rep K G ρ2 S2 H2) (hr : ρ2[r]? = some (some a)) (h2 : H2 a = some (.frz od u)) (uk : UK k u) (hc : S2.all (DO.noL k) = true) {o' : DO} (ro : RepC K G ρ2 (upd H2 a u) a o' u) : Rep K G ρ2 (S2.set r o') (upd H2 a u) where
  len := by simp [rp.len]
  inj := rp.inj
  obj := fun j o e => by
    by_cases hj : r = j
    · subst hj
      by_cases hi : r < S2.length
      · rw [List.getElem?_set_self hi] at e
        cases e
        exact .inr ⟨a, u, hr, upd_same, ro⟩
      · rw [List.getElem?_eq_none (by simpa using hi)] at e; cases e
    · rw [List.getElem?_set_ne hj] at e
      rcases rp.obj j o e with z | ⟨b, w, h1, h3, h4⟩
      · exact .inl z
      · refine .inr ⟨b, w, h1, ?_, RepC.unl h2 uk h4 (List.all_eq_true.mp hc o (List.mem_of_getElem? e))⟩
        rw [upd_ne (show b ≠ a from fun z => hj (rp.inj r j a hr (z ▸ h1)))]
        exact h3
  trk := fun j b e => by
    by_cases hb : b = a
    · subst hb; exact ⟨u, upd_same, .inl uk.mut⟩
    · rw [upd_ne hb]; exact rp.trk j b e
theorem RepE.unl {E : Env} {σ : L2.St} (re : RepE K G ρ2 H2 E σ) (h2 : H2 a = some (.frz od u)) (uk : UK k u) (hc : cleanE k E = true) : RepE K G ρ2 (upd H2 a u) E σ :=
  ⟨re.1, fun i d e => by
    obtain ⟨v, h, q⟩ := re.2 i d e
    have := List.all_eq_true.mp hc (some d) (List.mem_of_getElem? e)
    exact ⟨v, h, RepV.unl h2 uk q this⟩⟩
/-- what the locked cell says at the end -/
theorem unO_ok (rp : Rep K G ρ2 S2 H2) (hold : ρ2[r]? = ρ[r]? ∨ ρ2[r]? = some none) (hr : ρ[r]? = some (some a)) (h2 : H2 a = some (.frz od u)) (uk : UK k u) (hc : S2.all (DO.noL k) = true) {o o' : DO} (hS : S2[r]? = some o) (hu : unO k o = some o') :
    Rep K G ρ2 (S2.set r o') (upd H2 a u) := by
  have hcl := List.all_eq_true.mp hc o (List.mem_of_getElem? hS)
  have hne : o ≠ .gone := by intro z; subst z; cases k <;> cases hu
  rcases rp.obj r o hS with z | ⟨b, w, h1, h3, h4⟩
  · exact absurd z hne
  · have hb : b = a := by
      rcases hold with q | q
      · rw [q, hr] at h1; cases h1; rfl
      · rw [q] at h1; cases h1
    subst hb
    rw [h2] at h3
    cases h3
    refine rp.unl h1 h2 uk hc ?_
    have h5 := RepC.unl h2 uk h4 hcl
    cases k <;> cases o <;> cases hu
    · obtain ⟨od', u', e1, e2, e3⟩ := h5
      cases e1
      exact e3
    · obtain ⟨od', u', e1, e2⟩ := h5
      cases e1
      exact ⟨_, rfl, e2⟩
end
section
variable {X : Cx} {G : Cls} {W : L2.WX} {st : Stmt} {m : SM}
theorem ps_lockM {i : Nat} (h : PS X st (tS X.K G W m)) : PS X st (tS X.K G W (sLock i m)) :=
  PS.weak (ps_lock h) fun D σ H ⟨ρ, S, E, rp, re, g⟩ => by
    unfold sLock at g
    cases hE : E[i]? with
    | none => rw [hE] at g; exact g.elim
    | some d0 =>
      cases d0 with
      | none => rw [hE] at g; exact g.elim
      | some d =>
        rw [hE] at g
        cases d with
        | ref r =>
          dsimp only at g
          cases hS : S[r]? with
          | none => rw [hS] at g; exact g.elim
          | some o =>
            rw [hS] at g
            dsimp only at g
            cases hl : lkO o with
            | none => rw [hl] at g; exact g.elim
            | some q =>
              obtain ⟨o', k⟩ := q
              rw [hl] at g
              dsimp only at g
              obtain ⟨v, hv, qv⟩ := re.2 i _ hE
              have live : o.live := by cases o <;> first | trivial | cases hl
              obtain ⟨a, u, rfl, ha, h0, mu, rc⟩ := rp.at qv hS live
              have uk : UK k u := by
                cases o <;> cases hl
                · obtain ⟨us, rfl, _⟩ := rc; exact ⟨us, rfl⟩
                · have rc' : RepD X.K G ρ H a _ u := rc
                  cases rc' with
                  | k r => exact .inl ⟨_, rfl⟩
                  | t r => exact .inr ⟨_, rfl⟩
              refine ⟨a, u, h0, mu, fun od => ?_⟩
              have x1 : Ext ρ H ρ (upd H a (.frz od u)) := Ext.wrote ha h0 mu
              have rc1 : RepC X.K G ρ (upd H a (.frz od u)) a o' (.frz od u) := by
                cases o <;> cases hl
                · obtain ⟨us, rfl, r2⟩ := rc
                  exact ⟨od, us, rfl, RepVs.ext x1 r2⟩
                · exact ⟨od, u, rfl, mu, RepD.ext x1 rc⟩
              refine ⟨ρ, S.set r o', E, rp.wroteC ha h0 mu (.inr ⟨od, u, rfl, mu⟩) (.inr ⟨a, _, ha, upd_same, rc1⟩), RepE.ext x1 re, ?_⟩
              have hrl : r < ρ.length := (List.getElem?_eq_some_iff.mp ha).1
              cases hm : m E (S.set r o') with
              | stuck => rw [hm] at g; exact g
              | exc c fs E' S' => rw [hm] at g; exact fun ρ2 σ2 H2 od2 x2 r2 re2 z => g ρ2 σ2 H2 od2 (x1.trans x2) r2 re2 z
              | nx E' S' =>
                rw [hm] at g
                unfold unR at g
                cases hS2 : S'[r]? with
                | none => simp only [hS2] at g; exact g.elim
                | some o2 =>
                  simp only [hS2] at g
                  cases hu : unO k o2 with
                  | none => simp only [hu] at g; exact g.elim
                  | some o3 =>
                    simp only [hu] at g
                    split at g
                    · rename_i hc
                      intro ρ2 σ2 H2 x2 r2 re2
                      have h2 := x2.frzs _ _ _ (upd_same (H := H) (a := a) (o := .frz od u))
                      exact ⟨h2, g ρ2 σ2 _ (Ext.unl h0 mu ha x2 h2) (unO_ok r2 (x2.old r hrl) ha h2 uk hc.2 hS2 hu) (re2.unl h2 uk hc.1)⟩
                    · exact g.elim
              | brk E' S' =>
                rw [hm] at g
                unfold unR at g
                cases hS2 : S'[r]? with
                | none => simp only [hS2] at g; exact g.elim
                | some o2 =>
                  simp only [hS2] at g
                  cases hu : unO k o2 with
                  | none => simp only [hu] at g; exact g.elim
                  | some o3 =>
                    simp only [hu] at g
                    split at g
                    · rename_i hc
                      intro ρ2 σ2 H2 x2 r2 re2
                      have h2 := x2.frzs _ _ _ (upd_same (H := H) (a := a) (o := .frz od u))
                      exact ⟨h2, g ρ2 σ2 _ (Ext.unl h0 mu ha x2 h2) (unO_ok r2 (x2.old r hrl) ha h2 uk hc.2 hS2 hu) (re2.unl h2 uk hc.1)⟩
                    · exact g.elim
              | ct E' S' =>
                rw [hm] at g
                unfold unR at g
                cases hS2 : S'[r]? with
                | none => simp only [hS2] at g; exact g.elim
                | some o2 =>
                  simp only [hS2] at g
                  cases hu : unO k o2 with
                  | none => simp only [hu] at g; exact g.elim
                  | some o3 =>
                    simp only [hu] at g
                    split at g
                    · rename_i hc
                      intro ρ2 σ2 H2 x2 r2 re2
                      have h2 := x2.frzs _ _ _ (upd_same (H := H) (a := a) (o := .frz od u))
                      exact ⟨h2, g ρ2 σ2 _ (Ext.unl h0 mu ha x2 h2) (unO_ok r2 (x2.old r hrl) ha h2 uk hc.2 hS2 hu) (re2.unl h2 uk hc.1)⟩
                    · exact g.elim
              | rt d' S' =>
                rw [hm] at g
                unfold unR at g
                cases hS2 : S'[r]? with
                | none => simp only [hS2] at g; exact g.elim
                | some o2 =>
                  simp only [hS2] at g
                  cases hu : unO k o2 with
                  | none => simp only [hu] at g; exact g.elim
                  | some o3 =>
                    simp only [hu] at g
                    split at g
                    · rename_i hc
                      intro ρ2 v2 H2 x2 r2 q2
                      have h2 := x2.frzs _ _ _ (upd_same (H := H) (a := a) (o := .frz od u))
                      exact ⟨h2, g ρ2 v2 _ (Ext.unl h0 mu ha x2 h2) (unO_ok r2 (x2.old r hrl) ha h2 uk hc.2 hS2 hu) (RepV.unl h2 uk q2 hc.1)⟩
                    · exact g.elim
        | _ => exact g.elim
/-- a locked cell as a value -/
def lkV : DO → Option D
  | .lkl xs => some (.lst xs)
  | .lkd kvs => some (.dct kvs)
  | _ => none
def eLkv (i : Nat) : Env → EM D := fun E S => match E[i]? with
  | some (some (.ref r)) => (match S[r]? with
    | some o => (match lkV o with
      | some d => .ok d S
      | none => .stuck)
    | none => .stuck)
  | _ => .stuck
theorem pm_lkv {i : Nat} {x : Str} {pos : Pos} (hN : X.N[i]? = some x) (hv : Vis X.env.scope x) (hd : (x == ("__debug__" : Str)) = false) (hcd : (x == ("__classdict__" : Str)) = false) : PE X (.Name x pos) (tM X.K G W (eLkv i)) :=
  (pe_var hN hv hd hcd).weak fun σ H Q ⟨ρ, S, E, rp, re, g⟩ => by
    unfold eLkv at g
    cases hE : E[i]? with
    | none => rw [hE] at g; exact g.elim
    | some od =>
      rw [hE] at g
      cases od with
      | none => exact g.elim
      | some d =>
        cases d with
        | ref r =>
          dsimp only at g
          cases hS : S[r]? with
          | none => rw [hS] at g; exact g.elim
          | some o =>
            rw [hS] at g
            dsimp only at g
            cases hv : lkV o with
            | none => rw [hv] at g; exact g.elim
            | some d =>
              rw [hv] at g
              obtain ⟨v, h1, h2⟩ := re.2 i _ hE
              obtain ⟨a, u, rfl, _, h3, rc⟩ := rp.atL h2 hS (by intro z; subst z; cases hv)
              refine ⟨_, h1, g ρ (.ref a) H (Ext.refl _ _) rp ?_⟩
              cases o <;> cases hv
              · obtain ⟨od, us, rfl, r2⟩ := rc
                exact .lst h3 r2
              · obtain ⟨od, u', rfl, _, r2⟩ := rc
                exact .dct h3 r2
        | _ => exact g.elim
end
end PK
/-! ### != of two lists that agree, their items dicts too -/
namespace PK
open PySem PySem.Spec PyProof.Rows L2
open PySem.SeqAt PySem.AutoSeq1 PySem.MeetsSeq PySem.MeetsSeq2 PySem.MeetsSeq3
section
variable {prog : Program} {w : World} {l m : Addr} {xs ys : Array Value} {n1 n2 : Nat} {o1 o2 : Option Addr} {t1 t2 : Array (Option Value)}
/-- two list objects of one length whose items agree -/
structure Agree (prog : Program) (w : World) (l m : Addr) (xs ys : Array Value) (n1 n2 : Nat) (o1 o2 : Option Addr) (t1 t2 : Array (Option Value)) (A : Around) (s : Shared) : Prop where
  fst : s.heap.get? l = some ⟨.type "list", o1, .seq xs n1, t1⟩
  snd : s.heap.get? m = some ⟨.type "list", o2, .seq ys n2, t2⟩
  itm : ∀ (j : Nat) (p : j < xs.size) (q : j < ys.size), EqP prog w A.in1 s xs[j] ys[j] true
theorem agree_loop (sz : xs.size = ys.size) : ∀ (r i : Nat), i + r = xs.size → MeetsIn prog w (Builtin.«list.__eq__.loop» ⟨[.ref l, .ref m, rawInt i, rawInt 3], []⟩) (fun A R s => Agree prog w l m xs ys n1 n2 o1 o2 t1 t2 A s ∧ R (.ok (.ret (.bool false))) s)
  | 0, i, e => fun A R s z => by
    obtain ⟨⟨a1, a2, _⟩, z⟩ := z
    obtain ⟨s1, s2, s3, s4, s5⟩ := s
    wp_walk using wpAny_loadPart' a1, wpAny_loadPart' a2
    have b1 : xs[(i : Int).toNat]? = none := Array.getElem?_eq_none (by rw [Int.toNat_natCast]; omega)
    have b2 : ys[(i : Int).toNat]? = none := Array.getElem?_eq_none (by rw [Int.toNat_natCast]; omega)
    rw [b1, b2]
    wp_walk using wpAny_loadPart' a1, wpAny_loadPart' a2
    have b3 : (xs.size != ys.size) = false := by rw [sz]; simp
    show R (.ok (.ret (.bool (xs.size != ys.size)))) _
    rw [b3]
    exact z
  | r + 1, i, e => fun A R s z => by
    have next := agree_loop sz r (i + 1) (by omega) A R s z
    obtain ⟨⟨a1, a2, a3⟩, z⟩ := z
    obtain ⟨s1, s2, s3, s4, s5⟩ := s
    wp_walk using wpAny_loadPart' a1, wpAny_loadPart' a2
    have c1 : i < xs.size := by omega
    have c2 : i < ys.size := by omega
    have b1 : xs[(i : Int).toNat]? = some xs[i] := by rw [Int.toNat_natCast]; exact Array.getElem?_eq_getElem c1
    have b2 : ys[(i : Int).toNat]? = some ys[i] := by rw [Int.toNat_natCast]; exact Array.getElem?_eq_getElem c2
    rw [b1, b2]
    refine wpAny_bind (a3 i c1 c2 _ _ ?_)
    wp_walk
    rw [show ((i : Int) + 1) = ((i + 1 : Nat) : Int) by omega]
    have go := codeAny_builtin (R := R) (A := A) entry_eq_loop (by rw [Around.under_plainId plain_eq_loop _]; exact next)
    exact ⟨plainId_quiet plain_eq_loop _, go⟩
theorem agree_ne (sz : xs.size = ys.size) : MeetsIn prog w (Builtin.«list.__ne__» ⟨[.ref l, .ref m], []⟩) (fun A R s => Agree prog w l m xs ys n1 n2 o1 o2 t1 t2 A s ∧ R (.ok (.ret (.bool false))) s) := fun A R s z => by
  have run := agree_loop (n1 := n1) (n2 := n2) (o1 := o1) (o2 := o2) (t1 := t1) (t2 := t2) (prog := prog) (w := w) (l := l) (m := m) sz xs.size 0 (by omega) A R s z
  obtain ⟨⟨a1, a2, _⟩, z⟩ := z
  obtain ⟨s1, s2, s3, s4, s5⟩ := s
  have same := AutoSeq1.sub_list_list
  have b3 : ¬ (xs.size != ys.size) = true := by rw [sz]; simp
  wp_walk using wpAny_loadPart' a1, wpAny_loadPart' a2
  have go := codeAny_builtin (R := R) (A := A) entry_eq_loop (by rw [Around.under_plainId plain_eq_loop _]; exact run)
  exact ⟨plainId_quiet plain_eq_loop _, go⟩
end
section
variable {P : Program} {w : World} {A : Around} {s : Shared} {l m : Addr} {xs ys : Array Value}
/-- x != y of two lists whose items agree -/
theorem ne_agree (a1 : s.heap.IsList l xs) (a2 : s.heap.IsList m ys) (sz : xs.size = ys.size) (hu : A.units < cLine) (it : ∀ (j : Nat) (p : j < xs.size) (q : j < ys.size), EqP P w A.in1 s xs[j] ys[j] true) {E Q : Value → Shared → Prop} (z : Q (.bool false) s) :
    wpAny (model P w) A (compareOp .NotEq (.ref l) (.ref m)) Q E s := by
  obtain ⟨⟨c1, d1, u1, t1⟩, b1, e1, n1, f1⟩ := id a1
  obtain ⟨⟨c2, d2, u2, t2⟩, b2, e2, n2, f2⟩ := id a2
  simp only at e1 f1 e2 f2
  subst e1 f1 e2 f2
  have k1 : s.TypeIs (.ref l) "list" := ⟨_, b1, rfl⟩
  have k2 : s.TypeIs (.ref m) "list" := ⟨_, b2, rfl⟩
  have ans : Value.bool false ≠ Value.notImplemented ∧ Q (.bool false) s := ⟨(fun x => nomatch x), z⟩
  exact wpAny_richCompare_same_room (op := .NotEq) k1 k2 F.slot_list_ne (call_meetsIn F.slot_list_ne k1 F.entry_list_ne (F.args_list_ne_2 _ _) (agree_ne sz) ⟨⟨b1, b2, it⟩, ans⟩) hu
theorem eq_agree (a1 : s.heap.IsList l xs) (a2 : s.heap.IsList m ys) (sz : xs.size = ys.size) (hu : A.units < cLine) (it : ∀ (j : Nat) (p : j < xs.size) (q : j < ys.size), EqP P w A.in1 s xs[j] ys[j] true) {E Q : Value → Shared → Prop} (z : Q (.bool true) s) :
    wpAny (model P w) A (compareOp .Eq (.ref l) (.ref m)) Q E s :=
  rcP_lists (e := fun _ => true) a1 a2 sz hu it E Q (by rw [show (List.range xs.size).all (fun _ => true) = true from List.all_eq_true.mpr fun _ _ => rfl]; exact z)
end
end PK
namespace PK
open PySem PySem.Spec PyProof.Rows L2

/-! ### == of dicts with tuple keys -/
section
variable {P : Program} {w : World} {κ : Type} [DecidableEq κ] {kn : HeapKind P w κ} {A : Around} {E : Value → Shared → Prop} {s : Shared}
/-- what a dict of such entries gives to the loop below -/
structure Ents (kn : HeapKind P w κ) (h : Heap) (a : Addr) (xs : List (κ × Addr × Value)) (o : Obj) (es : Array DictEntry) (ep : Nat) : Prop where
  obj : h.get? a = some o
  dat : o.data = .dict es ep
  ent : es.toList = xs.map (entryOfKey kn)
  key : ∀ x ∈ xs, kn.is h x.1 x.2.1
  nod : (xs.map (·.1)).Nodup
theorem Ents.of {h : Heap} {a : Addr} {xs : List (κ × Addr × Value)} (d : h.DictOfH kn a xs) : ∃ o es ep, Ents kn h a xs o es ep := by
  obtain ⟨o, es, ep, e1, _, e2, e3, e4, e5⟩ := d
  exact ⟨o, es, ep, e1, e2, e3, e4, e5⟩
variable {a b : Addr} {xa xb : List (κ × Addr × Value)} {oa ob : Obj} {es fs : Array DictEntry} {ep fp : Nat}
theorem Ents.at (d : Ents kn s.heap a xa oa es ep) {i : Nat} {x : κ × Addr × Value} (h : xa[i]? = some x) : es[i]? = some (entryOfKey kn x) := by
  have q := entry_at d.ent i
  rw [h] at q
  exact q
/-- the other dict's answer to one key: its entry's value, or nothing -/
theorem Ents.find (d : Ents kn s.heap b xb ob fs fp) (hr : kn.room A) {x : κ × Addr × Value} (hk : kn.is s.heap x.1 x.2.1) {Q : Option Nat → Shared → Prop} (h0 : valueAt (pairsH xb) x.1 = none → Q none s)
    (h1 : ∀ (j : Nat) y, xb[j]? = some y → valueAt (pairsH xb) x.1 = some y.2.2 → Q (some j) s) : wpAny (model P w) A (dictFind b (.ref x.2.1) (kn.hash x.1)) Q E s :=
  wpAny_dictFind_heap hr hk d.obj d.dat d.ent d.key d.nod (fun no => h0 (by rw [valueAt_pairsH, atKey_none_of_get no]; rfl)) fun j p hj => h1 j _ hj (by rw [valueAt_pairsH, atKey_of_get d.nod hj]; rfl)
/-- d1 == d2, entry by entry -/
theorem pairs_eq {nm : String} {r : Bool} {Q : Bool → Shared → Prop} (hr : kn.room A) (na : (a == sysModules) = false) (nb : (b == sysModules) = false) (da : Ents kn s.heap a xa oa es ep) (db : Ents kn s.heap b xb ob fs fp)
    (hits : PySem.W.KeqHitsP P w A s (pairsH xb) (pairsH xa) r) (q : Q (xa.length == xb.length && r) s) : wpAny (model P w) A (Builtin.Dict.samePairs nm a b) Q E s := by
  have la := size_of_entries da.ent
  have lb := size_of_entries db.ent
  have nota : ¬ (a == sysModules) = true := fun z => by rw [na] at z; cases z
  have notb : ¬ (b == sysModules) = true := fun z => by rw [nb] at z; cases z
  unfold Builtin.Dict.samePairs
  simp only [Builtin.Dict.showsAll, if_neg nota, if_neg notb]
  apply wpAny_bind; apply wpAny_pure
  apply wpAny_bind; apply wpAny_pure
  apply wpAny_bind; apply wpAny_dictEntries da.obj da.dat
  apply wpAny_bind; apply wpAny_dictEntries db.obj db.dat
  by_cases hl : xa.length = xb.length
  · have e0 : (es.size != fs.size) = false := by rw [la, lb, hl]; simp
    have q0 : Q r s := by rw [hl] at q; simpa using q
    rw [e0]
    apply wpAny_bind; apply wpAny_dictEpoch da.obj da.dat
    apply wpAny_bind
    rw [Std.Legacy.Range.forIn_eq_forIn_range', show [0:es.size].size = xa.length from by simp [Std.Legacy.Range.size, la]]
    refine wpAny_forIn_list _ (fun todo st s' => s' = s ∧ st = (none, ()) ∧ ∃ pre tl, xa = pre ++ tl ∧ todo = List.range' pre.length tl.length ∧ PySem.W.KeqHitsP P w A s (pairsH xb) (pairsH tl) r) _ ?_ ?_ _ _ ⟨rfl, rfl, [], xa, rfl, rfl, hits⟩
    · rintro k todo st s' ⟨rfl, rfl, pre, tl, hx, hk, hh⟩
      cases tl with
      | nil => simp at hk
      | cons x tl =>
        rw [List.length_cons, List.range'_succ] at hk
        have hk1 := (List.cons.inj hk).1
        have hk2 := (List.cons.inj hk).2
        subst hk1
        have hget : xa[pre.length]? = some x := by rw [hx]; simp
        have ent := da.at hget
        have mem : x ∈ xa := List.mem_of_getElem? hget
        have next : xa = (pre ++ [x]) ++ tl ∧ todo = List.range' (pre ++ [x]).length tl.length := ⟨by rw [hx]; simp, by rw [hk2]; simp⟩
        apply wpAny_bind; apply wpAny_dictEntries da.obj da.dat
        rw [ent]
        have inv := PySem.W.KeqHitsP.inv (show PySem.W.KeqHitsP P w A s' (pairsH xb) ((x.1, x.2.2) :: pairsH tl) r from hh)
        refine wpAny_bind (wpAny_holding (wpAny_bind (db.find hr (da.key x mem) (fun no => ?_) fun j y hj hv => ?_)))
        · have er : r = false := by
            rcases inv with ⟨_, z⟩ | ⟨y, _, _, z, _⟩
            · exact z
            · rw [no] at z; cases z
          subst er
          exact wpAny_pure (wpAny_pure (wpAny_pure q0))
        · obtain ⟨e, b', he, hb', er⟩ : ∃ e b', SeqAt.EqP P w A s' x.2.2 y.2.2 e ∧ PySem.W.KeqHitsP P w A s' (pairsH xb) (pairsH tl) b' ∧ r = (e && b') := by
            rcases inv with ⟨z, _⟩ | ⟨y', e, b', z, h1, h2, h3⟩
            · rw [hv] at z; cases z
            · rw [hv] at z; cases z; exact ⟨e, b', h1, h2, h3⟩
          apply wpAny_bind; apply wpAny_dictEntries db.obj db.dat
          rw [db.at hj]
          refine wpAny_holding (he _ _ ?_)
          subst er
          cases e with
          | false => exact wpAny_pure (wpAny_pure q0)
          | true =>
            refine wpAny_bind (wpAny_dictEpoch da.obj da.dat ?_)
            rw [if_neg (show ¬ (ep != ep) = true by simp)]
            exact wpAny_pure ⟨rfl, rfl, pre ++ [x], tl, next.1, next.2, by rw [Bool.true_and]; exact hb'⟩
    · rintro st s' ⟨rfl, rfl, pre, tl, hx, hk, hh⟩
      cases tl with
      | nil => cases hh; exact wpAny_pure q0
      | cons x tl => rw [List.length_cons, List.range'_succ] at hk; cases hk
  · have e0 : (es.size != fs.size) = true := by rw [la, lb]; simpa using hl
    have el : (xa.length == xb.length) = false := by simpa using hl
    rw [el] at q
    rw [e0]
    exact wpAny_bind (wpAny_rule (wpAny_pure q))
theorem slot_args {m : String} {Q : Value × Value → Shared → Prop} (ta : s.TypeIs (.ref a) "dict") (h : Q (.ref a, .ref b) s) : wpAny (model P w) A (Builtin.Dict.dictSlotArgs m ⟨[.ref a, .ref b], []⟩) Q E s := by
  unfold Builtin.Dict.dictSlotArgs
  exact wpAny_bind (wpAny_notOrdered_dict ta (wpAny_pure h))
theorem eqH {r : Bool} {Q : Value → Shared → Prop} (hr : kn.room A.in1) (na : (a == sysModules) = false) (nb : (b == sysModules) = false) (da : s.heap.DictOfH kn a xa) (db : s.heap.DictOfH kn b xb) (hu : A.units < cLine)
    (hits : PySem.W.KeqHitsP P w A.in1 s (pairsH xb) (pairsH xa) r) (q : Q (.bool ((xa.length == xb.length && r))) s) : wpAny (model P w) A (compareOp .Eq (.ref a) (.ref b)) Q E s := by
  obtain ⟨oa, es, ep, ea⟩ := Ents.of da
  obtain ⟨ob, fs, fp, eb⟩ := Ents.of db
  apply wpAny_richCompare_same_room (op := .Eq) da.typeIs db.typeIs PySem.F.slot_dict_eq _ hu
  apply wpAny_call_entry PySem.F.slot_dict_eq da.typeIs PySem.F.entry_dict_eq _ (PySem.F.args_dict_eq_2 (.ref a) (.ref b))
  apply wpAny_bind (slot_args (m := "__eq__") da.typeIs _)
  apply wpAny_bind (wpAny_isInstance (T := "dict") db.typeIs PySem.F.sub_dict_dict _)
  simp only [Bool.not_true]
  apply wpAny_bind; apply wpAny_pure
  apply wpAny_bind; apply wpAny_pure
  apply wpAny_bind; apply pairs_eq hr na nb ea eb hits
  exact wpAny_pure ⟨_, rfl, fun z => (nomatch z), by simpa using q⟩
theorem neH {r : Bool} {Q : Value → Shared → Prop} (hr : kn.room A.in1) (na : (a == sysModules) = false) (nb : (b == sysModules) = false) (da : s.heap.DictOfH kn a xa) (db : s.heap.DictOfH kn b xb) (hu : A.units < cLine)
    (hits : PySem.W.KeqHitsP P w A.in1 s (pairsH xb) (pairsH xa) r) (q : Q (.bool (!(xa.length == xb.length && r))) s) : wpAny (model P w) A (compareOp .NotEq (.ref a) (.ref b)) Q E s := by
  obtain ⟨oa, es, ep, ea⟩ := Ents.of da
  obtain ⟨ob, fs, fp, eb⟩ := Ents.of db
  apply wpAny_richCompare_same_room (op := .NotEq) da.typeIs db.typeIs PySem.F.slot_dict_ne _ hu
  apply wpAny_call_entry PySem.F.slot_dict_ne da.typeIs PySem.F.entry_dict_ne _ (PySem.F.args_dict_ne_2 (.ref a) (.ref b))
  apply wpAny_bind (slot_args (m := "__ne__") da.typeIs _)
  apply wpAny_bind (wpAny_isInstance (T := "dict") db.typeIs PySem.F.sub_dict_dict _)
  simp only [Bool.not_true]
  apply wpAny_bind; apply wpAny_pure
  apply wpAny_bind; apply wpAny_pure
  apply wpAny_bind; apply pairs_eq hr na nb ea eb hits
  exact wpAny_pure ⟨_, rfl, fun z => (nomatch z), by simpa using q⟩
end
section
variable {P : Program} {w : World} {κ : Type} [DecidableEq κ] {kn : KeyKind P w κ} {A : Around} {E : Value → Shared → Prop} {s : Shared} {a b : Addr} {xa xb : List (κ × Value)}
theorem eqK {r : Bool} {Q : Value → Shared → Prop} (na : (a == sysModules) = false) (nb : (b == sysModules) = false) (da : s.heap.DictOf kn a xa) (db : s.heap.DictOf kn b xb) (hu : A.units < cLine)
    (hits : PySem.W.KeqHitsP P w A.in1 s xb xa r) (q : Q (.bool ((xa.length == xb.length && r))) s) : wpAny (model P w) A (compareOp .Eq (.ref a) (.ref b)) Q E s := by
  apply wpAny_richCompare_same_room (op := .Eq) da.typeIs db.typeIs PySem.F.slot_dict_eq _ hu
  apply wpAny_call_entry PySem.F.slot_dict_eq da.typeIs PySem.F.entry_dict_eq _ (PySem.F.args_dict_eq_2 (.ref a) (.ref b))
  apply wpAny_bind (slot_args (m := "__eq__") da.typeIs _)
  apply wpAny_bind (wpAny_isInstance (T := "dict") db.typeIs PySem.F.sub_dict_dict _)
  simp only [Bool.not_true]
  apply wpAny_bind; apply wpAny_pure
  apply wpAny_bind; apply wpAny_pure
  apply wpAny_bind; apply PySem.W.samePairsP na nb da db (fun _ => hits)
  exact wpAny_pure ⟨_, rfl, fun z => (nomatch z), by simpa using q⟩
theorem neK {r : Bool} {Q : Value → Shared → Prop} (na : (a == sysModules) = false) (nb : (b == sysModules) = false) (da : s.heap.DictOf kn a xa) (db : s.heap.DictOf kn b xb) (hu : A.units < cLine)
    (hits : PySem.W.KeqHitsP P w A.in1 s xb xa r) (q : Q (.bool (!(xa.length == xb.length && r))) s) : wpAny (model P w) A (compareOp .NotEq (.ref a) (.ref b)) Q E s := by
  apply wpAny_richCompare_same_room (op := .NotEq) da.typeIs db.typeIs PySem.F.slot_dict_ne _ hu
  apply wpAny_call_entry PySem.F.slot_dict_ne da.typeIs PySem.F.entry_dict_ne _ (PySem.F.args_dict_ne_2 (.ref a) (.ref b))
  apply wpAny_bind (slot_args (m := "__ne__") da.typeIs _)
  apply wpAny_bind (wpAny_isInstance (T := "dict") db.typeIs PySem.F.sub_dict_dict _)
  simp only [Bool.not_true]
  apply wpAny_bind; apply wpAny_pure
  apply wpAny_bind; apply wpAny_pure
  apply wpAny_bind; apply PySem.W.samePairsP na nb da db (fun _ => hits)
  exact wpAny_pure ⟨_, rfl, fun z => (nomatch z), by simpa using q⟩
end
/-! by values -/
def vOk (d : D) : Bool := d.plain && decide (d.depth ≤ 50)
def vOks (kvs : List (D × D)) : Bool := kvs.all fun q => vOk q.2
def dEq (k2 : List (D × D)) : List (D × D) → Bool
  | [] => true
  | (k, v) :: r => match dget k2 k with
    | none => false
    | some u => PyData.eqv (toPy v) (toPy u) && dEq k2 r
def dEqOk (k1 k2 : List (D × D)) : Bool := tkeys k1 && tkeys k2 && vOks k1 && vOks k2
def sEqOk (k1 k2 : List (D × D)) : Bool := skeys k1 && skeys k2 && vOks k1 && vOks k2
/-- two items that agree: data, or two dicts in cells of their own -/
def itAg (S : List DO) (x y : D) : Bool := (vOk x && vOk y && PyData.eqv (toPy x) (toPy y)) || (match x, y with
  | .ref i, .ref j => decide (i ≠ j) && (match viewD S x, viewD S y with
    | some k1, some k2 => dEqOk k1 k2 && (k1.length == k2.length && dEq k2 k1)
    | _, _ => false)
  | _, _ => false)
def itsAg (S : List DO) : List D → List D → Bool
  | [], [] => true
  | x :: xs, y :: ys => itAg S x y && itsAg S xs ys
  | _, _ => false
/-- two lists whose items agree -/
def lsAg (S : List DO) (x y : D) : Bool := match viewL S x, viewL S y with
  | some xs, some ys => itsAg S xs ys
  | _, _ => false
def eq2M (x y : D) : EM D := fun S => match viewD S x, viewD S y with
  | some k1, some k2 => if dEqOk k1 k2 = true then .ok (.bl (k1.length == k2.length && dEq k2 k1)) S else if sEqOk k1 k2 = true then .ok (.bl (k1.length == k2.length && dEq k2 k1)) S else .stuck
  | _, _ => if (!eqOk (derefL S x) (derefL S y) && lsAg S x y) = true then .ok (.bl true) S else eqM x y S
def ne2M (x y : D) : EM D := fun S => match viewD S x, viewD S y with
  | some k1, some k2 => if dEqOk k1 k2 = true then .ok (.bl (!(k1.length == k2.length && dEq k2 k1))) S else if sEqOk k1 k2 = true then .ok (.bl (!(k1.length == k2.length && dEq k2 k1))) S else .stuck
  | _, _ => if (!eqOk (derefL S x) (derefL S y) && lsAg S x y) = true then .ok (.bl false) S else neM x y S
theorem noExc_eq2 {x y : D} : NoExc (eq2M x y) := fun S c fs S' h => by
  unfold eq2M at h
  split at h
  · split at h
    · cases h
    · split at h <;> cases h
  · split at h
    · cases h
    · exact noExc_eq _ _ _ _ h
theorem noExc_ne2 {x y : D} : NoExc (ne2M x y) := fun S c fs S' h => by
  unfold ne2M at h
  split at h
  · split at h
    · cases h
    · split at h <;> cases h
  · split at h
    · cases h
    · exact noExc_ne _ _ _ _ h
theorem dget_mem {k d : D} : ∀ {kvs : List (D × D)}, dget kvs k = some d → ∃ q ∈ kvs, q.2 = d
  | [], h => by simp [dget] at h
  | (a, b) :: r, h => by
    unfold dget at h
    split at h
    · cases h; exact ⟨_, List.mem_cons_self .., rfl⟩
    · obtain ⟨q, hq, e⟩ := dget_mem h
      exact ⟨q, List.mem_cons_of_mem _ hq, e⟩
section
variable {X : Cx} {G : Cls} {ρ : List (Option Addr)} {H : Hp} {s : Shared} {pins : List (Addr × Obj)} {σ : L2.St}
theorem eqP_plain (I : Inv X pins σ H s) (hu : X.A.units + 64 < cLine) {d e : D} {x y : V} {v u : Value} (q1 : RepV X.K G ρ H d x) (q2 : RepV X.K G ρ H e y) (r1 : RelV x v) (r2 : RelV y u) (h1 : vOk d = true) (h2 : vOk e = true) :
    SeqAt.EqP X.prog X.w X.A.in1 s v u (PyData.eqv (toPy d) (toPy e)) := by
  simp only [vOk, Bool.and_eq_true, decide_eq_true_eq] at h1 h2
  obtain ⟨as, ra⟩ := Dp.reads I _ x v (Dp.of q1 h1.1) r1
  obtain ⟨bs, rb⟩ := Dp.reads I _ y u (Dp.of q2 h2.1) r2
  refine (SeqAt.eqAt_reads _ _ X.A.in1 s v u as bs ra rb (canLay_toPy d h1.1) (canLay_toPy e h2.1) ?_).eqP
  rw [depth_toPy d h1.1, depth_toPy e h2.1]
  have : min d.depth e.depth ≤ 50 := Nat.le_trans (Nat.min_le_left _ _) h1.2
  show X.A.units + 1 + _ < cLine
  omega
theorem hitsT (I : Inv X pins σ H s) (hu : X.A.units + 64 < cLine) {k2 : List (D × D)} {xs2 : List (NestedKey × Addr × Value)} (r2 : RepT X.K G ρ H k2 xs2) (h2 : vOks k2 = true) :
    ∀ {k1 : List (D × D)} {xs1 : List (NestedKey × Addr × Value)}, RepT X.K G ρ H k1 xs1 → vOks k1 = true → PySem.W.KeqHitsP X.prog X.w X.A.in1 s (pairsH xs2) (pairsH xs1) (dEq k2 k1)
  | _, _, .nil, _ => .nil
  | _, _, .cons (kd := kd) (d := dd) (kvs := kv) nk dp hk h rel r, h1 => by
    have h1' : vOk dd = true ∧ vOks kv = true := by simpa [vOks, List.all_cons] using h1
    unfold dEq
    rcases RepT.get nk r2 with ⟨e1, e2⟩ | ⟨d', vv, v, e1, e2, e3, e4⟩
    · rw [e1]
      exact .miss e2
    · rw [e1]
      obtain ⟨q, hq, rfl⟩ := dget_mem e1
      exact .hit e2 (eqP_plain I hu h e3 rel e4 h1'.1 (List.all_eq_true.mp h2 q hq)) (hitsT I hu r2 h2 r h1'.2)
theorem hitsS (I : Inv X pins σ H s) (hu : X.A.units + 64 < cLine) {k2 : List (D × D)} {us2 : List (Key × V)} {vs2 : List (Key × Value)} (r2 : RepK X.K G ρ H k2 us2) (l2 : KV us2 vs2) (c2 : skeys k2 = true) (h2 : vOks k2 = true) :
    ∀ {k1 : List (D × D)} {us1 : List (Key × V)} {vs1 : List (Key × Value)}, RepK X.K G ρ H k1 us1 → KV us1 vs1 → skeys k1 = true → vOks k1 = true → PySem.W.KeqHitsP X.prog X.w X.A.in1 s vs2 vs1 (dEq k2 k1)
  | _, _, _, .nil, .nil, _, _ => .nil
  | _, _, _, .int h r, _, c1, _ => by simp [skeys, isS] at c1
  | _, _, _, .str (x := y) (d := dd) (kvs := kv) h r, .cons (b := qv) ⟨e0, rel⟩ l1, c1, h1 => by
    have h1' : vOk dd = true ∧ vOks kv = true := by simpa [vOks, List.all_cons] using h1
    have c1' : skeys kv = true := by simpa [skeys, List.all_cons, isS] using c1
    obtain ⟨qk, qx⟩ := qv
    cases (show Sum.inr y = qk from e0)
    have l := l2.val (Sum.inr y : Key)
    unfold dEq
    rcases RepK.get (x := y) r2 c2 with ⟨e1, e2⟩ | ⟨d', vv, e1, e2, e3⟩
    · rw [e1]
      rw [e2] at l
      refine .miss ?_
      cases hv : valueAt vs2 (Sum.inr y : Key) with
      | none => rfl
      | some z => rw [hv] at l; cases l
    · rw [e1]
      rw [e2] at l
      obtain ⟨w', hw', rw'⟩ := RelO.some_of (v := vv) (o := valueAt vs2 (Sum.inr y : Key)) l
      obtain ⟨q, hq, rfl⟩ := dget_mem e1
      exact .hit hw' (eqP_plain I hu h e3 rel rw' h1'.1 (List.all_eq_true.mp h2 q hq)) (hitsS I hu r2 l2 c2 h2 r l1 c1' h1'.2)
theorem eqP_data (A : Around) (I : Inv X pins σ H s) (hu : A.units + 60 < cLine) {d e : D} {x y : V} {v u : Value} (q1 : RepV X.K G ρ H d x) (q2 : RepV X.K G ρ H e y) (r1 : RelV x v) (r2 : RelV y u) (h1 : vOk d = true) (h2 : vOk e = true) :
    SeqAt.EqP X.prog X.w A s v u (PyData.eqv (toPy d) (toPy e)) := by
  simp only [vOk, Bool.and_eq_true, decide_eq_true_eq] at h1 h2
  obtain ⟨as, ra⟩ := Dp.reads I _ x v (Dp.of q1 h1.1) r1
  obtain ⟨bs, rb⟩ := Dp.reads I _ y u (Dp.of q2 h2.1) r2
  refine (SeqAt.eqAt_reads _ _ A s v u as bs ra rb (canLay_toPy d h1.1) (canLay_toPy e h2.1) ?_).eqP
  rw [depth_toPy d h1.1, depth_toPy e h2.1]
  have : min d.depth e.depth ≤ 50 := Nat.le_trans (Nat.min_le_left _ _) h1.2
  omega
theorem hitsA (A : Around) (I : Inv X pins σ H s) (hu : A.units + 60 < cLine) {k2 : List (D × D)} {xs2 : List (NestedKey × Addr × Value)} (r2 : RepT X.K G ρ H k2 xs2) (h2 : vOks k2 = true) :
    ∀ {k1 : List (D × D)} {xs1 : List (NestedKey × Addr × Value)}, RepT X.K G ρ H k1 xs1 → vOks k1 = true → PySem.W.KeqHitsP X.prog X.w A s (pairsH xs2) (pairsH xs1) (dEq k2 k1)
  | _, _, .nil, _ => .nil
  | _, _, .cons (kd := kd) (d := dd) (kvs := kv) nk dp hk h rel r, h1 => by
    have h1' : vOk dd = true ∧ vOks kv = true := by simpa [vOks, List.all_cons] using h1
    unfold dEq
    rcases RepT.get nk r2 with ⟨e1, e2⟩ | ⟨d', vv, v, e1, e2, e3, e4⟩
    · rw [e1]
      exact .miss e2
    · rw [e1]
      obtain ⟨q, hq, rfl⟩ := dget_mem e1
      exact .hit e2 (eqP_data A I hu h e3 rel e4 h1'.1 (List.all_eq_true.mp h2 q hq)) (hitsA A I hu r2 h2 r h1'.2)
theorem viewR_ok {K : PySem.W.Frag} {S : List DO} {r : Nat} {v : V} {kvs : List (D × D)} (rp : Rep K G ρ S H) (h : RepV K G ρ H (.ref r) v) (e : viewD S (.ref r) = some kvs) : ∃ a u, v = .ref a ∧ ρ[r]? = some (some a) ∧ Rd H a u ∧ RepD K G ρ H a kvs u := by
  have e' : (match S[r]? with
    | some (.dct kvs) => some kvs
    | some (.lkd kvs) => some kvs
    | _ => none) = some kvs := e
  split at e'
  · rename_i kvs' hS
    cases e'
    obtain ⟨a, u, rfl, h0, h1, _, h2⟩ := rp.at h hS trivial
    exact ⟨a, u, rfl, h0, .inl h1, h2⟩
  · rename_i kvs' hS
    cases e'
    obtain ⟨a, u, rfl, h0, h1, od, u', rfl, _, h2⟩ := rp.atL h hS (by intro z; cases z)
    exact ⟨a, u', rfl, h0, .inr ⟨od, h1⟩, h2⟩
  · cases e'
theorem itAg_ok {S : List DO} (hp : X.prog = G.prog) (hw : X.w = G.world) (hu : X.A.units + 64 < cLine) (I : Inv X pins σ H s) (rp : Rep X.K G ρ S H) {x y : D} {vx vy : V} {v u : Value} (q1 : RepV X.K G ρ H x vx) (q2 : RepV X.K G ρ H y vy) (r1 : RelV vx v) (r2 : RelV vy u) (h : itAg S x y = true) : SeqAt.EqP X.prog X.w X.A.in1 s v u true := by
  unfold itAg at h
  rw [Bool.or_eq_true] at h
  rcases h with h | h
  · simp only [Bool.and_eq_true] at h
    have := eqP_data X.A.in1 I (show X.A.units + 1 + 60 < cLine by omega) q1 q2 r1 r2 h.1.1 h.1.2
    rw [h.2] at this
    exact this
  · split at h
    · rename_i i j
      rw [Bool.and_eq_true, decide_eq_true_eq] at h
      obtain ⟨hij, h⟩ := h
      split at h
      · rename_i k1 k2 h1 h2
        simp only [dEqOk, Bool.and_eq_true] at h
        obtain ⟨⟨⟨⟨c1, c2⟩, c3⟩, c4⟩, c5⟩ := h
        obtain ⟨a, ua, rfl, hra, ha, ra⟩ := viewR_ok rp q1 h1
        obtain ⟨b, ub, rfl, hrb, hb, rb⟩ := viewR_ok rp q2 h2
        have hne : a ≠ b := fun z => hij (rp.inj i j a hra (z ▸ hrb))
        cases (show v = Value.ref a from r1)
        cases (show u = Value.ref b from r2)
        obtain ⟨xa, ta, da, sa, za⟩ := dict_read hp hw I ha ra c1
        obtain ⟨xb, tb, db, sb, zb⟩ := dict_read hp hw I hb rb c2
        refine SeqAt.eqP_refs hne fun E Q z => ?_
        refine eqH (A := X.A.in1) (show X.A.units + 1 + 1 + 8 < cLine by omega) sa sb da db (show X.A.units + 1 < cLine by omega) (hitsA X.A.in1.in1 I (show X.A.units + 1 + 1 + 60 < cLine by omega) tb c4 ta c3) ?_
        rw [← ta.len, ← tb.len]
        have e : (k1.length == k2.length && dEq k2 k1) = true := by rw [Bool.and_eq_true]; exact c5
        rw [e]
        exact z
      · cases h
    · cases h
theorem itsAg_ok {S : List DO} (hp : X.prog = G.prog) (hw : X.w = G.world) (hu : X.A.units + 64 < cLine) (I : Inv X pins σ H s) (rp : Rep X.K G ρ S H) : ∀ {xs ys : List D} {us ws : List V} {vs zs : List Value}, RepVs X.K G ρ H xs us → RepVs X.K G ρ H ys ws → Vals us vs → Vals ws zs → itsAg S xs ys = true →
    vs.length = zs.length ∧ ∀ (j : Nat) (p : j < vs.length) (q : j < zs.length), SeqAt.EqP X.prog X.w X.A.in1 s vs[j] zs[j] true
  | _, _, _, _, _, _, .nil, .nil, .nil, .nil, _ => ⟨rfl, fun j p => absurd p (Nat.not_lt_zero _)⟩
  | _, _, _, _, _, _, .nil, .cons _ _, _, _, h => by simp [itsAg] at h
  | _, _, _, _, _, _, .cons _ _, .nil, _, _, h => by simp [itsAg] at h
  | _, _, _, _, _, _, .cons q1 r1, .cons q2 r2, .cons e1 f1, .cons e2 f2, h => by
    unfold itsAg at h
    rw [Bool.and_eq_true] at h
    obtain ⟨sz, it⟩ := itsAg_ok hp hw hu I rp r1 r2 f1 f2 h.2
    refine ⟨by rw [List.length_cons, List.length_cons, sz], fun j p q => ?_⟩
    cases j with
    | zero => exact itAg_ok hp hw hu I rp q1 q2 e1 e2 h.1
    | succ j => exact it j (by simpa using p) (by simpa using q)
theorem lsAg_ok {S : List DO} (hp : X.prog = G.prog) (hw : X.w = G.world) (hu : X.A.units + 64 < cLine) (I : Inv X pins σ H s) (rp : Rep X.K G ρ S H) {x y : D} {vx vy : V} {v u : Value} (q1 : RepV X.K G ρ H x vx) (q2 : RepV X.K G ρ H y vy) (r1 : RelV vx v) (r2 : RelV vy u) (h : lsAg S x y = true) :
    ∃ (a b : Addr) (va vb : Array Value), v = .ref a ∧ u = .ref b ∧ s.heap.IsList a va ∧ s.heap.IsList b vb ∧ va.size = vb.size ∧ ∀ (j : Nat) (p : j < va.size) (q : j < vb.size), SeqAt.EqP X.prog X.w X.A.in1 s va[j] vb[j] true := by
  unfold lsAg at h
  split at h
  · rename_i xs ys h1 h2
    obtain ⟨a, us, rfl, ra, q1'⟩ := viewL_ok rp q1 h1
    obtain ⟨b, ws, rfl, rb, q2'⟩ := viewL_ok rp q2 h2
    obtain ⟨va, c1, l1, z1⟩ := I.list (.inl ra)
    obtain ⟨vb, c2, l2, z2⟩ := I.list (.inl rb)
    obtain ⟨sz, it⟩ := itsAg_ok hp hw hu I rp q1' q2' c1 c2 h
    exact ⟨a, b, va.toArray, vb.toArray, r1, r2, l1.isList, l2.isList, by simpa using sz, fun j p q => by simpa using it j (by simpa using p) (by simpa using q)⟩
  · cases h
theorem op_eq2M (hp : X.prog = G.prog) (hw : X.w = G.world) (hu : X.A.units + 64 < cLine) : OpR X (compareOp .Eq) (r2M X.K G eq2M) := by
  intro pins s σ H vx vy v u Q I r1 r2 ⟨ρ, S, x, y, rp, q1, q2, g⟩
  unfold eq2M at g
  split at g
  · rename_i k1 k2 h1 h2
    split at g
    · rename_i hc
      simp only [dEqOk, Bool.and_eq_true] at hc
      obtain ⟨⟨⟨c1, c2⟩, c3⟩, c4⟩ := hc
      obtain ⟨a, ua, rfl, ha, ra⟩ := viewD_ok rp q1 h1
      obtain ⟨b, ub, rfl, hb, rb⟩ := viewD_ok rp q2 h2
      cases (show v = Value.ref a from r1)
      cases (show u = Value.ref b from r2)
      obtain ⟨xa, ta, da, sa, za⟩ := dict_read hp hw I ha ra c1
      obtain ⟨xb, tb, db, sb, zb⟩ := dict_read hp hw I hb rb c2
      refine eqH (room8 hu) sa sb da db (by omega) (hitsT I hu tb c4 ta c3) ?_
      rw [← ta.len, ← tb.len]
      exact ⟨.bl _, H, I, rfl, g ρ _ H (Ext.refl _ _) rp (.bl _)⟩
    · split at g
      · rename_i hc
        simp only [sEqOk, Bool.and_eq_true] at hc
        obtain ⟨⟨⟨c1, c2⟩, c3⟩, c4⟩ := hc
        obtain ⟨a, ua, rfl, ha, ra⟩ := viewD_ok rp q1 h1
        obtain ⟨b, ub, rfl, hb, rb⟩ := viewD_ok rp q2 h2
        cases (show v = Value.ref a from r1)
        cases (show u = Value.ref b from r2)
        obtain ⟨xa, va, ta, la, da, sa, _, _⟩ := dict_readS hp hw I ha ra c1
        obtain ⟨xb, vb, tb, lb, db, sb, _, _⟩ := dict_readS hp hw I hb rb c2
        refine eqK sa sb da db (by omega) (hitsS I hu tb lb c2 c4 ta la c1 c3) ?_
        rw [← la.length, ← lb.length, ← ta.len, ← tb.len]
        exact ⟨.bl _, H, I, rfl, g ρ _ H (Ext.refl _ _) rp (.bl _)⟩
      · exact g.elim
  · split at g
    · rename_i hc
      rw [Bool.and_eq_true] at hc
      obtain ⟨a, b, va, vb, e1, e2, l1, l2, sz, it⟩ := lsAg_ok hp hw hu I rp q1 q2 r1 r2 hc.2
      subst e1 e2
      exact eq_agree l1 l2 sz (by omega) it ⟨.bl _, H, I, rfl, g ρ _ H (Ext.refl _ _) rp (.bl _)⟩
    · exact op_eqM hu pins s σ H vx vy v u Q I r1 r2 ⟨ρ, S, x, y, rp, q1, q2, g⟩
theorem op_ne2M (hp : X.prog = G.prog) (hw : X.w = G.world) (hu : X.A.units + 64 < cLine) : OpR X (compareOp .NotEq) (r2M X.K G ne2M) := by
  intro pins s σ H vx vy v u Q I r1 r2 ⟨ρ, S, x, y, rp, q1, q2, g⟩
  unfold ne2M at g
  split at g
  · rename_i k1 k2 h1 h2
    split at g
    · rename_i hc
      simp only [dEqOk, Bool.and_eq_true] at hc
      obtain ⟨⟨⟨c1, c2⟩, c3⟩, c4⟩ := hc
      obtain ⟨a, ua, rfl, ha, ra⟩ := viewD_ok rp q1 h1
      obtain ⟨b, ub, rfl, hb, rb⟩ := viewD_ok rp q2 h2
      cases (show v = Value.ref a from r1)
      cases (show u = Value.ref b from r2)
      obtain ⟨xa, ta, da, sa, za⟩ := dict_read hp hw I ha ra c1
      obtain ⟨xb, tb, db, sb, zb⟩ := dict_read hp hw I hb rb c2
      refine neH (room8 hu) sa sb da db (by omega) (hitsT I hu tb c4 ta c3) ?_
      rw [← ta.len, ← tb.len]
      exact ⟨.bl _, H, I, rfl, g ρ _ H (Ext.refl _ _) rp (.bl _)⟩
    · split at g
      · rename_i hc
        simp only [sEqOk, Bool.and_eq_true] at hc
        obtain ⟨⟨⟨c1, c2⟩, c3⟩, c4⟩ := hc
        obtain ⟨a, ua, rfl, ha, ra⟩ := viewD_ok rp q1 h1
        obtain ⟨b, ub, rfl, hb, rb⟩ := viewD_ok rp q2 h2
        cases (show v = Value.ref a from r1)
        cases (show u = Value.ref b from r2)
        obtain ⟨xa, va, ta, la, da, sa, _, _⟩ := dict_readS hp hw I ha ra c1
        obtain ⟨xb, vb, tb, lb, db, sb, _, _⟩ := dict_readS hp hw I hb rb c2
        refine neK sa sb da db (by omega) (hitsS I hu tb lb c2 c4 ta la c1 c3) ?_
        rw [← la.length, ← lb.length, ← ta.len, ← tb.len]
        exact ⟨.bl _, H, I, rfl, g ρ _ H (Ext.refl _ _) rp (.bl _)⟩
      · exact g.elim
  · split at g
    · rename_i hc
      rw [Bool.and_eq_true] at hc
      obtain ⟨a, b, va, vb, e1, e2, l1, l2, sz, it⟩ := lsAg_ok hp hw hu I rp q1 q2 r1 r2 hc.2
      subst e1 e2
      exact ne_agree l1 l2 sz (by omega) it ⟨.bl _, H, I, rfl, g ρ _ H (Ext.refl _ _) rp (.bl _)⟩
    · exact op_neM hu pins s σ H vx vy v u Q I r1 r2 ⟨ρ, S, x, y, rp, q1, q2, g⟩
end
end PK
namespace PK
open PySem PySem.Spec PyProof.Rows L2

/-! ### values without cells -/
mutual
def D.noRef : D → Bool
  | .non | .bl _ | .int _ | .str _ => true
  | .tup xs => D.noRefs xs
  | .lst xs => D.noRefs xs
  | .dct kvs => D.noRefK kvs
  | .ins _ fs => D.noRefF fs
  | .ref _ => false
  | .scr _ => true
def D.noRefs : List D → Bool
  | [] => true
  | x :: xs => D.noRef x && D.noRefs xs
def D.noRefK : List (D × D) → Bool
  | [] => true
  | (a, b) :: xs => D.noRef a && D.noRef b && D.noRefK xs
def D.noRefF : List (Nat × D) → Bool
  | [] => true
  | (_, b) :: xs => D.noRef b && D.noRefF xs
end
section
variable {K : PySem.W.Frag} {G : Cls} {ρ ρ' : List (Option Addr)} {H : Hp}
mutual
theorem RepV.moved : ∀ {d : D} {v : V}, RepV K G ρ H d v → d.noRef = true → RepV K G ρ' H d v
  | _, _, .non, _ => .non
  | _, _, .bl b, _ => .bl b
  | _, _, .int i, _ => .int i
  | _, _, .str z, _ => .str z
  | _, _, .tup h r, p => .tup h (RepVs.moved r (by simpa [D.noRef] using p))
  | _, _, .lst h r, p => .lst h (RepVs.moved r (by simpa [D.noRef] using p))
  | _, _, .dct h r, p => .dct h (RepD.moved r (by simpa [D.noRef] using p))
  | _, _, .ins hc h r, p => .ins hc h (RepF.moved r (by simpa [D.noRef] using p))
  | _, _, .ex0 hc g, p => .ex0 hc g
  | _, _, .ex1 hc g h r, p => .ex1 hc g h (RepF.moved r (by simpa [D.noRef] using p))
  | _, _, .ref _ _, p => by simp [D.noRef] at p
  | _, _, .scr h, _ => .scr h
theorem RepVs.moved : ∀ {ds : List D} {vs : List V}, RepVs K G ρ H ds vs → D.noRefs ds = true → RepVs K G ρ' H ds vs
  | _, _, .nil, _ => .nil
  | _, _, .cons h r, p => by
    simp only [D.noRefs, Bool.and_eq_true] at p
    exact .cons (RepV.moved h p.1) (RepVs.moved r p.2)
theorem RepD.moved : ∀ {a : Addr} {kvs : List (D × D)} {u : HO}, RepD K G ρ H a kvs u → D.noRefK kvs = true → RepD K G ρ' H a kvs u
  | _, _, _, .k r, p => .k (RepK.moved r p)
  | _, _, _, .t r, p => .t (RepT.moved r p)
theorem RepT.moved : ∀ {kvs : List (D × D)} {xs : List (NestedKey × Addr × Value)}, RepT K G ρ H kvs xs → D.noRefK kvs = true → RepT K G ρ' H kvs xs
  | _, _, .nil, _ => .nil
  | _, _, .cons nk dp hk h rel r, p => by
    simp only [D.noRefK, Bool.and_eq_true] at p
    exact .cons nk dp (RepV.moved hk p.1.1) (RepV.moved h p.1.2) rel (RepT.moved r p.2)
theorem RepK.moved : ∀ {kvs : List (D × D)} {us : List (Key × V)}, RepK K G ρ H kvs us → D.noRefK kvs = true → RepK K G ρ' H kvs us
  | _, _, .nil, _ => .nil
  | _, _, .int h r, p => by
    simp only [D.noRefK, Bool.and_eq_true] at p
    exact .int (RepV.moved h p.1.2) (RepK.moved r p.2)
  | _, _, .str h r, p => by
    simp only [D.noRefK, Bool.and_eq_true] at p
    exact .str (RepV.moved h p.1.2) (RepK.moved r p.2)
theorem RepF.moved : ∀ {fs : List (Nat × D)} {us : List (Str × V)}, RepF K G ρ H fs us → D.noRefF fs = true → RepF K G ρ' H fs us
  | _, _, .nil, _ => .nil
  | _, _, .cons h r, p => by
    simp only [D.noRefF, Bool.and_eq_true] at p
    exact .cons (RepV.moved h p.1) (RepF.moved r p.2)
end
theorem RepX.moved {fs : List (Nat × D)} {od : Option Addr} (h : RepX K G ρ H fs od) (p : D.noRefF fs = true) : RepX K G ρ' H fs od := by
  rcases h with h | ⟨dx, us, h1, h2, h3⟩
  · exact .inl h
  · exact .inr ⟨dx, us, h1, h2, RepF.moved h3 p⟩
theorem Rep.nil : Rep K G [] [] H := ⟨rfl, fun i j a h => by simp at h, fun i o h => by simp at h, fun i a h => by simp at h⟩
/-- behind a call that knew no cell: all stands -/
theorem Ext.ofNone {ρ1 : List (Option Addr)} {H1 : Hp} (x : Ext [] H ρ1 H1) : Ext ρ H ρ H1 :=
  ⟨fun b o h _ => x.keep b o h (fun i e => by simp at e), x.tups, x.frzs, x.xds, x.dom, Nat.le_refl _, fun _ _ => .inl rfl, fun i a h e => by rw [List.getElem?_eq_none_iff.mpr h] at e; cases e⟩
theorem Rep.ofNone {S : List DO} {ρ1 : List (Option Addr)} {H1 : Hp} (r : Rep K G ρ S H) (x : Ext [] H ρ1 H1) : Rep K G ρ S H1 :=
  r.same x.ofNone fun i a e => by
    obtain ⟨o, h, _⟩ := r.trk i a e
    rw [h, x.keep a o h (fun i e => by simp at e)]
end

/-! ### calls -/
/-- a def's promise: it does what m does -/
def spF (K : PySem.W.Frag) (G : Cls) (np : Nat) (m : List D → EM D) : Sp := fun vs H Q E => vs.length = np ∧ ∃ ρ S ds, Rep K G ρ S H ∧ RepVs K G ρ H ds vs ∧ Go K G (RD K G) (fun c d _ H' => E c d H') [] ρ H (m ds S) Q
/-- the call that hands its own cells on -/
def mCall (np : Nat) (m : List D → EM D) (dds : List D) (xs : List D) : EM D := if xs.length + dds.length = np then m (xs ++ dds) else EM.fail
/-- the call that knows no cell -/
def pureCall (m : List D → EM D) (xs : List D) : EM D := fun S => if D.noRefs xs = true then match m xs [] with
  | .ok d _ => if d.noRef = true then .ok d S else .stuck
  | .exc c fs _ => if D.noRefF fs = true then .exc c fs S else .stuck
  | .stuck => .stuck else .stuck
section
variable {K : PySem.W.Frag} {G : Cls} {ρ : List (Option Addr)} {S : List DO} {H : Hp} {W : L2.WX} {σ : L2.St} {np : Nat} {m : List D → EM D} {xs dds : List D} {vs dvs : List V} {Q : VK}
theorem Go.xk {α β : Type} {R : List (Option Addr) → Hp → α → β → Prop} {r : Res α} {Q : β → Hp → Prop} (g : Go K G R W σ ρ H r Q) : Go K G R (fun c d _ H' => WE W σ c d H') [] ρ H r Q := by
  cases r with
  | ok a S' => exact g
  | exc c fs S' => exact g
  | stuck => exact g
theorem spF_of (rp : Rep K G ρ S H) (r : RepVs K G ρ H xs vs) (rd : RepVs K G ρ H dds dvs) (g : Go K G (RD K G) W σ ρ H (mCall np m dds xs S) Q) : spF K G np m (vs ++ dvs) H Q (WE W σ) := by
  unfold mCall at g
  by_cases h : xs.length + dds.length = np
  · rw [if_pos h] at g
    exact ⟨by rw [List.length_append, ← r.length, ← rd.length]; exact h, ρ, S, _, rp, r.append rd, g.xk⟩
  · rw [if_neg h] at g; exact g.elim
theorem spF_pure (rp : Rep K G ρ S H) (r : RepVs K G ρ H xs vs) (rd : RepVs K G ρ H dds dvs) (g : Go K G (RD K G) W σ ρ H (mCall np (pureCall m) dds xs S) Q) : spF K G np m (vs ++ dvs) H Q (WE W σ) := by
  unfold mCall at g
  by_cases h : xs.length + dds.length = np
  · rw [if_pos h] at g
    unfold pureCall at g
    by_cases hn : D.noRefs (xs ++ dds) = true
    · rw [if_pos hn] at g
      refine ⟨by rw [List.length_append, ← r.length, ← rd.length]; exact h, [], [], xs ++ dds, Rep.nil, RepVs.moved (r.append rd) hn, ?_⟩
      cases hm : m (xs ++ dds) [] with
      | stuck => rw [hm] at g; exact g
      | ok d S1 =>
        rw [hm] at g
        dsimp only at g
        by_cases hd : d.noRef = true
        · rw [if_pos hd] at g
          exact fun ρ1 v H1 x1 r1 q1 => g ρ v H1 x1.ofNone (rp.ofNone x1) (RepV.moved q1 hd)
        · rw [if_neg hd] at g; exact g.elim
      | exc c fs S1 =>
        rw [hm] at g
        dsimp only at g
        by_cases hd : D.noRefF fs = true
        · rw [if_pos hd] at g
          exact fun ρ1 H1 od x1 r1 q1 => g ρ H1 od x1.ofNone (rp.ofNone x1) (RepX.moved q1 hd)
        · rw [if_neg hd] at g; exact g.elim
    · rw [if_neg hn] at g; exact g.elim
  · rw [if_neg h] at g; exact g.elim
end
section
variable {X : Cx} {G : Cls} {W : L2.WX} {k : Nat} {f : Addr} {fd : FuncData} {ps : List Str} {np : Nat} {m : List D → EM D} {x : Str} {p pos : Pos} {e : Expr} {es : List Expr} {ms : Env → EM (List D)} {dds : List D} {dvs : List V} {ds : List Value}
/-- f(e, ..): the def's own cells are ours (pu: or it knows none) -/
theorem pm_call (pu : Bool) (F : FnOk X.prog X.w X.K X.mg X.base (L2.CX X.prog X.w) k f fd ps (spF X.K G np m)) (hr : Room k X.A) (tk : Takes X W) (hg : Gl X x) (hm : X.mg x = some (.ref f)) (hk : PySem.W.keepIn X.K (.ref f) = true) (hb : Binds X.K fd ps ds) (hd : Vals dvs ds) (hdd : ∀ ρ H, RepVs X.K G ρ H dds dvs)
    (ha : PA X (e :: es) (tA X.K G W ms)) (hdb : (x == ("__debug__" : Str)) = false) (he : starEach (e :: es) X.env = (false, eval e X.env) :: starEach es X.env) (hpl : (backTo pos (starEach es X.env)).any (·.1) = false) :
    PE X (.Call (.Name x p) (e :: es) [] pos) (tM X.K G W (PK.es (mCall np (if pu = true then pureCall m else m) dds) ms)) :=
  (pe_callSD F hr hg hm hk hb hd (fun σ => passAt tk σ) ha hdb he hpl).weak fun σ H Q ⟨ρ, S, E, rp, re, g⟩ => by
    refine ⟨ρ, S, E, rp, re, Go.mono (Go.bind g) ?_⟩
    rintro vs H1 ⟨ρ1, S1, xs, x1, r1, q1, g1⟩
    cases pu with
    | true => rw [if_pos rfl] at g1; exact spF_pure r1 q1 (hdd _ _) g1
    | false => rw [if_neg Bool.false_ne_true] at g1; exact spF_of r1 q1 (hdd _ _) g1
end

/-! ### a def's body -/
def runBody (n : Nat) (mb : SM) : List D → EM D := fun ds S => match mb (ds.map some ++ List.replicate (n - ds.length) none) S with
  | .nx _ S' => .ok .non S'
  | .rt d S' => .ok d S'
  | .exc c fs _ S' => .exc c fs S'
  | _ => .stuck
theorem RepE.start {K : PySem.W.Frag} {G : Cls} {ρ : List (Option Addr)} {H : Hp} {N : List Str} {ds : List D} {vs : List V} (r : RepVs K G ρ H ds vs) : RepE K G ρ H (ds.map some ++ List.replicate (N.length - ds.length) none) (L2.start N vs) := by
  refine ⟨by simp [L2.start, r.length], fun i d e => ?_⟩
  unfold L2.start
  by_cases hi : i < ds.length
  · rw [List.getElem?_append_left (by simpa using hi), List.getElem?_map, Option.map_eq_some_iff] at e
    obtain ⟨d', e1, e2⟩ := e
    cases e2
    obtain ⟨v, e3, q⟩ := r.get e1
    exact ⟨v, by rw [List.getElem?_append_left (by rw [List.length_map, ← r.length]; exact hi), List.getElem?_map, e3]; rfl, q⟩
  · rw [List.getElem?_append_right (by simpa using Nat.le_of_not_lt hi)] at e
    rw [List.getElem?_replicate] at e
    split at e <;> cases e
section
variable {P : Program} {w : World} {K : PySem.W.Frag} {G : Cls} {mg : Str → Option Value} {base : Heap} {x qual : Str} {params : Arguments} {body : List Stmt} {scope : Scope} {dvs : List V} {kws : List (Str × V)} {f : Addr} {fd : FuncData} {N ps : List Str} {k : Nat} {mb : SM}
end
end PK
namespace PK
open PySem PySem.Spec PyProof.Rows L2

/-! ### looking at the text -/
def asName : Expr → Option Str
  | .Name x _ => some x
  | _ => none
theorem asName_eq {e : Expr} {x : Str} (h : asName e = some x) : ∃ p, e = .Name x p := by
  cases e <;> simp [asName] at h
  exact ⟨_, by rw [h]⟩
def asInt : Expr → Option Int
  | .Constant (.int i) _ _ => some i
  | _ => none
theorem asInt_eq {e : Expr} {i : Int} (h : asInt e = some i) : ∃ j p, e = .Constant (.int i) j p := by
  unfold asInt at h
  split at h
  · cases h; exact ⟨_, _, rfl⟩
  · cases h
def asBool : Expr → Option Bool
  | .Constant (.bool i) _ _ => some i
  | _ => none
theorem asBool_eq {e : Expr} {i : Bool} (h : asBool e = some i) : ∃ j p, e = .Constant (.bool i) j p := by
  unfold asBool at h
  split at h
  · cases h; exact ⟨_, _, rfl⟩
  · cases h
def asStr : Expr → Option Str
  | .Constant (.str i) _ _ => some i
  | _ => none
theorem asStr_eq {e : Expr} {i : Str} (h : asStr e = some i) : ∃ j p, e = .Constant (.str i) j p := by
  unfold asStr at h
  split at h
  · cases h; exact ⟨_, _, rfl⟩
  · cases h
def isNone : Expr → Bool
  | .Constant .none _ _ => true
  | _ => false
theorem isNone_eq {e : Expr} (h : isNone e = true) : ∃ j p, e = .Constant .none j p := by
  unfold isNone at h
  split at h
  · exact ⟨_, _, rfl⟩
  · cases h
def asTuple : Expr → Option (List Expr)
  | .Tuple es _ _ => some es
  | _ => none
theorem asTuple_eq {e : Expr} {i : List Expr} (h : asTuple e = some i) : ∃ j p, e = .Tuple i j p := by
  cases e <;> simp [asTuple] at h
  exact ⟨_, _, by rw [h]⟩
def asList : Expr → Option (List Expr)
  | .List es _ => some es
  | _ => none
theorem asList_eq {e : Expr} {i : List Expr} (h : asList e = some i) : ∃ p, e = .List i p := by
  cases e <;> simp [asList] at h
  exact ⟨_, by rw [h]⟩
def asBin : Expr → Option (Expr × Operator × Expr)
  | .BinOp a o b _ => some (a, o, b)
  | _ => none
theorem asBin_eq {e a b : Expr} {o : Operator} (h : asBin e = some (a, o, b)) : ∃ p, e = .BinOp a o b p := by
  cases e <;> simp [asBin] at h
  obtain ⟨rfl, rfl, rfl⟩ := h
  exact ⟨_, rfl⟩
def asUn : Expr → Option (UnaryOp × Expr)
  | .UnaryOp o a _ => some (o, a)
  | _ => none
theorem asUn_eq {e a : Expr} {o : UnaryOp} (h : asUn e = some (o, a)) : ∃ p, e = .UnaryOp o a p := by
  cases e <;> simp [asUn] at h
  obtain ⟨rfl, rfl⟩ := h
  exact ⟨_, rfl⟩
def asCmp : Expr → Option (Expr × CmpOp × Expr)
  | .Compare a [o] [b] _ => some (a, o, b)
  | _ => none
theorem asCmp_eq {e a b : Expr} {o : CmpOp} (h : asCmp e = some (a, o, b)) : ∃ p, e = .Compare a [o] [b] p := by
  unfold asCmp at h
  split at h
  · cases h; exact ⟨_, rfl⟩
  · cases h
def asAnd : Expr → Option (List Expr × Pos)
  | .BoolOp .And es p => some (es, p)
  | _ => none
theorem asAnd_eq {e : Expr} {es : List Expr} {p : Pos} (h : asAnd e = some (es, p)) : e = .BoolOp .And es p := by
  unfold asAnd at h
  split at h
  · cases h; rfl
  · cases h
def asOr : Expr → Option (List Expr × Pos)
  | .BoolOp .Or es p => some (es, p)
  | _ => none
theorem asOr_eq {e : Expr} {es : List Expr} {p : Pos} (h : asOr e = some (es, p)) : e = .BoolOp .Or es p := by
  unfold asOr at h
  split at h
  · cases h; rfl
  · cases h
def asIfe : Expr → Option (Expr × Expr × Expr)
  | .IfExp c a b _ => some (c, a, b)
  | _ => none
theorem asIfe_eq {e c a b : Expr} (h : asIfe e = some (c, a, b)) : ∃ p, e = .IfExp c a b p := by
  cases e <;> simp [asIfe] at h
  obtain ⟨rfl, rfl, rfl⟩ := h
  exact ⟨_, rfl⟩
def asSub : Expr → Option (Expr × Expr)
  | .Subscript a b _ => some (a, b)
  | _ => none
theorem asSub_eq {e a b : Expr} (h : asSub e = some (a, b)) : ∃ p, e = .Subscript a b p := by
  cases e <;> simp [asSub] at h
  obtain ⟨rfl, rfl⟩ := h
  exact ⟨_, rfl⟩
def asSlice : Expr → Option (Option Expr × Option Expr)
  | .Slice a b none _ => some (a, b)
  | _ => none
theorem asSlice_eq {e : Expr} {a b : Option Expr} (h : asSlice e = some (a, b)) : ∃ p, e = .Slice a b none p := by
  unfold asSlice at h
  split at h
  · cases h; exact ⟨_, rfl⟩
  · cases h
/-- f(..): a name called, no keywords -/
def asCall : Expr → Option (Str × List Expr)
  | .Call (.Name x _) es [] _ => some (x, es)
  | _ => none
theorem asCall_eq {e : Expr} {x : Str} {es : List Expr} (h : asCall e = some (x, es)) : ∃ p q, e = .Call (.Name x p) es [] q := by
  unfold asCall at h
  split at h
  · cases h; exact ⟨_, _, rfl⟩
  · cases h
/-- o.m(..) on one line -/
def asMeth : Expr → Option (Expr × Str × List Expr)
  | .Call (.Attribute o m a) es [] q => if (a.endLine == q.line) = true then some (o, m, es) else none
  | _ => none
theorem asMeth_eq {e o : Expr} {m : Str} {es : List Expr} (h : asMeth e = some (o, m, es)) : ∃ a q, e = .Call (.Attribute o m a) es [] q ∧ (a.endLine == q.line) = true := by
  unfold asMeth at h
  split at h
  · split at h
    · rename_i hl; cases h; exact ⟨_, _, rfl, hl⟩
    · cases h
  · cases h
def asLc : Expr → Option (Expr × Expr × Expr × List Expr × Scope × Pos)
  | .ListComp elt [⟨tg, it, ifs, 0⟩] sc p => some (elt, tg, it, ifs, sc, p)
  | _ => none
theorem asLc_eq {e elt tg it : Expr} {ifs : List Expr} {sc : Scope} {p : Pos} (h : asLc e = some (elt, tg, it, ifs, sc, p)) : e = .ListComp elt [⟨tg, it, ifs, 0⟩] sc p := by
  unfold asLc at h
  split at h
  · cases h; rfl
  · cases h

/-! ### side conditions -/
def notStar : Expr → Bool
  | .Starred _ _ => false
  | _ => true
theorem star_cons {e : Expr} (h : notStar e = true) (es : List Expr) (env : PySem.Env) : starEach (e :: es) env = (false, eval e env) :: starEach es env := by
  cases e <;> first | rfl | (simp [notStar] at h)
theorem star_any {pos : Pos} {env : PySem.Env} : ∀ {es : List Expr}, es.all notStar = true → (backTo pos (starEach es env)).any (·.1) = false
  | [], _ => rfl
  | e :: es, h => by
    simp only [List.all_cons, Bool.and_eq_true] at h
    rw [star_cons h.1]
    show (false || (backTo pos (starEach es env)).any (·.1)) = false
    rw [star_any h.2]; rfl
theorem star_few {pos : Pos} {env : PySem.Env} : ∀ {es : List Expr}, es.all notStar = true → (backTo pos (starEach es env)).all (fun x => !x.1) = true
  | [], _ => rfl
  | e :: es, h => by
    simp only [List.all_cons, Bool.and_eq_true] at h
    rw [star_cons h.1]
    show (true && (backTo pos (starEach es env)).all (fun x => !x.1)) = true
    rw [star_few h.2]; rfl
def notSlice : Expr → Bool
  | .Slice _ _ _ _ => false
  | _ => true
theorem plainIx {b : Expr} (h : notSlice b = true) : PlainIx b := by
  intro o i
  cases b <;> first | rfl | (simp [notSlice] at h)
def notComp : Expr → Bool
  | .ListComp _ _ _ _ | .SetComp _ _ _ _ | .DictComp _ _ _ _ _ => false
  | _ => true
theorem swaps_no {e : Expr} (h : notComp e = true) (t : Option Expr) (l : Nat) (env : PySem.Env) : swapsWith e t l env = pure false := by
  cases e <;> first | rfl | (simp [notComp] at h)
/-- name = [..] where the name is a cell: a store like others -/
def cellT (sc : Scope) (t : Expr) : Bool := match t with
  | .Name y _ => (match sc.names.lookup y with
    | some .cell => true
    | _ => false)
  | _ => false
theorem swaps_cell {e t : Expr} {env : PySem.Env} (h : cellT env.scope t = true) (l : Nat) : swapsWith e (some t) l env = pure false := by
  unfold cellT at h
  split at h
  · rename_i y py
    split at h
    · rename_i hk
      have hk' : env.kindOf y = some .cell := hk
      have h2 : (env.kindOf y == some NameKind.local) = false := by rw [hk']; rfl
      cases e <;> first | rfl | (simp [swapsWith, h2])
    · cases h
  · cases h
def notTup : Expr → Bool
  | .Tuple _ _ _ => false
  | _ => true
theorem stores_no {e tg : Expr} (h : notTup e = true) (env : PySem.Env) : swappedStores [tg] e env = pure none := by
  cases e <;> first | (cases tg <;> rfl) | (simp [notTup] at h)
theorem each_one {tg : Expr} (h : notStar tg = true) (env : PySem.Env) : (assignEach [tg] env).map (·.2) = [assign tg env] := by
  cases tg <;> first | rfl | (simp [notStar] at h)
def notSet : Expr → Bool
  | .Set _ _ _ => false
  | _ => true
theorem folded_no {e : Expr} (h : notSet e = true) (env : PySem.Env) (x : Value) : foldedSetIterable e env x = pure x := by
  cases e <;> first | rfl | (simp [notSet] at h)
/-- a test that is its value -/
def plainTest : Expr → Bool
  | .Name _ _ | .Call _ _ _ _ | .Subscript _ _ _ | .Attribute _ _ _ | .Constant _ _ _ | .BinOp _ _ _ _ => true
  | _ => false
theorem plainTest_eq {e : Expr} (h : plainTest e = true) (env : PySem.Env) (whole : Sem Value) : isTrue e env whole = (do let v ← whole; standAt e.pos; holding [v] (truthy v)) := by
  cases e <;> first | rfl | (simp [plainTest] at h)
def simpleBase : Expr → Bool
  | .Name _ _ | .Subscript _ _ _ | .Attribute _ _ _ | .Constant _ _ _ | .Call _ (_ :: _) _ _ => true
  | _ => false
theorem base_eq {o : Expr} (h : simpleBase o = true) (a : Str) (env : PySem.Env) (whole : Sem Value) : attributeBase o a env whole = whole := by
  cases o with
  | Call f as kw p =>
    cases as with
    | nil => simp [simpleBase] at h
    | cons x xs => cases f <;> rfl
  | _ => first | rfl | (simp [simpleBase] at h)
theorem assign_sub {o i : Expr} {pos : Pos} (h : notSlice i = true) (env : PySem.Env) (v : Value) : assign (.Subscript o i pos) env v = (do
      let ov ← holding [v] (eval o env)
      let iv ← holding [v, ov] (eval i env)
      standAt pos
      holding [v, ov, iv] (setItem ov iv v)
      release [v, ov, iv] []) := by
  cases i <;> first | rfl | (simp [notSlice] at h)
theorem tg_cons {e : Expr} (h : notStar e = true) (es : List Expr) (env : PySem.Env) : (assignEach (e :: es) env).map (·.2) = assign e env :: (assignEach es env).map (·.2) := by
  cases e <;> first | rfl | (simp [notStar] at h)
theorem tg_len : ∀ (es : List Expr) (env : PySem.Env), (assignEach es env).length = es.length
  | [], _ => rfl
  | e :: es, env => by
    cases e <;> (show (assignEach es env).length + 1 = es.length + 1; rw [tg_len es env])
theorem tg_nostar : ∀ {es : List Expr} (env : PySem.Env), es.all notStar = true → (assignEach es env).findIdx? (·.1) = none
  | [], _, _ => rfl
  | e :: es, env, h => by
    simp only [List.all_cons, Bool.and_eq_true] at h
    have ih := tg_nostar (es := es) env h.2
    have e1 : assignEach (e :: es) env = (false, assign e env) :: assignEach es env := by
      cases e <;> first | rfl | (simp [notStar] at h)
    rw [e1, List.findIdx?_cons]
    simp [ih]
def idx2M (x y : D) : EM D := match y with
  | .tup _ => dixM x y
  | .str _ => sixM x y
  | _ => idxM x y
def len2M (xs : List D) : EM D := fun S => match xs with
  | [d] => (match viewD S d with
    | some _ => dlenM [d] S
    | none => lenM [d] S)
  | _ => lenM xs S
def chkD (o : D) : EM Unit := fun S => match viewD S o with
  | some _ => .ok () S
  | none => .stuck
def eGet (mo : Env → EM D) (ms : Env → EM (List D)) : Env → EM D := fun E => EM.bind (mo E) fun o => EM.bind (chkD o) fun _ => EM.bind (ms E) fun xs => dgetM o xs
def asDict : Expr → Option (List (Option Expr) × List Expr)
  | .Dict ks vs _ => some (ks, vs)
  | _ => none
theorem asDict_eq {e : Expr} {ks : List (Option Expr)} {vs : List Expr} (h : asDict e = some (ks, vs)) : ∃ p, e = .Dict ks vs p := by
  cases e <;> simp [asDict] at h
  obtain ⟨rfl, rfl⟩ := h
  exact ⟨_, rfl⟩
def fDnew : Env → EM DO := fun _ => EM.pure (.dct [])
end PK
namespace PK
open PySem PySem.Spec PyProof.Rows L2

/-! ### a, b = x, y -/
theorem swaps2 {x y : Str} {px py pt pt2 : Pos} {kt k2} {a b : Expr} {env : PySem.Env} (hk : env.blockKind = .function) (hx : env.kindOf x = some .local) (hy : env.kindOf y = some .local) (hl : (py.line == px.line) = true) (hxy : x ≠ y)
    (ha : notStar a = true) (hb : notStar b = true) (hf : (foldedForSure 8 a && foldedForSure 8 b) = false) (hc : (constantsAlone 8 a && constantsAlone 8 b) = false) :
    swappedStores [.Tuple [.Name x px, .Name y py] kt pt] (.Tuple [a, b] k2 pt2) env = pure (some [x, y]) := by
  have h1 : ([a, b].any fun | .Starred .. => true | _ => false) = false := by
    cases a <;> first | (simp [notStar] at ha; done) | (cases b <;> first | (simp [notStar] at hb; done) | rfl)
  have h2 : ([a, b].all (foldedForSure 8)) = false := by simpa [List.all_cons] using hf
  have h3 : ([a, b].all (constantsAlone 8)) = false := by simpa [List.all_cons] using hc
  have hyx : (y == x) = false := by simpa using fun z => hxy z.symm
  have h4 : [x, y].eraseDups = [x, y] := by
    simp [List.eraseDups_cons, hyx]
  have hl' : py.line = px.line := by simpa using hl
  have h5 : (Expr.Name x px).pos.line = px.line := rfl
  have e1 : ([Expr.Name x px, .Name y py].filterMap fun e => match e with
    | .Name id pos => if (env.kindOf id == some .local && pos.line == (([Expr.Name x px, .Name y py].head?.map (·.pos.line)).getD 0)) = true then some id else none
    | _ => none) = [x, y] := by
    simp [hx, hy, hl', h5, List.filterMap_cons]
  unfold swappedStores
  simp only [hk]
  erw [h1, e1, h2, h3, h4]
  rfl
def parOk (sc : Scope) (x y : Str) (px py : Pos) (a b : Expr) : Bool := decide (sc.kind = .function) && decide (sc.names.lookup x = some .local) && decide (sc.names.lookup y = some .local) && (py.line == px.line) && decide (x ≠ y) && notStar a && notStar b && !(foldedForSure 8 a && foldedForSure 8 b) && !(constantsAlone 8 a && constantsAlone 8 b)
def asPar : Stmt → Option (Str × Pos × Str × Pos × Expr × Expr)
  | .Assign [.Tuple [.Name x px, .Name y py] _ _] (.Tuple [a, b] _ _) _ => some (x, px, y, py, a, b)
  | _ => none
theorem asPar_eq {s : Stmt} {x y : Str} {px py : Pos} {a b : Expr} (h : asPar s = some (x, px, y, py, a, b)) : ∃ kt pt k2 pt2 p, s = .Assign [.Tuple [.Name x px, .Name y py] kt pt] (.Tuple [a, b] k2 pt2) p := by
  unfold asPar at h
  split at h
  · cases h; exact ⟨_, _, _, _, _, rfl⟩
  · cases h
def sPar (i j : Nat) (ms : Env → EM (List D)) : SM := sOf ms fun ds E S => match ds with
  | [a, b] => .nx ((E.set i (some a)).set j (some b)) S
  | _ => .stuck
section
variable {X : Cx} {G : Cls} {W : L2.WX} {ms : Env → EM (List D)}
theorem ps_parM {i j : Nat} {x y : Str} {a b : Expr} {px py pt : Pos} {kt k2 pt2} {pos : Pos} (hc : X.calm = true) (hN : X.N.Nodup) (hi : X.N[i]? = some x) (hj : X.N[j]? = some y) (hij : i ≠ j) (ok : parOk X.env.scope x y px py a b = true) (ha : PA X [a, b] (tA X.K G W ms)) :
    PS X (.Assign [.Tuple [.Name x px, .Name y py] kt pt] (.Tuple [a, b] k2 pt2) pos) (tS X.K G W (sPar i j ms)) := by
  simp only [parOk, Bool.and_eq_true, decide_eq_true_eq, Bool.not_eq_true'] at ok
  obtain ⟨⟨⟨⟨⟨⟨⟨⟨h1, h2⟩, h3⟩, h4⟩, h5⟩, h6⟩, h7⟩, h8⟩, h9⟩ := ok
  have hk : X.env.blockKind = .function := by unfold PySem.Env.blockKind; rw [h1]; rfl
  refine PS.weak (ps_par hc hN hi hj hij h2 h3 ha (swaps2 hk h2 h3 h4 h5 h6 h7 h8 h9)) fun D σ H ⟨ρ, S, E, rp, re, g⟩ => ?_
  refine ⟨ρ, S, E, rp, re, Go.mono (GoS.of re g) ?_⟩
  rintro vs H1 ⟨ρ1, S1, ds, x1, r1, q1, re1, g1⟩
  split at g1
  · obtain ⟨v, w, rfl, qv, qw⟩ := q1.two
    exact ⟨v, w, rfl, g1 ρ1 _ H1 (Ext.refl _ _) r1 ((re1.set qv).set qw)⟩
  · exact g1.elim
end
end PK
namespace PK
open PySem PySem.Spec PyProof.Rows L2

/-! ### {k: v for t in it if c}, whatever the store into the new dict is -/
/-- a store into a dict that is being made: what is asked, and that it is enough (B: the block's context) -/
abbrev PutT := Addr → V → V → Hp → (Hp → Prop) → Prop
def PutOk (X : Cx) (put : PutT) : Prop := ∀ (B : Cx) (pins : List (Addr × Obj)) (s : Shared) (σ : L2.St) (H : Hp) (D : Addr) (y z : V) (u r : Value) (Q : Hp → Prop) (E : Value → Shared → Prop), B.prog = X.prog → B.w = X.w → B.K = X.K → B.A = X.A →
  Inv B pins σ H s → RelV y u → RelV z r → put D y z H Q → wpAny (model B.prog B.w) B.A (dictSet D u r) (fun _ s' => ∃ H', Inv B pins σ H' s' ∧ Q H') E s
def tDx (wi : TI) (g : TG) (tt : TT) (tk tv : TE) (put : PutT) (vs : List Nat) : TE := fun σ H Q => wi σ H fun J H1 => ∀ D, H1 D = none →
  ∃ W : Nat → Nat → Hp → Prop, (∃ m, W 0 m (upd H1 D (.dK []))) ∧ ∀ i m H, W i m H → (J.stop i H ∧ Q (.ref D) H) ∨
    (J.go i H ∧ ∃ Nx : Hp → Prop, (∀ H', Nx H' → ∃ m', m' < m ∧ W (i + 1) m' H') ∧ ∀ x H', J.yld i H x H' →
      g x (L2.wipe σ vs) H' fun σ2 H2 => L2.wipe σ2 vs = L2.wipe σ vs ∧ tt σ2 H2 fun b H3 => if b = true then tk σ2 H3 fun y H4 => tv σ2 H4 fun z H5 => put D y z H5 Nx else Nx H3)
section
variable {X : Cx} {kx vx tg iter : Expr} {ifs : List Expr} {scope : Scope} {own : List (Str × Nat)} {g : TG} {tt : TT} {tk tv : TE} {put : PutT}
/-- the parts of the block, in whatever frame it runs -/
structure BlkP (X : Cx) (scope : Scope) (tg kx vx : Expr) (ifs : List Expr) (g : TG) (tt : TT) (tk tv : TE) : Prop where
  g : ∀ (s : Shared) (H : Hp) (C : Addr) (cl : List (Str × Addr)) (fp : List Addr), PG (X.blk s H scope (compEnvC scope cl C X.env) fp) tg g
  t : ∀ (s : Shared) (H : Hp) (C : Addr) (cl : List (Str × Addr)) (fp : List Addr), PTs (X.blk s H scope (compEnvC scope cl C X.env) fp) ifs tt
  k : ∀ (s : Shared) (H : Hp) (C : Addr) (cl : List (Str × Addr)) (fp : List Addr), PE (X.blk s H scope (compEnvC scope cl C X.env) fp) kx tk
  v : ∀ (s : Shared) (H : Hp) (C : Addr) (cl : List (Str × Addr)) (fp : List Addr), PE (X.blk s H scope (compEnvC scope cl C X.env) fp) vx tv
/-- the state ahead of a turn of the block B -/
def AtTurn (B : Cx) (fp : List Addr) (tn : Nat → Heap → Prop) (W : Nat → Nat → Hp → Prop) (τ : L2.St) (n : Nat) (s : Shared) : Prop := ∃ i H, Inv B [] τ H s ∧ tn i s.heap ∧ (∀ b ∈ fp, H b = none) ∧ W i n H
/-- the iterator's own things may turn, in the block -/
theorem blk_fp {s3 s' : Shared} {H3 H' : Hp} {env : PySem.Env} {fp : List Addr} {τ : L2.St} (I : Inv (X.blk s3 H3 scope env fp) [] τ H' s') (hn : ∀ b ∈ fp, H' b = none) : ∀ b ∈ fp, FpOk (X.blk s3 H3 scope env fp) [] H' b := by
  intro b hb
  have e := I.ok.exf b hb
  exact ⟨hn b hb, e.1, I.ok.exfs b hb, .inl hb, fun x c q => e.2 x c q, fun p hp => (by cases (show p ∈ ([] : List (Addr × Obj)) ++ [] from hp))⟩
/-- one turn that goes on -/
theorem turn_go {s3 s : Shared} {H3 H : Hp} {C : Addr} {cl : List (Str × Addr)} {fp : List Addr} {it D : Addr} {tn : Nat → Heap → Prop} {J : It} {W : Nat → Nat → Hp → Prop} {τ : L2.St} {vs : List Nat} {i n : Nat} {Nx : Hp → Prop} {Rn : Shared → Prop} {Z : Value → Shared → Prop}
    (hc : X.calm = true) (P : BlkP X scope tg kx vx ifs g tt tk tv) (hput : PutOk X put) (T : Turn X.prog X.w X.K tg J fp it tn) (hτ : L2.wipe τ vs = τ)
    (I : Inv (X.blk s3 H3 scope (compEnvC scope cl C X.env) fp) [] τ H s) (st : tn i s.heap) (hn : ∀ b ∈ fp, H b = none) (go : J.go i H) (hNx : ∀ H', Nx H' → ∃ m, m < n ∧ W (i + 1) m H')
    (step : ∀ x H', J.yld i H x H' → g x τ H' fun σ2 H2 => L2.wipe σ2 vs = τ ∧ tt σ2 H2 fun b H3 => if b = true then tk σ2 H3 fun y H4 => tv σ2 H4 fun z H5 => put D y z H5 Nx else Nx H3)
    (fin : ∀ s', (∃ m, m < n ∧ AtTurn (X.blk s3 H3 scope (compEnvC scope cl C X.env) fp) fp tn W τ m s') → Rn s') :
    wpAny (model X.prog X.w) X.A (pyNext (.ref it)) (fun r s1 => ∃ u, r = some u ∧ wpAny (model X.prog X.w) X.A (letOwnedTupleGo tg (.ref it) u) (fun _ s2 => wpAny (model X.prog X.w) X.A (assign tg (compEnvC scope cl C X.env) u) (fun _ s3 =>
      wpAny (model X.prog X.w) X.A (forIn ifs true fun c r => if r = true then do let ok ← isTrue c (compEnvC scope cl C X.env) (eval c (compEnvC scope cl C X.env)); pure (ForInStep.yield ok) else pure (ForInStep.yield r)) (fun ok s4 =>
        if ok = true then wpAny (model X.prog X.w) X.A (eval kx (compEnvC scope cl C X.env)) (fun kv s5 => wpAny (model X.prog X.w) X.A (eval vx (compEnvC scope cl C X.env)) (fun vv s6 => wpAny (model X.prog X.w) X.A (dictSet D kv vv) (fun _ s7 => Rn s7) Z s6) Z s5) Z s4
        else Rn s4) Z s3) Z s2) Z s1) Z s := by
  have item := T.item (X.blk s3 H3 scope (compEnvC scope cl C X.env) fp) rfl rfl rfl hc i [] s _ H (fun _ _ => False) I (blk_fp I hn) st go
  refine wpAny_mono item ?_ (fun _ _ z => z.elim)
  rintro r s1 ⟨u, rfl, w1⟩
  refine ⟨u, rfl, wpAny_mono w1 ?_ (fun _ _ z => z.elim)⟩
  rintro _ s2 ⟨x, H2, I2, r2, y2, st2, n2⟩
  have I2p := I2.pinned (blk_fp I2 n2) (T.obj _ _ st2)
  -- what a turn leaves
  have close : ∀ {σ' : L2.St} {s' : Shared} {H' : Hp}, L2.wipe σ' vs = τ → Inv (X.blk s3 H3 scope (compEnvC scope cl C X.env) fp) ([] ++ pinsAt fp s2.heap) σ' H' s' → Nx H' → Rn s' := by
    intro σ' s' H' hw I' nx
    obtain ⟨m, hm, w'⟩ := hNx H' nx
    have pins : ∀ b ∈ fp, ∀ o, s2.heap.get? b = some o → s'.heap.get? b = some o ∧ H' b = none := fun b hb o e => by
      have q := I'.pin (b, o) (List.mem_append_right _ (List.mem_append_right _ (mem_pinsAt hb e)))
      exact ⟨q.1, q.2.1⟩
    refine fin s' ⟨m, hm, i + 1, H', (I'.unpinned (pins := [])).weak (by rw [← hw, wipe_length]) (fun j v e => (wipe_some (by rw [hw]; exact e)).1), T.keep _ _ _ st2 fun b hb o e => (pins b hb o e).1, fun b hb => ?_, w'⟩
    have there := (T.obj _ _ st2 b hb).choose_spec.1
    exact (pins b hb _ there).2
  refine wpAny_mono ((P.g s3 H3 C cl fp).run _ s2 τ H2 x u _ I2p r2 (step x H2 y2)) ?_ (fun _ _ z => z.elim)
  rintro _ s4 ⟨σ4, H4, I4, hw, q4⟩
  refine wpAny_mono ((P.t s3 H3 C cl fp).run _ s4 σ4 H4 _ I4 q4) ?_ (fun _ _ z => z.elim)
  rintro b s5 ⟨H5, I5, q5⟩
  cases b with
  | false =>
    rw [if_neg Bool.false_ne_true] at q5 ⊢
    exact close hw I5 q5
  | true =>
    rw [if_pos rfl] at q5 ⊢
    refine wpAny_mono ((P.k s3 H3 C cl fp).run _ s5 σ4 H5 _ I5 q5) ?_ (fun _ _ z => z.elim)
    rintro kv s6 ⟨yk, H6, I6, r6, q6⟩
    refine wpAny_mono ((P.v s3 H3 C cl fp).run _ s6 σ4 H6 _ I6 q6) ?_ (fun _ _ z => z.elim)
    rintro vv s7 ⟨yv, H7, I7, r7, q7⟩
    refine wpAny_mono (hput (X.blk s3 H3 scope (compEnvC scope cl C X.env) fp) _ s7 σ4 H7 D yk yv kv vv Nx (fun _ _ => False) rfl rfl rfl rfl I7 r6 r7 q7) ?_ (fun _ _ z => z.elim)
    rintro _ s8 ⟨H8, I8, nx⟩
    exact close hw I8 nx
/-- the whole comprehension, ahead of what is done with its dict -/
theorem dx_run {pins : List (Addr × Obj)} {s : Shared} {σ : L2.St} {H : Hp} {Q : VK} {pos at_ : Pos} {wi : TI} {use : Option (Value → Sem Unit)} {Qf : Value → Shared → Prop} (hc : X.calm = true) (hN : X.N.Nodup) (hi : PI X tg iter wi) (ok : BlkOk X.N X.env.scope scope own)
    (P : BlkP X scope tg kx vx ifs g tt tk tv) (hput : PutOk X put) (hs : ∀ x, foldedSetIterable iter X.env x = pure x) (I : Inv X pins σ H s) (h : tDx wi g tt tk tv put (own.map (·.2)) σ H Q)
    (behind : ∀ D C s' m H', Inv X pins σ H' s' → Q (.ref D) H' → s'.heap.Ns C m → FpOk X pins H' C → compPost (model X.prog X.w) X.A X.xe use Qf (.ref D) C (.ok .next) s') :
    wpAny (model X.prog X.w) X.A (comprehension (.DictComp kx vx [⟨tg, iter, ifs, 0⟩] scope pos) scope X.env at_ newDict false (eval iter X.env) use) Qf X.xe s := by
  have clo : ∀ y ∈ scope.names, y.2 = .free → ∃ c, X.env.cells.lookup y.1 = some c := fun y hy e => (ok.free y hy e).elim (fun k => I.ok.has _ (.inl k)) fun k => I.ok.has _ (.inr k)
  apply wpAny_comprehension_free (use := use) rfl hs (closure_ok clo) ok.kind (fun y hy e => (ok.uniq y hy).trans (congrArg some e))
  refine wpAny_mono (hi.run pins s σ H _ I h) ?_ (fun _ _ z => z)
  intro xv s1 w1
  refine wpAny_mono w1 ?_ (fun _ _ z => z)
  rintro _ s2 ⟨it, fp, tn, J, H2, rfl, I2, T, st2, f2, q⟩
  refine wpAny_newObj_type ?_
  refine newEnv_comp ?_
  -- the new dict
  have fresh : H2 s2.heap.objs.size = none := I2.hok.fresh (Nat.le_refl _)
  obtain ⟨W, ⟨m0, w0⟩, turn⟩ := q _ fresh
  have old : ∀ b ∈ fp, b < s2.heap.objs.size := fun b hb => Heap.lt_size (T.obj _ _ st2 b hb).choose_spec.1
  have grow : ∀ (b : Addr) o, s2.heap.get? b = some o → (s2.heap.push { cls := .type "dict", data := .dict #[] }).get? b = some o := fun b o e => Heap.get?_push_of_some _ e
  have I3 : Inv X pins σ (upd H2 s2.heap.objs.size (.dK [])) { s2 with heap := s2.heap.push { cls := .type "dict", data := .dict #[] } } := I2.laid (t' := s2.toks) grow (Nat.le_refl _) (dk_empty s2.heap I2.big)
  have f3 : ∀ b ∈ fp, FpOk X pins (upd H2 s2.heap.objs.size (.dK [])) b ∧ b < ({ s2 with heap := s2.heap.push { cls := .type "dict", data := .dict #[] } } : Shared).heap.objs.size := fun b hb =>
    ⟨⟨(upd_ne (Nat.ne_of_lt (old b hb))).trans (f2 b hb).1, (f2 b hb).2⟩, by show b < (s2.heap.push _).objs.size; rw [Heap.size_push]; exact Nat.lt_succ_of_lt (old b hb)⟩
  have st3 : tn 0 ({ s2 with heap := s2.heap.push { cls := .type "dict", data := .dict #[] } } : Shared).heap := T.keep _ _ _ st2 fun b _ o e => grow b o e
  generalize ({ s2 with heap := s2.heap.push { cls := .type "dict", data := .dict #[] } } : Shared) = s3 at I3 f3 st3 ⊢
  generalize s2.heap.objs.size = D at fresh w0 turn I3 f3 ⊢
  generalize upd H2 D (.dK []) = H3 at w0 I3 f3
  have B := block_start I3 ok hN f3
  have st4 : tn 0 (pushCells (s3.heap.push { cls := .type "dict", data := .dict #[] }) scope.names) := T.keep _ _ _ st3 fun b _ o e => pushCells_keeps _ _ _ _ (Heap.get?_push_of_some _ e)
  have idem : L2.wipe (L2.wipe σ (own.map (·.2))) (own.map (·.2)) = L2.wipe σ (own.map (·.2)) := by
    have go : ∀ (us : List Nat) (τ : L2.St), (∀ u ∈ us, u ∈ own.map (·.2)) → L2.wipe (L2.wipe τ us) (own.map (·.2)) = L2.wipe τ (own.map (·.2)) := by
      intro us
      induction us with
      | nil => intro τ _; rfl
      | cons u us ih =>
        intro τ hu
        show L2.wipe ((L2.wipe τ us).set u none) _ = _
        rw [wipe_set (hu u (List.mem_cons_self ..)), ih τ fun z hz => hu z (List.mem_cons_of_mem _ hz)]
    exact go _ _ fun _ h => h
  let cl := cellsFrom (s3.heap.objs.size + 1) scope.names (cloFrom X.env.cells scope.names [])
  have loop : codeAny (model X.prog X.w) X.A (.compLoop (.DictComp kx vx [⟨tg, iter, ifs, 0⟩] scope pos) 0 (.ref it) (.ref D) (compEnvC scope cl s3.heap.objs.size X.env)) (compPost (model X.prog X.w) X.A X.xe use Qf (.ref D) s3.heap.objs.size) { s3 with heap := pushCells (s3.heap.push { cls := .type "dict", data := .dict #[] }) scope.names } := by
    refine compLoop_anyD (AtTurn (X.blk s3 H3 scope (compEnvC scope cl s3.heap.objs.size X.env) fp) fp tn W (L2.wipe σ (own.map (·.2)))) ?_ m0 ⟨0, H3, B, st4, fun b hb => (f3 b hb).1.1, w0⟩
    rintro n s5 ⟨i, H5, inv, st5, no5, w5⟩
    rcases turn i n H5 w5 with ⟨stop, fin⟩ | ⟨go, Nx, hNx, step⟩
    · have done := T.done (X.blk s3 H3 scope (compEnvC scope cl s3.heap.objs.size X.env) fp) rfl rfl rfl hc i [] s5 _ H5 (fun _ _ => False) inv (blk_fp inv no5) st5 stop
      refine wpAny_mono done ?_ (fun _ _ z => z.elim)
      rintro _ s6 ⟨rfl, I6⟩
      have back : Inv X pins σ H5 s6 := I3.call' (ch := fp) I6.os I6.base I6.hok I6.bare fun b hb =>
        have q := (f3 b hb).1
        ⟨q.2.2.2.1, q.2.1, q.2.2.2.2.1, q.2.2.2.2.2⟩
      obtain ⟨m, ns, _⟩ := I6.loc
      exact behind D s3.heap.objs.size s6 m H5 back fin ns (I3.fpOk (Nat.le_refl _) I6.free)
    · refine wpAny_mono (turn_go (cl := cl) (C := s3.heap.objs.size) (D := D) (Z := notedBy (model X.prog X.w) X.A (compEnvC scope cl s3.heap.objs.size X.env) fun e s' => compPost (model X.prog X.w) X.A X.xe use Qf (.ref D) s3.heap.objs.size (.error e) s') (Rn := fun s' => ∃ m, m < n ∧ AtTurn (X.blk s3 H3 scope (compEnvC scope cl s3.heap.objs.size X.env) fp) fp tn W (L2.wipe σ (own.map (·.2))) m s')
        hc P hput T idem inv st5 no5 go hNx step fun s' z => z) ?_ (fun _ _ z => z)
      rintro _ s6 ⟨u, rfl, z⟩
      exact z
  refine codeAny_compStart_dict loop ?_
  exact T.self X.A 0 _ _ _ st4 loop
/-- as a value -/
theorem pe_dx {pos : Pos} {wi : TI} (hc : X.calm = true) (hN : X.N.Nodup) (hi : PI X tg iter wi) (ok : BlkOk X.N X.env.scope scope own) (P : BlkP X scope tg kx vx ifs g tt tk tv) (hput : PutOk X put) (hs : ∀ x, foldedSetIterable iter X.env x = pure x) :
    PE X (.DictComp kx vx [⟨tg, iter, ifs, 0⟩] scope pos) (tDx wi g tt tk tv put (own.map (·.2))) := by
  refine ⟨fun pins s σ H Q I h => ?_⟩
  rw [arm_eval_DictComp]
  refine dx_run hc hN hi ok P hput hs I h ?_
  rintro D C s' m H' I' q ns ⟨f0, f1, f2, f3, f4, f5⟩
  exact ⟨m, ns, fun h2 sb => ⟨.ref D, H', I'.turned (t' := s'.toks) (fun b o hb e => (sb.2 b hb).trans e) f0 f1 f3 f4 f5, rfl, q⟩⟩
/-- name = {..} on one line, the name a local -/
theorem ps_setDx {i : Nat} {y : Str} {py pos spos : Pos} {wi : TI} (hc : X.calm = true) (hN : X.N.Nodup) (hy : X.N[i]? = some y) (hl : X.env.scope.names.lookup y = some .local) (sw : swapsWith (.DictComp kx vx [⟨tg, iter, ifs, 0⟩] scope pos) (some (.Name y py)) spos.line X.env = pure true)
    (hi : PI X tg iter wi) (ok : BlkOk X.N X.env.scope scope own) (P : BlkP X scope tg kx vx ifs g tt tk tv) (hput : PutOk X put) (hs : ∀ x, foldedSetIterable iter X.env x = pure x) :
    PS X (.Assign [.Name y py] (.DictComp kx vx [⟨tg, iter, ifs, 0⟩] scope pos) spos) (tAsg (tDx wi g tt tk tv put (own.map (·.2))) (gName i)) := by
  refine ⟨fun pins s σ H D I h => ?_⟩
  rw [exec_Assign_Name_used _ _ _ _ sw]
  apply wpAny_bind; apply wpAny_standAt
  apply wpAny_bind; apply wpAny_bind
  have run := dx_run (at_ := firstIterPos [⟨tg, iter, ifs, 0⟩] pos) (pos := pos) (use := some (assign (.Name y py) X.env)) (Qf := fun _ s' => SP X pins D .next s') hc hN hi ok P hput hs I (show tDx wi g tt tk tv put (own.map (·.2)) σ H (fun x H1 => gName i x σ H1 D.nx) from h) (fun L C s' m H' I' q ns f => by
    refine wpAny_assign_Name (store_ok2 (v := V.ref L) I' hN hy (.inl hl) rfl (fun s2 I2 w => ?_) (.inr hl))
    obtain ⟨a, sb, ha⟩ := w
    obtain ⟨f0, f1, f2, f3, f4, f5⟩ := f
    have ne : C ≠ a := ha.elim (fun z => z ▸ f1) fun z e => f4 y a z e.symm
    exact ⟨m, ns.sameBut sb ne, fun h3 sb3 => ⟨_, H', I2.turned (t' := s2.toks) (fun b o hb e => (sb3.2 b hb).trans e) f0 f1 f3 f4 f5, q⟩⟩)
  exact wpAny_mono run (fun _ s' z => wpAny_pure (wpAny_pure z)) fun _ _ z => z
end
end PK
namespace PK
open PySem PySem.Spec PyProof.Rows L2

/-! ### dict comprehensions by values -/
def putX (K : PySem.W.Frag) (G : Cls) : PutT := fun a y z H Q => ∃ (ρ : List (Option Addr)) (kvs : List (D × D)) (k d : D) (kn : NestedKey) (u : HO), H a = some u ∧ Mut (some u) ∧ RepD K G ρ H a kvs u ∧ tkeys kvs = true ∧ tkey k = some kn ∧ RepV K G ρ H k y ∧ RepV K G ρ H d z ∧ kvs.length < 16777216 ∧
  ∀ u', Mut (some u') → RepD K G ρ H a (dput kvs k d) u' → Q (upd H a u')
theorem putX_ok {X : Cx} {G : Cls} (hp : X.prog = G.prog) (hw : X.w = G.world) (hu : X.A.units + 64 < cLine) : PutOk X (putX X.K G) := by
  intro B pins s σ H D y z iv v Q E bp bw bk ba I ry rz ⟨ρ, kvs, k, d, kn, u, hD, mu, rd, ht, nk, hk, hv, hl, q⟩
  obtain ⟨k1, k2, ds, rfl⟩ := tkey_ok nk
  obtain ⟨ka, us, rfl, _, _⟩ := hk.tup_inv
  cases (show iv = Value.ref ka from ry)
  have hp' : B.prog = G.prog := bp.trans hp
  have hw' : B.w = G.world := bw.trans hw
  have hu' : B.A.units + 64 < cLine := by rw [ba]; exact hu
  rw [← bk] at hk rd hv q
  obtain ⟨xs, rt, hm, hd, hz⟩ := dict_read hp' hw' I (.inl hD) rd ht
  have hz' : xs.length < sizeLine := by rw [← rt.len, sizeLine_eq]; exact hl
  refine wpAny_dictSet_heap (hsz := Nat.le_of_lt hz') (knd := nestedKind B.prog B.w) (show B.A.units + 8 < cLine by omega) (key_at I hk k1 k2) hm fun h' dd sb => ?_
  have len : (storedH xs kn ka v).length ≤ sizeLine := by
    have : (storedH xs kn ka v).length ≤ xs.length + 1 := by unfold storedH; split <;> simp
    omega
  obtain ⟨o', es', ep', g1, g2, g3, g4, _, g6⟩ := dd
  refine ⟨_, d_write I (by rw [hD]; exact mu) sb ⟨o', g1⟩ (ext_ok ⟨hd, len, g6, o', es', ep', g1, g2, g3, g4⟩), q _ trivial ?_⟩
  rw [hp', hw']
  obtain ⟨_, _, _, _, _, _, _, _, nd⟩ := hm
  exact .t (RepT.put k1 k2 hk hv rz rt nd)
def dStep (acc : List (D × D)) (k d : D) : EM (List (D × D)) := match tkey k with
  | some _ => if tkeys acc = true ∧ acc.length < 16777216 then EM.pure (dput acc k d) else EM.fail
  | none => EM.fail
def dLoop (t : Tgt) (c : Env → EM Bool) (mk mv : Env → EM D) (Ew : Env) : List D → List (D × D) → EM (List (D × D))
  | [], acc => EM.pure acc
  | d :: ds, acc => match t.put d Ew with
    | none => EM.fail
    | some E1 => EM.bind (c E1) fun b => if b = true then EM.bind (mk E1) fun k => EM.bind (mv E1) fun x => EM.bind (dStep acc k x) fun acc => dLoop t c mk mv Ew ds acc else dLoop t c mk mv Ew ds acc
def fDc (mi : Env → EM (List D)) (t : Tgt) (c : Env → EM Bool) (mk mv : Env → EM D) (vs : List Nat) : Env → EM DO := fun E => EM.bind (mi E) fun ds => EM.bind (noX (dLoop t c mk mv (wipeE E vs) ds [])) fun kvs => EM.pure (.dct kvs)
def GoK (K : PySem.W.Frag) (G : Cls) (D0 : Addr) (ρ0 : List (Option Addr)) (H0 : Hp) (r : Res (List (D × D))) (Q : VK) : Prop := match r with
  | .ok kvs S' => ∀ ρ' u H', Ext ρ0 H0 ρ' H' → Rep K G ρ' S' H' → (∀ i : Nat, ρ'[i]? ≠ some (some D0)) → H' D0 = some u → Mut (some u) → RepD K G ρ' H' D0 kvs u → Q (.ref D0) H'
  | _ => False
theorem wipe_idem (vs : List Nat) (σ : L2.St) : L2.wipe (L2.wipe σ vs) vs = L2.wipe σ vs := by
  have go : ∀ (us : List Nat) (τ : L2.St), (∀ u ∈ us, u ∈ vs) → L2.wipe (L2.wipe τ us) vs = L2.wipe τ vs := by
    intro us
    induction us with
    | nil => intro τ _; rfl
    | cons u us ih =>
      intro τ hu
      show L2.wipe ((L2.wipe τ us).set u none) _ = _
      rw [wipe_set (hu u (List.mem_cons_self ..)), ih τ fun z hz => hu z (List.mem_cons_of_mem _ hz)]
  exact go _ _ fun _ h => h
section
variable {X : Cx} {G : Cls} {W : L2.WX} {t : Tgt} {mi : Env → EM (List D)} {c : Env → EM Bool} {mk mv : Env → EM D}
theorem tDx_of {vs : List Nat} (ht : ∀ i ∈ t.slots, i ∈ vs) {σ : L2.St} {H : Hp} {Q : VK} (h : tF X.K G W (fDc mi t c mk mv vs) σ H Q) : tDx (tI X.K G W mi) (t.tg X.K) (tT X.K G W0 c) (tM X.K G W0 mk) (tM X.K G W0 mv) (putX X.K G) vs σ H Q := by
  obtain ⟨ρ, S, E, rp, re, g0⟩ := h
  refine ⟨ρ, S, E, rp, re, ?_⟩
  unfold fDc EM.bind at g0
  cases hm : mi E S with
  | stuck => rw [hm] at g0; exact g0.elim
  | exc cc fs S' => rw [hm] at g0; exact g0
  | ok ds S' =>
    rw [hm] at g0
    intro ρ1 J H1 x1 r1 w D0 hD
    dsimp only at g0
    have w0 : GoK X.K G D0 ρ1 H1 (dLoop t c mk mv (wipeE E vs) ds [] S') Q := by
      unfold noX at g0
      cases hc : dLoop t c mk mv (wipeE E vs) ds [] S' with
      | stuck => rw [hc] at g0; exact g0
      | exc cc fs S2 => rw [hc] at g0; exact g0
      | ok kvs S2 =>
        rw [hc] at g0
        intro ρ' u H' x' r' n hh mu ru
        exact g0 ρ' D0 u H' (x1.trans x') r' (x1.dom _ hD) n hh mu ru
    refine ⟨fun i k H' => k + i = ds.length ∧ ∃ ρ' S2 kvs u, Ext ρ1 H1 ρ' H' ∧ Rep X.K G ρ' S2 H' ∧ (∀ i : Nat, ρ'[i]? ≠ some (some D0)) ∧ H' D0 = some u ∧ Mut (some u) ∧ RepD X.K G ρ' H' D0 kvs u ∧ GoK X.K G D0 ρ1 H1 (dLoop t c mk mv (wipeE E vs) (ds.drop i) kvs S2) Q,
      ⟨ds.length, rfl, ρ1, S', [], .dK [], Ext.laid hD, r1.laid hD, r1.notNew hD, upd_same, trivial, .k .nil, w0⟩, ?_⟩
    rintro i k H' ⟨hk, ρ', S2, kvs, u, x', r', n', hD', mu, rd, g'⟩
    by_cases hi : i < ds.length
    · refine .inr ?_
      obtain ⟨go, yl⟩ := w.go i _ ρ' H' (List.getElem?_eq_getElem hi) x'
      refine ⟨go, fun H2 => ∃ ρ2 S3 kvs u, Ext ρ1 H1 ρ2 H2 ∧ Rep X.K G ρ2 S3 H2 ∧ (∀ i : Nat, ρ2[i]? ≠ some (some D0)) ∧ H2 D0 = some u ∧ Mut (some u) ∧ RepD X.K G ρ2 H2 D0 kvs u ∧ GoK X.K G D0 ρ1 H1 (dLoop t c mk mv (wipeE E vs) (ds.drop (i + 1)) kvs S3) Q, ?_, fun v H2 y => ?_⟩
      · rintro H2 ⟨ρ2, S3, kvs, u, z⟩
        exact ⟨k - 1, by omega, by omega, ρ2, S3, kvs, u, z⟩
      · obtain ⟨xv, rv, qv⟩ := yl S2 v H2 r' y
        rw [List.drop_eq_getElem_cons hi] at g'
        unfold dLoop at g'
        cases hp : t.put ds[i] (wipeE E vs) with
        | none => rw [hp] at g'; exact g'.elim
        | some E1 =>
          rw [hp] at g'
          have rew : RepE X.K G ρ' H2 (wipeE E vs) (L2.wipe σ vs) := RepE.wipe (vs := []) (RepE.ext ((x1.trans x').trans xv) re) _
          obtain ⟨σ', k1, k2, k3⟩ := t.ok rew qv hp
          refine k1 _ ⟨by rw [k3 _ ht, wipe_idem], ?_⟩
          have hD2 : H2 D0 = some u := xv.keep _ _ hD' n'
          have rd2 := RepD.ext xv rd
          refine ⟨ρ', S2, E1, rv, k2, ?_⟩
          dsimp only at g'
          unfold EM.bind at g'
          cases hc : c E1 S2 with
          | stuck => rw [hc] at g'; exact g'
          | exc cc fs S3 => rw [hc] at g'; exact False.elim g'
          | ok b S3 =>
            rw [hc] at g'
            intro ρ3 b' H3 x3 r3 eb
            cases eb
            have hD3 : H3 D0 = some u := x3.keep _ _ hD2 n'
            have n3 := notCell x3 n' hD2
            have x13 := (x'.trans xv).trans x3
            dsimp only at g'
            cases b with
            | false =>
              rw [if_neg Bool.false_ne_true] at g' ⊢
              exact ⟨ρ3, S3, kvs, u, x13, r3, n3, hD3, mu, RepD.ext x3 rd2, g'⟩
            | true =>
              rw [if_pos rfl] at g' ⊢
              refine ⟨ρ3, S3, E1, r3, RepE.ext x3 k2, ?_⟩
              cases hm2 : mk E1 S3 with
              | stuck => rw [hm2] at g'; exact g'
              | exc cc fs S4 => rw [hm2] at g'; exact False.elim g'
              | ok kd S4 =>
                rw [hm2] at g'
                intro ρ4 v4 H4 x4 r4 q4
                have hD4 : H4 D0 = some u := x4.keep _ _ hD3 n3
                have n4 := notCell x4 n3 hD3
                refine ⟨ρ4, S4, E1, r4, RepE.ext x4 (RepE.ext x3 k2), ?_⟩
                dsimp only at g'
                cases hm3 : mv E1 S4 with
                | stuck => rw [hm3] at g'; exact g'
                | exc cc fs S5 => rw [hm3] at g'; exact False.elim g'
                | ok vd S5 =>
                  rw [hm3] at g'
                  intro ρ5 v5 H5 x5 r5 q5
                  have hD5 : H5 D0 = some u := x5.keep _ _ hD4 n4
                  have n5 := notCell x5 n4 hD4
                  have x15 := (x13.trans x4).trans x5
                  have rd5 := RepD.ext x5 (RepD.ext x4 (RepD.ext x3 rd2))
                  dsimp only at g'
                  unfold dStep at g'
                  cases hk2 : tkey kd with
                  | none => simp only [hk2] at g'; exact g'.elim
                  | some kn =>
                    simp only [hk2] at g'
                    by_cases hl : tkeys kvs = true ∧ kvs.length < 16777216
                    · rw [if_pos hl] at g'
                      refine ⟨ρ5, kvs, kd, vd, kn, u, hD5, mu, rd5, hl.1, hk2, RepV.ext x5 q4, q5, hl.2, fun u' mu' rd' => ?_⟩
                      have mu5 : Mut (H5 D0) := by rw [hD5]; exact mu
                      exact ⟨ρ5, S5, dput kvs kd vd, u', x15.known' hD, r5.turn mu5 n5, n5, upd_same, mu', RepD.turn mu5 rd', g'⟩
                    · rw [if_neg hl] at g'; exact g'.elim
    · refine .inl ?_
      have e0 : i = ds.length := by omega
      subst e0
      rw [List.drop_length] at g'
      exact ⟨w.stop ρ' H' x', g' ρ' u H' x' r' n' hD' mu rd⟩
variable {kx vx tg iter : Expr} {ifs : List Expr} {scope : Scope} {own : List (Str × Nat)} {pos : Pos}
theorem pf_dc (hp : X.prog = G.prog) (hw : X.w = G.world) (hu : X.A.units + 64 < cLine) (hc : X.calm = true) (hN : X.N.Nodup) (hi : PI X tg iter (tI X.K G W mi)) (ok : BlkOk X.N X.env.scope scope own) (hts : ∀ i ∈ t.slots, i ∈ own.map (·.2))
    (P : BlkP X scope tg kx vx ifs (t.tg X.K) (tT X.K G W0 c) (tM X.K G W0 mk) (tM X.K G W0 mv)) (hs : ∀ x, foldedSetIterable iter X.env x = pure x) :
    PE X (.DictComp kx vx [⟨tg, iter, ifs, 0⟩] scope pos) (tF X.K G W (fDc mi t c mk mv (own.map (·.2)))) :=
  (pe_dx hc hN hi ok P (putX_ok hp hw hu) hs).weak fun σ H Q h => tDx_of hts h
end
end PK
namespace PK
open PySem PySem.Spec PyProof.Rows L2

/-! ### texts in their order -/
def leS (a b : Str) : Bool := !ltCps b.cps.toList a.cps.toList
def sortS (xs : List Str) : List Str := xs.mergeSort leS
theorem leS_eq (a b : Str) : leS a b = decide (¬ b.cps.toList < a.cps.toList) := by unfold leS; rw [ltCps_eq]; by_cases h : b.cps.toList < a.cps.toList <;> simp only [h, decide_true, decide_false, Bool.not_true, Bool.not_false, not_true, not_false_iff]
theorem leS_le (a b : Str) : leS a b = true ↔ a.cps.toList ≤ b.cps.toList := by rw [leS_eq]; simp [List.not_lt]
theorem leS_trans (a b c : Str) (h1 : leS a b = true) (h2 : leS b c = true) : leS a c = true := (leS_le ..).mpr (List.le_trans ((leS_le ..).mp h1) ((leS_le ..).mp h2))
theorem leS_total (a b : Str) : (leS a b || leS b a) = true := by
  rw [Bool.or_eq_true, leS_le, leS_le]
  exact List.le_total _ _
theorem leS_anti {a b : Str} (h1 : leS a b = true) (h2 : leS b a = true) : a = b := by
  have e := List.le_antisymm ((leS_le ..).mp h1) ((leS_le ..).mp h2)
  cases a; cases b
  simpa using e
theorem risingS_pw : ∀ (r : List Str) (p : Str), risingS p r = true → (p :: r).Pairwise fun a b => leS a b = true
  | [], p, _ => List.pairwise_singleton _ _
  | x :: r, p, h => by
    have h' : (!ltCps x.cps.toList p.cps.toList && risingS x r) = true := h
    rw [Bool.and_eq_true] at h'
    have ih := risingS_pw r x h'.2
    refine List.pairwise_cons.mpr ⟨fun y hy => ?_, ih⟩
    have px : leS p x = true := h'.1
    rcases List.mem_cons.mp hy with e | hy
    · rw [e]; exact px
    · exact leS_trans _ _ _ px ((List.pairwise_cons.mp ih).1 y hy)
theorem sortedS_pw : ∀ {l : List Str}, sortedS l = true → l.Pairwise fun a b => leS a b = true
  | [], _ => .nil
  | x :: r, h => risingS_pw r x h
theorem sortS_of {xs ys : List Str} (p : ys.Perm xs) (h : sortedS ys = true) : ys = sortS xs :=
  List.Perm.eq_of_pairwise (le := fun a b => leS a b = true) (fun a b _ _ => leS_anti) (sortedS_pw h) (List.pairwise_mergeSort leS_trans leS_total xs) (p.trans (List.mergeSort_perm xs leS).symm)
def strsO : List D → Option (List Str)
  | [] => some []
  | .str x :: r => (strsO r).map (x :: ·)
  | _ :: _ => none
theorem strsO_map : ∀ xs : List Str, strsO (xs.map D.str) = some xs
  | [] => rfl
  | x :: r => by simp [strsO, strsO_map r]
theorem strsO_eq : ∀ {ds : List D} {xs : List Str}, strsO ds = some xs → ds = xs.map D.str
  | [], xs, h => by simp [strsO] at h; subst h; rfl
  | d :: r, xs, h => by
    cases d <;> simp [strsO] at h
    obtain ⟨ys, h1, rfl⟩ := h
    rw [List.map_cons, strsO_eq h1]
def sortM (xs : List D) : EM DO := fun S => match xs with
  | [d] => (match viewS S d with
    | some ys => (match strsO ys with
      | some zs => if zs.length < 64 then .ok (.lst ((sortS zs).map D.str)) S else .stuck
      | none => .stuck)
    | none => .stuck)
  | _ => .stuck
theorem noExc_sort {xs : List D} : NoExc (sortM xs) := fun S c fs S' h => by
  unfold sortM at h
  split at h
  · split at h
    · split at h
      · split at h <;> cases h
      · cases h
    · cases h
  · cases h
section
variable {X : Cx} {G : Cls} {W : L2.WX}
theorem RepVs.ofStrs {K : PySem.W.Frag} {ρ : List (Option Addr)} {H : Hp} : ∀ (xs : List Str), RepVs K G ρ H (xs.map D.str) (xs.map V.str)
  | [] => .nil
  | x :: r => .cons (.str x) (RepVs.ofStrs r)
/-- sorted(x), x a list or a tuple of texts -/
theorem sorted_seq {prog : Program} {w : World} {A : Around} {E : Value → Shared → Prop} {s : Shared} {p : Addr} {T : String} {o : Obj} {vs : List Value} {n : Nat} {ss : List Str} {Q : Value → Shared → Prop} (hT : T = "list" ∨ T = "tuple")
    (ho : s.heap.get? p = some o) (hc : o.cls = .type T) (hd : o.data = .seq vs.toArray n) (hS : StrsAre vs ss) (h64 : vs.length < 64)
    (h : ∀ (h1 h' : Heap) (out : Array Value) (ss' : List Str) (c : Nat), (∀ b o, s.heap.get? b = some o → h1.get? b = some o) → (∀ b o, h1.get? b = some o → h'.get? b = some o) → h'.get? h1.objs.size = some (seqObj "list" out c) → StrsAre out.toList ss' → ss'.Perm ss → sortedS ss' = true → Q (.ref h1.objs.size) { s with heap := h' }) :
    wpAny (model prog w) A (call (.builtin "sorted") [.ref p]) Q E s := by
  refine Calls.call_function_entry kind_sorted plain_sorted entry_sorted (args_sorted1 _) ?_
  unfold Builtin.«sorted»
  refine wpAny_bind (m := checkCount "sorted" 1 1 _) (wpAny_pure ?_)
  refine wpAny_bind (wpAny_collect_seq p hT ho hc hd (fun h1 kp => ?_) (by rw [List.size_toArray, sizeLine_eq]; omega))
  refine wpAny_bind (wpAny_newList ?_)
  have hoL : (h1.push (seqObj "list" vs.toArray 0)).get? h1.objs.size = some (seqObj "list" vs.toArray 0) := Heap.get?_push_size _ rfl
  show wpAny _ _ _ _ _ { s with heap := h1.push (seqObj "list" vs.toArray 0) }
  refine wpAny_bind (wpAny_holding (wpAny_call_entry slot_list_sort ⟨_, hoL, rfl⟩ entry_list_sort (list_sort_treeK strKind_oneLt hoL hS.keysOf (fun x1 x2 more z => keyKind_strs (by rw [← z]; exact hS)) h64 fun st' c1 c2 => ⟨_, rfl, ?_⟩) (args_list_sort _)))
  obtain ⟨ss', b1, b2, b3⟩ := sorted_out_str hS c1 c2
  obtain ⟨c, hc'⟩ := sortedHeap_at (out := (arrOf st').map (·.2)) hoL
  refine wpAny_pure ⟨_, rfl, h h1 _ _ ss' c kp (fun b ob e => ?_) hc' b1 b2 b3⟩
  have hlt : b < h1.objs.size := Heap.lt_size e
  rw [sortedHeap_old (Nat.ne_of_lt hlt) (by rw [size_push']; exact Nat.lt_succ_of_lt hlt)]
  exact Heap.get?_push_of_some _ e
theorem cr_sortF : CallR X (.builtin "sorted") (rsF X.K G sortM) := by
  intro pins s σ H vs us Q I r ⟨ρ, S, xs, rp, q, g⟩
  unfold sortM at g
  split at g
  · obtain ⟨v, rfl, q1⟩ := q.one
    split at g
    · rename_i ys hv
      split at g
      · rename_i zs hz
        split at g
        · rename_i hl
          have e := strsO_eq hz
          subst e
          obtain ⟨a, ws, rfl, h1, h2⟩ := viewS_ok rp q1 hv
          have e := RepVs.strs h2
          subst e
          obtain ⟨u, rfl, rx⟩ := vals1 r
          cases (show u = Value.ref a from rx)
          have key : ∀ (T : String) (o : Obj) (vs : List Value) (n : Nat), (T = "list" ∨ T = "tuple") → s.heap.get? a = some o → o.cls = .type T → o.data = .seq vs.toArray n → Vals (zs.map V.str) vs → wpAny (model X.prog X.w) X.A (call (.builtin "sorted") [.ref a]) (EP X pins σ Q) X.xe s := by
            intro T o vs n hT ho hc hd rv
            have hlen := rv.length
            rw [List.length_map] at hlen
            refine sorted_seq hT ho hc hd rv.strs (by rw [← hlen]; exact hl) fun h1 h' out ys c k1 k2 hD b1 b2 b3 => ?_
            have e := sortS_of b2 b3
            subst e
            have I1 : Inv X pins σ H { s with heap := h1 } := I.kept (t' := s.toks) k1
            have hz' : ((sortS zs).map V.str).length ≤ sizeLine := by rw [List.length_map, b2.length_eq, sizeLine_eq]; omega
            have hp : H h1.objs.size = none := I1.hok.fresh (Nat.le_refl _)
            exact ⟨.ref _, upd H h1.objs.size (.lst ((sortS zs).map V.str)), I1.laid (t' := s.toks) k2 (Nat.le_refl _) ⟨hz', out.toList, c, vals_of_strs b1, hD⟩, rfl, GoF.list g rp (RepVs.ofStrs _) hp⟩
          rcases h1 with h1 | h1
          · obtain ⟨its, rv, pl, _⟩ := I.list h1
            obtain ⟨o, ho, hc, n, hd⟩ := pl.isList
            exact key "list" o its n (.inl rfl) ho hc hd rv
          · obtain ⟨its, rv, pl, _⟩ := I.tuple h1
            obtain ⟨o, ho, hc, n, hd⟩ := pl
            exact key "tuple" o its n (.inr rfl) ho hc hd rv
        · exact g.elim
      · exact g.elim
    · exact g.elim
  · exact g.elim
theorem pf_callB {e : Expr} {es : List Expr} {ms : Env → EM (List D)} {pos : Pos} {x : Str} {T : String} {p : Pos} {m : List D → EM DO} (hc : CallR X (.builtin T) (rsF X.K G m)) (n : ∀ xs, NoExc (m xs)) (hg : Gl X x) (hm : X.mg x = none) (hv : bootBuiltins x = some (.builtin T)) (ha : PA X (e :: es) (tA X.K G W ms)) (hn : x ≠ "__name__") (hdb : (x == ("__debug__" : Str)) = false)
    (he : starEach (e :: es) X.env = (false, eval e X.env) :: starEach es X.env) (hpl : (backTo pos (starEach es X.env)).any (·.1) = false) : PE X (.Call (.Name x p) (e :: es) [] pos) (tF X.K G W (PK.fs m ms)) :=
  (pe_callB hc hg hm hv ha hn hdb he hpl).weak fun σ H Q q => tF_s n q
/-! ### list(d): its keys -/
def listDM (xs : List D) : EM DO := fun S => match xs with
  | [d] => (match viewD S d with
    | some kvs => if tkeys kvs = true ∧ kvs.length ≤ 16777216 then .ok (.lst (kvs.map (·.1))) S else .stuck
    | none => listM [d] S)
  | _ => .stuck
theorem noExc_listD {xs : List D} : NoExc (listDM xs) := fun S c fs S' h => by
  unfold listDM at h
  split at h
  · split at h
    · split at h <;> cases h
    · exact noExc_list _ _ _ _ h
  · cases h
theorem RepT.keysV {K : PySem.W.Frag} {ρ : List (Option Addr)} {H : Hp} : ∀ {kvs : List (D × D)} {xs : List (NestedKey × Addr × Value)}, RepT K G ρ H kvs xs → RepVs K G ρ H (kvs.map (·.1)) (xs.map fun x => V.ref x.2.1)
  | _, _, .nil => .nil
  | _, _, .cons nk dp hk h rel r => .cons hk (RepT.keysV r)
theorem valsRef : ∀ xs : List (NestedKey × Addr × Value), Vals (xs.map fun x => V.ref x.2.1) (xs.map fun x => Value.ref x.2.1)
  | [] => .nil
  | _ :: r => .cons rfl (valsRef r)
theorem cr_listDF (hc : X.calm = true) (hp : X.prog = G.prog) (hw : X.w = G.world) : CallR X (.type "list") (rsF X.K G listDM) := by
  intro pins s σ H vs us Q I r ⟨ρ, S, xs, rp, q, g⟩
  unfold listDM at g
  split at g
  · rename_i d
    split at g
    · rename_i kvs hv
      split at g
      · rename_i ht
        obtain ⟨v, rfl, q1⟩ := q.one
        obtain ⟨a, u0, rfl, h1, h2⟩ := viewD_ok rp q1 hv
        obtain ⟨u, rfl, rx⟩ := vals1 r
        cases (show u = Value.ref a from rx)
        obtain ⟨xs, rt, ⟨o, es, ep, e1, e2, e3, e4, _, _⟩, lo, hz⟩ := dict_read hp hw I h1 h2 ht.1
        have sz : es.size = xs.length := size_of_entries e4
        refine PySem.W.kdl_call (KdlSrc.rawDict (es := es) (ep := ep) lo) (I.ok.hd hc) ⟨o, e1, e2, e3⟩ (by rw [sz]; exact hz) fun h' tk acc c kp hD hacc => ?_
        have eq : acc.toList = xs.map fun x => Value.ref x.2.1 := by
          refine List.ext_getElem? fun i => ?_
          rw [Array.getElem?_toList, List.getElem?_map]
          by_cases hi : i < xs.length
          · have hlt : i < acc.size := hacc.1 ▸ sz ▸ hi
            have h3 : acc[i]? = some acc[i] := Array.getElem?_eq_getElem hlt
            obtain ⟨h4, h5⟩ := hacc.2 i _ h3
            have h6 := entry_at e4 i
            rw [List.getElem?_eq_getElem hi, Array.getElem?_eq_getElem h4] at h6
            rw [h3, h5, List.getElem?_eq_getElem hi]
            have h7 : es[i] = _ := Option.some.inj h6
            rw [h7]
            rfl
          · rw [List.getElem?_eq_none (by omega), Array.getElem?_eq_none (by rw [hacc.1, sz]; omega)]
            rfl
        have hz' : (xs.map fun x => V.ref x.2.1).length ≤ sizeLine := by rw [List.length_map]; exact hz
        have hp' : H s.heap.objs.size = none := I.hok.fresh (Nat.le_refl _)
        exact ⟨.ref _, upd H s.heap.objs.size (.lst (xs.map fun x => V.ref x.2.1)), I.laid (t' := tk) kp (Nat.le_refl _) ⟨hz', acc.toList, c, by rw [eq]; exact valsRef xs, by rw [hD]⟩, rfl, GoF.list g rp rt.keysV hp'⟩
      · exact g.elim
    · exact cr_listF pins s σ H vs us Q I r ⟨ρ, S, _, rp, q, g⟩
  · exact g.elim
end
end PK
namespace PK
open PySem PySem.Spec PyProof.Rows L2
section
variable {X : Cx} {G : Cls} {W : L2.WX} {k n : Nat} {f : Addr} {fd : FuncData} {ps : List Str} {np : Nat} {m : List D → EM D} {x y : Str} {p pos kp : Pos} {e b : Expr} {es : List Expr} {ms : Env → EM (List D)} {mb : Env → EM D}
/-! ### f(e, .., k = b) -/
def mCallK (n np : Nat) (m : List D → EM D) (xs : List D) (z : D) : EM D := if xs.length = n ∧ n + 1 = np then m (xs ++ [z]) else EM.fail
def eCallK (n np : Nat) (m : List D → EM D) (ms : Env → EM (List D)) (mb : Env → EM D) : Env → EM D := fun E => EM.bind (ms E) fun xs => EM.bind (mb E) fun z => mCallK n np m xs z
theorem pm_callK (F : FnOk X.prog X.w X.K X.mg X.base (L2.CX X.prog X.w) k f fd ps (spF X.K G np m)) (hr : Room k X.A) (tk : Takes X W) (hg : Gl X x) (hm : X.mg x = some (.ref f)) (hk : PySem.W.keepIn X.K (.ref f) = true)
    (hb : KBn X.K fd ps n [y] (fun us ws => us ++ ws) (fun us ws => us ++ ws))
    (ha : PA X (e :: es) (tA X.K G W ms)) (hv : PE X b (tM X.K G W mb)) (hdb : (x == ("__debug__" : Str)) = false) (he : starEach (e :: es) X.env = (false, eval e X.env) :: starEach es X.env) (hpl : (backTo pos (starEach es X.env)).any (·.1) = false) :
    PE X (.Call (.Name x p) (e :: es) [⟨some y, b, kp⟩] pos) (tM X.K G W (eCallK n np m ms mb)) := by
  constructor
  intro pins s σ H Q I ⟨ρ, S, E, rp, re, g⟩
  refine wpAny_Call_Name_kw (ld_glob I hg hm ?_ hdb)
  have pl : ((backTo pos (starEach (e :: es) X.env)).any (·.1) || (backToKw pos (keywordEach [⟨some y, b, kp⟩] X.env)).any (·.1.isNone)) = false := by
    rw [he]
    show ((backTo pos (starEach es X.env)).any (·.1) || false) = false
    rw [hpl]; rfl
  have h1 : tA X.K G W ms σ H (fun vs H1 => ∃ ρ1 S1 xs, Rep X.K G ρ1 S1 H1 ∧ RepE X.K G ρ1 H1 E σ ∧ RepVs X.K G ρ1 H1 xs vs ∧ Go X.K G (RD X.K G) W σ ρ1 H1 (EM.bind (mb E) (fun z => mCallK n np m xs z) S1) Q) := by
    refine ⟨ρ, S, E, rp, re, Go.mono (Go.bind g) ?_⟩
    rintro vs H1 ⟨ρ1, S1, xs, x1, r1, q1, g1⟩
    exact ⟨ρ1, S1, xs, r1, RepE.ext x1 re, q1, g1⟩
  refine PySem.W.callWith_KW (h₀ := X.base) I.ok.mod.kin hk rfl (thn (ha.run pos pins s σ H _ I h1) ?_) pl he
  rintro us s1 ⟨vs, H1, I1, r, ρ1, S1, xs, r1, re1, q1, g1⟩
  have h2 : tM X.K G W mb σ H1 (fun z H2 => ∃ ρ2 S2 d, Rep X.K G ρ2 S2 H2 ∧ RepVs X.K G ρ2 H2 xs vs ∧ RepV X.K G ρ2 H2 d z ∧ Go X.K G (RD X.K G) W σ ρ2 H2 (mCallK n np m xs d S2) Q) := by
    refine ⟨ρ1, S1, E, r1, re1, Go.mono (Go.bind g1) ?_⟩
    rintro z H2 ⟨ρ2, S2, d, x2, r2, q2, g2⟩
    exact ⟨ρ2, S2, d, r2, RepVs.ext x2 q1, q2, g2⟩
  have hkw := (pk_cons (nm := some y) (kpos := kp) hv pk_nil).run pos pins s1 σ H1 (fun zs H2 => ∃ z, zs = [z] ∧ ∃ ρ2 S2 d, Rep X.K G ρ2 S2 H2 ∧ RepVs X.K G ρ2 H2 xs vs ∧ RepV X.K G ρ2 H2 d z ∧ Go X.K G (RD X.K G) W σ ρ2 H2 (mCallK n np m xs d S2) Q) I1
  refine thn (hkw ?_) ?_
  · obtain ⟨ρ1', S1', E1', a1, a2, a3⟩ := h2
    exact ⟨ρ1', S1', E1', a1, a2, Go.mono a3 fun z H2 q => ⟨z, rfl, q⟩⟩
  rintro ws s2 ⟨zs, H2, I2, rz, z, rfl, ρ2, S2, d, r2, qx, qz, g2⟩
  refine ⟨I2.kIn, ?_⟩
  unfold mCallK at g2
  split at g2
  · rename_i hl
    have l1 : us.length = n := by rw [← r.length, ← qx.length]; exact hl.1
    have l2 : ws.length = [y].length := rz.length.symm
    have sp : spF X.K G np m (vs ++ [z]) H2 Q (WE W σ) := ⟨by rw [List.length_append, ← qx.length, hl.1]; exact hl.2, ρ2, S2, _, r2, qx.append (.cons qz .nil), g2.xk⟩
    refine wpAny_call (codeAny_mono (F.run X.A X.stack s2 H2 ⟨us, [y].zip ws⟩ (us ++ ws) (vs ++ [z]) Q (WE W σ) hr I2.env0 (hb.to s2 us ws I2.kIn l1 l2) (hb.rel r rz) sp) fun r' s' hq => ?_)
    cases r' with
    | error e => exact passAt tk σ pins H2 s2 e s' I2 hq
    | ok fl =>
      cases fl with
      | ret u => exact I2.after hq
      | next => exact False.elim hq
      | brk => exact False.elim hq
      | cont => exact False.elim hq
  · exact g2.elim
end
end PK
namespace PK
open PySem PySem.Spec PyProof.Rows L2

/-! ### texts: in, split, join, all, a walk over the signs -/
def in2M (x y : D) : EM D := fun S => match viewD S y with
  | some _ => dinM x y S
  | none => (match x with
    | .str c => (match y with
      | .str z => (match c.cps.toList with
        | [k] => .ok (.bl (decide (k ∈ z.cps.toList))) S
        | _ => .stuck)
      | y => (match viewS S y with
        | some ys => (match strsO ys with
          | some zs => .ok (.bl (decide (c ∈ zs))) S
          | none => .stuck)
        | none => .stuck))
    | _ => .stuck)
def notB : D → D
  | .bl b => .bl (!b)
  | d => d
def nin2M (x y : D) : EM D := fun S => match viewD S y with
  | some _ => dninM x y S
  | none => (match x with
    | .str c => (match y with
      | .str z => (match c.cps.toList with
        | [k] => .ok (.bl (!decide (k ∈ z.cps.toList))) S
        | _ => .stuck)
      | y => (match viewS S y with
        | some ys => (match strsO ys with
          | some zs => .ok (.bl (!decide (c ∈ zs))) S
          | none => .stuck)
        | none => .stuck))
    | _ => .stuck)
theorem noExc_in2 {x y : D} : NoExc (in2M x y) := fun S c fs S' h => by
  unfold in2M at h
  split at h
  · exact noExc_din _ _ _ _ h
  · split at h
    · split at h
      · split at h <;> cases h
      · split at h
        · split at h <;> cases h
        · cases h
    · cases h
theorem noExc_nin2 {x y : D} : NoExc (nin2M x y) := fun S c fs S' h => by
  unfold nin2M at h
  split at h
  · exact noExc_dnin _ _ _ _ h
  · split at h
    · split at h
      · split at h <;> cases h
      · split at h
        · split at h <;> cases h
        · cases h
    · cases h
theorem str1 {c : Str} {k : Nat} (h : c.cps.toList = [k]) : c = ⟨#[k]⟩ := by
  cases c with
  | mk a =>
    have : a = #[k] := by rw [← Array.toArray_toList (xs := a)]; exact congrArg List.toArray h
    rw [this]
theorem inV_strs (c : Str) : ∀ zs : List Str, inV (.str c) (zs.map V.str) = decide (c ∈ zs)
  | [] => rfl
  | z :: zs => by
    have ih := inV_strs c zs
    unfold inV at ih ⊢
    rw [List.map_cons, List.any_cons, ih]
    show (eqV (.str z) (.str c) || decide (c ∈ zs)) = _
    by_cases e : z = c
    · subst e
      simp [eqV]
    · have e' : ¬ c = z := fun h => e h.symm
      simp [eqV, e, e']
theorem flat_strs (zs : List Str) : (zs.map V.str).all flatV = true := by simp [flatV]
section
variable {X : Cx} {G : Cls} {W : L2.WX}
theorem op_in2M (hp : X.prog = G.prog) (hw : X.w = G.world) (hu : X.A.units + 64 < cLine) : OpR X (compareOp .In) (r2M X.K G in2M) := by
  intro pins s σ H vx vy v u Q I r1 r2 ⟨ρ, S, x, y, rp, q1, q2, g⟩
  unfold in2M at g
  split at g
  · exact op_dinM hp hw hu pins s σ H vx vy v u Q I r1 r2 ⟨ρ, S, x, y, rp, q1, q2, g⟩
  · split at g
    · rename_i c
      have e1 := q1.str_inv
      subst e1
      split at g
      · rename_i z _
        have e2 := q2.str_inv
        subst e2
        split at g
        · rename_i k hk
          have e := str1 hk
          subst e
          exact op_inS pins s σ H _ _ v u Q I r1 r2 ⟨k, z, rfl, rfl, g ρ _ H (Ext.refl _ _) rp (.bl _)⟩
        · exact g.elim
      · split at g
        · rename_i ys hy
          split at g
          · rename_i zs hz
            have e := strsO_eq hz
            subst e
            obtain ⟨a, ws, rfl, h1, h2⟩ := viewS_ok rp q2 hy
            have e := RepVs.strs h2
            subst e
            refine op_in_seq pins s σ H _ _ v u Q I r1 r2 ⟨a, _, rfl, h1, rfl, flat_strs _, ?_⟩
            rw [if_neg Bool.false_ne_true, inV_strs]
            exact g ρ _ H (Ext.refl _ _) rp (.bl _)
          · exact g.elim
        · exact g.elim
    · exact g.elim
theorem op_nin2M (hp : X.prog = G.prog) (hw : X.w = G.world) (hu : X.A.units + 64 < cLine) : OpR X (compareOp .NotIn) (r2M X.K G nin2M) := by
  intro pins s σ H vx vy v u Q I r1 r2 ⟨ρ, S, x, y, rp, q1, q2, g⟩
  unfold nin2M at g
  split at g
  · exact op_dninM hp hw hu pins s σ H vx vy v u Q I r1 r2 ⟨ρ, S, x, y, rp, q1, q2, g⟩
  · split at g
    · rename_i c
      have e1 := q1.str_inv
      subst e1
      split at g
      · rename_i z _
        have e2 := q2.str_inv
        subst e2
        split at g
        · rename_i k hk
          have e := str1 hk
          subst e
          exact op_notInS pins s σ H _ _ v u Q I r1 r2 ⟨k, z, rfl, rfl, g ρ _ H (Ext.refl _ _) rp (.bl _)⟩
        · exact g.elim
      · split at g
        · rename_i ys hy
          split at g
          · rename_i zs hz
            have e := strsO_eq hz
            subst e
            obtain ⟨a, ws, rfl, h1, h2⟩ := viewS_ok rp q2 hy
            have e := RepVs.strs h2
            subst e
            refine op_notIn_seq pins s σ H _ _ v u Q I r1 r2 ⟨a, _, rfl, h1, rfl, flat_strs _, ?_⟩
            rw [if_pos rfl, inV_strs]
            exact g ρ _ H (Ext.refl _ _) rp (.bl _)
          · exact g.elim
        · exact g.elim
    · exact g.elim
/-! all([..]) -/
def bolsO : List D → Option (List Bool)
  | [] => some []
  | .bl b :: r => (bolsO r).map (b :: ·)
  | _ :: _ => none
theorem bolsO_eq : ∀ {ds : List D} {bs : List Bool}, bolsO ds = some bs → ds = bs.map D.bl
  | [], bs, h => by simp [bolsO] at h; subst h; rfl
  | d :: r, bs, h => by
    cases d <;> simp [bolsO] at h
    obtain ⟨ys, h1, rfl⟩ := h
    rw [List.map_cons, bolsO_eq h1]
theorem bolsO_map : ∀ bs : List Bool, bolsO (bs.map D.bl) = some bs
  | [] => rfl
  | x :: r => by simp [bolsO, bolsO_map r]
theorem RepVs.bols {K : PySem.W.Frag} {ρ : List (Option Addr)} {H : Hp} : ∀ {bs : List Bool} {vs : List V}, RepVs K G ρ H (bs.map D.bl) vs → vs = bs.map V.bl
  | [], _, h => by cases h; rfl
  | x :: r, _, .cons h t => by rw [h.bl_inv rfl, RepVs.bols t]; rfl
def allM (xs : List D) : EM D := fun S => match xs with
  | [d] => (match viewL S d with
    | some ys => (match bolsO ys with
      | some bs => .ok (.bl (bs.all id)) S
      | none => .stuck)
    | none => .stuck)
  | _ => .stuck
theorem noExc_all {xs : List D} : NoExc (allM xs) := fun S c fs S' h => by
  unfold allM at h
  split at h
  · split at h
    · split at h <;> cases h
    · cases h
  · cases h
theorem cr_allM (hc : X.calm = true) : CallR X (.builtin "all") (rsM X.K G allM) := by
  intro pins s σ H vs us Q I r ⟨ρ, S, xs, rp, q, g⟩
  unfold allM at g
  split at g
  · obtain ⟨v, rfl, q1⟩ := q.one
    split at g
    · rename_i ys hy
      split at g
      · rename_i bs hb
        have e := bolsO_eq hb
        subst e
        obtain ⟨a, ws, rfl, h1, h2⟩ := viewL_ok rp q1 hy
        have e := RepVs.bols h2
        subst e
        exact cr_all hc pins s σ H _ us Q I r ⟨a, bs, rfl, .inl h1, g ρ _ H (Ext.refl _ _) rp (.bl _)⟩
      · exact g.elim
    · exact g.elim
  · exact g.elim
/-! a.split(b), a.join(x) -/
def splitM (x : D) (xs : List D) : EM DO := match x, xs with
  | .str a, [.str b] => if (b.length == 0) = false ∧ a.length + 2 ≤ 16777216 then EM.pure (.lst ((Txt.split a b).map D.str)) else EM.fail
  | _, _ => EM.fail
def joinM (x : D) (xs : List D) : EM D := fun S => match x, xs with
  | .str a, [d] => (match viewS S d with
    | some ys => (match strsO ys with
      | some zs => if (zs.map (·.length)).sum + zs.length * a.length ≤ 16777216 then .ok (.str (Txt.join a zs)) S else .stuck
      | none => .stuck)
    | none => .stuck)
  | _, _ => .stuck
theorem noExc_split {x : D} {xs : List D} : NoExc (splitM x xs) := fun S c fs S' h => by
  unfold splitM at h
  split at h
  · split at h <;> cases h
  · cases h
theorem noExc_join {x : D} {xs : List D} : NoExc (joinM x xs) := fun S c fs S' h => by
  unfold joinM at h
  split at h
  · split at h
    · split at h
      · split at h <;> cases h
      · cases h
    · cases h
  · cases h
/-- the receiver is a text -/
def isTx (x : V) (_ : Hp) : Prop := ∃ a, x = .str a
def chkX (o : D) : EM Unit := fun S => match o with
  | .str _ => .ok () S
  | _ => .stuck
def eJoin (mo : Env → EM D) (ms : Env → EM (List D)) : Env → EM D := fun E => EM.bind (mo E) fun o => EM.bind (chkX o) fun _ => EM.bind (ms E) fun xs => joinM o xs
def fSplit (mo : Env → EM D) (ms : Env → EM (List D)) : Env → EM DO := fun E => EM.bind (mo E) fun o => EM.bind (chkX o) fun _ => EM.bind (ms E) fun xs => splitM o xs
theorem mt_joinM : MtR X "str.join" (rmM X.K G joinM) := by
  intro pins s σ H vx vs v us Q I r1 r2 ⟨ρ, S, x, xs, rp, q1, q2, g⟩
  unfold joinM at g
  split at g
  · rename_i a d
    obtain ⟨w, rfl, q3⟩ := q2.one
    split at g
    · rename_i ys hy
      split at g
      · rename_i zs hz
        split at g
        · rename_i hl
          have e := strsO_eq hz
          subst e
          obtain ⟨p, ws, rfl, h1, h2⟩ := viewS_ok rp q3 hy
          have e := RepVs.strs h2
          subst e
          have e := q1.str_inv
          subst e
          exact mt_join pins s σ H _ _ v us Q I r1 r2 ⟨a, p, zs, rfl, rfl, h1, hl, g ρ _ H (Ext.refl _ _) rp (.str _)⟩
        · exact g.elim
      · exact g.elim
    · exact g.elim
  · exact g.elim
variable {o e : Expr} {es : List Expr} {ma mb : Env → EM D} {ms : Env → EM (List D)}
theorem tx_at {pins : List (Addr × Obj)} {s : Shared} {σ : L2.St} {H : Hp} {x : V} {v : Value} (I : Inv X pins σ H s) (rx : RelV x v) (h : isTx x H) : s.TypeIs v "str" ∧ ∀ b, v = .ref b → ∃ ob, s.heap.get? b = some ob ∧ ob.dict = none := by
  obtain ⟨a, rfl⟩ := h
  obtain ⟨t, rfl⟩ := (show ∃ t, v = Value.str a t from rx)
  exact ⟨rfl, fun b z => by cases z⟩
theorem pm_join {apos cpos : Pos} (ho : PE X o (tM X.K G W ma)) (ha : PA X (e :: es) (tA X.K G W ms)) (hbase : attributeBase o "join" X.env (eval o X.env) = eval o X.env) (hs : (e :: es).all notStar = true) (hl : es.length < 20) (hline : (apos.endLine == cpos.line) = true) :
    PE X (.Call (.Attribute o "join" apos) (e :: es) [] cpos) (tM X.K G W (eJoin ma ms)) := by
  have hs1 : notStar e = true := by simp only [List.all_cons, Bool.and_eq_true] at hs; exact hs.1
  have hs2 : es.all notStar = true := by simp only [List.all_cons, Bool.and_eq_true] at hs; exact hs.2
  refine PE.weak (pe_recv (TR := isTx) (fun pins s σ H x v I r h => tx_at I r h) PySem.F.plainAttrs_str PySem.F.slot_str_join PySem.F.type_str_join (mt_joinM (G := G)) ho ha hbase ?_ hline (star_cons hs1 es X.env) (star_any hs2)) fun σ H Q ⟨ρ, S, E, rp, re, g⟩ => ?_
  · rw [star_few hs]
    show (true && true && decide (es.length + 1 + 0 + 0 < 30)) = true
    simp only [Bool.and_self, Bool.true_and, decide_eq_true_eq]
    omega
  · refine ⟨ρ, S, E, rp, re, Go.mono (Go.bind g) ?_⟩
    rintro v H1 ⟨ρ1, S1, d, x1, r1, q1, g1⟩
    cases d with
    | str a =>
      refine ⟨⟨a, q1.str_inv⟩, ρ1, S1, E, r1, RepE.ext x1 re, Go.mono (Go.bind (show Go X.K G (RD X.K G) W σ ρ1 H1 (EM.bind (ms E) (fun xs => joinM (.str a) xs) S1) Q from g1)) ?_⟩
      rintro vs H2 ⟨ρ2, S2, xs, x2, r2, q2, g2⟩
      exact ⟨ρ2, S2, .str a, xs, r2, RepV.ext x2 q1, q2, g2.w0 noExc_join⟩
    | _ => exact g1.elim
/-! a.split(b) -/
def rmF (K : PySem.W.Frag) (G : Cls) (m : D → List D → EM DO) : V → List V → Hp → VK → Prop := fun vx vs H Q => ∃ ρ S x xs, Rep K G ρ S H ∧ RepV K G ρ H x vx ∧ RepVs K G ρ H xs vs ∧ GoF K G W0 [] ρ H (m x xs S) Q
theorem mt_splitF : MtR X "str.split" (rmF X.K G splitM) := by
  intro pins s σ H vx vs v us Q I r1 r2 ⟨ρ, S, x, xs, rp, q1, q2, g⟩
  unfold splitM at g
  split at g
  · rename_i a b
    obtain ⟨w, rfl, q3⟩ := q2.one
    have e := q1.str_inv
    subst e
    have e := q3.str_inv
    subst e
    split at g
    · rename_i hc
      exact mt_split pins s σ H _ _ v us Q I r1 r2 ⟨a, b, rfl, rfl, hc.1, by rw [sizeLine_eq]; exact hc.2, fun p hp => GoF.list g rp (RepVs.ofStrs _) hp⟩
    · exact g.elim
  · exact g.elim
theorem pf_split {apos cpos : Pos} (ho : PE X o (tM X.K G W ma)) (ha : PA X (e :: es) (tA X.K G W ms)) (hbase : attributeBase o "split" X.env (eval o X.env) = eval o X.env) (hs : (e :: es).all notStar = true) (hl : es.length < 20) (hline : (apos.endLine == cpos.line) = true) :
    PE X (.Call (.Attribute o "split" apos) (e :: es) [] cpos) (tF X.K G W (fSplit ma ms)) := by
  have hs1 : notStar e = true := by simp only [List.all_cons, Bool.and_eq_true] at hs; exact hs.1
  have hs2 : es.all notStar = true := by simp only [List.all_cons, Bool.and_eq_true] at hs; exact hs.2
  refine PE.weak (pe_recv (TR := isTx) (fun pins s σ H x v I r h => tx_at I r h) PySem.F.plainAttrs_str PySem.F.slot_str_split PySem.F.type_str_split (mt_splitF (G := G)) ho ha hbase ?_ hline (star_cons hs1 es X.env) (star_any hs2)) fun σ H Q ⟨ρ, S, E, rp, re, g⟩ => ?_
  · rw [star_few hs]
    show (true && true && decide (es.length + 1 + 0 + 0 < 30)) = true
    simp only [Bool.and_self, Bool.true_and, decide_eq_true_eq]
    omega
  · refine ⟨ρ, S, E, rp, re, Go.mono (GoF.bind g) ?_⟩
    rintro v H1 ⟨ρ1, S1, d, x1, r1, q1, g1⟩
    cases d with
    | str a =>
      refine ⟨⟨a, q1.str_inv⟩, ρ1, S1, E, r1, RepE.ext x1 re, Go.mono (GoF.bind (show GoF X.K G W σ ρ1 H1 (EM.bind (ms E) (fun xs => splitM (.str a) xs) S1) Q from g1)) ?_⟩
      rintro vs H2 ⟨ρ2, S2, xs, x2, r2, q2, g2⟩
      exact ⟨ρ2, S2, .str a, xs, r2, RepV.ext x2 q1, q2, g2.w0 noExc_split⟩
    | _ => exact g1.elim
/-! for sign in text -/
def signD (c : Nat) : D := .str ⟨#[c]⟩
def charsO : D → Option (List D)
  | .str x => some (x.cps.toList.map signD)
  | _ => none
theorem walksStr {K : PySem.W.Frag} {ρ : List (Option Addr)} {H : Hp} (x : Str) : PK.Walks K G (Its x) (x.cps.toList.map signD) ρ H where
  stop := fun ρ' H' _ => by
    show x.cps.size ≤ (x.cps.toList.map signD).length
    rw [List.length_map, Array.length_toList]
    exact Nat.le_refl _
  go := fun i d ρ' H' e _ => by
    rw [List.getElem?_map, Option.map_eq_some_iff] at e
    obtain ⟨c, hc, rfl⟩ := e
    rw [Array.getElem?_toList] at hc
    refine ⟨(Array.getElem?_eq_some_iff.mp hc).1, fun S v H2 rp q => ?_⟩
    obtain ⟨rfl, c', hc', rfl⟩ := q
    rw [hc] at hc'
    cases hc'
    exact ⟨Ext.refl _ _, rp, .str _⟩
theorem pi_chars {tg : Expr} {me : Env → EM D} (he : PE X e (tM X.K G W me)) : PI X tg e (tI X.K G W (eOf charsO me)) :=
  PI.weak (pi_str he) fun σ H R h => by
    refine tI_of (R' := RD X.K G) (fun ρ S H a b ds rp q e k => ?_) h
    unfold charsO at e
    split at e
    · rename_i x
      cases e
      exact ⟨x, q.str_inv, k _ (walksStr x)⟩
    · cases e
/-! a op b op' c -/
def eChain (f f' : D → D → EM D) (ma mb mc : Env → EM D) : Env → EM D := fun E => EM.bind (ma E) fun x => EM.bind (mb E) fun y => EM.bind (f x y) fun d => EM.bind (EM.ofO (asB d)) fun k => if k = true then EM.bind (mc E) fun z => f' y z else EM.pure (.bl false)
theorem tM_chain {a b c : Expr} {mc : Env → EM D} {f f' : D → D → EM D} (n : ∀ x y, NoExc (f x y)) (n' : ∀ x y, NoExc (f' x y)) {σ : L2.St} {H : Hp} {Q : VK} (h : tM X.K G W (eChain f f' ma mb mc) σ H Q) : tChain (r2M X.K G f) (r2M X.K G f') (tM X.K G W ma) (tM X.K G W mb) (tM X.K G W mc) σ H Q := by
  obtain ⟨ρ, S, E, rp, re, g⟩ := h
  refine ⟨ρ, S, E, rp, re, Go.mono (Go.bind g) ?_⟩
  rintro v1 H1 ⟨ρ1, S1, x, x1, r1, q1, g1⟩
  refine ⟨ρ1, S1, E, r1, RepE.ext x1 re, Go.mono (Go.bind g1) ?_⟩
  rintro v2 H2 ⟨ρ2, S2, y, x2, r2, q2, g2⟩
  refine ⟨ρ2, S2, x, y, r2, RepV.ext x2 q1, q2, (Go.mono (Go.bind g2) ?_).w0 (n x y)⟩
  rintro v3 H3 ⟨ρ3, S3, d, x3, r3, q3, g3⟩
  obtain ⟨k, hk, g4⟩ : ∃ k, asB d = some k ∧ Go X.K G (RD X.K G) W σ ρ3 H3 ((if k = true then EM.bind (mc E) fun z => f' y z else EM.pure (.bl false)) S3) Q := by
    cases hd : asB d with
    | none => rw [hd] at g3; exact g3.elim
    | some k => rw [hd] at g3; exact ⟨k, rfl, g3⟩
  refine ⟨k, q3.bl_inv hk, ?_⟩
  cases k with
  | false =>
    rw [if_neg Bool.false_ne_true] at g4 ⊢
    exact Go.here (d := D.bl false) (R := RD X.K G) (S := S3) g4 r3 (.bl _)
  | true =>
    rw [if_pos rfl] at g4 ⊢
    refine ⟨ρ3, S3, E, r3, RepE.ext x3 (RepE.ext x2 (RepE.ext x1 re)), Go.mono (Go.bind g4) ?_⟩
    rintro v4 H4 ⟨ρ4, S4, z, x4, r4, q4, g5⟩
    exact ⟨ρ4, S4, y, z, r4, RepV.ext x4 (RepV.ext x3 q2), q4, g5.w0 (n' y z)⟩
theorem pm_chain {a b c : Expr} {pos : Pos} {mc : Env → EM D} {op op' : CmpOp} {f f' : D → D → EM D} (h1 : OpR X (compareOp op) (r2M X.K G f)) (h2 : OpR X (compareOp op') (r2M X.K G f')) (n : ∀ x y, NoExc (f x y)) (n' : ∀ x y, NoExc (f' x y)) (ha : PE X a (tM X.K G W ma)) (hb : PE X b (tM X.K G W mb)) (hc : PE X c (tM X.K G W mc)) (hm : lastMarks [op, op'] [b, c] = false) :
    PE X (.Compare a [op, op'] [b, c] pos) (tM X.K G W (eChain f f' ma mb mc)) :=
  (pe_chain h1 h2 ha hb hc hm).weak fun σ H Q q => tM_chain (a := a) (b := b) (c := c) n n' q
theorem pt_chainM {a b c : Expr} {pos : Pos} {mc : Env → EM D} {op op' : CmpOp} {f f' : D → D → EM D} (h1 : OpR X (compareOp op) (r2M X.K G f)) (h2 : OpR X (compareOp op') (r2M X.K G f')) (n : ∀ x y, NoExc (f x y)) (n' : ∀ x y, NoExc (f' x y)) (ha : PE X a (tM X.K G W ma)) (hb : PE X b (tM X.K G W mb)) (hc : PE X c (tM X.K G W mc)) (hm : lastMarks [op, op'] [b, c] = false) :
    PT X (.Compare a [op, op'] [b, c] pos) (tT X.K G W (eTest (eChain f f' ma mb mc))) :=
  (pt_chain h1 h2 ha hb hc hm).weak fun σ H Q q => tTest_of (fun Q' q' => tM_chain (a := a) (b := b) (c := c) n n' q') q
end
end PK
namespace PK
open PySem PySem.Spec PyProof.Rows L2

/-! ### values without exceptions -/
mutual
def D.noX : D → Bool
  | .non | .bl _ | .int _ | .str _ | .ref _ | .scr _ => true
  | .tup xs => D.noXs xs
  | .lst xs => D.noXs xs
  | .dct kvs => D.noXK kvs
  | .ins c fs => !xcl c && D.noXF fs
def D.noXs : List D → Bool
  | [] => true
  | x :: xs => D.noX x && D.noXs xs
def D.noXK : List (D × D) → Bool
  | [] => true
  | (a, b) :: xs => D.noX a && D.noX b && D.noXK xs
def D.noXF : List (Nat × D) → Bool
  | [] => true
  | (_, b) :: xs => D.noX b && D.noXF xs
end
def DO.noX : DO → Bool
  | .gone => true
  | .lst xs => D.noXs xs
  | .dct kvs => D.noXK kvs
  | .ins _ fs => D.noXF fs
  | .lkl xs => D.noXs xs
  | .lkd kvs => D.noXK kvs
def cleanX (E : Env) : Bool := E.all fun o => match o with
  | some d => d.noX
  | none => true
/-- the exception at a is in hand -/
def Cls.with (G : Cls) (a : Addr) (c : Nat) (od : Option Addr) : Cls := ⟨G.addr, G.fld, G.prog, G.world, fun b => if b = a then some (c, od) else none⟩
section
variable {K : PySem.W.Frag} {G : Cls} {ρ : List (Option Addr)} {H : Hp} {a : Addr} {c : Nat} {od : Option Addr}
mutual
theorem RepV.up (g : ∀ b, G.exc b = none) : ∀ {d : D} {v : V}, RepV K G ρ H d v → RepV K (G.with a c od) ρ H d v
  | _, _, .non => .non
  | _, _, .bl b => .bl b
  | _, _, .int i => .int i
  | _, _, .str z => .str z
  | _, _, .tup h r => .tup h (RepVs.up g r)
  | _, _, .lst h r => .lst h (RepVs.up g r)
  | _, _, .dct h r => .dct h (RepD.up g r)
  | _, _, .ins hc h r => .ins hc h (RepF.up g r)
  | _, _, .ex0 hc e => by rw [g] at e; cases e
  | _, _, .ex1 hc e h r => by rw [g] at e; cases e
  | _, _, .ref h q => .ref h q
  | _, _, .scr h => .scr h
theorem RepVs.up (g : ∀ b, G.exc b = none) : ∀ {ds : List D} {vs : List V}, RepVs K G ρ H ds vs → RepVs K (G.with a c od) ρ H ds vs
  | _, _, .nil => .nil
  | _, _, .cons h r => .cons (RepV.up g h) (RepVs.up g r)
theorem RepD.up (g : ∀ b, G.exc b = none) : ∀ {b : Addr} {kvs : List (D × D)} {u : HO}, RepD K G ρ H b kvs u → RepD K (G.with a c od) ρ H b kvs u
  | _, _, _, .k r => .k (RepK.up g r)
  | _, _, _, .t r => .t (G := G.with a c od) (RepT.up g r)
theorem RepT.up (g : ∀ b, G.exc b = none) : ∀ {kvs : List (D × D)} {xs : List (NestedKey × Addr × Value)}, RepT K G ρ H kvs xs → RepT K (G.with a c od) ρ H kvs xs
  | _, _, .nil => .nil
  | _, _, .cons nk dp hk h rel r => .cons nk dp (RepV.up g hk) (RepV.up g h) rel (RepT.up g r)
theorem RepK.up (g : ∀ b, G.exc b = none) : ∀ {kvs : List (D × D)} {us : List (Key × V)}, RepK K G ρ H kvs us → RepK K (G.with a c od) ρ H kvs us
  | _, _, .nil => .nil
  | _, _, .int h r => .int (RepV.up g h) (RepK.up g r)
  | _, _, .str h r => .str (RepV.up g h) (RepK.up g r)
theorem RepF.up (g : ∀ b, G.exc b = none) : ∀ {fs : List (Nat × D)} {us : List (Str × V)}, RepF K G ρ H fs us → RepF K (G.with a c od) ρ H fs us
  | _, _, .nil => .nil
  | _, _, .cons h r => .cons (G := G.with a c od) (RepV.up g h) (RepF.up g r)
end
mutual
theorem RepV.down : ∀ {d : D} {v : V}, RepV K (G.with a c od) ρ H d v → d.noX = true → RepV K G ρ H d v
  | _, _, .non, _ => .non
  | _, _, .bl b, _ => .bl b
  | _, _, .int i, _ => .int i
  | _, _, .str z, _ => .str z
  | _, _, .tup h r, p => .tup h (RepVs.down r (by simpa [D.noX] using p))
  | _, _, .lst h r, p => .lst h (RepVs.down r (by simpa [D.noX] using p))
  | _, _, .dct h r, p => .dct h (RepD.down r (by simpa [D.noX] using p))
  | _, _, .ins hc h r, p => .ins hc h (RepF.down r (by
      have := p
      simp only [D.noX, Bool.and_eq_true] at this
      exact this.2))
  | _, _, .ex0 hc e, p => by simp [D.noX, hc] at p
  | _, _, .ex1 hc e h r, p => by simp [D.noX, hc] at p
  | _, _, .ref h q, _ => .ref h q
  | _, _, .scr h, _ => .scr h
theorem RepVs.down : ∀ {ds : List D} {vs : List V}, RepVs K (G.with a c od) ρ H ds vs → D.noXs ds = true → RepVs K G ρ H ds vs
  | _, _, .nil, _ => .nil
  | _, _, .cons h r, p => by
    simp only [D.noXs, Bool.and_eq_true] at p
    exact .cons (RepV.down h p.1) (RepVs.down r p.2)
theorem RepD.down : ∀ {b : Addr} {kvs : List (D × D)} {u : HO}, RepD K (G.with a c od) ρ H b kvs u → D.noXK kvs = true → RepD K G ρ H b kvs u
  | _, _, _, .k r, p => .k (RepK.down r p)
  | _, _, _, .t r, p => .t (G := G) (RepT.down r p)
theorem RepT.down : ∀ {kvs : List (D × D)} {xs : List (NestedKey × Addr × Value)}, RepT K (G.with a c od) ρ H kvs xs → D.noXK kvs = true → RepT K G ρ H kvs xs
  | _, _, .nil, _ => .nil
  | _, _, .cons nk dp hk h rel r, p => by
    simp only [D.noXK, Bool.and_eq_true] at p
    exact .cons nk dp (RepV.down hk p.1.1) (RepV.down h p.1.2) rel (RepT.down r p.2)
theorem RepK.down : ∀ {kvs : List (D × D)} {us : List (Key × V)}, RepK K (G.with a c od) ρ H kvs us → D.noXK kvs = true → RepK K G ρ H kvs us
  | _, _, .nil, _ => .nil
  | _, _, .int h r, p => by
    simp only [D.noXK, Bool.and_eq_true] at p
    exact .int (RepV.down h p.1.2) (RepK.down r p.2)
  | _, _, .str h r, p => by
    simp only [D.noXK, Bool.and_eq_true] at p
    exact .str (RepV.down h p.1.2) (RepK.down r p.2)
theorem RepF.down : ∀ {fs : List (Nat × D)} {us : List (Str × V)}, RepF K (G.with a c od) ρ H fs us → D.noXF fs = true → RepF K G ρ H fs us
  | _, _, .nil, _ => .nil
  | _, _, .cons h r, p => by
    simp only [D.noXF, Bool.and_eq_true] at p
    exact .cons (G := G) (RepV.down h p.1) (RepF.down r p.2)
end
theorem RepC.up (g : ∀ b, G.exc b = none) {b : Addr} {o : DO} {u : HO} (r : RepC K G ρ H b o u) : RepC K (G.with a c od) ρ H b o u := by
  cases o with
  | gone => exact r
  | lst xs => obtain ⟨us, e, r⟩ := r; exact ⟨us, e, RepVs.up g r⟩
  | dct kvs => exact RepD.up g r
  | ins c fs => obtain ⟨hc, dx, us, e, r⟩ := r; exact ⟨hc, dx, us, e, RepF.up g r⟩
  | lkl xs => obtain ⟨od, us, e, r⟩ := r; exact ⟨od, us, e, RepVs.up g r⟩
  | lkd kvs => obtain ⟨od, u', e, m, r⟩ := r; exact ⟨od, u', e, m, RepD.up g r⟩
theorem RepC.down {b : Addr} {o : DO} {u : HO} (r : RepC K (G.with a c od) ρ H b o u) (p : o.noX = true) : RepC K G ρ H b o u := by
  cases o with
  | gone => exact r
  | lst xs => obtain ⟨us, e, r⟩ := r; exact ⟨us, e, RepVs.down r p⟩
  | dct kvs => exact RepD.down r p
  | ins c fs => obtain ⟨hc, dx, us, e, r⟩ := r; exact ⟨hc, dx, us, e, RepF.down r p⟩
  | lkl xs => obtain ⟨od, us, e, r⟩ := r; exact ⟨od, us, e, RepVs.down r p⟩
  | lkd kvs => obtain ⟨od, u', e, m, r⟩ := r; exact ⟨od, u', e, m, RepD.down r p⟩
theorem Rep.up (g : ∀ b, G.exc b = none) {S : List DO} (r : Rep K G ρ S H) : Rep K (G.with a c od) ρ S H where
  len := r.len
  inj := r.inj
  obj := fun i o e => by
    rcases r.obj i o e with z | ⟨b, u, h1, h2, h3⟩
    · exact .inl z
    · exact .inr ⟨b, u, h1, h2, RepC.up g h3⟩
  trk := r.trk
theorem Rep.down {S : List DO} (r : Rep K (G.with a c od) ρ S H) (p : S.all DO.noX = true) : Rep K G ρ S H where
  len := r.len
  inj := r.inj
  obj := fun i o e => by
    rcases r.obj i o e with z | ⟨b, u, h1, h2, h3⟩
    · exact .inl z
    · exact .inr ⟨b, u, h1, h2, RepC.down h3 (List.all_eq_true.mp p o (List.mem_of_getElem? e))⟩
  trk := r.trk
theorem RepE.up (g : ∀ b, G.exc b = none) {E : Env} {σ : L2.St} (r : RepE K G ρ H E σ) : RepE K (G.with a c od) ρ H E σ :=
  ⟨r.1, fun i d e => let ⟨v, h1, h2⟩ := r.2 i d e; ⟨v, h1, RepV.up g h2⟩⟩
theorem RepE.down {E : Env} {σ : L2.St} (r : RepE K (G.with a c od) ρ H E σ) (p : cleanX E = true) : RepE K G ρ H E σ :=
  ⟨r.1, fun i d e => let ⟨v, h1, h2⟩ := r.2 i d e; ⟨v, h1, RepV.down h2 (List.all_eq_true.mp p (some d) (List.mem_of_getElem? e))⟩⟩
end
/-! ### raise, try: what they do -/
def sRaise (c : Nat) (fi : List Nat) (ms : Env → EM (List D)) : SM := fun E S => match ms E S with
  | .ok xs S' => if xs.length = fi.length then .exc c (fi.zip xs).reverse E S' else .stuck
  | .exc c' fs S' => .exc c' fs E S'
  | .stuck => .stuck
/-- a clause: which classes it takes, the slot of its name, its suite -/
structure TC where
  hit : Nat → Option Bool
  sl : Option Nat
  m : SM
def unE (sl : Option Nat) (E : Env) : Env := match sl with
  | some i => E.set i none
  | none => E
/-- behind a suite: its name goes, no exception is left -/
def endX (sl : Option Nat) : SR → SR
  | .nx E S => if cleanX (unE sl E) = true ∧ S.all DO.noX = true then .nx (unE sl E) S else .stuck
  | .rt d S => if d.noX = true ∧ S.all DO.noX = true then .rt d S else .stuck
  | .brk E S => if cleanX (unE sl E) = true ∧ S.all DO.noX = true then .brk (unE sl E) S else .stuck
  | .ct E S => if cleanX (unE sl E) = true ∧ S.all DO.noX = true then .ct (unE sl E) S else .stuck
  | _ => .stuck
def inE (sl : Option Nat) (c : Nat) (fs : List (Nat × D)) (E : Env) : Env := match sl with
  | some i => E.set i (some (.ins c fs))
  | none => E
def okSl (sl : Option Nat) (E : Env) : Bool := match sl with
  | some i => decide (i < E.length)
  | none => true
def tryGo (c : Nat) (fs : List (Nat × D)) : List TC → SM
  | [], E, S => .exc c fs E S
  | z :: r, E, S => match z.hit c with
    | some true => if okSl z.sl E = true then endX z.sl (z.m (inE z.sl c fs E) S) else .stuck
    | some false => tryGo c fs r E S
    | none => .stuck
def sTry (mb : SM) (cl : List TC) : SM := fun E S => match mb E S with
  | .exc c fs E' S' => if xcl c = true then tryGo c fs cl E' S' else .stuck
  | r => r
/-- e.f, e an exception in hand -/
def fldM (fok : Nat → Bool) (xk : Nat → Nat → Bool) (f : Nat) (d : D) : EM D := match d with
  | .ins c fs => if xcl c = true ∧ xk c f = true ∧ fok f = true ∧ (fs.all fun p => fok p.1) = true then EM.ofO (fs.lookup f) else EM.fail
  | _ => EM.fail
/-- isinstance(e, C) -/
def isXM (h : Nat → Option Bool) (d : D) : EM D := match d with
  | .ins c _ => if xcl c = true then EM.ofO ((h c).map D.bl) else EM.fail
  | _ => EM.fail
end PK
namespace PK
open PySem PySem.Spec PyProof.Rows L2
/-! ### an exception's own __init__: self.f = f, one after the other -/
inductive IB (self : Str) : List Str → List Stmt → Prop
  | nil : IB self [] []
  | cons {f : Str} {r : List Str} {b : List Stmt} {p p' p2 pos : Pos} (h : IB self r b) : IB self (f :: r) (.Assign [.Attribute (.Name self p) f p'] (.Name f p2) pos :: b)
def spI (K : PySem.W.Frag) (ns : List Str) : Sp := fun vs H Q E => ∃ (a C : Addr) (ws : List V), vs = .ref a :: ws ∧ ws.length = ns.length ∧ ns ≠ [] ∧ ns.length ≤ 800 ∧ OexC K C ∧ (∀ f ∈ ns, PySem.W.findIn K (.ref C) f = some none) ∧ H a = some (exo a C none) ∧
  ∀ d, H d = none → d ≠ a → Q .non (upd (upd H d (exd d (ns.zip ws).reverse)) a (exo a C (some d)))
def tIs (K : PySem.W.Frag) : Nat → List Str → TS
  | _, [] => tNext
  | i, f :: r => tSeq (tOst K f (tVar 0) (tVar i)) (tIs K (i + 1) r)
theorem upd_swap {H : Hp} {a d : Addr} {x y z : HO} (n : d ≠ a) : upd (upd (upd H d x) a y) d z = upd (upd H d z) a y := by
  funext b
  by_cases h1 : b = d
  · subst h1
    rw [upd_same, upd_ne n, upd_same]
  · by_cases h2 : b = a
    · subst h2
      rw [upd_ne h1, upd_same, upd_same]
    · rw [upd_ne h1, upd_ne h2, upd_ne h1, upd_ne h2, upd_ne h1]
section
variable {X : Cx} {self : Str}
theorem pss_init (hv : ∀ x ∈ X.N, Vis X.env.scope x ∧ (x == ("__debug__" : Str)) = false ∧ (x == ("__classdict__" : Str)) = false) (h0 : X.N[0]? = some self) : ∀ {ns : List Str} {b : List Stmt} (i : Nat), IB self ns b → (∀ j f, ns[j]? = some f → X.N[i + j]? = some f) → PSs X b (tIs X.K i ns)
  | [], _, _, .nil, _ => pss_nil
  | f :: r, _, i, .cons h, hn => by
    have e := hn 0 f rfl
    obtain ⟨v1, v2, v3⟩ := hv self (List.mem_of_getElem? h0)
    obtain ⟨u1, u2, u3⟩ := hv f (List.mem_of_getElem? e)
    refine pss_cons (ps_ost (pe_var h0 v1 v2 v3) (pe_var e u1 u2 u3)) (pss_init hv h0 (i + 1) h fun j g q => ?_)
    have := hn (j + 1) g q
    rw [← this]
    congr 1
    omega
end
theorem tIs_rest {K : PySem.W.Frag} {a C d : Addr} (T : OexC K C) (hne : d ≠ a) {σ : L2.St} (h0 : σ[0]? = some (some (.ref a))) {D : Ends} {H : Hp} : ∀ {ns : List Str} {ws : List V} (i : Nat) (acc : List (Str × V)), ws.length = ns.length → acc.length + ns.length ≤ 900 → (∀ f ∈ ns, PySem.W.findIn K (.ref C) f = some none) → (∀ j y, ws[j]? = some y → σ[i + j]? = some (some y)) →
    D.nx σ (upd (upd H d (exd d ((ns.zip ws).reverse ++ acc))) a (exo a C (some d))) → tIs K i ns D σ (upd (upd H d (exd d acc)) a (exo a C (some d)))
  | [], [], i, acc, _, _, _, _, q => q
  | f :: r, y :: ws, i, acc, hl, hb, hf, hs, q => by
    simp only [List.length_cons] at hl hb
    have ed : upd (upd H d (exd d acc)) a (exo a C (some d)) d = some (exd d acc) := by rw [upd_ne hne, upd_same]
    refine ⟨y, hs 0 y rfl, .ref a, h0, a, C, rfl, T, hf f (List.mem_cons_self ..), .inr ⟨d, acc, upd_same, ed, by omega, ?_⟩⟩
    rw [upd_swap hne]
    refine tIs_rest T hne h0 (ns := r) (ws := ws) (i + 1) ((f, y) :: acc) (by omega) (by simp only [List.length_cons]; omega) (fun g hg => hf g (List.mem_cons_of_mem _ hg)) (fun j z e => ?_) ?_
    · have := hs (j + 1) z e
      rw [← this]
      congr 1
      omega
    · rw [List.zip_cons_cons, List.reverse_cons, List.append_assoc] at q
      exact q
theorem tIs_first {K : PySem.W.Frag} {a C : Addr} (T : OexC K C) {σ : L2.St} (h0 : σ[0]? = some (some (.ref a))) {D : Ends} {H : Hp} (ha : H a = some (exo a C none)) {ns : List Str} {ws : List V} (i : Nat) (hl : ws.length = ns.length) (hn : ns ≠ []) (hb : ns.length ≤ 800) (hf : ∀ f ∈ ns, PySem.W.findIn K (.ref C) f = some none) (hs : ∀ j y, ws[j]? = some y → σ[i + j]? = some (some y))
    (q : ∀ d, H d = none → d ≠ a → D.nx σ (upd (upd H d (exd d (ns.zip ws).reverse)) a (exo a C (some d)))) : tIs K i ns D σ H := by
  cases ns with
  | nil => exact absurd rfl hn
  | cons f r =>
    cases ws with
    | nil => cases hl
    | cons y ws =>
      simp only [List.length_cons] at hl hb
      refine ⟨y, hs 0 y rfl, .ref a, h0, a, C, rfl, T, hf f (List.mem_cons_self ..), .inl ⟨ha, fun d hd hne => ?_⟩⟩
      refine tIs_rest T hne h0 (ns := r) (ws := ws) (i + 1) [(f, y)] (by omega) (by simp only [List.length_cons, List.length_nil]; omega) (fun g hg => hf g (List.mem_cons_of_mem _ hg)) (fun j z e => ?_) ?_
      · have := hs (j + 1) z e
        rw [← this]
        congr 1
        omega
      · have := q d hd hne
        rw [List.zip_cons_cons, List.reverse_cons] at this
        exact this
/-- C.__init__ keeps spI -/
theorem init_fnOk {P : Program} {w : World} {K : PySem.W.Frag} {mg : Str → Option Value} {base : Heap} {x qual self : Str} {params : Arguments} {body : List Stmt} {scope : Scope} {f : Addr} {fd : FuncData} {ns : List Str} {CX : CXT}
    (F : FunD K x qual params body scope [] [] f fd) (S : FnScope (self :: ns) (self :: ns) scope) (hv : ∀ x ∈ self :: ns, Vis scope x ∧ (x == ("__debug__" : Str)) = false ∧ (x == ("__classdict__" : Str)) = false) (hB : IB self ns body) (k : Nat) :
    FnOk P w K mg base CX (k + 1) f fd (self :: ns) (spI K ns) := by
  refine F.ok S (fun vs H Q E ⟨a, C, ws, e, hl, _⟩ => by rw [e, List.length_cons, List.length_cons, hl]) fun cdv A outer s H vs Q E hr hs => ?_
  obtain ⟨a, C, ws, e, hl, hn, hb, T, hf, ha, q⟩ := hs
  subst e
  refine ⟨_, pss_init (X := cxOf CX P w K mg base (self :: ns) qual scope f cdv A outer s H E) hv rfl 1 hB (fun j g e => ?_), ?_⟩
  · show (self :: ns)[1 + j]? = some g
    rw [Nat.add_comm]; exact e
  · have hst : L2.start (self :: ns) (.ref a :: ws) = some (.ref a) :: ws.map some := by
      unfold L2.start
      simp [hl]
    rw [hst]
    refine tIs_first T rfl ha 1 hl hn hb hf (fun j y e => ?_) fun d hd hne => q d hd hne
    rw [Nat.add_comm]
    show (ws.map some)[j]? = _
    rw [List.getElem?_map, e]
    rfl
end PK
/-! ### C(k = v, ..): an exception made with keywords -/
namespace PK
open PySem PySem.Spec PyProof.Rows L2 PySem.HandSPX
section
variable {prog : Program} {w : World} {A : Around} {hp : Heap} {gg : Array GenState} {dr : Drawn} {tk : Nat} {os : OsState}
variable {nm q : Str} {B iN iI : String} {C N : Addr} {bs bm bB sub : List Value} {hd ab : Bool} {sn : List Str} {col : Option Bool} {dd : Option Addr} {k0 k1 k2 k3 k5 : Option Value} {us : List Value} {kw : List (Str × Value)}
theorem kx_check {M : Model} {Er : Value → Shared → Prop} {Q : Unit → Shared → Prop} (F : ExcBaseFacts B iN iI bB) (hT : ∀ X : String, bm.contains (.type X) = bB.contains (.type X))
    (hC : hp.get? C = some (excClassObj nm q C N bs bm hd sn sub ab col dd k0 k1 k2 k3 k5 iN)) (z : Q () ⟨hp, gg, dr, tk, os⟩) : wpAny M A (checkBuiltinCall iN ⟨.ref C :: us, kw⟩) Q Er ⟨hp, gg, dr, tk, os⟩ := by
  have in1 : (Value.ref C :: bm).contains (.type B) = true := by rw [List.contains_cons, hT, F.hasB]; exact Bool.or_true _
  have st := F.noStar
  simp only [checkBuiltinCall, F.newKind, F.newSplit, F.newRow]
  repeat (first | refine wpAny_loadPart_at hC ?_ | (refine wpAny_isSubtype_exc hC ?_; rw [in1]) | refine wpAny_staticBase_exc hC ?_ | refine wpAny_madeBy_exc hC ?_ | simp only [bne_self_eq_false, Bool.false_eq_true, if_false] | wp_step)
  exact z
theorem kx_new {R : Result → Shared → Prop} (F : ExcBaseFacts B iN iI bB) (hT : ∀ X : String, bm.contains (.type X) = bB.contains (.type X))
    (hC : hp.get? C = some (excClassObj nm q C N bs bm hd sn sub ab col dd k0 k1 k2 k3 k5 iN)) (hl : us.length ≤ sizeLine)
    (z : R (.ok (.ret (.ref (hp.objs.size + 1)))) ⟨(hp.push (W.kdv_tup us)).push (excO C hp.objs.size), gg, dr, tk, os⟩) : codeAny (model prog w) A (.builtin iN ⟨.ref C :: us, kw⟩) R ⟨hp, gg, dr, tk, os⟩ := by
  have en := F.ends
  have m1 : (Value.ref C :: bm).contains (.type B) = true := by rw [List.contains_cons, hT, F.hasB]; exact Bool.or_true _
  have m2 : (Value.ref C :: bm).contains (.type "AttributeError") = false := by rw [List.contains_cons]; rw [hT, F.noAttr]; rfl
  have m3 : (Value.ref C :: bm).contains (.type "NameError") = false := by rw [List.contains_cons]; rw [hT, F.noName]; rfl
  refine codeAny_builtinAt F.entry ?_
  unfold Builtin.«BaseException.__new__»
  refine PySem.wpAt_bind ?_
  show PySem.wpAt _ _ _ (stack >>= _) _ _ _
  refine PySem.wpAt_bind (PySem.wpAt_stack fun _ _ => PySem.wpAt_of_wpAny ?_); wp_walk
  refine PySem.wpAt_of_wpAny ?_; rw [F.owner]
  repeat (first | with_reducible refine wpAny_madeHere_exc F.canon hC ?_ | with_reducible refine wpAny_loadPart_at hC ?_ | (with_reducible refine wpAny_isSubtype_exc hC ?_; first | rw [m1] | rw [m2] | rw [m3]) | wp_step)
  show R _ _
  rw [Heap.size_push]; exact z
theorem kx_type {Er : Value → Shared → Prop} {fI : Addr} {Q : Fin → Shared → Prop} (F : ExcBaseFacts B iN iI bB) (hT : ∀ X : String, bm.contains (.type X) = bB.contains (.type X))
    (hC : hp.get? C = some (excClassObj nm q C N bs bm hd sn sub ab col dd k0 k1 k2 k3 k5 iN))
    (lk : W.Looks (model prog w) hp (typeLookup (.ref C) "__init__") (some (.ref fI))) (bd : ∀ v, W.Looks (model prog w) hp (bindSpecial (.ref fI) v) (.ref fI, [v])) (hl : us.length ≤ sizeLine)
    (z : codeAny (model prog w) A (.call (.ref fI) ⟨.ref (hp.objs.size + 1) :: us, kw⟩)
      (fun r s2 => match r with | .ok (.ret v) => v = .none ∧ Q (.done (.ret (.ref (hp.objs.size + 1)))) s2 | .ok _ => False | .error e => Er e s2)
      ⟨(hp.push (W.kdv_tup us)).push (excO C hp.objs.size), gg, dr, tk, os⟩) :
    wpAny (model prog w) A (Builtin.«type.__call__» ⟨.ref C :: us, kw⟩) Q Er ⟨hp, gg, dr, tk, os⟩ := by
  repeat (first | with_reducible refine wpAny_loadPart_at hC ?_ | with_reducible refine wpAny_madeBy_exc hC ?_ | wp_step)
  refine codeAny_call_builtin_code (Code.quiet_builtin _ F.quiet) (kx_check F hT hC ?_)
  refine kx_new F hT hC hl ?_
  show wpAny _ _ _ _ _ _
  have old : ∀ b o, hp.get? b = some o → ((hp.push (W.kdv_tup us)).push (excO C hp.objs.size)).get? b = some o := fun b o e => Heap.get?_push_of_some _ (Heap.get?_push_of_some _ e)
  have cC := old _ _ hC
  have cE : ((hp.push (W.kdv_tup us)).push (excO C hp.objs.size)).get? (hp.objs.size + 1) = some (excO C hp.objs.size) := by heap_get
  have self : (Value.ref C :: bm).contains (.ref C) = true := by simp
  have lk2 := lk.keeps old
  have bd2 := (bd (.ref (hp.objs.size + 1))).keeps old
  unfold isInstance
  repeat (first | with_reducible refine wpAny_loadPart_at cE ?_ | (with_reducible refine wpAny_isSubtype_exc cC ?_; rw [self]) | wp_step)
  show wpAny _ _ (typeLookup (.ref C) _) _ _ _
  refine lk2.at (wpAny_holding (wpAny_bind (bd2.at ?_)))
  refine wpAny_bind (wpAny_call (codeAny_mono z fun r s2 y => ?_))
  rcases r with e | (v | _ | _ | _) <;> first | exact y | exact y.elim | skip
  obtain ⟨rfl, y⟩ := y
  first
    | exact wpAny_pure (wpAny_pure y)
    | (wp_walk; exact y)
theorem kx_call {R : Result → Shared → Prop} {fI : Addr} (F : ExcBaseFacts B iN iI bB) (hT : ∀ X : String, bm.contains (.type X) = bB.contains (.type X))
    (hC : hp.get? C = some (excClassObj nm q C N bs bm hd sn sub ab col dd k0 k1 k2 k3 k5 iN))
    (lk : W.Looks (model prog w) hp (typeLookup (.ref C) "__init__") (some (.ref fI))) (bd : ∀ v, W.Looks (model prog w) hp (bindSpecial (.ref fI) v) (.ref fI, [v])) (hl : us.length ≤ sizeLine)
    (z : codeAny (model prog w) (A.under (.builtin "type.__call__" ⟨.ref C :: us, kw⟩)) (.call (.ref fI) ⟨.ref (hp.objs.size + 1) :: us, kw⟩) (W.InitBack (hp.objs.size + 1) R)
      ⟨(hp.push (W.kdv_tup us)).push (excO C hp.objs.size), gg, dr, tk, os⟩) :
    codeAny (model prog w) A (.call (.ref C) ⟨us, kw⟩) R ⟨hp, gg, dr, tk, os⟩ := by
  have g1 := tc_lookup
  have g2 := tc_bind (.ref C)
  have ty : (⟨hp, gg, dr, tk, os⟩ : Shared).TypeIs (.ref C) "type" := ⟨_, hC, rfl⟩
  refine codeAny_of_tree ?_
  show wpAny _ _ (callAny (.ref C) _) _ _ _
  repeat (any_goals (first | assumption | with_reducible refine wpAny_loadPart_at hC ?_ | wp_step))
  refine ⟨rfl, codeAny_call_builtin_at (Code.quiet_builtin _ (by decide +kernel)) entry_typeCall (wpAny_check_type_call_sub hC (kx_type F hT hC lk bd hl ?_))⟩
  refine codeAny_mono z fun r s2 y => ?_
  rcases r with e | (v | _ | _ | _) <;> exact y
end
end PK
namespace PK
open PySem PySem.Spec PyProof.Rows L2
/-! ### raise C(e, ..) -/
theorem RepF.append {K : PySem.W.Frag} {G : Cls} {ρ : List (Option Addr)} {H : Hp} : ∀ {a b : List (Nat × D)} {us vs : List (Str × V)}, RepF K G ρ H a us → RepF K G ρ H b vs → RepF K G ρ H (a ++ b) (us ++ vs)
  | _, _, _, _, .nil, r => r
  | _, _, _, _, .cons h r, r2 => .cons h (RepF.append r r2)
theorem RepF.ofZip {K : PySem.W.Frag} {G : Cls} {ρ : List (Option Addr)} {H : Hp} : ∀ {fi : List Nat} {xs : List D} {ws : List V}, RepVs K G ρ H xs ws → xs.length = fi.length → RepF K G ρ H (fi.zip xs).reverse ((fi.map G.fld).zip ws).reverse
  | [], [], _, .nil, _ => .nil
  | f :: fi, x :: xs, _, .cons h r, hl => by
    rw [List.zip_cons_cons, List.reverse_cons, List.map_cons, List.zip_cons_cons, List.reverse_cons]
    exact RepF.append (RepF.ofZip r (by simpa using hl)) (.cons h .nil)
theorem upd_made {H : Hp} {a d : Addr} {x y z w : HO} (ha : H a = none) (n : d ≠ a) : upd (del (upd (upd (upd H a x) d y) a z) a) d w = upd H d w := by
  funext b
  by_cases h1 : b = d
  · subst h1; rw [upd_same, upd_same]
  · rw [upd_ne h1, upd_ne h1]
    by_cases h2 : b = a
    · subst h2; rw [del_same, ha]
    · rw [del_ne h2, upd_ne h2, upd_ne h1, upd_ne h2]
section
variable {X : Cx} {G : Cls} {W : L2.WX} {x self : Str} {C fI : Addr} {c k : Nat} {fd : FuncData} {fi : List Nat} {e : Expr} {es : List Expr} {ms : Env → EM (List D)} {p pos pos2 : Pos}
theorem ps_raiseM (T : OexC X.K C) (iC : PySem.W.findIn X.K (.ref C) "__init__" = some (some (.ref fI))) (tI : PySem.W.typeIn X.K (.ref fI) = some (.type "function"))
    (F1 : FnOk X.prog X.w X.K X.mg X.base (L2.CX X.prog X.w) k fI fd (self :: fi.map G.fld) (spI X.K (fi.map G.fld))) (hr : Room (k + 1) X.A) (hb : Binds X.K fd (self :: fi.map G.fld) [])
    (hc : X.calm = true) (tk : Takes X W) (hg : Gl X x) (hm : X.mg x = some (.ref C)) (hC : G.addr c = C) (hfi : fi ≠ [] ∧ fi.length ≤ 800) (hno : ∀ f ∈ fi.map G.fld, PySem.W.findIn X.K (.ref C) f = some none)
    (ha : PA X (e :: es) (tA X.K G W ms)) (hdb : (x == ("__debug__" : Str)) = false) (he : starEach (e :: es) X.env = (false, eval e X.env) :: starEach es X.env) (hpl : (backTo pos (starEach es X.env)).any (·.1) = false) :
    PS X (.Raise (some (.Call (.Name x p) (e :: es) [] pos)) none pos2) (tS X.K G W (sRaise c fi ms)) := by
  have base := ps_raise (e := .Call (.Name x p) (e :: es) [] pos) (pos := pos2) hc tk (pmk_oex T iC tI F1 hr hb .nil (passes_call tk fun _ _ _ _ h => h.elim) hg hm ha hdb he hpl)
  refine ⟨fun pins s σ H D I h => base.run pins s σ H D I ?_⟩
  obtain ⟨ρ, S, E, rp, re, g⟩ := h
  unfold sRaise at g
  refine ⟨ρ, S, E, rp, re, ?_⟩
  cases hms : ms E S with
  | stuck => rw [hms] at g; exact g
  | exc c' fs S' => rw [hms] at g; exact fun ρ' H' od x1 r1 q => g ρ' σ H' od x1 r1 (RepE.ext x1 re) q
  | ok xs S' =>
    rw [hms] at g
    dsimp only at g
    by_cases hl : xs.length = fi.length
    · rw [if_pos hl] at g
      intro ρ' ws H' x1 r1 rv
      have hw : ws.length = fi.length := by rw [← RepVs.length rv]; exact hl
      refine ⟨by omega, fun a na => ?_⟩
      rw [List.append_nil]
      refine ⟨a, C, ws, rfl, by rw [hw, List.length_map], by simpa using hfi.1, by rw [List.length_map]; exact hfi.2, T, hno, upd_same, fun d nd hne => ⟨rfl, d, ((fi.map G.fld).zip ws).reverse, upd_same, ?_, ?_, ?_⟩⟩
      · rw [upd_ne hne, upd_same]
      · rw [upd_ne hne] at nd; exact nd
      · have nd' : H' d = none := by rw [upd_ne hne] at nd; exact nd
        rw [upd_made na hne]
        have xx : Ext ρ' H' ρ' (upd H' d (.xd ((fi.map G.fld).zip ws).reverse)) := Ext.laid nd'
        rw [← hC]
        exact g ρ' σ _ (some d) (x1.trans xx) (r1.laid nd') (RepE.ext xx (RepE.ext x1 re)) (.inr ⟨d, _, rfl, upd_same, RepF.ext xx (RepF.ofZip rv hl)⟩)
    · rw [if_neg hl] at g; exact g.elim
end
end PK
/-! ### an exception made with keywords alone; one without an __init__ of its own -/
namespace PK
open PySem PySem.Spec PyProof.Rows L2
/-- C(k = v, ..) -/
def tMkK (C : Addr) (m : Nat) (sp : Sp) (gV : List V → List V → List V) (tk : TA) : L2.St → Hp → XK → Prop := fun σ H Q => tk σ H fun zs H1 => zs.length = m ∧ ∀ a, H1 a = none → sp (gV [.ref a] zs) (upd H1 a (exo a C none))
  (fun v H2 => v = .non ∧ ∃ (d : Addr) (fs : List (Str × V)), H2 a = some (exo a C (some d)) ∧ H2 d = some (exd d fs) ∧ H1 d = none ∧ Q (.ref C) (some d) (upd (del H2 a) d (.xd fs))) (fun _ _ _ => False)
section
variable {X : Cx} {CX : CXT} {x : Str} {C fI : Addr} {k : Nat} {fd : FuncData} {ps ks : List Str} {sp : Sp} {kws : List Keyword} {tk : TA} {g : List Value → List Value → List Value} {gV : List V → List V → List V} {p pos : Pos}
theorem pmk_kw (T : OexC X.K C) (iC : PySem.W.findIn X.K (.ref C) "__init__" = some (some (.ref fI))) (tI : PySem.W.typeIn X.K (.ref fI) = some (.type "function"))
    (F1 : FnOk X.prog X.w X.K X.mg X.base CX k fI fd ps sp) (hr : Room (k + 1) X.A) (hb : KBn X.K fd ps 1 ks g gV) (hx : Passes CX X (fun _ _ _ => False)) (hg : Gl X x) (hm : X.mg x = some (.ref C)) (hkw : L2.PK X kws tk)
    (hall : (backToKw pos (keywordEach kws X.env)).all (·.1.isSome) = true) (hks : (backToKw pos (keywordEach kws X.env)).filterMap (·.1) = ks) (hdb : (x == ("__debug__" : Str)) = false)
    (hpl : ((backTo pos (starEach [] X.env)).any (·.1) || (backToKw pos (keywordEach kws X.env)).any (·.1.isNone)) = false) :
    PMk X (.Call (.Name x p) [] kws pos) (tMkK C ks.length sp gV tk) := by
  intro pins s σ H Q I h
  obtain ⟨nm, q, N, bs, bm, sn, sub, ab, col, dd, k0, k1, k2, k3, k5, hC, hbm⟩ := T.cls
  refine wpAny_Call_Name_kw (ld_glob I hg hm ?_ hdb)
  refine PySem.W.callWith_KW0 (h₀ := X.base) I.ok.mod.kin T.kC hall (thn (hkw.run pos pins s σ H _ I h) fun ws s1 ⟨zs, H1, I1, r1, hz, q1⟩ => ⟨I1.kIn, ?_⟩) hpl
  rw [hks]
  show wpAny _ _ (call (.ref C) [] (ks.zip ws)) _ _ _
  obtain ⟨hp, gg, dr, tt, os⟩ := s1
  have big : hp.objs.size ≤ hp.objs.size + 1 := Nat.le_succ _
  have sp1 := q1 (hp.objs.size + 1) (I1.hok.fresh big)
  have keep : ∀ b o, hp.get? b = some o → ((hp.push (PySem.W.kdv_tup [])).push (PySem.HandSPX.excO C hp.objs.size)).get? b = some o := fun b o e => Heap.get?_push_of_some _ (Heap.get?_push_of_some _ e)
  have here : ((hp.push (PySem.W.kdv_tup [])).push (PySem.HandSPX.excO C hp.objs.size)).get? (hp.objs.size + 1) = some (PySem.HandSPX.excO C hp.objs.size) := by heap_get
  have I2 : Inv X pins σ (upd H1 (hp.objs.size + 1) (exo (hp.objs.size + 1) C none)) ⟨(hp.push (PySem.W.kdv_tup [])).push (PySem.HandSPX.excO C hp.objs.size), gg, dr, tt, os⟩ :=
    I1.laid (t' := tt) (a := hp.objs.size + 1) (o := exo (hp.objs.size + 1) C none) (h' := (hp.push (PySem.W.kdv_tup [])).push (PySem.HandSPX.excO C hp.objs.size)) keep big (exo_ok here)
  have rs : Vals [V.ref (hp.objs.size + 1)] [Value.ref (hp.objs.size + 1)] := .cons rfl .nil
  have r2 := hb.rel rs r1
  refine wpAny_call (kx_call F.excBase_ValueError (fun Y => PySem.HandSPX.refsVE_contains Y bm hbm) (I1.kIn _ _ hC) (PySem.W.looks_findIn I1.kIn iC) (fun v => PySem.W.bind_fn I1.kIn v tI) (Nat.zero_le _)
    (codeAny_mono (F1.run _ X.stack _ _ ⟨[Value.ref (hp.objs.size + 1)], ks.zip ws⟩ (g [Value.ref (hp.objs.size + 1)] ws) _ _ (fun _ _ _ => False) (hr.make C [] (ks.zip ws)) (I2.env0.make C [] (ks.zip ws)) (hb.to _ [Value.ref (hp.objs.size + 1)] ws I2.kIn rfl (r1.length.symm.trans hz)) r2 sp1) fun r s' y => ?_))
  cases r with
  | error er => exact hx pins σ _ _ er s' I2 y
  | ok fl =>
    cases fl with
    | ret u =>
      obtain ⟨v, H2, o2, bare, un, hok2, rv, ev, d, fs, ea, ed, hd1, q2⟩ := y
      subst ev
      obtain ⟨h2, g2, d2, t2, os'⟩ := s'
      exact ⟨rv, mk_end (raises_own T.exC T.tyC) I1 big keep un hok2 o2 bare ea ed hd1 q2⟩
    | next => exact False.elim y
    | brk => exact False.elim y
    | cont => exact False.elim y
/-- C() -/
theorem pmk_bare {bmB : List Value} {B newId initId : String} (F : ExcBaseFacts B newId initId bmB) (q : PySem.W.excIn X.K C bmB newId = true) (gC : X.mg x = some (.ref C)) (kC : PySem.W.keepIn X.K (.ref C) = true) (r : Raises X (.ref C)) (hg : Gl X x)
    (hdb : (x == ("__debug__" : Str)) = false) : PMk X (.Call (.Name x p) [] [] pos) (fun _ H Q => Q (.ref C) none H) := by
  intro pins s σ H Q I h
  refine wpAny_Call_Name_kw (ld_glob I hg gC ?_ hdb)
  refine PySem.W.callWith_K0 I.kIn kC ?_
  show wpAny _ _ (call (.ref C) []) _ _ _
  obtain ⟨hp, gg, dr, tt, os⟩ := s
  obtain ⟨bm, N, nm, qn, bs, hd, sn, sub, ab, col, dd, k0, k1, k2, k3, k5, mN, hC, hN, hni, T⟩ := exc_obj I.kIn q
  exact wpAny_call_exc_subT F T hC hN hni (fun h' e hm => mk_of I hm r h (I.hok.gone hm.new)) (Nat.zero_le _)
end
end PK
/-! ### raise, the exception made in other ways: C(), C(f = e, ..), C(e) with self.f = list(f) -/
namespace PK
open PySem PySem.Spec PyProof.Rows L2
abbrev MF := List D → List DO → Option (Nat × List (Nat × D))
def mfB (c : Nat) : MF := fun xs _ => match xs with
  | [] => some (c, [])
  | _ => none
def mfK (c : Nat) (fi pm : List Nat) : MF := fun xs _ => if xs.length = fi.length then some (c, (fi.zip (pm.map fun j => xs.getD j .non)).reverse) else none
def mfL (c f : Nat) : MF := fun xs S => match xs with
  | [d] => (viewS S d).map fun ys => (c, [(f, .lst ys)])
  | _ => none
def sMk (mf : MF) (ms : Env → EM (List D)) : SM := fun E S => match ms E S with
  | .ok xs S' => match mf xs S' with
    | some (c, fs) => .exc c fs E S'
    | none => .stuck
  | .exc c' fs S' => .exc c' fs E S'
  | .stuck => .stuck
/-- self.f = list(f) -/
def spR (K : PySem.W.Frag) (f : Str) : Sp := fun vs H Q E => ∃ (a C p : Addr) (ys : List V), vs = [.ref a, .ref p] ∧ OexC K C ∧ PySem.W.findIn K (.ref C) f = some none ∧ H a = some (exo a C none) ∧ (SqL K H p ys ∨ SqT K H p ys) ∧
  ∀ l ob, H l = none → ∀ d, upd H l (.frz ob (.lst ys)) d = none → d ≠ a → Q .non (upd (upd (upd H l (.frz ob (.lst ys))) d (exd d [(f, .ref l)])) a (exo a C (some d)))
theorem initL_fnOk {P : Program} {w : World} {K : PySem.W.Frag} {mg : Str → Option Value} {base : Heap} {x qual self f : Str} {params : Arguments} {scope : Scope} {g : Addr} {fd : FuncData} {CX : CXT} {p p1 p2 p3 p4 pos : Pos}
    (F : FunD K x qual params [.Assign [.Attribute (.Name self p) f p1] (.Call (.Name "list" p2) [.Name f p3] [] p4) pos] scope [] [] g fd) (S : FnScope [self, f] [self, f] scope) (hv : ∀ x ∈ [self, f], Vis scope x ∧ (x == ("__debug__" : Str)) = false ∧ (x == ("__classdict__" : Str)) = false)
    (hl : scope.names.lookup ("list" : Str) = some .globalImplicit) (hm : mg "list" = none) (k : Nat) : FnOk P w K mg base CX (k + 1) g fd [self, f] (spR K f) := by
  refine F.ok S (fun vs H Q E ⟨a, C, q, ys, e, _⟩ => by rw [e]; rfl) fun cdv A outer s H vs Q E hr hs => ?_
  obtain ⟨a, C, q, ys, rfl, T, hf, ha, hq, z⟩ := hs
  obtain ⟨v1, v2, v3⟩ := hv self (by simp)
  obtain ⟨u1, u2, u3⟩ := hv f (by simp)
  have e1 := pe_var (X := cxOf CX P w K mg base [self, f] qual scope g cdv A outer s H E) (i := 0) (x := self) (pos := p) rfl v1 v2 v3
  have e2 := pe_var (X := cxOf CX P w K mg base [self, f] qual scope g cdv A outer s H E) (i := 1) (x := f) (pos := p3) rfl u1 u2 u3
  have hgl : Gl (cxOf CX P w K mg base [self, f] qual scope g cdv A outer s H E) "list" := hl
  have e3 := pe_frz (pe_callTy (p := p2) (pos := p4) call_list_of hgl hm (show bootBuiltins "list" = some (.type "list") by rfl) (pa_cons e2 pa_nil) (by decide) (by decide))
  refine ⟨_, pss_cons (ps_ost e1 e3) pss_nil, ?_⟩
  refine ⟨.ref q, rfl, q, ys, rfl, hq, fun l hl => ⟨l, .lst ys, rfl, upd_same, trivial, fun ob => ?_⟩⟩
  rw [upd_upd]
  have hal : a ≠ l := fun e => by rw [e, hl] at ha; cases ha
  refine ⟨.ref a, rfl, a, C, rfl, T, hf, .inl ⟨by rw [upd_ne hal]; exact ha, fun d nd hne => ?_⟩⟩
  exact z l ob hl d nd hne
section
variable {X : Cx} {G : Cls} {W : L2.WX} {x self : Str} {C fI : Addr} {c k : Nat} {fd : FuncData} {fi pm : List Nat} {ks : List Str} {e : Expr} {es : List Expr} {kws : List Keyword} {ms : Env → EM (List D)} {p pos pos2 : Pos}
theorem ps_mkB {bmB : List Value} {B iN iI : String} (F : ExcBaseFacts B iN iI bmB) (q : PySem.W.excIn X.K C bmB iN = true) (gC : X.mg x = some (.ref C)) (kC : PySem.W.keepIn X.K (.ref C) = true) (r : Raises X (.ref C)) (hg : Gl X x) (hdb : (x == ("__debug__" : Str)) = false)
    (hc : X.calm = true) (tk : Takes X W) (hC : G.addr c = C) : PS X (.Raise (some (.Call (.Name x p) [] [] pos)) none pos2) (tS X.K G W (sMk (mfB c) eNil)) := by
  have base := ps_raise (e := .Call (.Name x p) [] [] pos) (pos := pos2) hc tk (pmk_bare F q gC kC r hg hdb)
  refine ⟨fun pins s σ H D I h => base.run pins s σ H D I ?_⟩
  obtain ⟨ρ, S, E, rp, re, g⟩ := h
  have g' : GoS X.K G W ρ H (.exc c [] E S) D := g
  show W (.ref C) none σ H
  rw [← hC]
  exact g' ρ σ H none (Ext.refl _ _) rp re (.inl ⟨rfl, rfl⟩)
theorem RepVs.at {K : PySem.W.Frag} {ρ : List (Option Addr)} {H : Hp} : ∀ {xs : List D} {ws : List V} (j : Nat), RepVs K G ρ H xs ws → RepV K G ρ H (xs.getD j .non) (ws.getD j .non)
  | [], [], j, .nil => by rw [List.getD_nil, List.getD_nil]; exact .non
  | x :: xs, w :: ws, 0, .cons h r => h
  | x :: xs, w :: ws, j + 1, .cons h r => by
    rw [List.getD_cons_succ, List.getD_cons_succ]
    exact RepVs.at j r
theorem RepVs.perm {K : PySem.W.Frag} {ρ : List (Option Addr)} {H : Hp} {xs : List D} {ws : List V} (r : RepVs K G ρ H xs ws) : ∀ pm : List Nat, RepVs K G ρ H (pm.map fun j => xs.getD j .non) (pm.map fun j => ws.getD j .non)
  | [] => .nil
  | j :: pm => .cons (RepVs.at j r) (RepVs.perm r pm)
theorem ps_mkK (T : OexC X.K C) (iC : PySem.W.findIn X.K (.ref C) "__init__" = some (some (.ref fI))) (tI : PySem.W.typeIn X.K (.ref fI) = some (.type "function"))
    (F1 : FnOk X.prog X.w X.K X.mg X.base (L2.CX X.prog X.w) k fI fd (self :: fi.map G.fld) (spI X.K (fi.map G.fld))) (hr : Room (k + 1) X.A) (hb : KBn X.K fd (self :: fi.map G.fld) 1 ks (fun us ws => us ++ pm.map fun j => ws.getD j .none) (fun vs zs => vs ++ pm.map fun j => zs.getD j .non))
    (hc : X.calm = true) (tk : Takes X W) (hg : Gl X x) (hm : X.mg x = some (.ref C)) (hC : G.addr c = C) (hfi : fi ≠ [] ∧ fi.length ≤ 800) (hpm : pm.length = fi.length) (hkl : ks.length = fi.length) (hno : ∀ f ∈ fi.map G.fld, PySem.W.findIn X.K (.ref C) f = some none)
    (hkw : L2.PK X kws (tA X.K G W ms)) (hdb : (x == ("__debug__" : Str)) = false) (hall : (backToKw pos (keywordEach kws X.env)).all (·.1.isSome) = true) (hks : (backToKw pos (keywordEach kws X.env)).filterMap (·.1) = ks)
    (hpl : ((backTo pos (starEach [] X.env)).any (·.1) || (backToKw pos (keywordEach kws X.env)).any (·.1.isNone)) = false) :
    PS X (.Raise (some (.Call (.Name x p) [] kws pos)) none pos2) (tS X.K G W (sMk (mfK c fi pm) ms)) := by
  have base := ps_raise (e := .Call (.Name x p) [] kws pos) (pos := pos2) hc tk (pmk_kw T iC tI F1 hr hb (passes_call tk fun _ _ _ _ h => h.elim) hg hm hkw hall hks hdb hpl)
  refine ⟨fun pins s σ H D I h => base.run pins s σ H D I ?_⟩
  obtain ⟨ρ, S, E, rp, re, g⟩ := h
  unfold sMk at g
  refine ⟨ρ, S, E, rp, re, ?_⟩
  cases hms : ms E S with
  | stuck => rw [hms] at g; exact g
  | exc c' fs S' => rw [hms] at g; exact fun ρ' H' od x1 r1 q => g ρ' σ H' od x1 r1 (RepE.ext x1 re) q
  | ok xs S' =>
    rw [hms] at g
    unfold mfK at g
    dsimp only at g
    by_cases hl : xs.length = fi.length
    · rw [if_pos hl] at g
      intro ρ' ws H' x1 r1 rv
      have hw : ws.length = fi.length := by rw [← RepVs.length rv]; exact hl
      refine ⟨by rw [hw, hkl], fun a na => ?_⟩
      have rv' := RepVs.perm rv pm
      refine ⟨a, C, pm.map fun j => ws.getD j .non, rfl, by rw [List.length_map, List.length_map, hpm], by simpa using hfi.1, by rw [List.length_map]; exact hfi.2, T, hno, upd_same, fun d nd hne => ⟨rfl, d, ((fi.map G.fld).zip (pm.map fun j => ws.getD j .non)).reverse, upd_same, ?_, ?_, ?_⟩⟩
      · rw [upd_ne hne, upd_same]
      · rw [upd_ne hne] at nd; exact nd
      · have nd' : H' d = none := by rw [upd_ne hne] at nd; exact nd
        rw [upd_made na hne]
        have xx : Ext ρ' H' ρ' (upd H' d (.xd ((fi.map G.fld).zip (pm.map fun j => ws.getD j .non)).reverse)) := Ext.laid nd'
        rw [← hC]
        exact g ρ' σ _ (some d) (x1.trans xx) (r1.laid nd') (RepE.ext xx (RepE.ext x1 re)) (.inr ⟨d, _, rfl, upd_same, RepF.ext xx (RepF.ofZip rv' (by rw [List.length_map]; exact hpm))⟩)
    · rw [if_neg hl] at g; exact g.elim
/-- what is left of the heap when the list is laid too -/
theorem upd_madeL {H : Hp} {a d l : Addr} {x y z w u : HO} (ha : H a = none) (hd : d ≠ a) (hl : l ≠ a) : upd (del (upd (upd (upd (upd H a x) l u) d y) a z) a) d w = upd (upd H l u) d w := by
  funext b
  by_cases h1 : b = d
  · subst h1; rw [upd_same, upd_same]
  · rw [upd_ne h1, upd_ne h1]
    by_cases h2 : b = a
    · subst h2; rw [del_same, upd_ne (Ne.symm hl), ha]
    · rw [del_ne h2, upd_ne h2, upd_ne h1]
      by_cases h3 : b = l
      · subst h3; rw [upd_same, upd_same]
      · rw [upd_ne h3, upd_ne h3, upd_ne h2]
theorem SqL.laid {K : PySem.W.Frag} {H : Hp} {p a : Addr} {o : HO} {us : List V} (hp : H p = none) (h : SqL K H a us) : SqL K (upd H p o) a us := by
  rcases h with (e | ⟨w, e⟩) | z
  · exact .inl (.inl (by rw [upd_ne (ne_of_none e hp)]; exact e))
  · exact .inl (.inr ⟨w, by rw [upd_ne (ne_of_none e hp)]; exact e⟩)
  · exact .inr z
theorem SqT.laid {K : PySem.W.Frag} {H : Hp} {p a : Addr} {o : HO} {us : List V} (hp : H p = none) (h : SqT K H a us) : SqT K (upd H p o) a us := by
  rcases h with (e | ⟨w, e⟩) | z
  · exact .inl (.inl (by rw [upd_ne (ne_of_none e hp)]; exact e))
  · exact .inl (.inr ⟨w, by rw [upd_ne (ne_of_none e hp)]; exact e⟩)
  · exact .inr z
theorem spR_of {f : Nat} {ρ : List (Option Addr)} {S : List DO} {H : Hp} {d0 : D} {v : V} {ys : List D} {E : Env} {σ : L2.St} {D : Ends} {E0 : XK} (T : OexC X.K C) (hno : PySem.W.findIn X.K (.ref C) (G.fld f) = some none) (hC : G.addr c = C) (rp : Rep X.K G ρ S H) (re : RepE X.K G ρ H E σ) (q : RepV X.K G ρ H d0 v) (hv : viewS S d0 = some ys)
    (g : GoS X.K G W ρ H (.exc c [(f, .lst ys)] E S) D) {a : Addr} (na : H a = none) : spR X.K (G.fld f) [.ref a, v] (upd H a (exo a C none))
      (fun w H2 => w = .non ∧ ∃ (d : Addr) (fs : List (Str × V)), H2 a = some (exo a C (some d)) ∧ H2 d = some (exd d fs) ∧ H d = none ∧ W (.ref C) (some d) σ (upd (del H2 a) d (.xd fs))) E0 := by
  obtain ⟨b, us, rfl, h1, h2⟩ := viewS_ok rp q hv
  have h1' : SqL X.K (upd H a (exo a C none)) b us ∨ SqT X.K (upd H a (exo a C none)) b us := h1.imp (SqL.laid na) (SqT.laid na)
  refine ⟨a, C, b, us, rfl, T, hno, upd_same, h1', fun l ob hl d nd hne => ?_⟩
  have hla : l ≠ a := fun z => by rw [z, upd_same] at hl; cases hl
  have hl' : H l = none := by rw [upd_ne hla] at hl; exact hl
  have hdl : d ≠ l := fun z => by rw [z, upd_same] at nd; cases nd
  have nd' : H d = none := by rw [upd_ne hdl, upd_ne hne] at nd; exact nd
  refine ⟨rfl, d, [(G.fld f, .ref l)], upd_same, by rw [upd_ne hne, upd_same], nd', ?_⟩
  rw [upd_madeL na hne hla]
  have nd2 : upd H l (.frz ob (.lst us)) d = none := by rw [upd_ne hdl]; exact nd'
  have x1 : Ext ρ H ρ (upd H l (.frz ob (.lst us))) := Ext.laid hl'
  have x2 : Ext ρ (upd H l (.frz ob (.lst us))) ρ (upd (upd H l (.frz ob (.lst us))) d (.xd [(G.fld f, .ref l)])) := Ext.laid nd2
  rw [← hC]
  refine g ρ σ _ (some d) (x1.trans x2) ((rp.laid hl').laid nd2) (RepE.ext x2 (RepE.ext x1 re)) (.inr ⟨d, _, rfl, upd_same, .cons (.lst (o := ob) ?_ (RepVs.ext x2 (RepVs.ext x1 h2))) .nil⟩)
  rw [upd_ne (Ne.symm hdl), upd_same]
/-- raise C(e), C's __init__: self.f = list(f) -/
theorem ps_mkL {f : Nat} (T : OexC X.K C) (iC : PySem.W.findIn X.K (.ref C) "__init__" = some (some (.ref fI))) (tI : PySem.W.typeIn X.K (.ref fI) = some (.type "function"))
    (F1 : FnOk X.prog X.w X.K X.mg X.base (L2.CX X.prog X.w) k fI fd [self, G.fld f] (spR X.K (G.fld f))) (hr : Room (k + 1) X.A) (hb : Binds X.K fd [self, G.fld f] [])
    (hc : X.calm = true) (tk : Takes X W) (hg : Gl X x) (hm : X.mg x = some (.ref C)) (hC : G.addr c = C) (hno : PySem.W.findIn X.K (.ref C) (G.fld f) = some none)
    (ha : PA X (e :: es) (tA X.K G W ms)) (hdb : (x == ("__debug__" : Str)) = false) (he : starEach (e :: es) X.env = (false, eval e X.env) :: starEach es X.env) (hpl : (backTo pos (starEach es X.env)).any (·.1) = false) :
    PS X (.Raise (some (.Call (.Name x p) (e :: es) [] pos)) none pos2) (tS X.K G W (sMk (mfL c f) ms)) := by
  have base := ps_raise (e := .Call (.Name x p) (e :: es) [] pos) (pos := pos2) hc tk (pmk_oex T iC tI F1 hr hb .nil (passes_call tk fun _ _ _ _ h => h.elim) hg hm ha hdb he hpl)
  refine ⟨fun pins s σ H D I h => base.run pins s σ H D I ?_⟩
  obtain ⟨ρ, S, E, rp, re, g⟩ := h
  unfold sMk at g
  refine ⟨ρ, S, E, rp, re, ?_⟩
  cases hms : ms E S with
  | stuck => rw [hms] at g; exact g
  | exc c' fs S' => rw [hms] at g; exact fun ρ' H' od x1 r1 q => g ρ' σ H' od x1 r1 (RepE.ext x1 re) q
  | ok xs S' =>
    rw [hms] at g
    unfold mfL at g
    dsimp only at g
    intro ρ' ws H' x1 r1 rv
    split at g
    · rename_i c1 fs1 hz
      split at hz
      · rename_i d0
        obtain ⟨ys, hv, e1⟩ := Option.map_eq_some_iff.mp hz
        cases e1
        obtain ⟨v, rfl, q1⟩ := rv.one
        exact ⟨by simp, fun a na => spR_of T hno hC r1 (RepE.ext x1 re) q1 hv (GoS.ext x1 g) na⟩
      · cases hz
    · exact g.elim
/-- raise C(f = e) of such a class -/
theorem ps_mkLK {f : Nat} (T : OexC X.K C) (iC : PySem.W.findIn X.K (.ref C) "__init__" = some (some (.ref fI))) (tI : PySem.W.typeIn X.K (.ref fI) = some (.type "function"))
    (F1 : FnOk X.prog X.w X.K X.mg X.base (L2.CX X.prog X.w) k fI fd [self, G.fld f] (spR X.K (G.fld f))) (hr : Room (k + 1) X.A) (hb : KBn X.K fd [self, G.fld f] 1 ks (fun us ws => us ++ ws) (fun vs zs => vs ++ zs))
    (hc : X.calm = true) (tk : Takes X W) (hg : Gl X x) (hm : X.mg x = some (.ref C)) (hC : G.addr c = C) (hkl : ks.length = 1) (hno : PySem.W.findIn X.K (.ref C) (G.fld f) = some none)
    (hkw : L2.PK X kws (tA X.K G W ms)) (hdb : (x == ("__debug__" : Str)) = false) (hall : (backToKw pos (keywordEach kws X.env)).all (·.1.isSome) = true) (hks : (backToKw pos (keywordEach kws X.env)).filterMap (·.1) = ks)
    (hpl : ((backTo pos (starEach [] X.env)).any (·.1) || (backToKw pos (keywordEach kws X.env)).any (·.1.isNone)) = false) :
    PS X (.Raise (some (.Call (.Name x p) [] kws pos)) none pos2) (tS X.K G W (sMk (mfL c f) ms)) := by
  have base := ps_raise (e := .Call (.Name x p) [] kws pos) (pos := pos2) hc tk (pmk_kw T iC tI F1 hr hb (passes_call tk fun _ _ _ _ h => h.elim) hg hm hkw hall hks hdb hpl)
  refine ⟨fun pins s σ H D I h => base.run pins s σ H D I ?_⟩
  obtain ⟨ρ, S, E, rp, re, g⟩ := h
  unfold sMk at g
  refine ⟨ρ, S, E, rp, re, ?_⟩
  cases hms : ms E S with
  | stuck => rw [hms] at g; exact g
  | exc c' fs S' => rw [hms] at g; exact fun ρ' H' od x1 r1 q => g ρ' σ H' od x1 r1 (RepE.ext x1 re) q
  | ok xs S' =>
    rw [hms] at g
    unfold mfL at g
    dsimp only at g
    intro ρ' ws H' x1 r1 rv
    split at g
    · rename_i c1 fs1 hz
      split at hz
      · rename_i d0
        obtain ⟨ys, hv, e1⟩ := Option.map_eq_some_iff.mp hz
        cases e1
        obtain ⟨v, rfl, q1⟩ := rv.one
        exact ⟨hkl.symm, fun a na => spR_of T hno hC r1 (RepE.ext x1 re) q1 hv (GoS.ext x1 g) na⟩
      · cases hz
    · exact g.elim
end
end PK
/-! ### what a way of making an exception must be -/
namespace PK
open PySem PySem.Spec PyProof.Rows L2
def bmVE : List Value := [.type "ValueError", .type "Exception", .type "BaseException", .type "object"]
abbrev gK {α : Type} (z : α) (pm : List Nat) : List α → List α → List α := fun us ws => us ++ pm.map fun j => ws.getD j z
def MkF (P : Program) (w : World) (K : PySem.W.Frag) (mg : Str → Option Value) (base : Heap) (G : Cls) (n : Nat) (mf : MF) (c : Nat) (o : Option (List Str)) : Prop :=
  (o = some [] ∧ mf = mfB c ∧ PySem.W.excIn K (G.addr c) bmVE "ValueError.__new__" = true) ∨
  ∃ (k : Nat) (fI : Addr) (fd : FuncData) (self : Str), n = k + 1 ∧ PySem.W.findIn K (.ref (G.addr c)) "__init__" = some (some (.ref fI)) ∧ PySem.W.typeIn K (.ref fI) = some (.type "function") ∧
    ((∃ (fi pm : List Nat) (ks : List Str), o = some ks ∧ mf = mfK c fi pm ∧ FnOk P w K mg base (L2.CX P w) k fI fd (self :: fi.map G.fld) (spI K (fi.map G.fld)) ∧ KBn K fd (self :: fi.map G.fld) 1 ks (gK .none pm) (gK .non pm) ∧
        (fi ≠ [] ∧ fi.length ≤ 800) ∧ pm.length = fi.length ∧ ks.length = fi.length ∧ ∀ f ∈ fi.map G.fld, PySem.W.findIn K (.ref (G.addr c)) f = some none) ∨
      ∃ f : Nat, mf = mfL c f ∧ FnOk P w K mg base (L2.CX P w) k fI fd [self, G.fld f] (spR K (G.fld f)) ∧ PySem.W.findIn K (.ref (G.addr c)) (G.fld f) = some none ∧
        ((o = none ∧ Binds K fd [self, G.fld f] []) ∨ ∃ ks : List Str, o = some ks ∧ ks.length = 1 ∧ KBn K fd [self, G.fld f] 1 ks (fun us ws => us ++ ws) (fun vs zs => vs ++ zs)))
def asMk : Stmt → Option (Str × List Expr × List Keyword)
  | .Raise (some (.Call (.Name x _) es ks _)) none _ => some (x, es, ks)
  | _ => none
theorem asMk_eq {s : Stmt} {x : Str} {es : List Expr} {ks : List Keyword} (h : asMk s = some (x, es, ks)) : ∃ p q r, s = .Raise (some (.Call (.Name x p) es ks q)) none r := by
  unfold asMk at h
  split at h
  · cases h; exact ⟨_, _, _, rfl⟩
  · cases h
def kwEs : List Keyword → Option (List (Str × Expr))
  | [] => some []
  | ⟨some n, e, _⟩ :: r => (kwEs r).map ((n, e) :: ·)
  | _ => none
theorem kwEs_cons {q : Keyword} {r : List Keyword} {l : List (Str × Expr)} (h : kwEs (q :: r) = some l) : ∃ n e p l', q = ⟨some n, e, p⟩ ∧ kwEs r = some l' ∧ l = (n, e) :: l' := by
  obtain ⟨nm, e, p⟩ := q
  cases nm with
  | none => cases h
  | some n =>
    obtain ⟨l', h1, h2⟩ := Option.map_eq_some_iff.mp (show (kwEs r).map ((n, e) :: ·) = some l from h)
    exact ⟨n, e, p, l', rfl, h1, h2.symm⟩
theorem FunD.kbindsK {K : PySem.W.Frag} {x qual : Str} {params : Arguments} {body : List Stmt} {scope : Scope} {f : Addr} {fd : FuncData} {ps : List Str} (F : FunD K x qual params body scope [] [] f fd) (n : Nat) (ks : List Str) (g : List Value → List Value → List Value) (gV : List V → List V → List V)
    (hrel : ∀ {vs : List V} {us : List Value} {zs : List V} {ws : List Value}, Vals vs us → Vals zs ws → Vals (gV vs zs) (g us ws))
    (h : ∀ (kV doc pm : Value) (an : Option Addr) (cdv ct : Value) (us ws : List Value), us.length = n → ws.length = ks.length → bindArgs (PySem.W.fnOf x qual params body scope .none kV doc pm an cdv ct) ⟨us, ks.zip ws⟩ = pure (ps.zip (g us ws))) : KBn K fd ps n ks g gV := by
  obtain ⟨oc, od, dV, kV, doc, pm, an, cdv, ct, osl, rfl, lk, hcd, hD, hK⟩ := F.ex
  rcases hD with ⟨_, rfl⟩ | ⟨e, _⟩
  · exact ⟨fun s us ws _ l1 l2 => .of_eq (h kV doc pm an cdv ct us ws l1 l2), fun r1 r2 => hrel r1 r2⟩
  · exact absurd rfl e
theorem vals_at : ∀ {zs : List V} {ws : List Value} (j : Nat), Vals zs ws → RelV (zs.getD j .non) (ws.getD j .none)
  | _, _, j, .nil => by rw [List.getD_nil, List.getD_nil]; exact rfl
  | _, _, 0, .cons h r => h
  | _, _, j + 1, .cons h r => by
    rw [List.getD_cons_succ, List.getD_cons_succ]
    exact vals_at j r
theorem vals_perm {zs : List V} {ws : List Value} (r : Vals zs ws) : ∀ pm : List Nat, Vals (pm.map fun j => zs.getD j .non) (pm.map fun j => ws.getD j .none)
  | [] => .nil
  | j :: pm => .cons (vals_at j r) (vals_perm r pm)
section
variable {X : Cx} {G : Cls} {W : L2.WX} {e : Expr} {kws : List Keyword} {m : Env → EM D} {ms : Env → EM (List D)} {nm : Option Str} {p : Pos}
theorem pk_nilM : L2.PK X [] (tA X.K G W eNil) := ⟨fun pos pins s σ H Q I ⟨ρ, S, E, r, re, g⟩ => pk_nil.run pos pins s σ H Q I (g.here r .nil)⟩
theorem pk_consM (he : PE X e (tM X.K G W m)) (hr : L2.PK X kws (tA X.K G W ms)) : L2.PK X (⟨nm, e, p⟩ :: kws) (tA X.K G W (eCons m ms)) := by
  refine ⟨fun pos pins s σ H Q I ⟨ρ, S, E, rp, re, g⟩ => (pk_cons he hr).run pos pins s σ H Q I ?_⟩
  refine ⟨ρ, S, E, rp, re, Go.mono (Go.bind g) ?_⟩
  rintro v1 H1 ⟨ρ1, S1, x, x1, r1, q1, g1⟩
  refine ⟨ρ1, S1, E, r1, RepE.ext x1 re, Go.mono (Go.bind g1) ?_⟩
  rintro vs H2 ⟨ρ2, S2, xs, x2, r2, q2, g2⟩
  exact g2.here r2 (.cons (RepV.ext x2 q1) q2)
end
end PK
namespace PK
open PySem PySem.Spec PyProof.Rows L2

/-! ### the text once more, slots for names -/
inductive BOp where | add | sub | mul | fdiv | mod | pow
inductive COp where | eq | ne | lt | le | gt | ge | is | isNot | inD | notInD
inductive BI where | len | abs | min | max | all
inductive TI0 where | int | str | tuple
mutual
inductive IE where
  | var (i : Nat) | int (i : Int) | bl (b : Bool) | non | str (x : Str) | glo (g : Nat)
  | tup (es : IEs) | new (c : IC) | box (c : IC) | frz (i : Nat)
  | bin (o : BOp) (a b : IE) | neg (a : IE) | cmp (o : COp) (a b : IE) | ife (t : IT) (a b : IE)
  | andV (a b : IE) | andV1 (a : IE) | orV (a b : IE) | orV1 (a : IE) | notV (a : IE)
  | idx (a b : IE) | cut (a : IE) (lo hi : IO)
  | bi (f : BI) (e : IE) (es : IEs) | ty (f : TI0) (e : IE) (es : IEs) | isT (t : Ty0) (e : IE)
  | call (pu : Bool) (f : Nat) (e : IE) (es : IEs)
  | frzE (e : IE) | lckv (i : Nat) | app (o e : IE) | get (o e : IE) (es : IEs)
  | callK (j f : Nat) (e : IE) (es : IEs) (b : IE)
  | join (o e : IE) (es : IEs) | chain (p q : COp) (a b c : IE)
  | fld (f : Nat) (e : IE) | isX (t : Nat) (e : IE)
inductive IT where
  | val (e : IE) | cmp (o : COp) (a b : IE) | chain (p q : COp) (a b c : IE) | and (a b : IT) | and1 (a : IT) | or (a b : IT) | or1 (a : IT) | not (a : IT)
inductive IO where
  | none | some (e : IE)
inductive IEs where
  | nil | cons (e : IE) (es : IEs)
inductive IC where
  | dnew | disp (k v : IE) | lst (es : IEs) | cat (a b : IE) | rep (c : IC) (b : IE) | cut (a : IE) (lo hi : IO) | list (e : IE)
  | lc (it : II) (t : Tgt) (own : List (Str × Nat)) (c : ITo) (m : IE)
  | dc (it : II) (t : Tgt) (own : List (Str × Nat)) (c : ITo) (k m : IE)
  | sorted (e : IE) | keysL (e : IE) | split (o e : IE) (es : IEs)
inductive ITo where
  | none | some (t : IT)
inductive II where
  | seq (e : IE) | rng1 (e : IE) | rng2 (a b : IE) | revr (e : IE) | rev (e : IE) | zip (a b : IE) | enum (e : IE) | keys (e : IE) | items (e : IE) | chars (e : IE)
end
mutual
inductive IS where
  | set (i : Nat) (e : IE) | tup (t : Tgt) (e : IE) | sub (o i e : IE) | setC (i : Nat) (c : IC) | boxC (i : Nat) (c : IC)
  | expr (e : IE) | ret (e : IE) | retN | ifS (t : IT) (a b : ISs) | forS (t : Tgt) (it : II) (b : ISs) | whileS (t : IT) (b : ISs)
  | brk | cont | pass | doc | never | lock (i : Nat) (s : IS) | par (i j : Nat) (es : IEs)
  | raise (c : Nat) (e : IE) (es : IEs) | mk (j : Nat) (es : IEs) | tryS (b : ISs) (cl : IHs)
inductive ISs where
  | nil | cons (s : IS) (ss : ISs)
inductive IHs where
  | nil | cons (t : Nat) (sl : Option Nat) (b : ISs) (r : IHs)
end

/-! ### what it does -/
structure Ev where
  call : Nat → List D → EM D
  np : Nat → Nat
  dds : Nat → List D
  cst : Nat → Option D
  wf : Nat
  kn : Nat → Nat
  xf : Nat → List Nat
  isx : Nat → Nat → Option Bool
  xk : Nat → Nat → Bool
  fok : Nat → Bool
  mf : Nat → MF
def bopM : BOp → D → D → EM D
  | .add => fun x y => EM.ofO (addO x y)
  | .sub => fun x y => EM.ofO (subO x y)
  | .mul => fun x y => EM.ofO (mulO x y)
  | .fdiv => fun x y => EM.ofO (fdivO x y)
  | .mod => fun x y => EM.ofO (modO x y)
  | .pow => fun x y => EM.ofO (powO x y)
def copM : COp → D → D → EM D
  | .eq => eq2M
  | .ne => ne2M
  | .lt => fun x y => EM.ofO (ltO x y)
  | .le => fun x y => EM.ofO (leO x y)
  | .gt => fun x y => EM.ofO (gtO x y)
  | .ge => fun x y => EM.ofO (geO x y)
  | .is => fun x y => EM.ofO (isO x y)
  | .isNot => fun x y => EM.ofO (isNotO x y)
  | .inD => in2M
  | .notInD => nin2M
def biM : BI → List D → EM D
  | .len => len2M
  | .abs => fun xs => EM.ofO (absO xs)
  | .min => fun xs => EM.ofO (minO xs)
  | .max => fun xs => EM.ofO (maxO xs)
  | .all => allM
def tyM : TI0 → List D → EM D
  | .int => fun xs => EM.ofO (intO xs)
  | .str => fun xs => EM.ofO (strO xs)
  | .tuple => tupM
def eFrz (i : Nat) : Env → EM D := fun E S => match E[i]? with
  | some (some (.ref r)) => match S[r]? with
    | some o => match valOf o with
      | some d => .ok d (S.set r .gone)
      | none => .stuck
    | none => .stuck
  | _ => .stuck
def frzD (d : D) : EM D := fun S => match d with
  | .ref r => (match S[r]? with
    | some o => (match valOf o with
      | some v => .ok v (S.set r .gone)
      | none => .stuck)
    | none => .stuck)
  | _ => .stuck
def eFrzE (m : Env → EM D) : Env → EM D := fun E => EM.bind (m E) frzD
def chkL (o : D) : EM Unit := fun S => match viewL S o with
  | some _ => .ok () S
  | none => .stuck
def appM (o d : D) : EM D := fun S => match o with
  | .ref r => match S[r]? with
    | some (.lst xs) => if xs.length < 16777216 then .ok .non (S.set r (.lst (xs ++ [d]))) else .stuck
    | _ => .stuck
  | _ => .stuck
def eApp (mo me : Env → EM D) : Env → EM D := fun E => EM.bind (mo E) fun o => EM.bind (chkL o) fun _ => EM.bind (me E) fun d => appM o d
def boolM (b : Bool) (k : EM D) (d : EM D) : EM D := if b = true then k else d
def eAndV (m n : Env → EM D) : Env → EM D := fun E => EM.bind (m E) fun x => EM.bind (EM.ofO (asB x)) fun b => if b = true then n E else EM.pure (.bl false)
def eOrV (m n : Env → EM D) : Env → EM D := fun E => EM.bind (m E) fun x => EM.bind (EM.ofO (asB x)) fun b => if b = true then EM.pure (.bl true) else n E
def eNotV (m : Env → EM D) : Env → EM D := fun E => EM.bind (m E) fun x => EM.bind (EM.ofO (asB x)) fun b => EM.pure (.bl (!b))
def eCst (o : Option D) : Env → EM D := fun _ => EM.ofO o
mutual
def evE (v : Ev) : IE → Env → EM D
  | .var i => eVar i
  | .int i => fun _ => EM.pure (.int i)
  | .bl b => fun _ => EM.pure (.bl b)
  | .non => fun _ => EM.pure .non
  | .str x => fun _ => EM.pure (.str x)
  | .glo g => eCst (v.cst g)
  | .tup es => PK.es mTup (evEs v es)
  | .new c => eNew (evC v c)
  | .box c => eBox (evC v c)
  | .frz i => eFrz i
  | .frzE e => eFrzE (evE v e)
  | .lckv i => eLkv i
  | .bin o a b => e2 (bopM o) (evE v a) (evE v b)
  | .neg a => e1 (fun x => EM.ofO (negO x)) (evE v a)
  | .cmp o a b => e2 (copM o) (evE v a) (evE v b)
  | .ife t a b => eIf (evT v t) (evE v a) (evE v b)
  | .andV a b => eAndV (evE v a) (evE v b)
  | .andV1 a => evE v a
  | .orV a b => eOrV (evE v a) (evE v b)
  | .orV1 a => evE v a
  | .notV a => eNotV (evE v a)
  | .idx a b => e2 idx2M (evE v a) (evE v b)
  | .cut a lo hi => eCut (evE v a) (evO v lo) (evO v hi)
  | .bi f e es => PK.es (biM f) (eCons (evE v e) (evEs v es))
  | .ty f e es => PK.es (tyM f) (eCons (evE v e) (evEs v es))
  | .isT t e => e1 (isTyM t) (evE v e)
  | .call pu f e es => PK.es (mCall (v.np f) (if pu = true then pureCall (v.call f) else v.call f) (v.dds f)) (eCons (evE v e) (evEs v es))
  | .app o e => eApp (evE v o) (evE v e)
  | .callK j f e es b => eCallK (v.kn j) (v.np f) (v.call f) (eCons (evE v e) (evEs v es)) (evE v b)
  | .get o e es => eGet (evE v o) (eCons (evE v e) (evEs v es))
  | .join o e es => eJoin (evE v o) (eCons (evE v e) (evEs v es))
  | .chain p q a b c => eChain (copM p) (copM q) (evE v a) (evE v b) (evE v c)
  | .fld f e => e1 (fldM v.fok v.xk f) (evE v e)
  | .isX t e => e1 (isXM fun c => v.isx c t) (evE v e)
def evT (v : Ev) : IT → Env → EM Bool
  | .val e => eTest (evE v e)
  | .cmp o a b => eTest (e2 (copM o) (evE v a) (evE v b))
  | .chain p q a b c => eTest (eChain (copM p) (copM q) (evE v a) (evE v b) (evE v c))
  | .and a b => eAnd (evT v a) (evT v b)
  | .and1 a => evT v a
  | .or a b => eOr (evT v a) (evT v b)
  | .or1 a => evT v a
  | .not a => eNot (evT v a)
def evO (v : Ev) : IO → Env → EM (Option Int)
  | .none => eNoPart
  | .some e => ePart (evE v e)
def evEs (v : Ev) : IEs → Env → EM (List D)
  | .nil => eNil
  | .cons e es => eCons (evE v e) (evEs v es)
def evC (v : Ev) : IC → Env → EM DO
  | .dnew => fDnew
  | .disp k w => fDisp1 (evE v k) (evE v w)
  | .lst es => PK.fs mLst (evEs v es)
  | .cat a b => f2 catM (evE v a) (evE v b)
  | .rep c b => repF (evC v c) (evE v b)
  | .cut a lo hi => fCut (evE v a) (evO v lo) (evO v hi)
  | .list e => PK.fs listM (eCons (evE v e) eNil)
  | .lc it t own c m => fLc (evI v it) t (evTo v c) (evE v m) (own.map (·.2))
  | .dc it t own c k m => fDc (evI v it) t (evTo v c) (evE v k) (evE v m) (own.map (·.2))
  | .sorted e => PK.fs sortM (eCons (evE v e) eNil)
  | .keysL e => PK.fs listDM (eCons (evE v e) eNil)
  | .split o e es => fSplit (evE v o) (eCons (evE v e) (evEs v es))
def evTo (v : Ev) : ITo → Env → EM Bool
  | .none => eYes
  | .some t => evT v t
def evI (v : Ev) : II → Env → EM (List D)
  | .seq e => eOf seqO (evE v e)
  | .rng1 e => eOf rng1O (eCons (evE v e) eNil)
  | .rng2 a b => eOf rng2O (eCons (evE v a) (eCons (evE v b) eNil))
  | .revr e => eOf rev1O (evE v e)
  | .rev e => eOf (fun d => (seqO d).map List.reverse) (evE v e)
  | .zip a b => eOf zipO (eCons (evE v a) (eCons (evE v b) eNil))
  | .enum e => eOf enumO (eCons (evE v e) eNil)
  | .keys e => eOf keys2O (evE v e)
  | .items e => eOf itemsO (evE v e)
  | .chars e => eOf charsO (evE v e)
end
mutual
def evS (v : Ev) : IS → SM
  | .set i e => sAsg (evE v e) (mName i)
  | .tup t e => sAsg (evE v e) (mTgt t)
  | .sub o i e => sAsg (evE v e) (mSub (evE v o) (evE v i))
  | .setC i c => sAsg (eNew (evC v c)) (mName i)
  | .boxC i c => sAsg (eBox (evC v c)) (mName i)
  | .expr e => sExpr (evE v e)
  | .ret e => sRet (evE v e)
  | .retN => sRetN
  | .ifS t a b => sIf (evT v t) (evB v a) (evB v b)
  | .forS t it b => sFor (evI v it) (mTgt t) (evB v b)
  | .whileS t b => sWhile (evT v t) (evB v b) v.wf
  | .brk => sBreak
  | .cont => sCont
  | .pass => sNext
  | .doc => sNext
  | .never => fun _ _ => .stuck
  | .lock i s => sLock i (evS v s)
  | .par i j es => sPar i j (evEs v es)
  | .raise c e es => sRaise c (v.xf c) (eCons (evE v e) (evEs v es))
  | .mk j es => sMk (v.mf j) (evEs v es)
  | .tryS b cl => sTry (evB v b) (evH v cl)
def evB (v : Ev) : ISs → SM
  | .nil => sNext
  | .cons s ss => sSeq (evS v s) (evB v ss)
def evH (v : Ev) : IHs → List TC
  | .nil => []
  | .cons t sl b r => ⟨fun c => v.isx c t, sl, evB v b⟩ :: evH v r
end

/-! ### that it is the text -/
structure Tab where
  free : List Str
  fns : List (Str × Nat × List D)
  cst : List (Str × D)
  kws : List (Nat × Nat × Str)
  xcs : List (Option Str) := []
  xts : List Str := []
  flds : List Str := []
  mks : List (Str × Option (List Str)) := []
  hot : Bool := false
def Tab.heat (T : Tab) : Tab := ⟨T.free, T.fns, T.cst, T.kws, T.xcs, T.xts, T.flds, T.mks, true⟩
def asAttr : Expr → Option (Expr × Str)
  | .Attribute o f _ => some (o, f)
  | _ => none
theorem asAttr_eq {e o : Expr} {f : Str} (h : asAttr e = some (o, f)) : ∃ p, e = .Attribute o f p := by
  unfold asAttr at h
  split at h
  · cases h; exact ⟨_, rfl⟩
  · cases h
def asRaise : Stmt → Option (Str × List Expr)
  | .Raise (some (.Call (.Name x _) es [] _)) none _ => some (x, es)
  | _ => none
theorem asRaise_eq {s : Stmt} {x : Str} {es : List Expr} (h : asRaise s = some (x, es)) : ∃ p q r, s = .Raise (some (.Call (.Name x p) es [] q)) none r := by
  unfold asRaise at h
  split at h
  · cases h; exact ⟨_, _, _, rfl⟩
  · cases h
def asTry : Stmt → Option (List Stmt × ExceptHandler × List ExceptHandler)
  | .Try b (h :: hs) [] [] _ => some (b, h, hs)
  | _ => none
theorem asTry_eq {s : Stmt} {b : List Stmt} {h : ExceptHandler} {hs : List ExceptHandler} (e : asTry s = some (b, h, hs)) : ∃ p, s = .Try b (h :: hs) [] [] p := by
  unfold asTry at e
  split at e
  · cases e; exact ⟨_, rfl⟩
  · cases e
def asHd : ExceptHandler → Option (Str × Option Str × List Stmt)
  | .ExceptHandler (some (.Name x _)) n (b₀ :: b) _ => some (x, n, b₀ :: b)
  | _ => none
theorem asHd_eq {h : ExceptHandler} {x : Str} {n : Option Str} {b : List Stmt} (e : asHd h = some (x, n, b)) : ∃ p q b₀ b', b = b₀ :: b' ∧ h = .ExceptHandler (some (.Name x p)) n (b₀ :: b') q := by
  unfold asHd at e
  split at e
  · cases e; exact ⟨_, _, _, _, rfl, rfl⟩
  · cases e
def asCallK : Expr → Option (Str × List Expr × Str × Expr)
  | .Call (.Name x _) es [⟨some y, b, _⟩] _ => some (x, es, y, b)
  | _ => none
theorem asCallK_eq {e b : Expr} {x y : Str} {es : List Expr} (h : asCallK e = some (x, es, y, b)) : ∃ p q r, e = .Call (.Name x p) es [⟨some y, b, q⟩] r := by
  unfold asCallK at h
  split at h
  · cases h; exact ⟨_, _, _, rfl⟩
  · cases h
def asChain : Expr → Option (Expr × CmpOp × Expr × CmpOp × Expr)
  | .Compare a [p, q] [b, c] _ => some (a, p, b, q, c)
  | _ => none
theorem asChain_eq {e a b c : Expr} {p q : CmpOp} (h : asChain e = some (a, p, b, q, c)) : ∃ r, e = .Compare a [p, q] [b, c] r := by
  unfold asChain at h
  split at h
  · cases h; exact ⟨_, rfl⟩
  · cases h
def asDc : Expr → Option (Expr × Expr × Expr × Expr × List Expr × Scope × Pos)
  | .DictComp kx vx [⟨tg, it, ifs, 0⟩] sc p => some (kx, vx, tg, it, ifs, sc, p)
  | _ => none
theorem asDc_eq {e kx vx tg it : Expr} {ifs : List Expr} {sc : Scope} {p : Pos} (h : asDc e = some (kx, vx, tg, it, ifs, sc, p)) : e = .DictComp kx vx [⟨tg, it, ifs, 0⟩] sc p := by
  unfold asDc at h
  split at h
  · cases h; rfl
  · cases h
def glB (sc : Scope) (x : Str) : Bool := decide (sc.names.lookup x = some .globalImplicit)
/-- a built-in's name, not hidden -/
def bltB (T : Tab) (sc : Scope) (x : Str) : Bool := glB sc x && decide (x ∈ T.free) && !(x == ("__debug__" : Str)) && decide (x ≠ "__name__")
def visB (sc : Scope) (x : Str) : Bool := match sc.names.lookup x with
  | some .local | some .cell | some .free => true
  | _ => false
def bopB : BOp → Operator → Bool
  | .add, .Add | .sub, .Sub | .mul, .Mult | .fdiv, .FloorDiv | .mod, .Mod | .pow, .Pow => true
  | _, _ => false
def copB : COp → CmpOp → Bool
  | .eq, .Eq | .ne, .NotEq | .lt, .Lt | .le, .LtE | .gt, .Gt | .ge, .GtE | .is, .Is | .isNot, .IsNot | .inD, .In | .notInD, .NotIn => true
  | _, _ => false
def biN : BI → Str
  | .len => "len" | .abs => "abs" | .min => "min" | .max => "max" | .all => "all"
def biC (T : Tab) : BI → Bool
  | .len | .abs => true
  | _ => !T.hot
def tyN : TI0 → Str
  | .int => "int" | .str => "str" | .tuple => "tuple"
def tyN0 : Ty0 → Str
  | .int => "int" | .bool => "bool" | .str => "str" | .list => "list" | .tuple => "tuple" | .dict => "dict"
/-- a name that may be stored: fn tells whose cells are our own -/
def locB (sc : Scope) (fn : Str → Bool) (x : Str) : Bool := match sc.names.lookup x with
  | some .local => true
  | some .cell => fn x
  | _ => false
mutual
def chkG (N : List Str) (sc : Scope) (fn : Str → Bool) : Tgt → Expr → Bool
  | .name i, e => match asName e with
    | some x => decide (N[i]? = some x) && locB sc fn x
    | none => false
  | .tup ts, e => match asTuple e with
    | some es => decide (es.length = ts.len) && es.all notStar && chkGs N sc fn ts es
    | none => false
  | .lst ts, e => match asTuple e with
    | some es => decide (es.length = ts.len) && es.all notStar && chkGs N sc fn ts es
    | none => false
def chkGs (N : List Str) (sc : Scope) (fn : Str → Bool) : Tgts → List Expr → Bool
  | .nil, [] => true
  | .cons t ts, e :: es => chkG N sc fn t e && chkGs N sc fn ts es
  | _, _ => false
end
/-- name = [..]: stored within the comprehension's frame -/
def chkLcS (sc : Scope) (x : Str) (t e : Expr) : Bool := match asLc e, t with
  | some (_, _, _, _, scope, p), .Name y py => decide (sc.kind = .function) && decide (sc.names.lookup x = some .local) && (py.line == p.line) && ((scope.names.any fun (n, k) => n == y && (k == .local || k == .cell)) == false)
  | _, .Name y py => (match asDc e with
    | some (_, _, _, _, _, scope, p) => decide (sc.kind = .function) && decide (sc.names.lookup x = some .local) && (py.line == p.line) && ((scope.names.any fun (n, k) => n == y && (k == .local || k == .cell)) == false)
    | none => false)
  | _, _ => false
mutual
def chkE (T : Tab) (N : List Str) : IE → Scope → Expr → Bool
  | .var i, sc, e => match asName e with
    | some x => decide (N[i]? = some x) && visB sc x && !(x == ("__debug__" : Str)) && !(x == ("__classdict__" : Str))
    | none => false
  | .frz i, sc, e => match asName e with
    | some x => decide (N[i]? = some x) && visB sc x && !(x == ("__debug__" : Str)) && !(x == ("__classdict__" : Str))
    | none => false
  | .frzE a, sc, e => chkE T N a sc e
  | .lckv i, sc, e => match asName e with
    | some x => decide (N[i]? = some x) && visB sc x && !(x == ("__debug__" : Str)) && !(x == ("__classdict__" : Str))
    | none => false
  | .int i, _, e => decide (asInt e = some i)
  | .bl b, _, e => decide (asBool e = some b)
  | .non, _, e => isNone e
  | .str x, _, e => decide (asStr e = some x)
  | .glo g, sc, e => match asName e, T.cst[g]? with
    | some x, some p => decide (x = p.1) && glB sc x && !(x == ("__debug__" : Str))
    | _, _ => false
  | .tup es, sc, e => match asTuple e with
    | some xs => xs.all notStar && chkEs T N es sc xs
    | none => false
  | .new c, sc, e => chkC T N c sc e
  | .box c, sc, e => chkC T N c sc e
  | .bin o a b, sc, e => match asBin e with
    | some (x, op, y) => bopB o op && chkE T N a sc x && chkE T N b sc y
    | none => false
  | .neg a, sc, e => match asUn e with
    | some (.USub, x) => chkE T N a sc x
    | _ => false
  | .cmp o a b, sc, e => match asCmp e with
    | some (x, op, y) => copB o op && notSet y && chkE T N a sc x && chkE T N b sc y
    | none => false
  | .ife t a b, sc, e => match asIfe e with
    | some (c, x, y) => chkT T N t sc c && chkE T N a sc x && chkE T N b sc y
    | none => false
  | .andV a b, sc, e => match asAnd e with
    | some (x :: y :: r, p) => chkE T N a sc x && chkE T N b sc (.BoolOp .And (y :: r) p)
    | _ => false
  | .andV1 a, sc, e => match asAnd e with
    | some ([x], p) => chkE T N a sc x
    | _ => false
  | .orV a b, sc, e => match asOr e with
    | some (x :: y :: r, p) => chkE T N a sc x && chkE T N b sc (.BoolOp .Or (y :: r) p)
    | _ => false
  | .orV1 a, sc, e => match asOr e with
    | some ([x], p) => chkE T N a sc x
    | _ => false
  | .notV a, sc, e => match asUn e with
    | some (.Not, x) => chkE T N a sc x
    | _ => false
  | .idx a b, sc, e => match asSub e with
    | some (x, y) => notSlice y && chkE T N a sc x && chkE T N b sc y
    | none => false
  | .cut a lo hi, sc, e => match asSub e with
    | some (x, y) => (match asSlice y with
      | some (l, h) => chkE T N a sc x && chkO T N lo sc l && chkO T N hi sc h
      | none => false)
    | none => false
  | .bi f a as, sc, e => match asCall e with
    | some (x, y :: ys) => biC T f && decide (x = biN f) && bltB T sc x && (y :: ys).all notStar && chkE T N a sc y && chkEs T N as sc ys
    | _ => false
  | .ty f a as, sc, e => match asCall e with
    | some (x, y :: ys) => decide (x = tyN f) && bltB T sc x && (y :: ys).all notStar && chkE T N a sc y && chkEs T N as sc ys
    | _ => false
  | .isT t a, sc, e => match asCall e with
    | some (x, [y, z]) => decide (x = "isinstance") && bltB T sc x && [y, z].all notStar && chkE T N a sc y && (match asName z with
      | some u => decide (u = tyN0 t) && bltB T sc u
      | none => false)
    | _ => false
  | .call _ f a as, sc, e => match asCall e, T.fns[f]? with
    | some (x, y :: ys), some q => !T.hot && decide (x = q.1) && glB sc x && !(x == ("__debug__" : Str)) && (y :: ys).all notStar && chkE T N a sc y && chkEs T N as sc ys
    | _, _ => false
  | .callK j f a as b, sc, e => match asCallK e, T.kws[j]?, T.fns[f]? with
    | some (x, y :: ys, nm, z), some q, some r => !T.hot && decide (q.1 = f) && decide (nm = q.2.2) && decide (x = r.1) && glB sc x && !(x == ("__debug__" : Str)) && (y :: ys).all notStar && chkE T N a sc y && chkEs T N as sc ys && chkE T N b sc z
    | _, _, _ => false
  | .app o a, sc, e => match asMeth e with
    | some (x, m, [y]) => decide (m = "append") && simpleBase x && notStar y && chkE T N o sc x && chkE T N a sc y
    | _ => false
  | .get o a as, sc, e => match asMeth e with
    | some (x, m, y :: ys) => decide (m = "get") && simpleBase x && (y :: ys).all notStar && decide (ys.length < 20) && chkE T N o sc x && chkE T N a sc y && chkEs T N as sc ys
    | _ => false
  | .join o a as, sc, e => match asMeth e with
    | some (x, m, y :: ys) => decide (m = "join") && simpleBase x && (y :: ys).all notStar && decide (ys.length < 20) && chkE T N o sc x && chkE T N a sc y && chkEs T N as sc ys
    | _ => false
  | .chain p q a b c, sc, e => match asChain e with
    | some (x, o1, y, o2, z) => copB p o1 && copB q o2 && notSet z && chkE T N a sc x && chkE T N b sc y && chkE T N c sc z
    | none => false
  | .fld f a, sc, e => match asAttr e with
    | some (x, n) => decide (T.flds[f]? = some n) && simpleBase x && chkE T N a sc x
    | none => false
  | .isX t a, sc, e => match asCall e with
    | some (x, [y, z]) => decide (x = "isinstance") && bltB T sc x && [y, z].all notStar && chkE T N a sc y && (match asName z with
      | some u => decide (T.xts[t]? = some u) && glB sc u && !(u == ("__debug__" : Str))
      | none => false)
    | _ => false
def chkT (T : Tab) (N : List Str) : IT → Scope → Expr → Bool
  | .val a, sc, e => plainTest e && chkE T N a sc e
  | .cmp o a b, sc, e => match asCmp e with
    | some (x, op, y) => copB o op && notSet y && chkE T N a sc x && chkE T N b sc y
    | none => false
  | .and a b, sc, e => match asAnd e with
    | some (x :: y :: r, p) => chkT T N a sc x && chkT T N b sc (.BoolOp .And (y :: r) p)
    | _ => false
  | .and1 a, sc, e => match asAnd e with
    | some ([x], p) => chkT T N a sc x
    | _ => false
  | .or a b, sc, e => match asOr e with
    | some (x :: y :: r, p) => chkT T N a sc x && chkT T N b sc (.BoolOp .Or (y :: r) p)
    | _ => false
  | .or1 a, sc, e => match asOr e with
    | some ([x], p) => chkT T N a sc x
    | _ => false
  | .not a, sc, e => match asUn e with
    | some (.Not, x) => chkT T N a sc x
    | _ => false
  | .chain p q a b c, sc, e => match asChain e with
    | some (x, o1, y, o2, z) => copB p o1 && copB q o2 && notSet z && chkE T N a sc x && chkE T N b sc y && chkE T N c sc z
    | none => false
def chkO (T : Tab) (N : List Str) : IO → Scope → Option Expr → Bool
  | .none, _, none => true
  | .some a, sc, some e => chkE T N a sc e
  | _, _, _ => false
def chkEs (T : Tab) (N : List Str) : IEs → Scope → List Expr → Bool
  | .nil, _, [] => true
  | .cons a as, sc, e :: es => chkE T N a sc e && chkEs T N as sc es
  | _, _, _ => false
def chkC (T : Tab) (N : List Str) : IC → Scope → Expr → Bool
  | .dnew, sc, e => match asDict e with
    | some ([], []) => true
    | _ => false
  | .disp k w, sc, e => match asDict e with
    | some ([some x], [y]) => chkE T N k sc x && chkE T N w sc y
    | _ => false
  | .lst es, sc, e => match asList e with
    | some xs => xs.all notStar && chkEs T N es sc xs
    | none => false
  | .cat a b, sc, e => match asBin e with
    | some (x, .Add, y) => chkE T N a sc x && chkE T N b sc y
    | _ => false
  | .rep a b, sc, e => match asBin e with
    | some (x, .Mult, y) => chkC T N a sc x && chkE T N b sc y
    | _ => false
  | .cut a lo hi, sc, e => match asSub e with
    | some (x, y) => (match asSlice y with
      | some (l, h) => chkE T N a sc x && chkO T N lo sc l && chkO T N hi sc h
      | none => false)
    | none => false
  | .list a, sc, e => match asCall e with
    | some (x, [y]) => decide (x = "list") && bltB T sc x && notStar y && chkE T N a sc y
    | _ => false
  | .lc it t own c m, sc, e => match asLc e with
    | some (elt, tg, iter, ifs, scope, _) => !T.hot && blkC N sc scope own && t.slots.all (fun i => decide (i ∈ own.map (·.2))) && notSet iter && chkI T N it sc tg iter &&
        chkG N (relS scope sc) (fun x => scope.names.lookup x == some .cell) t tg && chkTo T N c (relS scope sc) ifs && chkE T N m (relS scope sc) elt
    | none => false
  | .dc it t own c k m, sc, e => match asDc e with
    | some (kx, vx, tg, iter, ifs, scope, _) => !T.hot && blkC N sc scope own && t.slots.all (fun i => decide (i ∈ own.map (·.2))) && notSet iter && chkI T N it sc tg iter &&
        chkG N (relS scope sc) (fun x => scope.names.lookup x == some .cell) t tg && chkTo T N c (relS scope sc) ifs && chkE T N k (relS scope sc) kx && chkE T N m (relS scope sc) vx
    | none => false
  | .sorted a, sc, e => match asCall e with
    | some (x, [y]) => decide (x = "sorted") && bltB T sc x && notStar y && chkE T N a sc y
    | _ => false
  | .keysL a, sc, e => match asCall e with
    | some (x, [y]) => !T.hot && decide (x = "list") && bltB T sc x && notStar y && chkE T N a sc y
    | _ => false
  | .split o a as, sc, e => match asMeth e with
    | some (x, m, y :: ys) => decide (m = "split") && simpleBase x && (y :: ys).all notStar && decide (ys.length < 20) && chkE T N o sc x && chkE T N a sc y && chkEs T N as sc ys
    | _ => false
def chkTo (T : Tab) (N : List Str) : ITo → Scope → List Expr → Bool
  | .none, _, [] => true
  | .some t, sc, [e] => chkT T N t sc e
  | _, _, _ => false
def chkI (T : Tab) (N : List Str) : II → Scope → Expr → Expr → Bool
  | .seq a, sc, _, e => chkE T N a sc e
  | .keys a, sc, _, e => chkE T N a sc e
  | .chars a, sc, _, e => chkE T N a sc e
  | .items a, sc, tg, e => (asTuple tg).isSome && (match asMeth e with
    | some (x, m, []) => decide (m = "items") && simpleBase x && chkE T N a sc x
    | _ => false)
  | .rng1 a, sc, _, e => match asCall e with
    | some (x, [y]) => decide (x = "range") && bltB T sc x && notStar y && chkE T N a sc y
    | _ => false
  | .rng2 a b, sc, _, e => match asCall e with
    | some (x, [y, z]) => decide (x = "range") && bltB T sc x && notStar y && notStar z && chkE T N a sc y && chkE T N b sc z
    | _ => false
  | .revr a, sc, _, e => match asCall e with
    | some (x, [y]) => decide (x = "reversed") && bltB T sc x && (match asCall y with
      | some (u, [z]) => decide (u = "range") && bltB T sc u && notStar z && chkE T N a sc z
      | _ => false)
    | _ => false
  | .rev a, sc, _, e => match asCall e with
    | some (x, [y]) => decide (x = "reversed") && bltB T sc x && notStar y && chkE T N a sc y
    | _ => false
  | .zip a b, sc, tg, e => (asTuple tg).isSome && (match asCall e with
    | some (x, [y, z]) => decide (x = "zip") && bltB T sc x && notStar y && notStar z && chkE T N a sc y && chkE T N b sc z
    | _ => false)
  | .enum a, sc, tg, e => (asTuple tg).isSome && (match asCall e with
    | some (x, [y]) => decide (x = "enumerate") && bltB T sc x && notStar y && chkE T N a sc y
    | _ => false)
end
def asAsg : Stmt → Option (Expr × Expr)
  | .Assign [t] e _ => some (t, e)
  | _ => none
theorem asAsg_eq {s : Stmt} {t e : Expr} (h : asAsg s = some (t, e)) : ∃ p, s = .Assign [t] e p := by
  unfold asAsg at h
  split at h
  · cases h; exact ⟨_, rfl⟩
  · cases h
def asExpr : Stmt → Option Expr
  | .Expr e _ => some e
  | _ => none
theorem asExpr_eq {s : Stmt} {e : Expr} (h : asExpr s = some e) : ∃ p, s = .Expr e p := by
  cases s <;> simp [asExpr] at h
  exact ⟨_, by rw [h]⟩
def asRet : Stmt → Option (Option Expr)
  | .Return e _ => some e
  | _ => none
theorem asRet_eq {s : Stmt} {e : Option Expr} (h : asRet s = some e) : ∃ p, s = .Return e p := by
  cases s <;> simp [asRet] at h
  exact ⟨_, by rw [h]⟩
def asIf : Stmt → Option (Expr × List Stmt × List Stmt)
  | .If c a b _ => some (c, a, b)
  | _ => none
theorem asIf_eq {s : Stmt} {c : Expr} {a b : List Stmt} (h : asIf s = some (c, a, b)) : ∃ p, s = .If c a b p := by
  cases s <;> simp [asIf] at h
  obtain ⟨rfl, rfl, rfl⟩ := h
  exact ⟨_, rfl⟩
def asFor : Stmt → Option (Expr × Expr × List Stmt)
  | .For t i b [] _ => some (t, i, b)
  | _ => none
theorem asFor_eq {s : Stmt} {t i : Expr} {b : List Stmt} (h : asFor s = some (t, i, b)) : ∃ p, s = .For t i b [] p := by
  unfold asFor at h
  split at h
  · cases h; exact ⟨_, rfl⟩
  · cases h
def asWhile : Stmt → Option (Expr × List Stmt)
  | .While c b [] _ => some (c, b)
  | _ => none
theorem asWhile_eq {s : Stmt} {c : Expr} {b : List Stmt} (h : asWhile s = some (c, b)) : ∃ p, s = .While c b [] p := by
  unfold asWhile at h
  split at h
  · cases h; exact ⟨_, rfl⟩
  · cases h
/-- pass, break, continue, a text alone: by number -/
def asPlain : Stmt → Nat
  | .Pass _ => 1
  | .Break _ => 2
  | .Continue _ => 3
  | .Expr (.Constant (.str _) _ _) _ => 4
  | _ => 0
mutual
def chkS (T : Tab) (N : List Str) (sc : Scope) : IS → Stmt → Bool
  | .set i a, s => match asAsg s with
    | some (t, e) => (match asName t with
      | some x => decide (N[i]? = some x) && locB sc (fun _ => true) x && (notComp e || cellT sc t) && chkE T N a sc e
      | none => false)
    | none => false
  | .tup t a, s => match asAsg s with
    | some (tg, e) => !T.hot && notComp e && notTup e && notStar tg && chkG N sc (fun _ => true) t tg && chkE T N a sc e
    | none => false
  | .sub o i a, s => match asAsg s with
    | some (tg, e) => (match asSub tg with
      | some (u, w) => notComp e && notTup e && notSlice w && chkE T N o sc u && chkE T N i sc w && chkE T N a sc e
      | none => false)
    | none => false
  | .setC i c, s => match asAsg s with
    | some (t, e) => (match asName t with
      | some x => decide (N[i]? = some x) && chkLcS sc x t e && chkC T N c sc e
      | none => false)
    | none => false
  | .boxC i c, s => match asAsg s with
    | some (t, e) => (match asName t with
      | some x => decide (N[i]? = some x) && chkLcS sc x t e && chkC T N c sc e
      | none => false)
    | none => false
  | .expr a, s => match asExpr s with
    | some e => notComp e && chkE T N a sc e
    | none => false
  | .ret a, s => match asRet s with
    | some (some e) => chkE T N a sc e
    | _ => false
  | .retN, s => match asRet s with
    | some none => true
    | _ => false
  | .ifS t a b, s => match asIf s with
    | some (c, x, y) => chkT T N t sc c && chkB T N sc a x && chkB T N sc b y
    | none => false
  | .forS t it b, s => match asFor s with
    | some (tg, iter, x) => !T.hot && notSet iter && chkG N sc (fun _ => true) t tg && chkI T N it sc tg iter && chkB T N sc b x
    | none => false
  | .whileS t b, s => match asWhile s with
    | some (c, x) => chkT T N t sc c && chkB T N sc b x
    | none => false
  | .pass, s => decide (asPlain s = 1)
  | .brk, s => decide (asPlain s = 2)
  | .cont, s => decide (asPlain s = 3)
  | .doc, s => decide (asPlain s = 4)
  | .never, _ => true
  | .lock _ a, s => chkS T N sc a s
  | .par i j es, s => match asPar s with
    | some (x, px, y, py, a, b) => !T.hot && decide (N[i]? = some x) && decide (N[j]? = some y) && decide (i ≠ j) && parOk sc x y px py a b && chkEs T N es sc [a, b]
    | none => false
  | .raise c a as, s => match asRaise s with
    | some (x, y :: ys) => !T.hot && decide (T.xcs[c]? = some (some x)) && glB sc x && !(x == ("__debug__" : Str)) && (y :: ys).all notStar && chkE T N a sc y && chkEs T N as sc ys
    | _ => false
  | .mk j es, s => match asMk s with
    | some (x, ys, kws) => !T.hot && glB sc x && !(x == ("__debug__" : Str)) && (match T.mks[j]? with
      | some (y, some ks) => ys.isEmpty && decide (y = x) && (match kwEs kws with
        | some l => decide (l.map (·.1) = ks) && chkEs T N es sc (l.map (·.2))
        | none => false)
      | some (y, none) => kws.isEmpty && decide (y = x) && !ys.isEmpty && ys.all notStar && chkEs T N es sc ys
      | none => false)
    | none => false
  | .tryS b cl, s => match asTry s with
    | some (x, h, hs) => !T.hot && chkB T N sc b x && chkH T.heat N sc cl (h :: hs)
    | none => false
def chkB (T : Tab) (N : List Str) (sc : Scope) : ISs → List Stmt → Bool
  | .nil, [] => true
  | .cons s ss, x :: xs => chkS T N sc s x && chkB T N sc ss xs
  | _, _ => false
def chkH (T : Tab) (N : List Str) (sc : Scope) : IHs → List ExceptHandler → Bool
  | .nil, [] => true
  | .cons t sl b r, h :: hs => (match asHd h with
    | some (x, nm, bd) => decide (T.xts[t]? = some x) && glB sc x && !(x == ("__debug__" : Str)) && (match sl, nm with
      | some i, some n => decide (N[i]? = some n) && decide (sc.names.lookup n = some .local)
      | none, none => true
      | _, _ => false) && chkB T N sc b bd
    | none => false) && chkH T N sc r hs
  | _, _ => false
end
end PK
namespace PK
open PySem PySem.Spec PyProof.Rows L2

/-! ### and, or, not as values -/
section
variable {X : Cx} {G : Cls} {W : L2.WX} {a b e o : Expr} {rest : List Expr} {pos : Pos} {ma mb : Env → EM D}
theorem pm_andV (ha : PE X a (tM X.K G W ma)) (hb : PE X (.BoolOp .And (b :: rest) pos) (tM X.K G W mb)) : PE X (.BoolOp .And (a :: b :: rest) pos) (tM X.K G W (eAndV ma mb)) :=
  (pe_and ha hb).weak fun σ H Q ⟨ρ, S, E, rp, re, g⟩ => by
    refine ⟨ρ, S, E, rp, re, Go.mono (Go.bind g) ?_⟩
    rintro v H1 ⟨ρ1, S1, d, x1, r1, q1, g1⟩
    cases hd : asB d with
    | none => rw [hd] at g1; exact g1.elim
    | some k =>
      refine ⟨k, q1.bl_inv hd, ?_⟩
      rw [hd] at g1
      cases k with
      | true => rw [if_pos rfl]; exact ⟨ρ1, S1, E, r1, RepE.ext x1 re, g1⟩
      | false => rw [if_neg Bool.false_ne_true]; exact Go.here (d := D.bl false) (R := RD X.K G) (S := S1) g1 r1 (.bl _)
theorem pm_orV (ha : PE X a (tM X.K G W ma)) (hb : PE X (.BoolOp .Or (b :: rest) pos) (tM X.K G W mb)) : PE X (.BoolOp .Or (a :: b :: rest) pos) (tM X.K G W (eOrV ma mb)) :=
  (pe_or ha hb).weak fun σ H Q ⟨ρ, S, E, rp, re, g⟩ => by
    refine ⟨ρ, S, E, rp, re, Go.mono (Go.bind g) ?_⟩
    rintro v H1 ⟨ρ1, S1, d, x1, r1, q1, g1⟩
    cases hd : asB d with
    | none => rw [hd] at g1; exact g1.elim
    | some k =>
      refine ⟨k, q1.bl_inv hd, ?_⟩
      rw [hd] at g1
      cases k with
      | true => rw [if_pos rfl]; exact Go.here (d := D.bl true) (R := RD X.K G) (S := S1) g1 r1 (.bl _)
      | false => rw [if_neg Bool.false_ne_true]; exact ⟨ρ1, S1, E, r1, RepE.ext x1 re, g1⟩
theorem pm_notV (ha : PE X a (tM X.K G W ma)) : PE X (.UnaryOp .Not a pos) (tM X.K G W (eNotV ma)) :=
  (pe_not ha).weak fun σ H Q ⟨ρ, S, E, rp, re, g⟩ => by
    refine ⟨ρ, S, E, rp, re, Go.mono (Go.bind g) ?_⟩
    rintro v H1 ⟨ρ1, S1, d, x1, r1, q1, g1⟩
    cases hd : asB d with
    | none => rw [hd] at g1; exact g1.elim
    | some k =>
      refine ⟨k, q1.bl_inv hd, ?_⟩
      rw [hd] at g1
      exact Go.here (d := D.bl (!k)) (R := RD X.K G) (S := S1) g1 r1 (.bl _)
/-! ### a cell given up -/
theorem pm_frz {i : Nat} {x : Str} (hN : X.N[i]? = some x) (hv : Vis X.env.scope x) (hd : (x == ("__debug__" : Str)) = false) (hcd : (x == ("__classdict__" : Str)) = false) : PE X (.Name x pos) (tM X.K G W (eFrz i)) :=
  (pe_frz (pe_var hN hv hd hcd)).weak fun σ H Q ⟨ρ, S, E, rp, re, g⟩ => by
    unfold eFrz at g
    cases hE : E[i]? with
    | none => rw [hE] at g; exact g.elim
    | some od =>
      rw [hE] at g
      cases od with
      | none => exact g.elim
      | some d =>
        cases d with
        | ref r =>
          dsimp only at g
          cases hS : S[r]? with
          | none => rw [hS] at g; exact g.elim
          | some o =>
            rw [hS] at g
            dsimp only at g
            cases hv : valOf o with
            | none => rw [hv] at g; exact g.elim
            | some d =>
              rw [hv] at g
              obtain ⟨v, h1, h2⟩ := re.2 i _ hE
              obtain ⟨a, u, rfl, ha, h3, m, rc⟩ := rp.at h2 hS (by cases o <;> first | trivial | cases hv)
              refine ⟨_, h1, a, u, rfl, h3, m, fun ob => ?_⟩
              have mu : Mut (H a) := by rw [h3]; exact m
              have x : Ext ρ H (ρ.set r none) (upd H a (.frz ob u)) := Ext.froze ha h3 m
              exact g (ρ.set r none) (.ref a) _ x (rp.froze ha h3 m) (RepV.ofC hv upd_same (RepC.ext x rc))
        | _ => exact g.elim
/-! ### list.append -/
theorem mt_appM : MtR X "list.append" (rmM X.K G fun o xs => match xs with | [d] => appM o d | _ => EM.fail) := by
  intro pins s σ H vx vs v us Q I r1 r2 ⟨ρ, S, o, xs, rp, q1, q2, g⟩
  dsimp only at g
  split at g
  · obtain ⟨w, rfl, q3⟩ := q2.one
    unfold appM at g
    split at g
    · rename_i r
      split at g
      · rename_i ys hS
        split at g
        · rename_i hl
          obtain ⟨a, u, rfl, ha, h1, m, us', rfl, h2⟩ := rp.at q1 hS trivial
          refine mt_append pins s σ H _ _ v us Q I r1 r2 ⟨a, us', w, rfl, rfl, h1, by rw [← h2.length, sizeLine_eq]; exact hl, ?_⟩
          have x : Ext ρ H ρ (upd H a (.lst (us' ++ [w]))) := Ext.wrote ha h1 m
          exact g ρ _ _ x (rp.wrote ha h1 m trivial (.inr ⟨a, _, ha, upd_same, _, rfl, RepVs.ext x (h2.append (.cons q3 .nil))⟩)) .non
        · exact g.elim
      · exact g.elim
    · exact g.elim
  · exact g.elim
theorem noExc_app {o d : D} : NoExc (appM o d) := fun S c fs S' h => by
  unfold appM at h
  split at h
  · split at h
    · split at h <;> cases h
    · cases h
  · cases h
theorem pm_app {apos cpos : Pos} (ho : PE X o (tM X.K G W ma)) (he : PE X e (tM X.K G W mb)) (hbase : attributeBase o "append" X.env (eval o X.env) = eval o X.env) (hs : notStar e = true) (hline : (apos.endLine == cpos.line) = true) :
    PE X (.Call (.Attribute o "append" apos) [e] [] cpos) (tM X.K G W (eApp ma mb)) := by
  have hall : [e].all notStar = true := by simp [hs]
  refine PE.weak (pe_bm PySem.F.plainAttrs_list PySem.F.slot_list_append PySem.F.type_list_append (mt_appM (G := G)) ho (pa_consM (G := G) (W := W) he pa_nilM (star_cons hs [] X.env)) hbase ?_ hline (star_cons hs [] X.env) rfl) fun σ H Q ⟨ρ, S, E, rp, re, g⟩ => ?_
  · rw [star_few hall]; rfl
  · refine ⟨ρ, S, E, rp, re, Go.mono (Go.bind g) ?_⟩
    rintro v H1 ⟨ρ1, S1, d, x1, r1, q1, g1⟩
    unfold chkL EM.bind at g1
    dsimp only at g1
    cases hv : viewL S1 d with
    | none => rw [hv] at g1; exact g1.elim
    | some ys =>
      rw [hv] at g1
      obtain ⟨a, us, rfl, h1, h2⟩ := viewL_ok r1 q1 hv
      refine ⟨.inl ⟨rfl, us, .inl h1⟩, ρ1, S1, E, r1, RepE.ext x1 re, ?_⟩
      have g2 : Go X.K G (RD X.K G) W σ ρ1 H1 (EM.bind (mb E) (fun y => appM d y) S1) Q := g1
      unfold eCons
      cases hm : mb E S1 with
      | stuck => unfold EM.bind at g2 ⊢; rw [hm] at g2 ⊢; exact g2
      | exc c fs S2 => unfold EM.bind at g2 ⊢; rw [hm] at g2 ⊢; exact g2
      | ok y S2 =>
        unfold EM.bind at g2 ⊢
        rw [hm] at g2 ⊢
        intro ρ3 vs H3 x3 r3 q3
        exact ⟨ρ3, S2, d, [y], r3, RepV.ext x3 q1, q3, (Go.ext x3 g2).w0 noExc_app⟩
end

/-! ### isinstance with a built-in class -/
def tyS : Ty0 → String
  | .int => "int" | .bool => "bool" | .str => "str" | .list => "list" | .tuple => "tuple" | .dict => "dict"
theorem kit_tab : ∀ a t : Ty0, kitB (tyS a) (tyS t) = some (decide (t = a ∨ (a = .bool ∧ t = .int))) := by
  intro a t
  cases a <;> cases t <;> decide +kernel
theorem kit_non : ∀ t : Ty0, kitB "NoneType" (tyS t) = some false := by
  intro t
  cases t <;> decide +kernel
/-- a value's type: dicts with tuple keys too -/
inductive TyW (K : PySem.W.Frag) (G : Cls) (H : Hp) : V → Value → Prop where
  | x {v : V} {t : Value} (h : TyX K H v t) : TyW K G H v t
  | d {a : Addr} {u : HO} (h : Rd H a u) (k : (∃ us, u = .dK us) ∨ ∃ xs, u = .ext (DkO G.prog G.world a xs)) : TyW K G H (.ref a) (.type "dict")
theorem TyW.dct {K : PySem.W.Frag} {G : Cls} {ρ : List (Option Addr)} {H : Hp} {a : Addr} {kvs : List (D × D)} {u : HO} (h : Rd H a u) (r : RepD K G ρ H a kvs u) : TyW K G H (.ref a) (.type "dict") := by
  cases r with
  | k r => exact .d h (.inl ⟨_, rfl⟩)
  | t r => exact .d h (.inr ⟨_, rfl⟩)
def rIsiW (K : PySem.W.Frag) (G : Cls) : List V → Hp → VK → Prop := fun xs H Q => ∃ (x c : V) (t u : Value) (b : Bool), xs = [x, c] ∧ ClsV c u ∧ TyW K G H x t ∧ PySem.W.kitOne K t u = some b ∧ Q (.bl b) H
theorem call_isiW {X : Cx} {G : Cls} : CallR X (.builtin "isinstance") (rIsiW X.K G) := by
  intro pins s σ H xs us Q I r h
  obtain ⟨x, c, t, u, b, rfl, k, ty, e, q⟩ := h
  cases ty with
  | x ty => exact call_isi pins s σ H _ us Q I r ⟨x, c, t, u, b, rfl, k, ty, e, q⟩
  | @d a u0 h z =>
    obtain ⟨u1, u2, rfl, r1, r2⟩ := vals2 r
    have e2 := k.eq r2
    subst e2
    cases (show u1 = Value.ref a from r1)
    have P : s.TypeIs (.ref a) "dict" := by
      have hok := h.ok I.hok
      rcases z with ⟨us, rfl⟩ | ⟨xs, rfl⟩
      · obtain ⟨_, _, vs, _, o, es, ep, h1, h2, _⟩ := hok
        exact ⟨o, h1, h2.1⟩
      · obtain ⟨⟨_, _, _, o, es, ep, h1, h2, _⟩, _⟩ := hok
        exact ⟨o, h1, h2.1⟩
    exact PySem.W.kia_one PySem.W.kitx_dict I.kIn P e (fun z => nomatch z) fun tk => ⟨.bl b, H, I.tok tk, rfl, q⟩
section
variable {K : PySem.W.Frag} {G : Cls} {ρ : List (Option Addr)} {S : List DO} {H : Hp}
theorem isTy_ok {t : Ty0} {d : D} {v : V} {b : Bool} (rp : Rep K G ρ S H) (q : RepV K G ρ H d v) (e : isTy S t d = some b) : ∃ u, TyW K G H v u ∧ PySem.W.kitOne K u (.type (tyS t)) = some b := by
  cases q with
  | non => cases e; exact ⟨_, .x <| .base .non, kit_ty (kit_non t)⟩
  | bl k =>
    cases e
    refine ⟨_, .x <| .base (.bl _), kit_ty ?_⟩
    exact (kit_tab .bool t).trans (by cases t <;> rfl)
  | int i =>
    cases e
    refine ⟨_, .x <| .base (.int _), kit_ty ?_⟩
    exact (kit_tab .int t).trans (by cases t <;> rfl)
  | str i =>
    cases e
    refine ⟨_, .x <| .base (.str _), kit_ty ?_⟩
    exact (kit_tab .str t).trans (by cases t <;> rfl)
  | @tup xs a us h r =>
    cases e
    have hk : PySem.W.kitOne K (.type "tuple") (.type (tyS t)) = some (decide (t = .tuple)) := kit_ty ((kit_tab .tuple t).trans (by cases t <;> rfl))
    rcases h with (h | ⟨o, h⟩) | ⟨o, its, n, h1, h2, _⟩
    · exact ⟨_, .x <| .base (.tup h), hk⟩
    · exact ⟨_, .x <| .fTuple h, hk⟩
    · exact ⟨_, .x <| .kTuple h1 h2, hk⟩
  | @lst xs a us o h r =>
    cases e
    exact ⟨_, .x <| .base (.frz h), kit_ty ((kit_tab .list t).trans (by cases t <;> rfl))⟩
  | dct h r =>
    have e' : some (decide (t = .dict)) = some b := by cases t <;> exact e
    cases e'
    exact ⟨_, .dct (.inr ⟨_, h⟩) r, kit_ty ((kit_tab .dict t).trans (by cases t <;> rfl))⟩
  | ins hc h r => cases t <;> cases e
  | ex0 hc g => cases t <;> cases e
  | ex1 hc g h r => cases t <;> cases e
  | scr h => cases t <;> cases e
  | @ref r a x h q =>
    have e' : (match S[r]? with
      | some (DO.lst _) => some (decide (t = .list))
      | some (DO.lkl _) => some (decide (t = .list))
      | some (DO.dct _) => some (decide (t = .dict))
      | some (DO.lkd _) => some (decide (t = .dict))
      | _ => none) = some b := by cases t <;> exact e
    split at e'
    · rename_i hS
      cases e'
      obtain ⟨a', u, ea, _, h1, _, us, rfl, _⟩ := rp.at (.ref h q) hS trivial
      cases ea
      exact ⟨_, .x <| .base (.lst h1), kit_ty ((kit_tab .list t).trans (by cases t <;> rfl))⟩
    · rename_i hS
      cases e'
      obtain ⟨a', u, ea, _, h1, od, us, rfl, _⟩ := rp.atL (.ref h q) hS (by intro z; cases z)
      cases ea
      exact ⟨_, .x <| .base (.frz h1), kit_ty ((kit_tab .list t).trans (by cases t <;> rfl))⟩
    · rename_i hS
      cases e'
      obtain ⟨a', u, ea, _, h1, _, h2⟩ := rp.at (.ref h q) hS trivial
      cases ea
      exact ⟨_, .dct (.inl h1) h2, kit_ty ((kit_tab .dict t).trans (by cases t <;> rfl))⟩
    · rename_i hS
      cases e'
      obtain ⟨a', u, ea, _, h1, od, u', rfl, _, h2⟩ := rp.atL (.ref h q) hS (by intro z; cases z)
      cases ea
      exact ⟨_, .dct (.inr ⟨_, h1⟩) h2, kit_ty ((kit_tab .dict t).trans (by cases t <;> rfl))⟩
    · cases e'
end
section
variable {X : Cx} {G : Cls} {W : L2.WX} {a : Expr} {ma : Env → EM D} {p p2 pos : Pos}
theorem boot_ty (t : Ty0) : bootBuiltins (tyN0 t) = some (.type (tyS t)) := by cases t <;> decide +kernel
theorem pm_isT (t : Ty0) (hg : Gl X "isinstance") (hm : X.mg "isinstance" = none) (hg2 : Gl X (tyN0 t)) (hm2 : X.mg (tyN0 t) = none) (ha : PE X a (tM X.K G W ma)) (hs : notStar a = true) :
    PE X (.Call (.Name "isinstance" p) [a, .Name (tyN0 t) p2] [] pos) (tM X.K G W (e1 (isTyM t) ma)) := by
  have hb : PE X (.Name (tyN0 t) p2) (tC (.ty (tyS t))) := pe_bltn hg2 hm2 (boot_ty t) rfl (by cases t <;> decide +kernel) (by cases t <;> decide +kernel)
  refine PE.weak (pe_callB (call_isiW (G := G)) hg hm boot_isinstance (pa_cons ha (pa_cons hb pa_nil) (star_cons hs _ _)) (by decide +kernel) (by decide +kernel) (star_cons hs _ _) rfl) fun σ H Q ⟨ρ, S, E, rp, re, g⟩ => ?_
  refine ⟨ρ, S, E, rp, re, Go.mono (Go.bind g) ?_⟩
  rintro v H1 ⟨ρ1, S1, d, x1, r1, q1, g1⟩
  unfold isTyM at g1
  cases hd : isTy S1 t d with
  | none => rw [hd] at g1; exact g1.elim
  | some b =>
    rw [hd] at g1
    obtain ⟨u, h1, h2⟩ := isTy_ok r1 q1 hd
    exact ⟨v, .ty (tyS t), u, _, b, rfl, .ty _, h1, h2, g1 ρ1 _ H1 (Ext.refl _ _) r1 (.bl _)⟩
end
/-! ### the same, of dicts too -/
section
variable {X : Cx} {G : Cls} {W : L2.WX} {o e : Expr} {es : List Expr} {ma : Env → EM D} {ms : Env → EM (List D)}
theorem noExc_idx2 {x y : D} : NoExc (idx2M x y) := by
  unfold idx2M
  split
  · exact noExc_dix
  · exact noExc_six
  · exact noExc_idx
theorem noExc_len2 {xs : List D} : NoExc (len2M xs) := fun S c fs S' h => by
  unfold len2M at h
  split at h
  · split at h
    · exact noExc_dlen _ _ _ _ h
    · exact noExc_len _ _ _ _ h
  · exact noExc_len _ _ _ _ h
theorem noExc_dget {x : D} {xs : List D} : NoExc (dgetM x xs) := fun S c fs S' h => by
  unfold dgetM at h
  split at h
  · split at h
    · split at h <;> cases h
    · cases h
  · split at h
    · split at h <;> cases h
    · cases h
  · cases h
theorem ix_2M (hp : X.prog = G.prog) (hw : X.w = G.world) (hu : X.A.units + 64 < cLine) : IxR X (r2M X.K G idx2M) := by
  intro value slice pins s σ H vx vy v u Q I r1 r2 ⟨ρ, S, x, y, rp, q1, q2, g⟩ hs
  unfold idx2M at g
  split at g
  · exact ix_dixM hp hw hu value slice pins s σ H vx vy v u Q I r1 r2 ⟨ρ, S, x, _, rp, q1, q2, g⟩ hs
  · exact ix_sixM hp hw value slice pins s σ H vx vy v u Q I r1 r2 ⟨ρ, S, x, _, rp, q1, q2, g⟩ hs
  · exact ix_M value slice pins s σ H vx vy v u Q I r1 r2 ⟨ρ, S, x, y, rp, q1, q2, g⟩ hs
theorem cr_len2 (hp : X.prog = G.prog) (hw : X.w = G.world) : CallR X (.builtin "len") (rsM X.K G len2M) := by
  intro pins s σ H vs us Q I r ⟨ρ, S, xs, rp, q, g⟩
  unfold len2M at g
  split at g
  · split at g
    · exact cr_dlen hp hw pins s σ H vs us Q I r ⟨ρ, S, _, rp, q, g⟩
    · exact cr_len pins s σ H vs us Q I r ⟨ρ, S, _, rp, q, g⟩
  · exact cr_len pins s σ H vs us Q I r ⟨ρ, S, _, rp, q, g⟩
theorem pm_get (hp : X.prog = G.prog) (hw : X.w = G.world) (hu : X.A.units + 64 < cLine) {apos cpos : Pos} (ho : PE X o (tM X.K G W ma)) (ha : PA X (e :: es) (tA X.K G W ms)) (hbase : attributeBase o "get" X.env (eval o X.env) = eval o X.env) (hs : (e :: es).all notStar = true) (hl : es.length < 20) (hline : (apos.endLine == cpos.line) = true) :
    PE X (.Call (.Attribute o "get" apos) (e :: es) [] cpos) (tM X.K G W (eGet ma ms)) := by
  have hs1 : notStar e = true := by simp only [List.all_cons, Bool.and_eq_true] at hs; exact hs.1
  have hs2 : es.all notStar = true := by simp only [List.all_cons, Bool.and_eq_true] at hs; exact hs.2
  refine PE.weak (pe_recv (TR := isDct X G) (fun pins s σ H x v I r h => isDct_at hp hw I r h) PySem.F.plainAttrs_dict PySem.F.slot_dict_get PySem.F.type_dict_get (mt_dgetM hp hw hu) ho ha hbase ?_ hline (star_cons hs1 es X.env) (star_any hs2)) fun σ H Q ⟨ρ, S, E, rp, re, g⟩ => ?_
  · rw [star_few hs]
    show (true && true && decide (es.length + 1 + 0 + 0 < 30)) = true
    simp only [Bool.and_self, Bool.true_and, decide_eq_true_eq]
    omega
  · refine ⟨ρ, S, E, rp, re, Go.mono (Go.bind g) ?_⟩
    rintro v H1 ⟨ρ1, S1, d, x1, r1, q1, g1⟩
    unfold chkD EM.bind at g1
    dsimp only at g1
    cases hv : viewD S1 d with
    | none => rw [hv] at g1; exact g1.elim
    | some kvs =>
      rw [hv] at g1
      refine ⟨⟨ρ1, S1, d, kvs, r1, q1, hv⟩, ρ1, S1, E, r1, RepE.ext x1 re, ?_⟩
      have g2 : Go X.K G (RD X.K G) W σ ρ1 H1 (EM.bind (ms E) (fun xs => dgetM d xs) S1) Q := g1
      refine Go.mono (Go.bind g2) ?_
      rintro vs H2 ⟨ρ2, S2, xs, x2, r2, q2, g3⟩
      exact ⟨ρ2, S2, d, xs, r2, RepV.ext x2 q1, q2, g3.w0 noExc_dget⟩
theorem pf_dnew {X : Cx} {G : Cls} {W : L2.WX} {pos : Pos} : PE X (.Dict [] [] pos) (tF X.K G W fDnew) :=
  pe_dnewK.weak fun σ H Q ⟨ρ, S, E, rp, re, g⟩ => fun p hp => g ρ p (.dK []) _ (Ext.laid hp) (rp.laid hp) hp (rp.notNew hp) upd_same trivial (.k .nil)
theorem pm_frzE {X : Cx} {G : Cls} {W : L2.WX} {e : Expr} {ma : Env → EM D} (he : PE X e (tM X.K G W ma)) : PE X e (tM X.K G W (eFrzE ma)) :=
  (pe_frz he).weak fun σ H Q ⟨ρ, S, E, rp, re, g⟩ => by
    refine ⟨ρ, S, E, rp, re, Go.mono (Go.bind g) ?_⟩
    rintro v H1 ⟨ρ1, S1, d, x1, r1, q1, g1⟩
    unfold frzD at g1
    cases d with
    | ref r =>
      dsimp only at g1
      cases hS : S1[r]? with
      | none => rw [hS] at g1; exact g1.elim
      | some o =>
        rw [hS] at g1
        dsimp only at g1
        cases hv : valOf o with
        | none => rw [hv] at g1; exact g1.elim
        | some d =>
          rw [hv] at g1
          obtain ⟨a, u, rfl, ha, h3, m, rc⟩ := r1.at q1 hS (by cases o <;> first | trivial | cases hv)
          refine ⟨a, u, rfl, h3, m, fun ob => ?_⟩
          have x : Ext ρ1 H1 (ρ1.set r none) (upd H1 a (.frz ob u)) := Ext.froze ha h3 m
          exact g1 (ρ1.set r none) (.ref a) _ x (r1.froze ha h3 m) (RepV.ofC hv upd_same (RepC.ext x rc))
    | _ => exact g1.elim
end
end PK
namespace PK
open PySem PySem.Spec PyProof.Rows L2
/-! ### several except clauses, each with a name of its own (or none) -/
/-- an exception that lies caught: its place, class, dict; the store as the body left it -/
structure Lies (X : Cx) (pins : List (Addr × Obj)) (σ : L2.St) (H : Hp) (a : Addr) (cls : Value) (d : Option Addr) (B : Heap) (sI s : Shared) : Prop where
  inv : Inv X pins σ H sI
  nb : ∀ b o, sI.heap.get? b = some o → b ∉ frs X.stack → B.get? b = some o
  up : sI.heap.UpToSlots s.heap
  os : s.os = sI.os
  ag : AllBare s.gens
  fl : HandSPX.FlyingZ B (X.env :: X.outer) a (Zc cls d) s.heap
  na : H a = none
section
variable {X : Cx} {pins : List (Addr × Obj)} {σ : L2.St} {H : Hp} {a : Addr} {cls : Value} {d : Option Addr} {B : Heap} {sI s : Shared}
theorem Lies.here (L : Lies X pins σ H a cls d B sI s) : Inv X pins σ H s := L.inv.landed L.nb L.fl.1 L.up L.os L.ag
theorem Lies.step (L : Lies X pins σ H a cls d B sI s) {h : Heap} (f : HandSPX.FlyingZ B (X.env :: X.outer) a (Zc cls d) h) (u : s.heap.UpToSlots h) : Lies X pins σ H a cls d B sI { s with heap := h } :=
  ⟨L.inv, L.nb, L.up.trans u, L.os, L.ag, f, L.na⟩
/-- what a clause's suite may lean on -/
theorem Lies.suite (L : Lies X pins σ H a cls d B sI s) (hf : X.env.frame = some X.env.locals) : ∃ oe vs, s.heap.get? a = some oe ∧ Zc cls d oe ∧ oe.data = .fields vs ∧ Inv (X.suite a ((a, oe) :: (X.pn ++ pins))) [] σ H s := by
  obtain ⟨oe, vs, h1, h2, h3⟩ := L.fl.there
  have out : a ∉ frs (X.env :: X.outer) := fun hm => by
    obtain ⟨_, o', e', q⟩ := L.fl.2.2.1.mem hm
    rw [h1] at e'
    cases e'
    exact q _ h3
  refine ⟨oe, vs, h1, h2, h3, L.here.suite h1 h3 L.na (fun z => out ?_) fun hm => ?_⟩
  · exact List.mem_filterMap.mpr ⟨X.env, List.mem_cons_self, by rw [hf, z]⟩
  · obtain ⟨e, he, q⟩ := List.mem_filterMap.mp hm
    exact out (List.mem_filterMap.mpr ⟨e, List.mem_cons_of_mem _ he, q⟩)
end
/-- the clause's ends: its name goes -/
def endAs (i : Nat) (D : Ends) : Ends := { nx := fun σ H => D.nx (σ.set i none) H, rt := D.rt, bk := fun σ H => D.bk (σ.set i none) H, ct := fun σ H => D.ct (σ.set i none) H }
/-- a clause: the class, the slot of its name, what its suite does -/
abbrev Clause := Value × Option Nat × (Addr → Value → Option Addr → TS)
def wAll (K : PySem.W.Frag) (Wout : L2.WX) (D : Ends) : List Clause → L2.WX
  | [] => Wout
  | (c, sl, ts) :: r => fun cls d σ H => ∃ b, PySem.W.exmOne K cls c = some b ∧
      (b = true → ∀ a, H a = none → match sl with
        | some i => ts a cls d (endAs i D) (σ.set i (some (.ref a))) H
        | none => ts a cls d D σ H) ∧ (b = false → wAll K Wout D r cls d σ H)
def SuiteOk (X : Cx) (b : List Stmt) (ts : Addr → Value → Option Addr → TS) : Prop :=
  ∀ (a : Addr) (oe : Obj) (cls : Value) (d : Option Addr) (pn : List (Addr × Obj)), Zc cls d oe → (∃ vs, oe.data = .fields vs) → PSs (X.suite a ((a, oe) :: pn)) b (ts a cls d)
inductive HdA (X : Cx) : List ExceptHandler → List Clause → Prop
  | nil : HdA X [] []
  | as {x n : Str} {i : Nat} {c : Value} {ts : Addr → Value → Option Addr → TS} {b₀ : Stmt} {b : List Stmt} {np pos : Pos} {hs : List ExceptHandler} {l : List Clause} (hc : Names X x c) (hi : X.N[i]? = some n) (hl : X.env.kindOf n = some .local) (hb : SuiteOk X (b₀ :: b) ts) (r : HdA X hs l) :
      HdA X (.ExceptHandler (some (.Name x np)) (some n) (b₀ :: b) pos :: hs) ((c, some i, ts) :: l)
  | un {x : Str} {c : Value} {ts : Addr → Value → Option Addr → TS} {b₀ : Stmt} {b : List Stmt} {np pos : Pos} {hs : List ExceptHandler} {l : List Clause} (hc : Names X x c) (hb : SuiteOk X (b₀ :: b) ts) (r : HdA X hs l) :
      HdA X (.ExceptHandler (some (.Name x np)) none (b₀ :: b) pos :: hs) ((c, none, ts) :: l)
section
variable {X : Cx} {pins : List (Addr × Obj)} {σ : L2.St} {H : Hp} {a : Addr} {cls : Value} {d : Option Addr} {B : Heap} {sI s : Shared} {Wout : L2.WX} {D : Ends}
/-- no clause is left: on it flies -/
theorem Lies.out (L : Lies X pins σ H a cls d B sI s) (hs : X.stack = X.env :: X.outer) (hf : X.env.frame = some X.env.locals) (tk : Takes X Wout) (w : Wout cls d σ H) : wpAny (model X.prog X.w) X.A (handleBy (.ref a) X.env []) (SP X pins D) X.xe s := by
  have fin : wpAny (model X.prog X.w) X.A (setFlight (.ref a) X.env.frame) (fun _ s4 => wpAny (model X.prog X.w) X.A (throw (.ref a) : Sem Flow) (SP X pins D) X.xe s4) X.xe s := by
    rw [hf]
    refine HandSPX.setFlight_upZ L.fl fun h4 k4 u4 => wpAny_throw (tk _ _ ?_)
    exact ⟨a, B, sI, pins, σ, H, cls, d, rfl, L.inv, L.nb, L.up.trans u4, .inr (.inr (by rw [hs]; exact k4)), L.na, L.os, L.ag, w⟩
  refine wpAny_handleBy_nil ?_
  obtain ⟨_, _, _, oe, vs, T, _, _, q1, _, q2, q3, _⟩ := id L.fl
  unfold PySem.passOn
  refine wpAny_bind (wpAny_field q1 q2 q3 ?_)
  rw [if_neg (show ¬ ((Value.ref T == Value.none) = true) from by simp)]
  first
    | exact wpAny_bind (wpAny_pure (wpAny_bind fin))
    | exact wpAny_bind fin
/-- a clause's class is asked -/
theorem Lies.ask (L : Lies X pins σ H a cls d B sI s) (hf : X.env.frame = some X.env.locals) {x : Str} {c : Value} {np : Pos} {Q : Value → Shared → Prop} {E : Value → Shared → Prop} (hc : Names X x c) (q : Q c s) : wpAny (model X.prog X.w) (X.A.mark (some (.ref a))) (eval (.Name x np) X.env) Q E s := by
  obtain ⟨oe, vs, _, _, _, S⟩ := L.suite hf
  obtain ⟨hg, hd, hm | ⟨hm, hv, hn⟩⟩ := hc
  · exact ld_glob (X := X.suite a ((a, oe) :: (X.pn ++ pins))) S hg hm q hd
  · exact ld_blt (X := X.suite a ((a, oe) :: (X.pn ++ pins))) S hg hm hv q hn hd
theorem Lies.first (L : Lies X pins σ H a cls d B sI s) (hf : X.env.frame = some X.env.locals) {x : Str} {c : Value} {b : Bool} {np pos : Pos} {nm : Option Str} {body : List Stmt} {rest : List ExceptHandler} {Q : Flow → Shared → Prop} {E : Value → Shared → Prop} (hc : Names X x c) (hb : PySem.W.exmOne X.K cls c = some b)
    (yes : b = true → codeAny (model X.prog X.w) (X.A.mark (some (.ref a))) (.handlers (.ref a) [.ExceptHandler none nm body pos] X.env) (fun r s₂ => match r with
          | .ok f => (match nm with
            | none => Q f s₂
            | some n => wpAny (model X.prog X.w) X.A (do bindName X.env n .none; unbindBehindTheSuite X.env n pos) (fun _ s₃ => Q f s₃) E s₂)
          | .error x => cameBackBy (model X.prog X.w) X.A X.env E x s₂) s)
    (no : b = false → wpAny (model X.prog X.w) X.A (handleBy (.ref a) X.env rest) Q E s) :
    wpAny (model X.prog X.w) X.A (handleBy (.ref a) X.env (.ExceptHandler (some (.Name x np)) nm body pos :: rest)) Q E s := by
  refine wpAny_handleBy_cons (codeAny_handlers_test (L.ask hf hc ?_)) (by intro q; cases q)
  obtain ⟨oe, vs, h1, h2, h3⟩ := L.fl.there
  have T : PySem.W.Looks (model X.prog X.w) s.heap (typeOf (.ref a)) cls := fun A Q E s k q => wpAny_typeOf_ref (k _ _ h1) (by rw [h2.1]; exact q)
  refine (PySem.W.exm_one (M := model X.prog X.w) L.here.kIn T hb).here ?_
  cases b with
  | true => exact yes rfl
  | false => exact no rfl
theorem Lies.hand (ok : X.Ok) (hs : X.stack = X.env :: X.outer) (hf : X.env.frame = some X.env.locals) (hN : X.N.Nodup) (tk : Takes X Wout) (L : Lies X pins σ H a cls d B sI s) {hds : List ExceptHandler} {l : List Clause} (hh : HdA X hds l) (w : wAll X.K Wout D l cls d σ H) :
    wpAny (model X.prog X.w) X.A (handleBy (.ref a) X.env hds) (SP X pins D) X.xe s := by
  induction hh with
  | nil => exact L.out hs hf tk w
  | @un x c ts b₀ bd np pos hs2 l2 hc hb r ih =>
    obtain ⟨b, e, yes, no⟩ := w
    refine L.first hf hc e (fun eb => ?_) fun eb => ih (no eb)
    refine codeAny_handlers_suite (HandSPX.lands_againZ L.fl fun h4 fl4 up4 => ?_)
    have L4 := L.step fl4 up4
    obtain ⟨oe, vs, _, z, dd, S⟩ := L4.suite hf
    refine wpAny_mono ((hb a oe cls d (X.pn ++ pins) z ⟨_, dd⟩).run [] _ _ H _ S (yes eb a L.na)) (fun f s6 q => ?_) (fun _ _ z => False.elim z)
    cases f with
    | next => exact let ⟨_, _, I, q⟩ := q; ⟨_, _, I.unsuite ok, q⟩
    | brk => exact let ⟨_, _, I, q⟩ := q; ⟨_, _, I.unsuite ok, q⟩
    | cont => exact let ⟨_, _, I, q⟩ := q; ⟨_, _, I.unsuite ok, q⟩
    | ret u => exact let ⟨_, _, _, I, r, q⟩ := q; ⟨_, _, _, I.unsuite ok, r, q⟩
  | @as x n i c ts b₀ bd np pos hs2 l2 hc hi hl hb r ih =>
    obtain ⟨b, e, yes, no⟩ := w
    refine L.first hf hc e (fun eb => ?_) fun eb => ih (no eb)
    refine codeAny_handlers_suite_as (HandSPX.lands_againZ L.fl fun h4 fl4 up4 => ?_)
    have L4 := L.step fl4 up4
    obtain ⟨oe, vs, _, z, dd, S⟩ := L4.suite hf
    refine store_ok (X := X.suite a ((a, oe) :: (X.pn ++ pins))) (v := .ref a) S hN hi (.inl hl) rfl (fun s5 S5 => ?_) (.inr hl)
    refine wpAny_mono ((hb a oe cls d (X.pn ++ pins) z ⟨_, dd⟩).run [] s5 _ H _ S5 (yes eb a L.na)) (fun f s6 q => ?_) (fun _ _ z => False.elim z)
    cases f with
    | next => exact let ⟨_, _, I, q⟩ := q; gone_ok (I.unsuite ok) hN hi hl fun _ J => ⟨_, _, J, q⟩
    | brk => exact let ⟨_, _, I, q⟩ := q; gone_ok (I.unsuite ok) hN hi hl fun _ J => ⟨_, _, J, q⟩
    | cont => exact let ⟨_, _, I, q⟩ := q; gone_ok (I.unsuite ok) hN hi hl fun _ J => ⟨_, _, J, q⟩
    | ret u => exact let ⟨_, _, _, I, r, q⟩ := q; gone_ok (I.unsuite ok) hN hi hl fun _ J => ⟨_, _, _, J, r, q⟩
end
section
variable {X : Cx} {body : List Stmt} {h₀ : ExceptHandler} {hds : List ExceptHandler} {l : List Clause} {pos : Pos} {tb : L2.WX → TS} {Wout : L2.WX}
/-- try: body, except A as a: .., except B as b: .. -/
theorem ps_try_all (hs : X.stack = X.env :: X.outer) (hf : X.env.frame = some X.env.locals) (hN : X.N.Nodup) (tk : Takes X Wout)
    (hb : ∀ (W : L2.WX) (pn : List (Addr × Obj)) (xe : Value → Shared → Prop), Takes (X.tr pn xe) W → PassesOwn (model X.prog X.w) X.A X.env xe → PSs (X.tr pn xe) body (tb W))
    (hh : HdA X (h₀ :: hds) l) : PS X (.Try body (h₀ :: hds) [] [] pos) (fun D σ H => tb (wAll X.K Wout D l) D σ H) := by
  refine ⟨fun pins s σ H D I h => wpAny_Try_except ?_⟩
  have fr : X.A.frames = some (X.env :: X.outer) := by rw [I.ok.frames, hs]
  let land : Value → Shared → Prop := fun e s₁ => wpAny (model X.prog X.w) X.A (noteFrame e X.env) (fun _ s₂ => wpAny (model X.prog X.w) X.A (setFlight e none) (fun _ s₃ => wpAny (model X.prog X.w) X.A (handleBy e X.env (h₀ :: hds)) (SP X pins D) X.xe s₃) X.xe s₂) X.xe s₁
  have catch_ : Takes (X.tr (X.pn ++ pins) land) (wAll X.K Wout D l) := by
    rintro _ s' ⟨a, B, sI, pins', σ', H', cls, d, rfl, J, nb, up, sky, na, os, ag, w⟩
    have sky' : Sky B (X.env :: X.outer) a (Zc cls d) X.env.locals s'.heap := by rw [← hs]; exact sky
    exact Sky.land Zc.steady fr hf sky' fun h3 fl3 up3 => Lies.hand (s := { s' with heap := h3 }) I.ok hs hf hN tk (B := B) (sI := sI) (a := a) ⟨J.ofTry I.ok, nb, up.trans up3, os, ag, fl3, na⟩ hh w
  refine wpAny_mono ((hb (wAll X.K Wout D l) (X.pn ++ pins) land catch_ PassesOwn.looking).run [] s σ H D (I.toTry _) h) (fun f s1 q => ?_) fun _ _ q => q
  cases f with
  | next => exact let ⟨_, _, J, q⟩ := q; wpAny_execs_nil ⟨_, _, J.ofTry I.ok, q⟩
  | brk => exact let ⟨_, _, J, q⟩ := q; ⟨_, _, J.ofTry I.ok, q⟩
  | cont => exact let ⟨_, _, J, q⟩ := q; ⟨_, _, J.ofTry I.ok, q⟩
  | ret u => exact let ⟨_, _, _, J, r, q⟩ := q; ⟨_, _, _, J.ofTry I.ok, r, q⟩
end
end PK
namespace PK
open PySem PySem.Spec PyProof.Rows L2
/-! ### e.f, e the exception that the suite holds -/
structure XAt (K : PySem.W.Frag) (C : Addr) (f : Str) : Prop where
  ga : PySem.W.findIn K (.ref C) "__getattribute__" = some (some (.builtin "BaseException.__getattribute__"))
  gg : ∃ g, PySem.W.findIn K (.ref C) "__getattr__" = some g
  no : PySem.W.findIn K (.ref C) f = some none
  ex : PySem.W.subIn K (.ref C) (.type "BaseException") = some true
  hd : PySem.W.hasDictIn K C = true
section
variable {X : Cx} {a C : Addr} {oe : Obj} {od : Option Addr} {f : Str} {e : Expr} {te : TE} {pos : Pos}
/-- what the context knows of an exception in hand -/
structure XIn (X : Cx) (a C : Addr) (od : Option Addr) : Prop where
  ex : ∃ oe, (a, oe) ∈ X.pn ∧ Zc (.ref C) od oe ∧ ∃ vs, oe.data = .fields vs
theorem XIn.inst (T : XIn X a C od) {pins : List (Addr × Obj)} {σ : L2.St} {H : Hp} {s : Shared} (I : Inv X pins σ H s) {o : Option Obj} (ho : match od with | some d => ∃ ob, o = some ob ∧ s.heap.get? d = some ob | none => o = none) :
    ∃ oe, PySem.W.InstAt s.heap a oe C o := by
  obtain ⟨oe, hm, hz, vs, hv⟩ := T.ex
  obtain ⟨ha, _⟩ := I.pin (a, oe) (List.mem_append_left _ hm)
  refine ⟨oe, ha, hz.1, by unfold PySem.W.notCls; rw [hv] <;> rfl, ?_⟩
  rw [hz.2]
  cases od with
  | none => subst ho; trivial
  | some d => obtain ⟨ob, e, h⟩ := ho; subst e; exact h
def tXat (K : PySem.W.Frag) (G : Cls) (f : Str) (te : TE) : TE := fun σ H Q => te σ H fun v H1 => ∃ (a : Addr) (c : Nat) (dd : Addr) (us : List (Str × V)) (w : V), v = .ref a ∧ G.exc a = some (c, some dd) ∧ XAt K (G.addr c) f ∧ H1 dd = some (.xd us) ∧ us.lookup f = some w ∧ Q w H1
theorem pe_xat {G : Cls} (hx : ∀ a c od, G.exc a = some (c, od) → XIn X a (G.addr c) od) (he : PE X e te)
    (hb : attributeBase e f X.env (eval e X.env) = eval e X.env) : PE X (.Attribute e f pos) (tXat X.K G f te) := by
  refine ⟨fun pins s σ H Q I h => ?_⟩
  refine attr_of hb (thn (he.run pins s σ H _ I h) fun u s1 w => ?_)
  obtain ⟨x, H1, I1, rx, a, c, dd, us, v, ex, eg, T', eh, el, q⟩ := w
  subst ex
  obtain rfl : u = Value.ref a := rx
  have ok : ObjOk X.prog X.w H1 s1.heap dd (.xd us) := I1.hok dd _ eh
  obtain ⟨mA, hns, hr⟩ := ok
  obtain ⟨od, ho, hl⟩ := lookIn_ns hns
  obtain ⟨u, hu, ru⟩ := RelO.some_of (v := v) (o := mA f) (by rw [← el]; exact hr f)
  obtain ⟨g, hg⟩ := T'.gg
  obtain ⟨oe, J⟩ := (hx a c _ eg).inst I1 (o := some od) ⟨od, rfl, ho⟩
  exact HandSPX.exc_get I1.kIn J T'.ga hg T'.ex (PySem.W.findObj_own T'.hd T'.no rfl (by rw [hl, hu])) (handed_of ru) ⟨v, H1, I1.tok _, ru, q⟩
end
/-! ### isinstance(e, C) -/
structure XIs (K : PySem.W.Frag) (C : Addr) : Prop where
  cl : (PySem.W.clsIn K C).isSome = true
  ga : PySem.W.findIn K (.ref C) "__getattribute__" = some (some (.builtin "BaseException.__getattribute__"))
  gg : ∃ g, PySem.W.findIn K (.ref C) "__getattr__" = some g
  ex : PySem.W.subIn K (.ref C) (.type "BaseException") = some true
  ca : PySem.W.findIn K (.ref C) "__class__" = some (some (.builtin "object.__class__"))
  sp : PySem.W.specialIn K (.builtin "object.__class__") "__get__" = some (some (.builtin "getset_descriptor.__get__"))
  tk : PySem.W.takesIn K (.builtin "object.__class__") = some true
  ob : PySem.W.mroIn K C (.type "object") = some true
def rIsX (K : PySem.W.Frag) (G : Cls) : List V → Hp → VK → Prop := fun xs H Q => ∃ (a : Addr) (c : Nat) (od : Option Addr) (t : V) (tv : Value) (b : Bool), xs = [.ref a, t] ∧ G.exc a = some (c, od) ∧ XIs K (G.addr c) ∧ (∀ d, od = some d → ∃ us, H d = some (.xd us)) ∧ (∀ u, RelV t u → u = tv) ∧ PySem.W.kitOne K (.ref (G.addr c)) tv = some b ∧ Q (.bl b) H
theorem call_isX {X : Cx} {G : Cls} (hx : ∀ a c od, G.exc a = some (c, od) → XIn X a (G.addr c) od) : CallR X (.builtin "isinstance") (rIsX X.K G) := by
  intro pins s σ H xs us Q I r h
  obtain ⟨a, c, od, t, tv, b, rfl, eg, C, hd, hcv, e, q⟩ := h
  cases r with
  | cons rx rr =>
    cases rr with
    | cons rt rr =>
      cases rr
      cases rx
      have ec := hcv _ rt
      subst ec
      have J : ∃ oe o, PySem.W.InstAt s.heap a oe (G.addr c) o := by
        cases od with
        | none => obtain ⟨oe, J⟩ := (hx a c _ eg).inst I (o := none) rfl; exact ⟨oe, _, J⟩
        | some d =>
          obtain ⟨us, hu⟩ := hd d rfl
          obtain ⟨mA, hns, hr⟩ := (show ObjOk X.prog X.w H s.heap d (.xd us) from I.hok d _ hu)
          obtain ⟨ob, ho, hl⟩ := lookIn_ns hns
          obtain ⟨oe, J⟩ := (hx a c _ eg).inst I (o := some ob) ⟨ob, rfl, ho⟩
          exact ⟨oe, _, J⟩
      obtain ⟨oe, o, J⟩ := J
      obtain ⟨g, hg⟩ := C.gg
      exact PySem.W.kia_one (PySem.W.kitx_exc C.cl C.ga hg C.ex C.ca C.sp C.tk C.ob) I.kIn J e (fun z => nomatch z) fun tk => ⟨.bl b, H, I.kept (t' := tk) fun _ _ z => z, rfl, q⟩
end PK
namespace PK
open PySem PySem.Spec PyProof.Rows L2
/-! ### try, as the evaluator does it -/
/-- what a suite may lean on, and does -/
def tSu (K : PySem.W.Frag) (G : Cls) (sl : Option Nat) (m : SM) : Addr → Value → Option Addr → TS := fun a cls d D σ H =>
  ∃ ρ S E c fs, cls = .ref (G.addr c) ∧ xcl c = true ∧ Rep K G ρ S H ∧ RepE K G ρ H (unE sl E) σ ∧ okSl sl E = true ∧ (∀ i, sl = some i → σ[i]? = some (some (.ref a))) ∧ RepX K G ρ H fs d ∧ GoS K G W0 ρ H (endX sl (m (inE sl c fs E) S)) D
theorem RepE.less {K : PySem.W.Frag} {G : Cls} {ρ : List (Option Addr)} {H : Hp} {E : Env} {σ : L2.St} (r : RepE K G ρ H E σ) (i : Nat) : RepE K G ρ H (E.set i none) σ := by
  refine ⟨by rw [List.length_set]; exact r.1, fun j d e => ?_⟩
  by_cases h : i = j
  · subst h
    by_cases hl : i < E.length
    · rw [List.getElem?_set_self hl] at e; cases e
    · rw [List.getElem?_eq_none (by simpa using hl)] at e; cases e
  · rw [List.getElem?_set_ne h] at e
    exact r.2 j d e
theorem RepE.lessU {K : PySem.W.Frag} {G : Cls} {ρ : List (Option Addr)} {H : Hp} {E : Env} {σ : L2.St} (r : RepE K G ρ H E σ) (sl : Option Nat) : RepE K G ρ H (unE sl E) σ := by
  cases sl with
  | none => exact r
  | some i => exact r.less i
theorem RepE.unset {K : PySem.W.Frag} {G : Cls} {ρ : List (Option Addr)} {H : Hp} {E : Env} {σ : L2.St} (r : RepE K G ρ H E σ) (i : Nat) (o : Option V) : RepE K G ρ H (E.set i none) (σ.set i o) := by
  refine ⟨by rw [List.length_set, List.length_set]; exact r.1, fun j d e => ?_⟩
  by_cases h : i = j
  · subst h
    by_cases hl : i < E.length
    · rw [List.getElem?_set_self hl] at e; cases e
    · rw [List.getElem?_eq_none (by simpa using hl)] at e; cases e
  · rw [List.getElem?_set_ne h] at e
    obtain ⟨v, q1, q2⟩ := r.2 j d e
    exact ⟨v, by rw [List.getElem?_set_ne h]; exact q1, q2⟩
section
variable {K : PySem.W.Frag} {G : Cls} {W : L2.WX} {ρ : List (Option Addr)} {H : Hp} {Z : Ends}
theorem GoS.w0 {r : SR} {sl : Option Nat} (g : GoS K G W ρ H (endX sl r) Z) : GoS K G W0 ρ H (endX sl r) Z := by
  cases r with
  | nx E S =>
    unfold endX at g ⊢; dsimp only at g ⊢
    by_cases h : cleanX (unE sl E) = true ∧ S.all DO.noX = true
    · rw [if_pos h] at g ⊢; exact g
    · rw [if_neg h] at g ⊢; exact g
  | rt d S =>
    unfold endX at g ⊢; dsimp only at g ⊢
    by_cases h : d.noX = true ∧ S.all DO.noX = true
    · rw [if_pos h] at g ⊢; exact g
    · rw [if_neg h] at g ⊢; exact g
  | brk E S =>
    unfold endX at g ⊢; dsimp only at g ⊢
    by_cases h : cleanX (unE sl E) = true ∧ S.all DO.noX = true
    · rw [if_pos h] at g ⊢; exact g
    · rw [if_neg h] at g ⊢; exact g
  | ct E S =>
    unfold endX at g ⊢; dsimp only at g ⊢
    by_cases h : cleanX (unE sl E) = true ∧ S.all DO.noX = true
    · rw [if_pos h] at g ⊢; exact g
    · rw [if_neg h] at g ⊢; exact g
  | exc c fs E S => exact g.elim
  | stuck => exact g
theorem unset2 {i : Nat} {E : Env} : unE (some i) E = (unE (some i) E).set i none := by
  unfold unE
  rw [List.set_set]
theorem GoS.ends {i : Nat} {r : SR} (g : GoS K G W ρ H (endX (some i) r) Z) : GoS K G W ρ H (endX (some i) r) (endAs i Z) := by
  cases r with
  | nx E S =>
    unfold endX at g ⊢; dsimp only at g ⊢
    by_cases h : cleanX (unE (some i) E) = true ∧ S.all DO.noX = true
    · rw [if_pos h] at g ⊢; exact fun ρ' σ' H' x r q => g ρ' _ H' x r (by rw [unset2]; exact q.unset i none)
    · rw [if_neg h] at g ⊢; exact g
  | rt d S =>
    unfold endX at g ⊢; dsimp only at g ⊢
    by_cases h : d.noX = true ∧ S.all DO.noX = true
    · rw [if_pos h] at g ⊢; exact g
    · rw [if_neg h] at g ⊢; exact g
  | brk E S =>
    unfold endX at g ⊢; dsimp only at g ⊢
    by_cases h : cleanX (unE (some i) E) = true ∧ S.all DO.noX = true
    · rw [if_pos h] at g ⊢; exact fun ρ' σ' H' x r q => g ρ' _ H' x r (by rw [unset2]; exact q.unset i none)
    · rw [if_neg h] at g ⊢; exact g
  | ct E S =>
    unfold endX at g ⊢; dsimp only at g ⊢
    by_cases h : cleanX (unE (some i) E) = true ∧ S.all DO.noX = true
    · rw [if_pos h] at g ⊢; exact fun ρ' σ' H' x r q => g ρ' _ H' x r (by rw [unset2]; exact q.unset i none)
    · rw [if_neg h] at g ⊢; exact g
  | exc c fs E S => exact g.elim
  | stuck => exact g
/-- the clauses' class values agree with the hits -/
inductive TCs (K : PySem.W.Frag) (G : Cls) : List TC → List Clause → Prop
  | nil : TCs K G [] []
  | cons {z : TC} {c : Value} {r : List TC} {l : List Clause} (h : ∀ k b, xcl k = true → z.hit k = some b → PySem.W.exmOne K (.ref (G.addr k)) c = some b) (q : TCs K G r l) : TCs K G (z :: r) ((c, z.sl, tSu K G z.sl z.m) :: l)
theorem wAll_of {c : Nat} {fs : List (Nat × D)} {E : Env} {S : List DO} {cl : List TC} {l : List Clause} (hc : xcl c = true) (t : TCs K G cl l) (g : GoS K G W ρ H (tryGo c fs cl E S) Z) {ρ' : List (Option Addr)} {σ' : L2.St} {H' : Hp} {od : Option Addr} (x : Ext ρ H ρ' H') (r : Rep K G ρ' S H') (re : RepE K G ρ' H' E σ') (rx : RepX K G ρ' H' fs od) :
    wAll K W Z l (.ref (G.addr c)) od σ' H' := by
  induction t with
  | nil => exact g ρ' σ' H' od x r re rx
  | @cons z cv rr ll h q ih =>
    unfold tryGo at g
    cases hz : z.hit c with
    | none => rw [hz] at g; exact g.elim
    | some b =>
      rw [hz] at g
      refine ⟨b, h c b hc hz, fun eb a na => ?_, fun eb => ?_⟩
      · subst eb
        dsimp only at g
        obtain ⟨zh, zs, zm⟩ := z
        dsimp only at g ⊢
        by_cases hl : okSl zs E = true
        · rw [if_pos hl] at g
          have g1 := GoS.w0 (GoS.ext x g)
          cases zs with
          | none => exact ⟨ρ', S, E, c, fs, rfl, hc, r, re, hl, fun i e => (by cases e), rx, g1⟩
          | some i =>
            refine ⟨ρ', S, E, c, fs, rfl, hc, r, re.unset i _, hl, fun j e => ?_, rx, GoS.ends g1⟩
            cases e
            rw [List.getElem?_set_self (by rw [← re.1]; exact of_decide_eq_true hl)]
        · rw [if_neg hl] at g; exact g.elim
      · subst eb
        exact ih g
/-- a suite, the exception in hand as a value -/
theorem suite_ok {X : Cx} {b : List Stmt} {sl : Option Nat} {m : SM} (g0 : ∀ a, G.exc a = none)
    (hb : ∀ (a : Addr) (c : Nat) (od : Option Addr) (pn : List (Addr × Obj)), xcl c = true → (∀ a' c' od', (G.with a c od).exc a' = some (c', od') → XIn (X.suite a pn) a' ((G.with a c od).addr c') od') → PSs (X.suite a pn) b (tS X.K (G.with a c od) W0 m)) :
    SuiteOk X b (tSu X.K G sl m) := by
  intro a oe cls d pn hz hf
  refine ⟨fun pins s σ H D I h => ?_⟩
  obtain ⟨ρ, S, E, c, fs, ec, hc, rp, re, hl, ha, rx, g⟩ := h
  subst ec
  have xin : ∀ a' c' od', (G.with a c d).exc a' = some (c', od') → XIn (X.suite a ((a, oe) :: pn)) a' ((G.with a c d).addr c') od' := by
    intro a' c' od' e
    have e' : (if a' = a then some (c, d) else none) = some (c', od') := e
    by_cases h : a' = a
    · rw [if_pos h] at e'
      cases e'
      subst h
      exact ⟨oe, List.mem_cons_self, hz, hf⟩
    · rw [if_neg h] at e'; cases e'
  refine (hb a c d ((a, oe) :: pn) hc xin).run pins s σ H D I ?_
  have ge : (G.with a c d).exc a = some (c, d) := if_pos rfl
  have rv : RepV X.K (G.with a c d) ρ H (.ins c fs) (.ref a) := by
    rcases rx with ⟨e1, e2⟩ | ⟨dx, us, e1, e2, rf⟩
    · subst e1 e2; exact .ex0 hc ge
    · subst e1; exact .ex1 hc ge e2 (RepF.up g0 rf)
  refine ⟨ρ, S, inE sl c fs E, rp.up g0, ?_, ?_⟩
  · cases sl with
    | none => exact re.up g0
    | some i =>
      have re' : RepE X.K (G.with a c d) ρ H (E.set i none) σ := re.up g0
      have hs := ha i rfl
      refine ⟨by have := re'.1; simp [inE] at this ⊢; exact this, fun j dd e => ?_⟩
      have e' : (E.set i (some (.ins c fs)))[j]? = some (some dd) := e
      by_cases h : i = j
      · subst h
        rw [List.getElem?_set_self (of_decide_eq_true hl)] at e'
        cases e'
        exact ⟨_, hs, rv⟩
      · rw [List.getElem?_set_ne h] at e'
        exact re'.2 j dd (by rw [List.getElem?_set_ne h]; exact e')
  · cases hm : m (inE sl c fs E) S with
    | nx E2 S2 =>
      rw [hm] at g
      unfold endX at g
      dsimp only at g
      by_cases hh : cleanX (unE sl E2) = true ∧ S2.all DO.noX = true
      · rw [if_pos hh] at g
        exact fun ρ' σ' H' x r q => g ρ' σ' H' x (r.down hh.2) ((q.lessU sl).down hh.1)
      · rw [if_neg hh] at g; exact g.elim
    | rt dd S2 =>
      rw [hm] at g
      unfold endX at g
      dsimp only at g
      by_cases hh : dd.noX = true ∧ S2.all DO.noX = true
      · rw [if_pos hh] at g
        exact fun ρ' v H' x r q => g ρ' v H' x (r.down hh.2) (q.down hh.1)
      · rw [if_neg hh] at g; exact g.elim
    | brk E2 S2 =>
      rw [hm] at g
      unfold endX at g
      dsimp only at g
      by_cases hh : cleanX (unE sl E2) = true ∧ S2.all DO.noX = true
      · rw [if_pos hh] at g
        exact fun ρ' σ' H' x r q => g ρ' σ' H' x (r.down hh.2) ((q.lessU sl).down hh.1)
      · rw [if_neg hh] at g; exact g.elim
    | ct E2 S2 =>
      rw [hm] at g
      unfold endX at g
      dsimp only at g
      by_cases hh : cleanX (unE sl E2) = true ∧ S2.all DO.noX = true
      · rw [if_pos hh] at g
        exact fun ρ' σ' H' x r q => g ρ' σ' H' x (r.down hh.2) ((q.lessU sl).down hh.1)
      · rw [if_neg hh] at g; exact g.elim
    | exc c' fs' E2 S2 => rw [hm] at g; exact g.elim
    | stuck => rw [hm] at g; exact g.elim
end
section
variable {X : Cx} {G : Cls} {W : L2.WX} {body : List Stmt} {h₀ : ExceptHandler} {hds : List ExceptHandler} {cl : List TC} {l : List Clause} {mb : SM} {pos : Pos}
theorem ps_tryM (hs : X.stack = X.env :: X.outer) (hf : X.env.frame = some X.env.locals) (hN : X.N.Nodup) (tk : Takes X W)
    (hb : ∀ (W : L2.WX) (pn : List (Addr × Obj)) (xe : Value → Shared → Prop), Takes (X.tr pn xe) W → PassesOwn (model X.prog X.w) X.A X.env xe → PSs (X.tr pn xe) body (tS X.K G W mb))
    (t : TCs X.K G cl l) (hh : HdA X (h₀ :: hds) l) : PS X (.Try body (h₀ :: hds) [] [] pos) (tS X.K G W (sTry mb cl)) := by
  have base := ps_try_all (pos := pos) (tb := fun W => tS X.K G W mb) hs hf hN tk hb hh
  refine ⟨fun pins s σ H D I h => base.run pins s σ H D I ?_⟩
  obtain ⟨ρ, S, E, rp, re, g⟩ := h
  refine ⟨ρ, S, E, rp, re, ?_⟩
  unfold sTry at g
  cases hm : mb E S with
  | nx E' S' => rw [hm] at g; exact g
  | rt d S' => rw [hm] at g; exact g
  | brk E' S' => rw [hm] at g; exact g
  | ct E' S' => rw [hm] at g; exact g
  | stuck => rw [hm] at g; exact g
  | exc c fs E' S' =>
    rw [hm] at g
    dsimp only at g
    by_cases hc : xcl c = true
    · rw [if_pos hc] at g
      exact fun ρ' σ' H' od x r q z => wAll_of hc t g x r q z
    · rw [if_neg hc] at g; exact g.elim
end
end PK
namespace PK
open PySem PySem.Spec PyProof.Rows L2
/-! ### e.f, isinstance(e, C): e an exception in hand -/
theorem noExc_fld {fok : Nat → Bool} {xk : Nat → Nat → Bool} {f : Nat} {d : D} : NoExc (fldM fok xk f d) := by
  unfold fldM
  split
  · split
    · exact noExc_ofO
    · intro S c fs S' h; cases h
  · intro S c fs S' h; cases h
theorem noExc_isX {h : Nat → Option Bool} {d : D} : NoExc (isXM h d) := by
  unfold isXM
  split
  · split
    · exact noExc_ofO
    · intro S c fs S' h; cases h
  · intro S c fs S' h; cases h
theorem RepF.look {K : PySem.W.Frag} {G : Cls} {ρ : List (Option Addr)} {H : Hp} {f : Nat} {fok : Nat → Bool} (inj : ∀ i j, fok i = true → fok j = true → G.fld i = G.fld j → i = j) (hf : fok f = true) {x : D} : ∀ {fs : List (Nat × D)} {us : List (Str × V)}, RepF K G ρ H fs us → (fs.all fun p => fok p.1) = true → fs.lookup f = some x → ∃ v, us.lookup (G.fld f) = some v ∧ RepV K G ρ H x v
  | (g, y) :: fs, _, .cons (v := v) (us := us) h r, ha, e => by
    rw [List.all_cons, Bool.and_eq_true] at ha
    by_cases hg : f = g
    · subst hg
      rw [List.lookup_cons_self] at e
      cases e
      exact ⟨v, List.lookup_cons_self, h⟩
    · have n1 : (f == g) = false := by simpa using hg
      have n2 : (G.fld f == G.fld g) = false := by
        rw [beq_eq_false_iff_ne]
        exact fun z => hg (inj f g hf ha.1 z)
      rw [List.lookup_cons, n1] at e
      obtain ⟨u, q1, q2⟩ := RepF.look inj hf r ha.2 e
      exact ⟨u, by rw [List.lookup_cons, n2]; exact q1, q2⟩
theorem RepV.xin {K : PySem.W.Frag} {G : Cls} {ρ : List (Option Addr)} {H : Hp} {c : Nat} {fs : List (Nat × D)} {v : V} (hc : xcl c = true) (h : RepV K G ρ H (.ins c fs) v) : ∃ a od, v = .ref a ∧ G.exc a = some (c, od) ∧ ((od = none ∧ fs = []) ∨ ∃ dx us, od = some dx ∧ H dx = some (.xd us) ∧ RepF K G ρ H fs us) := by
  cases h with
  | ins z => rw [hc] at z; cases z
  | ex0 _ g => exact ⟨_, _, rfl, g, .inl ⟨rfl, rfl⟩⟩
  | ex1 _ g h r => exact ⟨_, _, rfl, g, .inr ⟨_, _, rfl, h, r⟩⟩
section
variable {X : Cx} {G : Cls} {W : L2.WX} {e : Expr} {ma : Env → EM D} {p p2 pos : Pos}
theorem pm_fld {fok : Nat → Bool} {xk : Nat → Nat → Bool} {f : Nat} (hx : ∀ a c od, G.exc a = some (c, od) → XIn X a (G.addr c) od) (inj : ∀ i j, fok i = true → fok j = true → G.fld i = G.fld j → i = j)
    (T : ∀ c, xk c f = true → fok f = true → XAt X.K (G.addr c) (G.fld f)) (he : PE X e (tM X.K G W ma)) (hb : attributeBase e (G.fld f) X.env (eval e X.env) = eval e X.env) :
    PE X (.Attribute e (G.fld f) pos) (tM X.K G W (e1 (fldM fok xk f) ma)) := by
  refine PE.weak (pe_xat hx he hb) fun σ H Q ⟨ρ, S, E, rp, re, g⟩ => ?_
  refine ⟨ρ, S, E, rp, re, Go.mono (Go.bind g) ?_⟩
  rintro v H1 ⟨ρ1, S1, d, x1, r1, q1, g1⟩
  unfold fldM at g1
  split at g1
  · rename_i c fs
    split at g1
    · rename_i hh
      obtain ⟨h1, h2, h3, h4⟩ := hh
      obtain ⟨x, el, k⟩ := g1.ofO r1
      obtain ⟨a, od, rfl, ge, z⟩ := q1.xin h1
      rcases z with ⟨_, rfl⟩ | ⟨dx, us, rfl, hd, rf⟩
      · cases el
      · obtain ⟨w, l1, l2⟩ := RepF.look inj h3 rf h4 el
        exact ⟨a, c, dx, us, w, rfl, ge, T c h2 h3, hd, l1, k ρ1 w H1 (Ext.refl _ _) r1 l2⟩
    · exact g1.elim
  · exact g1.elim
theorem pm_isX {h : Nat → Option Bool} {u : Str} {t : V} {tv : Value} (hx : ∀ a c od, G.exc a = some (c, od) → XIn X a (G.addr c) od) (hg : Gl X "isinstance") (hm : X.mg "isinstance" = none) (ht : PE X (.Name u p2) (tC t)) (hr : ∀ w, RelV t w → w = tv)
    (T : ∀ c b, xcl c = true → h c = some b → XIs X.K (G.addr c) ∧ PySem.W.kitOne X.K (.ref (G.addr c)) tv = some b) (ha : PE X e (tM X.K G W ma)) (hs : notStar e = true) :
    PE X (.Call (.Name "isinstance" p) [e, .Name u p2] [] pos) (tM X.K G W (e1 (isXM h) ma)) := by
  refine PE.weak (pe_callB (call_isX hx) hg hm boot_isinstance (pa_cons ha (pa_cons ht pa_nil) (star_cons hs _ _)) (by decide +kernel) (by decide +kernel) (star_cons hs _ _) rfl) fun σ H Q ⟨ρ, S, E, rp, re, g⟩ => ?_
  refine ⟨ρ, S, E, rp, re, Go.mono (Go.bind g) ?_⟩
  rintro v H1 ⟨ρ1, S1, d, x1, r1, q1, g1⟩
  unfold isXM at g1
  split at g1
  · rename_i c fs
    split at g1
    · rename_i hc
      obtain ⟨x, el, k⟩ := g1.ofO r1
      obtain ⟨b, hb, rfl⟩ := Option.map_eq_some_iff.mp el
      obtain ⟨a, od, rfl, ge, z⟩ := q1.xin hc
      obtain ⟨t1, t2⟩ := T c b hc hb
      refine ⟨a, c, od, t, tv, b, rfl, ge, t1, fun d ed => ?_, hr, t2, k ρ1 _ H1 (Ext.refl _ _) r1 (.bl b)⟩
      rcases z with ⟨z, _⟩ | ⟨dx, us, z, hd, _⟩
      · rw [z] at ed; cases ed
      · rw [z] at ed; cases ed; exact ⟨us, hd⟩
    · exact g1.elim
  · exact g1.elim
end
end PK
namespace PK
open PySem PySem.Spec PyProof.Rows L2

structure Good (T : Tab) (v : Ev) (G : Cls) (n : Nat) (X : Cx) (W : L2.WX) (fn : Str → Bool) : Prop where
  tk : Takes X W
  po : PassesOwn (model X.prog X.w) X.A X.env X.xe
  calm : T.hot = false → X.calm = true
  gp : X.prog = G.prog
  gw : X.w = G.world
  nd : X.N.Nodup
  room : T.hot = false → Room n X.A
  un : X.A.units + 64 < cLine
  fn : ∀ x, fn x = true → X.fn x = true
  free : ∀ x ∈ T.free, X.mg x = none
  cst : ∀ (g : Nat) p, T.cst[g]? = some p → v.cst g = some p.2 ∧ ∃ w u, X.mg p.1 = some u ∧ RelV w u ∧ ∀ ρ H, RepV X.K G ρ H p.2 w
  fns : T.hot = false → ∀ (f : Nat) q, T.fns[f]? = some q → v.np f = q.2.1 ∧ v.dds f = q.2.2 ∧ ∃ a fd ps ds dvs, X.mg q.1 = some (.ref a) ∧ PySem.W.keepIn X.K (.ref a) = true ∧ Binds X.K fd ps ds ∧ Vals dvs ds ∧ (∀ ρ H, RepVs X.K G ρ H q.2.2 dvs) ∧
    FnOk X.prog X.w X.K X.mg X.base (L2.CX X.prog X.w) n a fd ps (spF X.K G q.2.1 (v.call f))
  kws : T.hot = false → ∀ (j : Nat) z, T.kws[j]? = some z → v.kn j = z.2.1 ∧ ∀ q, T.fns[z.1]? = some q → ∃ a fd ps, X.mg q.1 = some (.ref a) ∧ PySem.W.keepIn X.K (.ref a) = true ∧ KBn X.K fd ps z.2.1 [z.2.2] (fun us ws => us ++ ws) (fun us ws => us ++ ws) ∧
    FnOk X.prog X.w X.K X.mg X.base (L2.CX X.prog X.w) n a fd ps (spF X.K G q.2.1 (v.call z.1))
  xcs : T.hot = false → ∀ (c : Nat) x, T.xcs[c]? = some (some x) → X.mg x = some (.ref (G.addr c)) ∧ (v.xf c ≠ [] ∧ (v.xf c).length ≤ 800) ∧ OexC X.K (G.addr c) ∧ (∀ f ∈ (v.xf c).map G.fld, PySem.W.findIn X.K (.ref (G.addr c)) f = some none) ∧
    ∃ k fI fd self, n = k + 1 ∧ PySem.W.findIn X.K (.ref (G.addr c)) "__init__" = some (some (.ref fI)) ∧ PySem.W.typeIn X.K (.ref fI) = some (.type "function") ∧ Binds X.K fd (self :: (v.xf c).map G.fld) [] ∧
    FnOk X.prog X.w X.K X.mg X.base (L2.CX X.prog X.w) k fI fd (self :: (v.xf c).map G.fld) (spI X.K ((v.xf c).map G.fld))
  mks : T.hot = false → ∀ (j : Nat) x o, T.mks[j]? = some (x, o) → ∃ c, X.mg x = some (.ref (G.addr c)) ∧ OexC X.K (G.addr c) ∧ MkF X.prog X.w X.K X.mg X.base G n (v.mf j) c o
  xts : ∀ (t : Nat) u, T.xts[t]? = some u → ∃ tv tw, (X.mg u = some tv ∨ (X.mg u = none ∧ bootBuiltins u = some tv ∧ u ≠ "__name__")) ∧ RelV tw tv ∧ (∀ w, RelV tw w → w = tv) ∧
    ∀ c b, xcl c = true → v.isx c t = some b → XIs X.K (G.addr c) ∧ PySem.W.exmOne X.K (.ref (G.addr c)) tv = some b ∧ PySem.W.kitOne X.K (.ref (G.addr c)) tv = some b
  flds : ∀ (f : Nat) n, T.flds[f]? = some n → G.fld f = n
  inj : ∀ i j, v.fok i = true → v.fok j = true → G.fld i = G.fld j → i = j
  xat : ∀ c f, v.xk c f = true → v.fok f = true → XAt X.K (G.addr c) (G.fld f)
  cool : T.hot = false → ∀ a, G.exc a = none
  xin : ∀ a c od, G.exc a = some (c, od) → XIn X a (G.addr c) od
section
variable {T : Tab} {v : Ev} {G : Cls} {n : Nat} {X : Cx} {W : L2.WX} {fn : Str → Bool}
theorem Good.blk (g : Good T v G n X W fn) (hh : T.hot = false) (s : Shared) (H : Hp) (scope : Scope) (cl : List (Str × Addr)) (C : Addr) (fp : List Addr) : Good T v G n (X.blk s H scope (compEnvC scope cl C X.env) fp) W0 (fun x => scope.names.lookup x == some .cell) where
  tk := fun u s' x => by
    obtain ⟨_, _, _, _, _, _, _, _, _, _, _, _, _, _, _, _, z⟩ := x
    exact z.elim
  po := PassesOwn.never
  calm := g.calm
  gp := g.gp
  gw := g.gw
  nd := g.nd
  room := g.room
  un := g.un
  fn := fun x h => h
  free := g.free
  cst := g.cst
  fns := g.fns
  kws := g.kws
  xcs := g.xcs
  mks := g.mks
  xts := g.xts
  flds := g.flds
  inj := g.inj
  xat := g.xat
  cool := g.cool
  xin := fun a c od e => by rw [g.cool hh] at e; cases e
theorem gl_of {x : Str} {sc : Scope} (e : X.env.scope = sc) (h : glB sc x = true) : Gl X x := by
  subst e
  have h' : decide (X.env.scope.names.lookup x = some .globalImplicit) = true := h
  have h2 := of_decide_eq_true h'
  exact h2
theorem blt_of {x : Str} {sc : Scope} (g : Good T v G n X W fn) (e : X.env.scope = sc) (h : bltB T sc x = true) : Gl X x ∧ X.mg x = none ∧ (x == ("__debug__" : Str)) = false ∧ x ≠ "__name__" := by
  simp only [bltB, Bool.and_eq_true, decide_eq_true_eq, Bool.not_eq_true'] at h
  exact ⟨gl_of e h.1.1.1, g.free x h.1.1.2, h.1.2, h.2⟩
theorem vis_of {x : Str} (h : visB X.env.scope x = true) : Vis X.env.scope x := by
  unfold visB at h
  split at h
  · exact .inl ‹_›
  · exact .inr (.inl ‹_›)
  · exact .inr (.inr ‹_›)
  · cases h
theorem loc_of {x : Str} (g : Good T v G n X W fn) (h : locB X.env.scope fn x = true) : Loc X.env.scope x ∧ (X.fn x = true ∨ X.env.scope.names.lookup x = some .local) := by
  unfold locB at h
  split at h
  · exact ⟨.inl ‹_›, .inr ‹_›⟩
  · exact ⟨.inr ‹_›, .inl (g.fn x h)⟩
  · cases h
mutual
theorem okG (g : Good T v G n X W fn) (hh : T.hot = false) : ∀ (t : Tgt) (e : Expr), chkG X.N X.env.scope fn t e = true → PG X e (t.tg X.K)
  | .name i, e, h => by
    unfold chkG at h
    split at h
    · rename_i x hx
      obtain ⟨p, rfl⟩ := asName_eq hx
      simp only [Bool.and_eq_true, decide_eq_true_eq] at h
      obtain ⟨h1, h2⟩ := loc_of g h.2
      unfold Tgt.tg
      exact pg_name g.nd h.1 h1 h2
    · cases h
  | .tup ts, e, h => by
    unfold chkG at h
    split at h
    · rename_i es hx
      obtain ⟨j, p, rfl⟩ := asTuple_eq hx
      simp only [Bool.and_eq_true, decide_eq_true_eq] at h
      unfold Tgt.tg
      exact pg_tup (g.calm hh) (okGs g hh ts es h.2 h.1.2) ((tg_len es X.env).trans h.1.1) (tg_nostar X.env h.1.2)
    · cases h
  | .lst ts, e, h => by
    unfold chkG at h
    split at h
    · rename_i es hx
      obtain ⟨j, p, rfl⟩ := asTuple_eq hx
      simp only [Bool.and_eq_true, decide_eq_true_eq] at h
      unfold Tgt.tg
      exact pg_lst (g.calm hh) (okGs g hh ts es h.2 h.1.2) ((tg_len es X.env).trans h.1.1) (tg_nostar X.env h.1.2)
    · cases h
theorem okGs (g : Good T v G n X W fn) (hh : T.hot = false) : ∀ (t : Tgts) (es : List Expr), chkGs X.N X.env.scope fn t es = true → es.all notStar = true → PGs X es (t.tg X.K)
  | .nil, [], _, _ => by unfold Tgts.tg; exact pgs_nil
  | .nil, _ :: _, h, _ => by simp [chkGs] at h
  | .cons t ts, [], h, _ => by simp [chkGs] at h
  | .cons t ts, e :: es, h, hs => by
    simp only [chkGs, Bool.and_eq_true] at h
    simp only [List.all_cons, Bool.and_eq_true] at hs
    unfold Tgts.tg
    exact pgs_cons (okG g hh t e h.1) (okGs g hh ts es h.2 hs.2) (tg_cons hs.1 es X.env)
end
theorem bop_ok {o : BOp} {op : Operator} (h : bopB o op = true) : OpR X (binaryOp op) (r2M X.K G (bopM o)) ∧ ∀ x y, NoExc (bopM o x y) := by
  cases o <;> cases op <;> simp [bopB] at h
  · exact ⟨op_addM, fun _ _ => noExc_ofO⟩
  · exact ⟨op_subM, fun _ _ => noExc_ofO⟩
  · exact ⟨op_mulM, fun _ _ => noExc_ofO⟩
  · exact ⟨op_fdivM, fun _ _ => noExc_ofO⟩
  · exact ⟨op_modM, fun _ _ => noExc_ofO⟩
  · exact ⟨op_powM, fun _ _ => noExc_ofO⟩
theorem cop_ok (hp : X.prog = G.prog) (hw : X.w = G.world) (hu : X.A.units + 64 < cLine) {o : COp} {op : CmpOp} (h : copB o op = true) : OpR X (compareOp op) (r2M X.K G (copM o)) ∧ (∀ x y, NoExc (copM o x y)) ∧ ∀ b, notSet b = true → behindInMarks op b = false := by
  cases o <;> cases op <;> simp [copB] at h
  · exact ⟨op_eq2M hp hw hu, fun _ _ => noExc_eq2, fun b hb => by cases b <;> simp [behindInMarks, notSet] at hb ⊢⟩
  · exact ⟨op_ne2M hp hw hu, fun _ _ => noExc_ne2, fun b hb => by cases b <;> simp [behindInMarks, notSet] at hb ⊢⟩
  · exact ⟨op_ltM, fun _ _ => noExc_ofO, fun b hb => by cases b <;> simp [behindInMarks, notSet] at hb ⊢⟩
  · exact ⟨op_leM, fun _ _ => noExc_ofO, fun b hb => by cases b <;> simp [behindInMarks, notSet] at hb ⊢⟩
  · exact ⟨op_gtM, fun _ _ => noExc_ofO, fun b hb => by cases b <;> simp [behindInMarks, notSet] at hb ⊢⟩
  · exact ⟨op_geM, fun _ _ => noExc_ofO, fun b hb => by cases b <;> simp [behindInMarks, notSet] at hb ⊢⟩
  · exact ⟨op_isM, fun _ _ => noExc_ofO, fun b hb => by cases b <;> simp [behindInMarks, notSet] at hb ⊢⟩
  · exact ⟨op_isNotM, fun _ _ => noExc_ofO, fun b hb => by cases b <;> simp [behindInMarks, notSet] at hb ⊢⟩
  · exact ⟨op_in2M hp hw hu, fun _ _ => noExc_in2, fun b hb => by cases b <;> simp [behindInMarks, notSet] at hb ⊢⟩
  · exact ⟨op_nin2M hp hw hu, fun _ _ => noExc_nin2, fun b hb => by cases b <;> simp [behindInMarks, notSet] at hb ⊢⟩
end
theorem boot_bi (f : BI) : ∃ id, bootBuiltins (biN f) = some (.builtin id) ∧ (∀ {X : Cx} {G : Cls} {T : Tab}, (T.hot = false → X.calm = true) → biC T f = true → X.prog = G.prog → X.w = G.world → CallR X (.builtin id) (rsM X.K G (biM f))) := by
  cases f
  · exact ⟨"len", boot_len, fun _ _ hp hw => cr_len2 hp hw⟩
  · exact ⟨"abs", boot_abs, fun _ _ _ _ => cr_abs⟩
  · exact ⟨"min", boot_min, fun h z _ _ => cr_minM (h (by simpa [biC] using z))⟩
  · exact ⟨"max", boot_max, fun h z _ _ => cr_maxM (h (by simpa [biC] using z))⟩
  · exact ⟨"all", PyProof.Rows.boot_all, fun h z _ _ => cr_allM (h (by simpa [biC] using z))⟩
theorem noExc_bi (f : BI) (xs : List D) : NoExc (biM f xs) := by
  cases f
  · exact noExc_len2
  · exact noExc_ofO
  · exact noExc_ofO
  · exact noExc_ofO
  · exact noExc_all
theorem boot_ti (f : TI0) : ∃ id, bootBuiltins (tyN f) = some (.type id) ∧ (∀ {X : Cx} {G : Cls}, CallR X (.type id) (rsM X.K G (tyM f))) := by
  cases f
  · exact ⟨"int", PyProof.Rows.boot_int, cr_int⟩
  · exact ⟨"str", PyProof.Rows.boot_str, cr_str⟩
  · exact ⟨"tuple", PyProof.Rows.boot_tuple, cr_tup⟩
theorem noExc_ti (f : TI0) (xs : List D) : NoExc (tyM f xs) := by
  cases f
  · exact noExc_ofO
  · exact noExc_ofO
  · exact noExc_tup

section
variable {T : Tab} {v : Ev} {G : Cls}
mutual
theorem okE : ∀ (ir : IE) {n : Nat} {X : Cx} {W : L2.WX} {fn : Str → Bool} (g : Good T v G n X W fn) (e : Expr), chkE T X.N ir X.env.scope e = true → PE X e (tM X.K G W (evE v ir))
  | .var i, n, X, W, fn, g, e, h => by
    unfold chkE at h
    split at h
    · rename_i x hx
      obtain ⟨p, rfl⟩ := asName_eq hx
      simp only [Bool.and_eq_true, decide_eq_true_eq, Bool.not_eq_true'] at h
      unfold evE
      exact pm_var h.1.1.1 (vis_of h.1.1.2) h.1.2 h.2
    · cases h
  | .frz i, n, X, W, fn, g, e, h => by
    unfold chkE at h
    split at h
    · rename_i x hx
      obtain ⟨p, rfl⟩ := asName_eq hx
      simp only [Bool.and_eq_true, decide_eq_true_eq, Bool.not_eq_true'] at h
      unfold evE
      exact pm_frz h.1.1.1 (vis_of h.1.1.2) h.1.2 h.2
    · cases h
  | .lckv i, n, X, W, fn, g, e, h => by
    unfold chkE at h
    split at h
    · rename_i x hx
      obtain ⟨p, rfl⟩ := asName_eq hx
      simp only [Bool.and_eq_true, decide_eq_true_eq, Bool.not_eq_true'] at h
      unfold evE
      exact pm_lkv h.1.1.1 (vis_of h.1.1.2) h.1.2 h.2
    · cases h
  | .int i, n, X, W, fn, g, e, h => by
    unfold chkE at h
    obtain ⟨j, p, rfl⟩ := asInt_eq (of_decide_eq_true h)
    unfold evE
    exact pm_int
  | .bl i, n, X, W, fn, g, e, h => by
    unfold chkE at h
    obtain ⟨j, p, rfl⟩ := asBool_eq (of_decide_eq_true h)
    unfold evE
    exact pm_bl
  | .non, n, X, W, fn, g, e, h => by
    unfold chkE at h
    obtain ⟨j, p, rfl⟩ := isNone_eq h
    unfold evE
    exact pm_non
  | .str i, n, X, W, fn, g, e, h => by
    unfold chkE at h
    obtain ⟨j, p, rfl⟩ := asStr_eq (of_decide_eq_true h)
    unfold evE
    exact pm_str
  | .glo i, n, X, W, fn, g, e, h => by
    unfold chkE at h
    split at h
    · rename_i x p hx hp
      obtain ⟨q, rfl⟩ := asName_eq hx
      simp only [Bool.and_eq_true, decide_eq_true_eq, Bool.not_eq_true'] at h
      obtain ⟨h1, w, u, h2, h3, h4⟩ := g.cst i p hp
      unfold evE
      rw [h1]
      exact pm_c (pe_glob (gl_of rfl h.1.2) (by rw [h.1.1]; exact h2) h3 h.2) h4
    · cases h
  | .tup es, n, X, W, fn, g, e, h => by
    unfold chkE at h
    split at h
    · rename_i xs hx
      obtain ⟨j, p, rfl⟩ := asTuple_eq hx
      simp only [Bool.and_eq_true] at h
      unfold evE
      exact pm_tup (okEs es g xs h.2 h.1)
    · cases h
  | .new c, n, X, W, fn, g, e, h => by
    unfold chkE at h
    unfold evE
    exact pm_new (okC c g e h)
  | .box c, n, X, W, fn, g, e, h => by
    unfold chkE at h
    unfold evE
    exact pm_box (okC c g e h)
  | .bin o a b, n, X, W, fn, g, e, h => by
    unfold chkE at h
    split at h
    · rename_i x op y hx
      obtain ⟨p, rfl⟩ := asBin_eq hx
      simp only [Bool.and_eq_true] at h
      unfold evE
      obtain ⟨h1, h2⟩ := bop_ok (X := X) (G := G) h.1.1
      exact pm_op h1 h2 (okE a g x h.1.2) (okE b g y h.2)
    · cases h
  | .neg a, n, X, W, fn, g, e, h => by
    unfold chkE at h
    split at h
    · rename_i x hx
      obtain ⟨p, rfl⟩ := asUn_eq hx
      unfold evE
      exact pm_un un_negM (fun _ => noExc_ofO) (okE a g x h)
    · cases h
  | .cmp o a b, n, X, W, fn, g, e, h => by
    unfold chkE at h
    split at h
    · rename_i x op y hx
      obtain ⟨p, rfl⟩ := asCmp_eq hx
      simp only [Bool.and_eq_true] at h
      unfold evE
      obtain ⟨h1, h2, h3⟩ := cop_ok (X := X) (G := G) g.gp g.gw g.un h.1.1.1
      exact pm_cmp h1 h2 (okE a g x h.1.2) (okE b g y h.2) (h3 _ h.1.1.2)
    · cases h
  | .ife t a b, n, X, W, fn, g, e, h => by
    unfold chkE at h
    split at h
    · rename_i c x y hx
      obtain ⟨p, rfl⟩ := asIfe_eq hx
      simp only [Bool.and_eq_true] at h
      unfold evE
      exact pm_ife (okT t g c h.1.1) (okE a g x h.1.2) (okE b g y h.2)
    · cases h
  | .andV a b, n, X, W, fn, g, e, h => by
    unfold chkE at h
    split at h
    · rename_i x y r p hx
      have := asAnd_eq hx
      subst this
      simp only [Bool.and_eq_true] at h
      unfold evE
      exact pm_andV (okE a g x h.1) (okE b g _ h.2)
    · cases h
  | .andV1 a, n, X, W, fn, g, e, h => by
    unfold chkE at h
    split at h
    · rename_i x p hx
      have := asAnd_eq hx
      subst this
      unfold evE
      exact pe_one (okE a g x h)
    · cases h
  | .orV a b, n, X, W, fn, g, e, h => by
    unfold chkE at h
    split at h
    · rename_i x y r p hx
      have := asOr_eq hx
      subst this
      simp only [Bool.and_eq_true] at h
      unfold evE
      exact pm_orV (okE a g x h.1) (okE b g _ h.2)
    · cases h
  | .orV1 a, n, X, W, fn, g, e, h => by
    unfold chkE at h
    split at h
    · rename_i x p hx
      have := asOr_eq hx
      subst this
      unfold evE
      exact pe_one (okE a g x h)
    · cases h
  | .notV a, n, X, W, fn, g, e, h => by
    unfold chkE at h
    split at h
    · rename_i x hx
      obtain ⟨p, rfl⟩ := asUn_eq hx
      unfold evE
      exact pm_notV (okE a g x h)
    · cases h
  | .idx a b, n, X, W, fn, g, e, h => by
    unfold chkE at h
    split at h
    · rename_i x y hx
      obtain ⟨p, rfl⟩ := asSub_eq hx
      simp only [Bool.and_eq_true] at h
      unfold evE
      exact pm_ix (ix_2M g.gp g.gw g.un) (fun _ _ => noExc_idx2) (okE a g x h.1.2) (okE b g y h.2) (plainIx h.1.1)
    · cases h
  | .cut a lo hi, n, X, W, fn, g, e, h => by
    unfold chkE at h
    split at h
    · rename_i x y hx
      obtain ⟨p, rfl⟩ := asSub_eq hx
      split at h
      · rename_i l u hy
        obtain ⟨p2, rfl⟩ := asSlice_eq hy
        simp only [Bool.and_eq_true] at h
        unfold evE
        exact pm_cut (okE a g x h.1.1) (okO lo g l h.1.2) (okO hi g u h.2)
      · cases h
    · cases h
  | .bi f a as, n, X, W, fn, g, e, h => by
    unfold chkE at h
    split at h
    · rename_i x y ys hx
      obtain ⟨p, q, rfl⟩ := asCall_eq hx
      simp only [Bool.and_eq_true, decide_eq_true_eq] at h
      obtain ⟨⟨⟨⟨⟨hbi, hn⟩, hb⟩, hs⟩, ha⟩, has⟩ := h
      obtain ⟨h1, h2, h3, h4⟩ := blt_of g rfl hb
      obtain ⟨id, b1, b2⟩ := boot_bi f
      subst hn
      have hs' : notStar y = true ∧ ys.all notStar = true := by simpa [List.all_cons] using hs
      unfold evE
      exact pm_callB (b2 g.calm hbi g.gp g.gw) (noExc_bi f) h1 h2 b1 (pa_consM (okE a g y ha) (okEs as g ys has hs'.2) (star_cons hs'.1 ys X.env)) h4 h3 (star_cons hs'.1 ys X.env) (star_any hs'.2)
    · cases h
  | .ty f a as, n, X, W, fn, g, e, h => by
    unfold chkE at h
    split at h
    · rename_i x y ys hx
      obtain ⟨p, q, rfl⟩ := asCall_eq hx
      simp only [Bool.and_eq_true, decide_eq_true_eq] at h
      obtain ⟨⟨⟨⟨hn, hb⟩, hs⟩, ha⟩, has⟩ := h
      obtain ⟨h1, h2, h3, h4⟩ := blt_of g rfl hb
      obtain ⟨id, b1, b2⟩ := boot_ti f
      subst hn
      have hs' : notStar y = true ∧ ys.all notStar = true := by simpa [List.all_cons] using hs
      unfold evE
      exact pm_callTy b2 (noExc_ti f) h1 h2 b1 (pa_consM (okE a g y ha) (okEs as g ys has hs'.2) (star_cons hs'.1 ys X.env)) h4 h3 (star_cons hs'.1 ys X.env) (star_any hs'.2)
    · cases h
  | .isT t a, n, X, W, fn, g, e, h => by
    unfold chkE at h
    split at h
    · rename_i x y z hx
      obtain ⟨p, q, rfl⟩ := asCall_eq hx
      simp only [Bool.and_eq_true, decide_eq_true_eq] at h
      obtain ⟨⟨⟨⟨hn, hb⟩, hs⟩, ha⟩, hz⟩ := h
      split at hz
      · rename_i u hu
        obtain ⟨p2, rfl⟩ := asName_eq hu
        simp only [Bool.and_eq_true, decide_eq_true_eq] at hz
        obtain ⟨h1, h2, h3, h4⟩ := blt_of g rfl hb
        obtain ⟨k1, k2, k3, k4⟩ := blt_of g rfl hz.2
        have hs' : notStar y = true := by simp [List.all_cons] at hs; exact hs.1
        obtain ⟨hz1, _⟩ := hz
        subst hn hz1
        unfold evE
        exact pm_isT t h1 h2 k1 k2 (okE a g y ha) hs'
      · cases hz
    · cases h
  | .call pu f a as, n, X, W, fn, g, e, h => by
    unfold chkE at h
    split at h
    · rename_i x y ys q hx hq
      obtain ⟨p, p2, rfl⟩ := asCall_eq hx
      simp only [Bool.and_eq_true, decide_eq_true_eq, Bool.not_eq_true'] at h
      obtain ⟨⟨⟨⟨⟨⟨hh, hn⟩, hb⟩, hd⟩, hs⟩, ha⟩, has⟩ := h
      obtain ⟨f1, f2, ad, fd, ps, ds, dvs, f3, f4, f5, f6, f7, f8⟩ := g.fns hh f q hq
      have hs' : notStar y = true ∧ ys.all notStar = true := by simpa [List.all_cons] using hs
      unfold evE
      rw [f1, f2]
      exact pm_call pu f8 (g.room hh) g.tk (gl_of rfl hb) (by rw [hn]; exact f3) f4 f5 f6 f7 (pa_consM (okE a g y ha) (okEs as g ys has hs'.2) (star_cons hs'.1 ys X.env)) hd (star_cons hs'.1 ys X.env) (star_any hs'.2)
    · cases h
  | .callK j f a as b, n, X, W, fn, g, e, h => by
    unfold chkE at h
    split at h
    · rename_i x y ys nm z q r hx hq hr
      obtain ⟨p, p2, p3, rfl⟩ := asCallK_eq hx
      simp only [Bool.and_eq_true, decide_eq_true_eq, Bool.not_eq_true'] at h
      obtain ⟨⟨⟨⟨⟨⟨⟨⟨⟨hh, hf⟩, hnm⟩, hn⟩, hb⟩, hd⟩, hs⟩, ha⟩, has⟩, hz⟩ := h
      subst hf hnm
      obtain ⟨k1, k2⟩ := g.kws hh j q hq
      obtain ⟨ad, fd, ps, f3, f4, f5, f8⟩ := k2 r hr
      obtain ⟨f1, _⟩ := g.fns hh q.1 r hr
      have hs' : notStar y = true ∧ ys.all notStar = true := by simpa [List.all_cons] using hs
      unfold evE
      rw [f1, k1]
      exact pm_callK f8 (g.room hh) g.tk (gl_of rfl hb) (by rw [hn]; exact f3) f4 f5 (pa_consM (okE a g y ha) (okEs as g ys has hs'.2) (star_cons hs'.1 ys X.env)) (okE b g z hz) hd (star_cons hs'.1 ys X.env) (star_any hs'.2)
    · cases h
  | .app o a, n, X, W, fn, g, e, h => by
    unfold chkE at h
    split at h
    · rename_i x m y hx
      obtain ⟨ap, cp, rfl, hl⟩ := asMeth_eq hx
      simp only [Bool.and_eq_true, decide_eq_true_eq] at h
      obtain ⟨⟨⟨⟨hn, hb⟩, hs⟩, ho⟩, ha⟩ := h
      subst hn
      unfold evE
      exact pm_app (okE o g x ho) (okE a g y ha) (base_eq hb _ _ _) hs hl
    · cases h
  | .frzE a, n, X, W, fn, g, e, h => by
    unfold chkE at h
    unfold evE
    exact pm_frzE (okE a g e h)
  | .get o a as, n, X, W, fn, g, e, h => by
    unfold chkE at h
    split at h
    · rename_i x m y ys hx
      obtain ⟨ap, cp, rfl, hl⟩ := asMeth_eq hx
      simp only [Bool.and_eq_true, decide_eq_true_eq] at h
      obtain ⟨⟨⟨⟨⟨⟨hn, hb⟩, hs⟩, h20⟩, ho⟩, ha⟩, has⟩ := h
      subst hn
      have hs' : notStar y = true ∧ ys.all notStar = true := by simpa [List.all_cons] using hs
      unfold evE
      exact pm_get g.gp g.gw g.un (okE o g x ho) (pa_consM (okE a g y ha) (okEs as g ys has hs'.2) (star_cons hs'.1 ys X.env)) (base_eq hb _ _ _) hs h20 hl
    · cases h
  | .join o a as, n, X, W, fn, g, e, h => by
    unfold chkE at h
    split at h
    · rename_i x m y ys hx
      obtain ⟨ap, cp, rfl, hl⟩ := asMeth_eq hx
      simp only [Bool.and_eq_true, decide_eq_true_eq] at h
      obtain ⟨⟨⟨⟨⟨⟨hn, hb⟩, hs⟩, h20⟩, ho⟩, ha⟩, has⟩ := h
      subst hn
      have hs' : notStar y = true ∧ ys.all notStar = true := by simpa [List.all_cons] using hs
      unfold evE
      exact pm_join (okE o g x ho) (pa_consM (okE a g y ha) (okEs as g ys has hs'.2) (star_cons hs'.1 ys X.env)) (base_eq hb _ _ _) hs h20 hl
    · cases h
  | .chain p q a b c, n, X, W, fn, g, e, h => by
    unfold chkE at h
    split at h
    · rename_i x o1 y o2 z hx
      obtain ⟨r, rfl⟩ := asChain_eq hx
      simp only [Bool.and_eq_true] at h
      obtain ⟨⟨⟨⟨⟨h1, h2⟩, h3⟩, h4⟩, h5⟩, h6⟩ := h
      obtain ⟨k1, k2, _⟩ := cop_ok (X := X) (G := G) g.gp g.gw g.un h1
      obtain ⟨k3, k4, k5⟩ := cop_ok (X := X) (G := G) g.gp g.gw g.un h2
      unfold evE
      exact pm_chain k1 k3 k2 k4 (okE a g x h4) (okE b g y h5) (okE c g z h6) (k5 _ h3)
    · cases h
  | .fld f a, n, X, W, fn, g, e, h => by
    unfold chkE at h
    split at h
    · rename_i x m hx
      obtain ⟨p, rfl⟩ := asAttr_eq hx
      simp only [Bool.and_eq_true, decide_eq_true_eq] at h
      obtain ⟨⟨h1, h2⟩, h3⟩ := h
      have e1 := g.flds f m h1
      subst e1
      unfold evE
      exact pm_fld g.xin g.inj (fun c => g.xat c f) (okE a g x h3) (base_eq h2 _ _ _)
    · cases h
  | .isX t a, n, X, W, fn, g, e, h => by
    unfold chkE at h
    split at h
    · rename_i x y z hx
      obtain ⟨p, q, rfl⟩ := asCall_eq hx
      simp only [Bool.and_eq_true, decide_eq_true_eq] at h
      obtain ⟨⟨⟨⟨hn, hb⟩, hs⟩, ha⟩, hz⟩ := h
      split at hz
      · rename_i u hu
        obtain ⟨p2, rfl⟩ := asName_eq hu
        simp only [Bool.and_eq_true, decide_eq_true_eq, Bool.not_eq_true'] at hz
        obtain ⟨h1, h2, h3, h4⟩ := blt_of g rfl hb
        obtain ⟨tv, tw, k1, k2, k3, k4⟩ := g.xts t u hz.1.1
        have hs' : notStar y = true := by simp [List.all_cons] at hs; exact hs.1
        subst hn
        unfold evE
        refine pm_isX g.xin h1 h2 ?_ k3 (fun c b hc hb => ⟨(k4 c b hc hb).1, (k4 c b hc hb).2.2⟩) (okE a g y ha) hs'
        rcases k1 with k1 | ⟨k1, k5, k6⟩
        · exact pe_glob (gl_of rfl hz.1.2) k1 k2 hz.2
        · exact pe_bltn (gl_of rfl hz.1.2) k1 k5 k2 k6 hz.2
      · cases hz
    · cases h
theorem okT : ∀ (ir : IT) {n : Nat} {X : Cx} {W : L2.WX} {fn : Str → Bool} (g : Good T v G n X W fn) (e : Expr), chkT T X.N ir X.env.scope e = true → PT X e (tT X.K G W (evT v ir))
  | .val a, n, X, W, fn, g, e, h => by
    unfold chkT at h
    simp only [Bool.and_eq_true] at h
    unfold evT
    exact pt_valM (okE a g e h.2) (plainTest_eq h.1 X.env)
  | .cmp o a b, n, X, W, fn, g, e, h => by
    unfold chkT at h
    split at h
    · rename_i x op y hx
      obtain ⟨p, rfl⟩ := asCmp_eq hx
      simp only [Bool.and_eq_true] at h
      unfold evT
      obtain ⟨h1, h2, h3⟩ := cop_ok (X := X) (G := G) g.gp g.gw g.un h.1.1.1
      exact pt_cmpM h1 h2 (okE a g x h.1.2) (okE b g y h.2) (h3 _ h.1.1.2)
    · cases h
  | .not a, n, X, W, fn, g, e, h => by
    unfold chkT at h
    split at h
    · rename_i x hx
      obtain ⟨p, rfl⟩ := asUn_eq hx
      unfold evT
      exact pt_notM (okT a g x h)
    · cases h
  | .and a b, n, X, W, fn, g, e, h => by
    unfold chkT at h
    split at h
    · rename_i x y r p hx
      have := asAnd_eq hx
      subst this
      simp only [Bool.and_eq_true] at h
      unfold evT
      exact (pw_andM (okT a g x h.1) (okW b g _ h.2 ⟨_, _, _, rfl⟩)).pt
    · cases h
  | .and1 a, n, X, W, fn, g, e, h => by
    unfold chkT at h
    split at h
    · rename_i x p hx
      have := asAnd_eq hx
      subst this
      unfold evT
      exact (pw_and1M (okT a g x h)).pt
    · cases h
  | .or a b, n, X, W, fn, g, e, h => by
    unfold chkT at h
    split at h
    · rename_i x y r p hx
      have := asOr_eq hx
      subst this
      simp only [Bool.and_eq_true] at h
      unfold evT
      exact (pw_orM (okT a g x h.1) (okW b g _ h.2 ⟨_, _, _, rfl⟩)).pt
    · cases h
  | .or1 a, n, X, W, fn, g, e, h => by
    unfold chkT at h
    split at h
    · rename_i x p hx
      have := asOr_eq hx
      subst this
      unfold evT
      exact (pw_or1M (okT a g x h)).pt
    · cases h
  | .chain p q a b c, n, X, W, fn, g, e, h => by
    unfold chkT at h
    split at h
    · rename_i x o1 y o2 z hx
      obtain ⟨r, rfl⟩ := asChain_eq hx
      simp only [Bool.and_eq_true] at h
      obtain ⟨⟨⟨⟨⟨h1, h2⟩, h3⟩, h4⟩, h5⟩, h6⟩ := h
      obtain ⟨k1, k2, _⟩ := cop_ok (X := X) (G := G) g.gp g.gw g.un h1
      obtain ⟨k3, k4, k5⟩ := cop_ok (X := X) (G := G) g.gp g.gw g.un h2
      unfold evT
      exact pt_chainM k1 k3 k2 k4 (okE a g x h4) (okE b g y h5) (okE c g z h6) (k5 _ h3)
    · cases h
theorem okW : ∀ (ir : IT) {n : Nat} {X : Cx} {W : L2.WX} {fn : Str → Bool} (g : Good T v G n X W fn) (e : Expr), chkT T X.N ir X.env.scope e = true → (∃ o es p, e = .BoolOp o es p) → PW X e (tT X.K G W (evT v ir))
  | .val a, n, X, W, fn, g, e, h, hb => by
    obtain ⟨o, es, p, rfl⟩ := hb
    unfold chkT at h
    simp [plainTest] at h
  | .cmp o a b, n, X, W, fn, g, e, h, hb => by
    obtain ⟨o, es, p, rfl⟩ := hb
    unfold chkT at h
    simp [asCmp] at h
  | .not a, n, X, W, fn, g, e, h, hb => by
    obtain ⟨o, es, p, rfl⟩ := hb
    unfold chkT at h
    simp [asUn] at h
  | .and a b, n, X, W, fn, g, e, h, hb => by
    unfold chkT at h
    split at h
    · rename_i x y r p hx
      have := asAnd_eq hx
      subst this
      simp only [Bool.and_eq_true] at h
      unfold evT
      exact pw_andM (okT a g x h.1) (okW b g _ h.2 ⟨_, _, _, rfl⟩)
    · cases h
  | .and1 a, n, X, W, fn, g, e, h, hb => by
    unfold chkT at h
    split at h
    · rename_i x p hx
      have := asAnd_eq hx
      subst this
      unfold evT
      exact pw_and1M (okT a g x h)
    · cases h
  | .or a b, n, X, W, fn, g, e, h, hb => by
    unfold chkT at h
    split at h
    · rename_i x y r p hx
      have := asOr_eq hx
      subst this
      simp only [Bool.and_eq_true] at h
      unfold evT
      exact pw_orM (okT a g x h.1) (okW b g _ h.2 ⟨_, _, _, rfl⟩)
    · cases h
  | .or1 a, n, X, W, fn, g, e, h, hb => by
    unfold chkT at h
    split at h
    · rename_i x p hx
      have := asOr_eq hx
      subst this
      unfold evT
      exact pw_or1M (okT a g x h)
    · cases h
  | .chain p q a b c, n, X, W, fn, g, e, h, hb => by
    obtain ⟨o, es, r, rfl⟩ := hb
    unfold chkT at h
    simp [asChain] at h
theorem okO : ∀ (ir : IO) {n : Nat} {X : Cx} {W : L2.WX} {fn : Str → Bool} (g : Good T v G n X W fn) (e : Option Expr), chkO T X.N ir X.env.scope e = true → PO X e (tO X.K G W (evO v ir))
  | .none, n, X, W, fn, g, none, h => by unfold evO; exact po_noneM
  | .none, n, X, W, fn, g, some e, h => by simp [chkO] at h
  | .some a, n, X, W, fn, g, none, h => by simp [chkO] at h
  | .some a, n, X, W, fn, g, some e, h => by
    unfold chkO at h
    unfold evO
    exact po_someM (okE a g e h)
theorem okEs : ∀ (ir : IEs) {n : Nat} {X : Cx} {W : L2.WX} {fn : Str → Bool} (g : Good T v G n X W fn) (es : List Expr), chkEs T X.N ir X.env.scope es = true → es.all notStar = true → PA X es (tA X.K G W (evEs v ir))
  | .nil, n, X, W, fn, g, [], h, hs => by unfold evEs; exact pa_nilM
  | .nil, n, X, W, fn, g, _ :: _, h, hs => by simp [chkEs] at h
  | .cons a as, n, X, W, fn, g, [], h, hs => by simp [chkEs] at h
  | .cons a as, n, X, W, fn, g, e :: es, h, hs => by
    simp only [chkEs, Bool.and_eq_true] at h
    simp only [List.all_cons, Bool.and_eq_true] at hs
    unfold evEs
    exact pa_consM (okE a g e h.1) (okEs as g es h.2 hs.2) (star_cons hs.1 es X.env)
theorem okC : ∀ (ir : IC) {n : Nat} {X : Cx} {W : L2.WX} {fn : Str → Bool} (g : Good T v G n X W fn) (e : Expr), chkC T X.N ir X.env.scope e = true → PE X e (tF X.K G W (evC v ir))
  | .dnew, n, X, W, fn, g, e, h => by
    unfold chkC at h
    split at h
    · rename_i hx
      obtain ⟨p, rfl⟩ := asDict_eq hx
      unfold evC
      exact pf_dnew
    · cases h
  | .disp k w, n, X, W, fn, g, e, h => by
    unfold chkC at h
    split at h
    · rename_i x y hx
      obtain ⟨p, rfl⟩ := asDict_eq hx
      simp only [Bool.and_eq_true] at h
      unfold evC
      exact pf_disp1 g.gp g.gw g.un (okE k g x h.1) (okE w g y h.2)
    · cases h
  | .lst es, n, X, W, fn, g, e, h => by
    unfold chkC at h
    split at h
    · rename_i xs hx
      obtain ⟨p, rfl⟩ := asList_eq hx
      simp only [Bool.and_eq_true] at h
      unfold evC
      exact pf_lst (okEs es g xs h.2 h.1)
    · cases h
  | .cat a b, n, X, W, fn, g, e, h => by
    unfold chkC at h
    split at h
    · rename_i x y hx
      obtain ⟨p, rfl⟩ := asBin_eq hx
      simp only [Bool.and_eq_true] at h
      unfold evC
      exact pf_op op_catF (fun _ _ => noExc_cat) (okE a g x h.1) (okE b g y h.2)
    · cases h
  | .rep a b, n, X, W, fn, g, e, h => by
    unfold chkC at h
    split at h
    · rename_i x y hx
      obtain ⟨p, rfl⟩ := asBin_eq hx
      simp only [Bool.and_eq_true] at h
      unfold evC
      exact pf_rep (okC a g x h.1) (okE b g y h.2)
    · cases h
  | .cut a lo hi, n, X, W, fn, g, e, h => by
    unfold chkC at h
    split at h
    · rename_i x y hx
      obtain ⟨p, rfl⟩ := asSub_eq hx
      split at h
      · rename_i l u hy
        obtain ⟨p2, rfl⟩ := asSlice_eq hy
        simp only [Bool.and_eq_true] at h
        unfold evC
        exact pf_cut (okE a g x h.1.1) (okO lo g l h.1.2) (okO hi g u h.2)
      · cases h
    · cases h
  | .list a, n, X, W, fn, g, e, h => by
    unfold chkC at h
    split at h
    · rename_i x y hx
      obtain ⟨p, q, rfl⟩ := asCall_eq hx
      simp only [Bool.and_eq_true, decide_eq_true_eq] at h
      obtain ⟨⟨⟨hn, hb⟩, hs⟩, ha⟩ := h
      obtain ⟨h1, h2, h3, h4⟩ := blt_of g rfl hb
      subst hn
      unfold evC
      exact pf_callTy cr_listF (fun _ => noExc_list) h1 h2 PyProof.Rows.boot_list (pa_consM (okE a g y ha) pa_nilM (star_cons hs [] X.env)) h4 h3 (star_cons hs [] X.env) rfl
    · cases h
  | .lc it t own c m, n, X, W, fn, g, e, h => by
    unfold chkC at h
    split at h
    · rename_i elt tg iter ifs scope p hx
      have := asLc_eq hx
      subst this
      simp only [Bool.and_eq_true, List.all_eq_true, decide_eq_true_eq, Bool.not_eq_true'] at h
      obtain ⟨⟨⟨⟨⟨⟨⟨hh, h1⟩, h2⟩, h3⟩, h4⟩, h5⟩, h6⟩, h7⟩ := h
      unfold evC
      exact pf_lc (g.calm hh) g.nd (okI it g tg iter h4) (blkOk_by h1) h2 (fun s H C cl fp => okG (g.blk hh s H scope cl C fp) hh t tg h5) (fun s H C cl fp => okTo c (g.blk hh s H scope cl C fp) ifs h6) (fun s H C cl fp => okE m (g.blk hh s H scope cl C fp) elt h7) (folded_no h3 X.env)
    · cases h
  | .dc it t own c k m, n, X, W, fn, g, e, h => by
    unfold chkC at h
    split at h
    · rename_i kx vx tg iter ifs scope p hx
      have := asDc_eq hx
      subst this
      simp only [Bool.and_eq_true, List.all_eq_true, decide_eq_true_eq, Bool.not_eq_true'] at h
      obtain ⟨⟨⟨⟨⟨⟨⟨⟨hh, h1⟩, h2⟩, h3⟩, h4⟩, h5⟩, h6⟩, h7⟩, h8⟩ := h
      unfold evC
      exact pf_dc g.gp g.gw g.un (g.calm hh) g.nd (okI it g tg iter h4) (blkOk_by h1) h2 ⟨fun s H C cl fp => okG (g.blk hh s H scope cl C fp) hh t tg h5, fun s H C cl fp => okTo c (g.blk hh s H scope cl C fp) ifs h6, fun s H C cl fp => okE k (g.blk hh s H scope cl C fp) kx h7, fun s H C cl fp => okE m (g.blk hh s H scope cl C fp) vx h8⟩ (folded_no h3 X.env)
    · cases h
  | .sorted a, n, X, W, fn, g, e, h => by
    unfold chkC at h
    split at h
    · rename_i x y hx
      obtain ⟨p, q, rfl⟩ := asCall_eq hx
      simp only [Bool.and_eq_true, decide_eq_true_eq] at h
      obtain ⟨⟨⟨hn, hb⟩, hs⟩, ha⟩ := h
      obtain ⟨h1, h2, h3, h4⟩ := blt_of g rfl hb
      subst hn
      unfold evC
      exact pf_callB cr_sortF (fun _ => noExc_sort) h1 h2 PyProof.Rows.boot_sorted (pa_consM (okE a g y ha) pa_nilM (star_cons hs [] X.env)) h4 h3 (star_cons hs [] X.env) rfl
    · cases h
  | .keysL a, n, X, W, fn, g, e, h => by
    unfold chkC at h
    split at h
    · rename_i x y hx
      obtain ⟨p, q, rfl⟩ := asCall_eq hx
      simp only [Bool.and_eq_true, decide_eq_true_eq, Bool.not_eq_true'] at h
      obtain ⟨⟨⟨⟨hh, hn⟩, hb⟩, hs⟩, ha⟩ := h
      obtain ⟨h1, h2, h3, h4⟩ := blt_of g rfl hb
      subst hn
      unfold evC
      exact pf_callTy (cr_listDF (g.calm hh) g.gp g.gw) (fun _ => noExc_listD) h1 h2 PyProof.Rows.boot_list (pa_consM (okE a g y ha) pa_nilM (star_cons hs [] X.env)) h4 h3 (star_cons hs [] X.env) rfl
    · cases h
  | .split o a as, n, X, W, fn, g, e, h => by
    unfold chkC at h
    split at h
    · rename_i x m y ys hx
      obtain ⟨ap, cp, rfl, hl⟩ := asMeth_eq hx
      simp only [Bool.and_eq_true, decide_eq_true_eq] at h
      obtain ⟨⟨⟨⟨⟨⟨hn, hb⟩, hs⟩, h20⟩, ho⟩, ha⟩, has⟩ := h
      subst hn
      have hs' : notStar y = true ∧ ys.all notStar = true := by simpa [List.all_cons] using hs
      unfold evC
      exact pf_split (okE o g x ho) (pa_consM (okE a g y ha) (okEs as g ys has hs'.2) (star_cons hs'.1 ys X.env)) (base_eq hb _ _ _) hs h20 hl
    · cases h
theorem okTo : ∀ (ir : ITo) {n : Nat} {X : Cx} {W : L2.WX} {fn : Str → Bool} (g : Good T v G n X W fn) (es : List Expr), chkTo T X.N ir X.env.scope es = true → PTs X es (tT X.K G W (evTo v ir))
  | .none, n, X, W, fn, g, [], h => by unfold evTo; exact pts_nilM
  | .none, n, X, W, fn, g, _ :: _, h => by simp [chkTo] at h
  | .some t, n, X, W, fn, g, [e], h => by
    unfold chkTo at h
    unfold evTo
    exact pts_oneM (okT t g e h)
  | .some t, n, X, W, fn, g, [], h => by simp [chkTo] at h
  | .some t, n, X, W, fn, g, _ :: _ :: _, h => by simp [chkTo] at h
theorem okI : ∀ (ir : II) {n : Nat} {X : Cx} {W : L2.WX} {fn : Str → Bool} (g : Good T v G n X W fn) (tg e : Expr), chkI T X.N ir X.env.scope tg e = true → PI X tg e (tI X.K G W (evI v ir))
  | .seq a, n, X, W, fn, g, tg, e, h => by
    unfold chkI at h
    unfold evI
    exact pi_seqM (okE a g e h)
  | .keys a, n, X, W, fn, g, tg, e, h => by
    unfold chkI at h
    unfold evI
    exact pi_keys2 g.gp g.gw (okE a g e h)
  | .chars a, n, X, W, fn, g, tg, e, h => by
    unfold chkI at h
    unfold evI
    exact pi_chars (okE a g e h)
  | .items a, n, X, W, fn, g, tg, e, h => by
    unfold chkI at h
    simp only [Bool.and_eq_true] at h
    obtain ⟨h0, h⟩ := h
    obtain ⟨tes, ht⟩ := Option.isSome_iff_exists.mp h0
    obtain ⟨kk, tp, rfl⟩ := asTuple_eq ht
    split at h
    · rename_i x m hx
      obtain ⟨ap, cp, rfl, hl⟩ := asMeth_eq hx
      simp only [Bool.and_eq_true, decide_eq_true_eq] at h
      obtain ⟨⟨hn, hb⟩, ho⟩ := h
      subst hn
      unfold evI
      exact pi_itemsX g.gp g.gw (okE a g x ho) (base_eq hb _ _ _) hl
    · cases h
  | .rng1 a, n, X, W, fn, g, tg, e, h => by
    unfold chkI at h
    split at h
    · rename_i x y hx
      obtain ⟨p, q, rfl⟩ := asCall_eq hx
      simp only [Bool.and_eq_true, decide_eq_true_eq] at h
      obtain ⟨⟨⟨hn, hb⟩, hs⟩, ha⟩ := h
      obtain ⟨h1, h2, h3, h4⟩ := blt_of g rfl hb
      subst hn
      unfold evI
      exact pi_rng1M h1 h2 (pa_consM (okE a g y ha) pa_nilM (star_cons hs [] X.env)) (star_cons hs [] X.env)
    · cases h
  | .rng2 a b, n, X, W, fn, g, tg, e, h => by
    unfold chkI at h
    split at h
    · rename_i x y z hx
      obtain ⟨p, q, rfl⟩ := asCall_eq hx
      simp only [Bool.and_eq_true, decide_eq_true_eq] at h
      obtain ⟨⟨⟨⟨⟨hn, hb⟩, hs⟩, hs2⟩, ha⟩, hb'⟩ := h
      obtain ⟨h1, h2, h3, h4⟩ := blt_of g rfl hb
      subst hn
      unfold evI
      have e2 := star_cons hs2 [] X.env
      exact pi_rng2M h1 h2 (pa_consM (okE a g y ha) (pa_consM (okE b g z hb') pa_nilM e2) (star_cons hs [z] X.env)) ((star_cons hs [z] X.env).trans (by rw [e2]; rfl)) e2
    · cases h
  | .revr a, n, X, W, fn, g, tg, e, h => by
    unfold chkI at h
    split at h
    · rename_i x y hx
      obtain ⟨p, q, rfl⟩ := asCall_eq hx
      simp only [Bool.and_eq_true, decide_eq_true_eq] at h
      obtain ⟨⟨hn, hb⟩, hy⟩ := h
      split at hy
      · rename_i u z hu
        obtain ⟨p2, q2, rfl⟩ := asCall_eq hu
        simp only [Bool.and_eq_true, decide_eq_true_eq] at hy
        obtain ⟨⟨⟨hn2, hb2⟩, hs⟩, ha⟩ := hy
        obtain ⟨h1, h2, h3, h4⟩ := blt_of g rfl hb
        obtain ⟨k1, k2, k3, k4⟩ := blt_of g rfl hb2
        subst hn hn2
        unfold evI
        exact pi_revRM h1 h2 k1 k2 (okE a g z ha) (star_cons hs [] X.env)
      · cases hy
    · cases h
  | .rev a, n, X, W, fn, g, tg, e, h => by
    unfold chkI at h
    split at h
    · rename_i x y hx
      obtain ⟨p, q, rfl⟩ := asCall_eq hx
      simp only [Bool.and_eq_true, decide_eq_true_eq] at h
      obtain ⟨⟨⟨hn, hb⟩, hs⟩, ha⟩ := h
      obtain ⟨h1, h2, h3, h4⟩ := blt_of g rfl hb
      subst hn
      unfold evI
      exact pi_revM h1 h2 (okE a g y ha) (star_cons hs [] X.env)
    · cases h
  | .zip a b, n, X, W, fn, g, tg, e, h => by
    unfold chkI at h
    simp only [Bool.and_eq_true] at h
    obtain ⟨ht, h⟩ := h
    obtain ⟨tes, ht⟩ := Option.isSome_iff_exists.mp ht
    obtain ⟨tk, tp, rfl⟩ := asTuple_eq ht
    split at h
    · rename_i x y z hx
      obtain ⟨p, q, rfl⟩ := asCall_eq hx
      simp only [Bool.and_eq_true, decide_eq_true_eq] at h
      obtain ⟨⟨⟨⟨⟨hn, hb⟩, hs⟩, hs2⟩, ha⟩, hb'⟩ := h
      obtain ⟨h1, h2, h3, h4⟩ := blt_of g rfl hb
      subst hn
      unfold evI
      have e2 := star_cons hs2 [] X.env
      exact pi_zipM h1 h2 (pa_consM (okE a g y ha) (pa_consM (okE b g z hb') pa_nilM e2) (star_cons hs [z] X.env)) (star_cons hs [z] X.env) (star_any (by simp [hs2]))
    · cases h
  | .enum a, n, X, W, fn, g, tg, e, h => by
    unfold chkI at h
    simp only [Bool.and_eq_true] at h
    obtain ⟨ht, h⟩ := h
    obtain ⟨tes, ht⟩ := Option.isSome_iff_exists.mp ht
    obtain ⟨tk, tp, rfl⟩ := asTuple_eq ht
    split at h
    · rename_i x y hx
      obtain ⟨p, q, rfl⟩ := asCall_eq hx
      simp only [Bool.and_eq_true, decide_eq_true_eq] at h
      obtain ⟨⟨⟨hn, hb⟩, hs⟩, ha⟩ := h
      obtain ⟨h1, h2, h3, h4⟩ := blt_of g rfl hb
      subst hn
      unfold evI
      exact pi_enumM h1 h2 (pa_consM (okE a g y ha) pa_nilM (star_cons hs [] X.env)) (star_cons hs [] X.env)
    · cases h
end
end
end PK
namespace PK
open PySem PySem.Spec PyProof.Rows L2
section
variable {X : Cx} {G : Cls} {W : L2.WX} {m : Env → EM DO}
/-- behind a statement a new object is known -/
theorem ps_frzN {st : Stmt} {t : TS} (h : PS X st t) : PS X st (fun D σ H => t { D with nx := fun σ' H1 => ∃ a u, H1 a = some u ∧ Mut (some u) ∧ ∀ ob, D.nx σ' (upd H1 a (.frz ob u)) } σ H) := by
  refine ⟨fun pins s σ H D I q => ?_⟩
  refine thn (h.run pins s σ H _ I q) ?_
  intro f s1 hf
  cases f with
  | next =>
    obtain ⟨σ', H', I', a, u, h1, m, k⟩ := hf
    obtain ⟨ob, I2⟩ := freeze I' h1 m
    exact ⟨σ', _, I2, k ob⟩
  | brk => exact hf
  | cont => exact hf
  | ret v => exact hf
theorem sNew_of {i : Nat} {D : Ends} {σ : L2.St} {H : Hp} (h : tS X.K G W (sAsg (eNew m) (mName i)) D σ H) : tF X.K G W m σ H fun v H1 => ∃ a u, H1 a = some u ∧ Mut (some u) ∧ ∀ ob, D.nx (σ.set i (some v)) (upd H1 a (.frz ob u)) := by
  obtain ⟨ρ, S, E, rp, re, g⟩ := h
  refine ⟨ρ, S, E, rp, re, ?_⟩
  unfold sAsg sOf eNew EM.bind at g
  cases hm : m E S with
  | stuck => rw [hm] at g; exact g
  | exc c fs S' => rw [hm] at g; exact fun ρ1 H1 od x1 r1 z => g ρ1 σ H1 od x1 r1 (RepE.ext x1 re) z
  | ok o S' =>
    rw [hm] at g
    intro ρ' p u H' x' r' hp n h' mu rc
    dsimp only at g
    cases hv : valOf o with
    | none => rw [hv] at g; exact g.elim
    | some d =>
      rw [hv] at g
      refine ⟨p, u, h', mu, fun ob => ?_⟩
      have mu' : Mut (H' p) := by rw [h']; exact mu
      have x2 := x'.known (o := HO.frz ob u) hp n h' mu
      exact g ρ' _ _ x2 (r'.turn mu' n) ((RepE.ext x2 re).set (RepV.ofC hv upd_same (RepC.turn mu' rc)))
theorem sBox_of {i : Nat} {D : Ends} {σ : L2.St} {H : Hp} (h : tS X.K G W (sAsg (eBox m) (mName i)) D σ H) : tF X.K G W m σ H fun v H1 => D.nx (σ.set i (some v)) H1 := by
  obtain ⟨ρ, S, E, rp, re, g⟩ := h
  refine ⟨ρ, S, E, rp, re, ?_⟩
  unfold sAsg sOf eBox at g
  cases hm : m E S with
  | stuck => rw [hm] at g; exact g
  | exc c fs S' => rw [hm] at g; exact fun ρ1 H1 od x1 r1 z => g ρ1 σ H1 od x1 r1 (RepE.ext x1 re) z
  | ok o S' =>
    rw [hm] at g
    intro ρ' p u H' x' r' hp n h' mu rc
    have x2 := x'.taken hp
    exact g (ρ' ++ [some p]) _ H' x2 (r'.take n h' mu rc) ((RepE.ext x2 re).set (.ref (x := some p) (by rw [← r'.len]; simp) (.inr rfl)))
end
section
variable {T : Tab} {v : Ev} {G : Cls}
theorem asPlain_1 {s : Stmt} (h : asPlain s = 1) : ∃ p, s = .Pass p := by
  unfold asPlain at h
  split at h <;> first | exact ⟨_, rfl⟩ | (exact absurd h (by decide))
theorem asPlain_2 {s : Stmt} (h : asPlain s = 2) : ∃ p, s = .Break p := by
  unfold asPlain at h
  split at h <;> first | exact ⟨_, rfl⟩ | (exact absurd h (by decide))
theorem asPlain_3 {s : Stmt} (h : asPlain s = 3) : ∃ p, s = .Continue p := by
  unfold asPlain at h
  split at h <;> first | exact ⟨_, rfl⟩ | (exact absurd h (by decide))
theorem asPlain_4 {s : Stmt} (h : asPlain s = 4) : ∃ x j p q, s = .Expr (.Constant (.str x) j p) q := by
  unfold asPlain at h
  split at h <;> first | exact ⟨_, _, _, _, rfl⟩ | (exact absurd h (by decide))
theorem sw_dx {kx vx : Expr} {gs : List Comprehension} {scope : Scope} {pos py : Pos} {y : Str} {l : Nat} {env : PySem.Env} (fk : env.scope.kind = .function) (fy : env.scope.names.lookup y = some .local) (fl : (py.line == pos.line) = true)
    (fa : (scope.names.any fun (n, k) => n == y && (k == .local || k == .cell)) = false) : swapsWith (.DictComp kx vx gs scope pos) (some (.Name y py)) l env = pure true := by
  have a1 : env.kindOf y = some .local := fy
  have a2 : env.blockKind = .function := by unfold Env.blockKind; rw [fk]; rfl
  unfold swapsWith
  simp only [a2, a1, fa, Expr.pos, fl]
  rfl
/-- name = [..] of the text -/
theorem ok_lcS {n : Nat} {X : Cx} {W : L2.WX} (g : Good T v G n X W fun _ => true) (ic : IC) {i : Nat} {x : Str} {t e : Expr} {p : Pos} (hx : asName t = some x) (hi : X.N[i]? = some x) (hl : chkLcS X.env.scope x t e = true) (hc : chkC T X.N ic X.env.scope e = true) :
    ∃ tf : TE, PS X (.Assign [t] e p) (tAsg tf (gName i)) ∧ ∀ σ H Q, tF X.K G W (evC v ic) σ H Q → tf σ H Q := by
  obtain ⟨p1, rfl⟩ := asName_eq hx
  unfold chkLcS at hl
  split at hl
  · rename_i elt tg iter ifs scope p2 y py hlc hy
    cases hy
    have := asLc_eq hlc
    subst this
    simp only [Bool.and_eq_true, decide_eq_true_eq, beq_iff_eq] at hl
    obtain ⟨⟨⟨h1, h2⟩, h3⟩, h4⟩ := hl
    cases ic with
    | lc it t own c m =>
      unfold chkC at hc
      split at hc
      · rename_i elt' tg' iter' ifs' scope' p' hx'
        cases hx'
        simp only [Bool.and_eq_true, List.all_eq_true, decide_eq_true_eq, Bool.not_eq_true'] at hc
        obtain ⟨⟨⟨⟨⟨⟨⟨hh, k1⟩, k2⟩, k3⟩, k4⟩, k5⟩, k6⟩, k7⟩ := hc
        refine ⟨tLc (tI X.K G W (evI v it)) (t.tg X.K) (tT X.K G W0 (evTo v c)) (tM X.K G W0 (evE v m)) (own.map (·.2)), ps_setLc (g.calm hh) g.nd hi h2 (sw_true h1 h2 (by rw [h3]; exact beq_self_eq_true _) h4) (okI it g tg iter k4) (blkOk_by k1) (fun s H C cl fp => okG (g.blk hh s H scope cl C fp) hh t tg k5) (fun s H C cl fp => okTo c (g.blk hh s H scope cl C fp) ifs k6) (fun s H C cl fp => okE m (g.blk hh s H scope cl C fp) elt k7) (folded_no k3 X.env), fun σ H Q h => ?_⟩
        unfold evC at h
        exact tLc_of k2 h
      · cases hc
    | _ => simp [chkC, asList, asBin, asSub, asCall, asDict, asDc, asMeth] at hc
  · rename_i y py hy _
    cases hy
    split at hl
    · rename_i kx vx tg iter ifs scope p2 hdc
      have := asDc_eq hdc
      subst this
      simp only [Bool.and_eq_true, decide_eq_true_eq, beq_iff_eq] at hl
      obtain ⟨⟨⟨h1, h2⟩, h3⟩, h4⟩ := hl
      cases ic with
      | dc it t own c k m =>
        unfold chkC at hc
        split at hc
        · rename_i kx' vx' tg' iter' ifs' scope' p' hx'
          cases hx'
          simp only [Bool.and_eq_true, List.all_eq_true, decide_eq_true_eq, Bool.not_eq_true'] at hc
          obtain ⟨⟨⟨⟨⟨⟨⟨⟨hh, k1⟩, k2⟩, k3⟩, k4⟩, k5⟩, k6⟩, k7⟩, k8⟩ := hc
          refine ⟨tDx (tI X.K G W (evI v it)) (t.tg X.K) (tT X.K G W0 (evTo v c)) (tM X.K G W0 (evE v k)) (tM X.K G W0 (evE v m)) (putX X.K G) (own.map (·.2)), ps_setDx (g.calm hh) g.nd hi h2 (sw_dx h1 h2 (by rw [h3]; exact beq_self_eq_true _) h4) (okI it g tg iter k4) (blkOk_by k1) ⟨fun s H C cl fp => okG (g.blk hh s H scope cl C fp) hh t tg k5, fun s H C cl fp => okTo c (g.blk hh s H scope cl C fp) ifs k6, fun s H C cl fp => okE k (g.blk hh s H scope cl C fp) kx k7, fun s H C cl fp => okE m (g.blk hh s H scope cl C fp) vx k8⟩ (putX_ok g.gp g.gw g.un) (folded_no k3 X.env), fun σ H Q h => ?_⟩
          unfold evC at h
          exact tDx_of k2 h
        · cases hc
      | _ => simp [chkC, asList, asBin, asSub, asCall, asDict, asLc, asMeth] at hc
    · cases hl
  · cases hl
theorem Good.tr {T : Tab} {G : Cls} {n : Nat} {X : Cx} {W W' : L2.WX} (g : Good T v G n X W fun _ => true) (hh : T.hot = false) (pn : List (Addr × Obj)) (xe : Value → Shared → Prop) (tk : Takes (X.tr pn xe) W') (po : PassesOwn (model X.prog X.w) X.A X.env xe) : Good T v G n (X.tr pn xe) W' fun _ => true where
  tk := tk
  po := po
  calm := g.calm
  gp := g.gp
  gw := g.gw
  nd := g.nd
  room := g.room
  un := g.un
  fn := g.fn
  free := g.free
  cst := g.cst
  fns := g.fns
  kws := g.kws
  xcs := g.xcs
  mks := g.mks
  xts := g.xts
  flds := g.flds
  inj := g.inj
  xat := g.xat
  cool := g.cool
  xin := fun a c od e => by rw [g.cool hh] at e; cases e
theorem Good.suite {T : Tab} {G : Cls} {n : Nat} {X : Cx} {W : L2.WX} (g : Good T v G n X W fun _ => true) (hh : T.hot = false) (a : Addr) (c : Nat) (od : Option Addr) (pn : List (Addr × Obj)) (xin : ∀ a' c' od', (G.with a c od).exc a' = some (c', od') → XIn (X.suite a pn) a' ((G.with a c od).addr c') od') : Good T.heat v (G.with a c od) n (X.suite a pn) W0 fun _ => true where
  tk := fun u s' x => by
    obtain ⟨_, _, _, _, _, _, _, _, _, _, _, _, _, _, _, _, z⟩ := x
    exact z.elim
  po := PassesOwn.never
  calm := fun z => by cases z
  gp := g.gp
  gw := g.gw
  nd := g.nd
  room := fun z => by cases z
  un := g.un
  fn := g.fn
  free := g.free
  cst := fun i p e => by
    obtain ⟨h1, w, u, h2, h3, h4⟩ := g.cst i p e
    exact ⟨h1, w, u, h2, h3, fun ρ H => RepV.up (g.cool hh) (h4 ρ H)⟩
  fns := fun z => by cases z
  kws := fun z => by cases z
  xcs := fun z => by cases z
  mks := fun z => by cases z
  xts := g.xts
  flds := g.flds
  inj := g.inj
  xat := g.xat
  cool := fun z => by cases z
  xin := xin
theorem okKs {T : Tab} {G : Cls} : ∀ (ir : IEs) {n : Nat} {X : Cx} {W : L2.WX} {fn : Str → Bool} (g : Good T v G n X W fn) (kws : List Keyword) (l : List (Str × Expr)), kwEs kws = some l → chkEs T X.N ir X.env.scope (l.map (·.2)) = true → L2.PK X kws (tA X.K G W (evEs v ir))
  | .nil, n, X, W, fn, g, [], l, hk, h => by unfold evEs; exact pk_nilM
  | .nil, n, X, W, fn, g, q :: r, l, hk, h => by
    obtain ⟨nm, e, p, l', rfl, h1, rfl⟩ := kwEs_cons hk
    simp [chkEs] at h
  | .cons a as, n, X, W, fn, g, [], l, hk, h => by
    cases hk
    simp [chkEs] at h
  | .cons a as, n, X, W, fn, g, q :: r, l, hk, h => by
    obtain ⟨nm, e, p, l', rfl, h1, rfl⟩ := kwEs_cons hk
    rw [List.map_cons] at h
    unfold chkEs at h
    rw [Bool.and_eq_true] at h
    unfold evEs
    exact pk_consM (okE a g e h.1) (okKs as g r l' h1 h.2)
theorem kw_all {env : PySem.Env} {pos : Pos} : ∀ {kws : List Keyword} {l : List (Str × Expr)}, kwEs kws = some l → (backToKw pos (keywordEach kws env)).all (·.1.isSome) = true ∧ (backToKw pos (keywordEach kws env)).filterMap (·.1) = l.map (·.1) ∧ (backToKw pos (keywordEach kws env)).any (·.1.isNone) = false
  | [], l, h => by cases h; exact ⟨rfl, rfl, rfl⟩
  | q :: r, l, h => by
    obtain ⟨nm, e, p, l', rfl, h1, rfl⟩ := kwEs_cons h
    obtain ⟨a, b, c⟩ := kw_all (env := env) (pos := pos) h1
    have e0 : backToKw pos (keywordEach (⟨some nm, e, p⟩ :: r) env) = (some nm, (do let v ← eval e env; standAt pos; pure v)) :: backToKw pos (keywordEach r env) := rfl
    rw [e0, List.all_cons, a, List.filterMap_cons, b, List.any_cons, c]
    exact ⟨rfl, rfl, rfl⟩
mutual
theorem okS : ∀ (ir : IS) {T : Tab} {G : Cls} {n : Nat} {X : Cx} {W : L2.WX} (hs : X.stack = X.env :: X.outer) (hf : X.env.frame = some X.env.locals) (g : Good T v G n X W fun _ => true) (s : Stmt), chkS T X.N X.env.scope ir s = true → PS X s (tS X.K G W (evS v ir))
  | .set i a, T, G, n, X, W, hS, hF, g, s, h => by
    unfold chkS at h
    split at h
    · rename_i t e hs
      obtain ⟨p, rfl⟩ := asAsg_eq hs
      split at h
      · rename_i x hx
        obtain ⟨p2, rfl⟩ := asName_eq hx
        simp only [Bool.and_eq_true, decide_eq_true_eq] at h
        obtain ⟨⟨⟨h1, h2⟩, h3⟩, h4⟩ := h
        obtain ⟨k1, k2⟩ := loc_of g h2
        unfold evS
        refine ps_setM g.nd h1 k1 (okE a g e h4) ?_ k2
        rcases Bool.or_eq_true_iff.mp h3 with h3 | h3
        · exact swaps_no h3 _ _ _
        · exact swaps_cell h3 _
      · cases h
    · cases h
  | .tup t a, T, G, n, X, W, hS, hF, g, s, h => by
    unfold chkS at h
    split at h
    · rename_i tg e hs
      obtain ⟨p, rfl⟩ := asAsg_eq hs
      simp only [Bool.and_eq_true, Bool.not_eq_true'] at h
      obtain ⟨⟨⟨⟨⟨hh, h1⟩, h2⟩, h3⟩, h4⟩, h5⟩ := h
      unfold evS
      exact ps_asgM (okE a g e h5) (pg_tgt (okG g hh t tg h4)) (swaps_no h1 _ _ _) (stores_no h2 _) (each_one h3 _)
    · cases h
  | .sub o i a, T, G, n, X, W, hS, hF, g, s, h => by
    unfold chkS at h
    split at h
    · rename_i tg e hs
      obtain ⟨p, rfl⟩ := asAsg_eq hs
      split at h
      · rename_i u w hx
        obtain ⟨p2, rfl⟩ := asSub_eq hx
        simp only [Bool.and_eq_true] at h
        obtain ⟨⟨⟨⟨⟨h1, h2⟩, h3⟩, h4⟩, h5⟩, h6⟩ := h
        unfold evS
        exact ps_asgM (okE a g e h6) (pg_subM g.gp g.gw g.un (okE o g u h4) (okE i g w h5) (assign_sub h3 X.env)) (show swapsWith e (some (.Subscript u w p2)) p.line X.env = pure false from swaps_no h1 _ _ _) (stores_no h2 _) (each_one rfl _)
      · cases h
    · cases h
  | .setC i c, T, G, n, X, W, hS, hF, g, s, h => by
    unfold chkS at h
    split at h
    · rename_i t e hs
      obtain ⟨p, rfl⟩ := asAsg_eq hs
      split at h
      · rename_i x hx
        simp only [Bool.and_eq_true, decide_eq_true_eq] at h
        obtain ⟨tf, q1, q2⟩ := ok_lcS (G := G) (p := p) g c hx h.1.1 h.1.2 h.2
        unfold evS
        exact PS.weak (ps_frzN q1) fun D σ H z => q2 σ H _ (sNew_of z)
      · cases h
    · cases h
  | .boxC i c, T, G, n, X, W, hS, hF, g, s, h => by
    unfold chkS at h
    split at h
    · rename_i t e hs
      obtain ⟨p, rfl⟩ := asAsg_eq hs
      split at h
      · rename_i x hx
        simp only [Bool.and_eq_true, decide_eq_true_eq] at h
        obtain ⟨tf, q1, q2⟩ := ok_lcS (G := G) (p := p) g c hx h.1.1 h.1.2 h.2
        unfold evS
        exact PS.weak q1 fun D σ H z => q2 σ H _ (sBox_of z)
      · cases h
    · cases h
  | .expr a, T, G, n, X, W, hS, hF, g, s, h => by
    unfold chkS at h
    split at h
    · rename_i e hs
      obtain ⟨p, rfl⟩ := asExpr_eq hs
      simp only [Bool.and_eq_true] at h
      unfold evS
      exact ps_exprM (okE a g e h.2) (swaps_no h.1 _ _ _)
    · cases h
  | .ret a, T, G, n, X, W, hS, hF, g, s, h => by
    unfold chkS at h
    split at h
    · rename_i e hs
      obtain ⟨p, rfl⟩ := asRet_eq hs
      unfold evS
      exact ps_retM (okE a g e h)
    · cases h
  | .retN, T, G, n, X, W, hS, hF, g, s, h => by
    unfold chkS at h
    split at h
    · rename_i hs
      obtain ⟨p, rfl⟩ := asRet_eq hs
      unfold evS
      exact ps_retNM
    · cases h
  | .ifS t a b, T, G, n, X, W, hS, hF, g, s, h => by
    unfold chkS at h
    split at h
    · rename_i c x y hs
      obtain ⟨p, rfl⟩ := asIf_eq hs
      simp only [Bool.and_eq_true] at h
      unfold evS
      exact ps_ifM (okT t g c h.1.1) (okB a hS hF g x h.1.2) (okB b hS hF g y h.2)
    · cases h
  | .forS t it b, T, G, n, X, W, hS, hF, g, s, h => by
    unfold chkS at h
    split at h
    · rename_i tg iter x hs
      obtain ⟨p, rfl⟩ := asFor_eq hs
      simp only [Bool.and_eq_true, Bool.not_eq_true'] at h
      obtain ⟨⟨⟨⟨hh, h1⟩, h2⟩, h3⟩, h4⟩ := h
      unfold evS
      exact ps_forM g.po (g.calm hh) (okI it g tg iter h3) (pg_tgt (okG g hh t tg h2)) (okB b hS hF g x h4) (folded_no h1 X.env)
    · cases h
  | .whileS t b, T, G, n, X, W, hS, hF, g, s, h => by
    unfold chkS at h
    split at h
    · rename_i c x hs
      obtain ⟨p, rfl⟩ := asWhile_eq hs
      simp only [Bool.and_eq_true] at h
      unfold evS
      exact ps_whileM v.wf g.po (okT t g c h.1) (okB b hS hF g x h.2)
    · cases h
  | .pass, T, G, n, X, W, hS, hF, g, s, h => by
    unfold chkS at h
    obtain ⟨p, rfl⟩ := asPlain_1 (of_decide_eq_true h)
    unfold evS
    exact ps_passM
  | .brk, T, G, n, X, W, hS, hF, g, s, h => by
    unfold chkS at h
    obtain ⟨p, rfl⟩ := asPlain_2 (of_decide_eq_true h)
    unfold evS
    exact ps_breakM
  | .cont, T, G, n, X, W, hS, hF, g, s, h => by
    unfold chkS at h
    obtain ⟨p, rfl⟩ := asPlain_3 (of_decide_eq_true h)
    unfold evS
    exact ps_contM
  | .doc, T, G, n, X, W, hS, hF, g, s, h => by
    unfold chkS at h
    obtain ⟨x, j, p, q, rfl⟩ := asPlain_4 (of_decide_eq_true h)
    unfold evS
    exact ps_docM
  | .never, T, G, n, X, W, hS, hF, g, s, h => by
    unfold evS
    exact PS.weak ps_never fun D σ H ⟨ρ, S, E, rp, re, g⟩ => g
  | .lock i a, T, G, n, X, W, hS, hF, g, s, h => by
    unfold chkS at h
    unfold evS
    exact ps_lockM (okS a hS hF g s h)
  | .par i j es, T, G, n, X, W, hS, hF, g, s, h => by
    unfold chkS at h
    split at h
    · rename_i x px y py a b hs
      obtain ⟨kt, pt, k2, pt2, p, rfl⟩ := asPar_eq hs
      simp only [Bool.and_eq_true, decide_eq_true_eq, Bool.not_eq_true'] at h
      obtain ⟨⟨⟨⟨⟨hh, h1⟩, h2⟩, h3⟩, h4⟩, h5⟩ := h
      have h4' := h4
      simp only [parOk, Bool.and_eq_true, decide_eq_true_eq] at h4'
      unfold evS
      exact ps_parM (g.calm hh) g.nd h1 h2 h3 h4 (okEs es g [a, b] h5 (by simp [List.all_cons, h4'.1.1.1.2, h4'.1.1.2]))
    · cases h
  | .raise c a as, T, G, n, X, W, hS, hF, g, s, h => by
    unfold chkS at h
    split at h
    · rename_i x y ys hs
      obtain ⟨p, q, r, rfl⟩ := asRaise_eq hs
      simp only [Bool.and_eq_true, decide_eq_true_eq, Bool.not_eq_true'] at h
      obtain ⟨⟨⟨⟨⟨⟨hh, h1⟩, h2⟩, h3⟩, h4⟩, h5⟩, h6⟩ := h
      obtain ⟨k1, k2, k3, k4, k, fI, fd, self, e, k5, k6, k7, k8⟩ := g.xcs hh c x h1
      have hs' : notStar y = true ∧ ys.all notStar = true := by simpa [List.all_cons] using h4
      have hr := g.room hh
      rw [e] at hr
      unfold evS
      exact ps_raiseM k3 k5 k6 k8 hr k7 (g.calm hh) g.tk (gl_of rfl h2) k1 rfl k2 k4 (pa_consM (okE a g y h5) (okEs as g ys h6 hs'.2) (star_cons hs'.1 ys X.env)) h3 (star_cons hs'.1 ys X.env) (star_any hs'.2)
    · cases h
  | .mk j es, T, G, n, X, W, hS, hF, g, s, h => by
    unfold chkS at h
    split at h
    · rename_i x ys kws hs
      obtain ⟨p, q, r, rfl⟩ := asMk_eq hs
      simp only [Bool.and_eq_true, Bool.not_eq_true'] at h
      obtain ⟨⟨⟨hh, h2⟩, h3⟩, h⟩ := h
      unfold evS
      have hr := g.room hh
      split at h
      · rename_i y ks hj
        obtain ⟨c, k1, k2, k3⟩ := g.mks hh j y _ hj
        simp only [Bool.and_eq_true, decide_eq_true_eq] at h
        obtain ⟨⟨h4, h5⟩, h⟩ := h
        subst h5
        have e0 : ys = [] := List.isEmpty_iff.mp h4
        subst e0
        split at h
        · rename_i l hl
          simp only [Bool.and_eq_true, decide_eq_true_eq] at h
          obtain ⟨h5, h6⟩ := h
          obtain ⟨a1, a2, a3⟩ := kw_all (env := X.env) (pos := q) hl
          have hkw := okKs es g kws l hl h6
          have hpl : ((backTo q (starEach [] X.env)).any (·.1) || (backToKw q (keywordEach kws X.env)).any (·.1.isNone)) = false := by rw [a3]; rfl
          rcases k3 with ⟨eo, em, ex⟩ | ⟨k, fI, fd, self, en, iC, tI, z⟩
          · cases eo
            have e1 : l = [] := List.map_eq_nil_iff.mp h5
            subst e1
            have e2 : kws = [] := by
              cases kws with
              | nil => rfl
              | cons a b => obtain ⟨_, _, _, _, _, _, e⟩ := kwEs_cons hl; cases e
            subst e2
            have e3 : es = .nil := by
              cases es with
              | nil => rfl
              | cons a b => simp [chkEs] at h6
            subst e3
            rw [em]
            unfold evEs
            exact ps_mkB F.excBase_ValueError ex k1 k2.kC (raises_own k2.exC k2.tyC) (gl_of rfl h2) h3 (g.calm hh) g.tk rfl
          · rw [en] at hr
            rcases z with ⟨fi, pm, ks', eo, em, F1, hb, hfi, hpm, hkl, hno⟩ | ⟨f, em, F1, hno, zz⟩
            · cases eo
              rw [em]
              exact ps_mkK k2 iC tI F1 hr hb (g.calm hh) g.tk (gl_of rfl h2) k1 rfl hfi hpm hkl hno hkw h3 a1 (a2.trans h5) hpl
            · rcases zz with ⟨eo, _⟩ | ⟨ks', eo, hkl, hb⟩
              · cases eo
              · cases eo
                rw [em]
                exact ps_mkLK k2 iC tI F1 hr hb (g.calm hh) g.tk (gl_of rfl h2) k1 rfl hkl hno hkw h3 a1 (a2.trans h5) hpl
        · cases h
      · rename_i y hj
        obtain ⟨c, k1, k2, k3⟩ := g.mks hh j y _ hj
        simp only [Bool.and_eq_true, decide_eq_true_eq, Bool.not_eq_true'] at h
        obtain ⟨⟨⟨⟨h4, h5⟩, h6⟩, h7⟩, h8⟩ := h
        subst h5
        have e0 : kws = [] := List.isEmpty_iff.mp h4
        subst e0
        rcases k3 with ⟨eo, _⟩ | ⟨k, fI, fd, self, en, iC, tI, z⟩
        · cases eo
        · rw [en] at hr
          rcases z with ⟨fi, pm, ks', eo, _⟩ | ⟨f, em, F1, hno, zz⟩
          · cases eo
          · rcases zz with ⟨_, hb⟩ | ⟨ks', eo, _⟩
            · cases ys with
              | nil => cases h6
              | cons y0 ys =>
                have hs' : notStar y0 = true ∧ ys.all notStar = true := by simpa [List.all_cons] using h7
                rw [em]
                exact ps_mkL k2 iC tI F1 hr hb (g.calm hh) g.tk (gl_of rfl h2) k1 rfl hno (okEs es g _ h8 h7) h3 (star_cons hs'.1 ys X.env) (star_any hs'.2)
            · cases eo
      · cases h
    · cases h
  | .tryS b cl, T, G, n, X, W, hS, hF, g, s, h => by
    unfold chkS at h
    split at h
    · rename_i x hd hds hs
      obtain ⟨p, rfl⟩ := asTry_eq hs
      simp only [Bool.and_eq_true, Bool.not_eq_true'] at h
      obtain ⟨⟨hh, h1⟩, h2⟩ := h
      obtain ⟨l, q1, q2⟩ := okH cl hS hF hh g (hd :: hds) h2
      unfold evS
      exact ps_tryM hS hF g.nd g.tk (fun W pn xe tk po => okB b (X := X.tr pn xe) hS hF (g.tr hh pn xe tk po) x h1) q1 q2
    · cases h
theorem okH : ∀ (ir : IHs) {T : Tab} {G : Cls} {n : Nat} {X : Cx} {W : L2.WX} (hs : X.stack = X.env :: X.outer) (hf : X.env.frame = some X.env.locals) (hh : T.hot = false) (g : Good T v G n X W fun _ => true) (s : List ExceptHandler), chkH T.heat X.N X.env.scope ir s = true → ∃ l, TCs X.K G (evH v ir) l ∧ HdA X s l
  | .nil, T, G, n, X, W, hS, hF, hh, g, [], h => by unfold evH; exact ⟨[], .nil, .nil⟩
  | .nil, T, G, n, X, W, hS, hF, hh, g, _ :: _, h => by simp [chkH] at h
  | .cons t sl b r, T, G, n, X, W, hS, hF, hh, g, [], h => by simp [chkH] at h
  | .cons t sl b r, T, G, n, X, W, hS, hF, hh, g, hd :: hds, h => by
    unfold chkH at h
    rw [Bool.and_eq_true] at h
    obtain ⟨h, hr⟩ := h
    obtain ⟨l, q1, q2⟩ := okH r hS hF hh g hds hr
    split at h
    · rename_i x nm bd hx
      obtain ⟨p, q, b₀, b', rfl, rfl⟩ := asHd_eq hx
      simp only [Bool.and_eq_true, decide_eq_true_eq, Bool.not_eq_true'] at h
      obtain ⟨⟨⟨⟨h1, h2⟩, h3⟩, h4⟩, h5⟩ := h
      obtain ⟨tv, tw, k1, k2, k3, k4⟩ := g.xts t x h1
      have nm' : Names X x tv := ⟨gl_of rfl h2, h3, k1⟩
      have su : SuiteOk X (b₀ :: b') (tSu X.K G sl (evB v b)) := suite_ok (g.cool hh) fun a c od pn hc xin => okB b (X := X.suite a pn) hS hF (g.suite hh a c od pn xin) (b₀ :: b') h5
      unfold evH
      refine ⟨(tv, sl, tSu X.K G sl (evB v b)) :: l, .cons (fun k b hk hb => (k4 k b hk hb).2.1) q1, ?_⟩
      split at h4
      · rename_i i n
        simp only [Bool.and_eq_true, decide_eq_true_eq] at h4
        exact .as nm' h4.1 h4.2 su q2
      · exact .un nm' su q2
      · cases h4
    · cases h
theorem okB : ∀ (ir : ISs) {T : Tab} {G : Cls} {n : Nat} {X : Cx} {W : L2.WX} (hs : X.stack = X.env :: X.outer) (hf : X.env.frame = some X.env.locals) (g : Good T v G n X W fun _ => true) (s : List Stmt), chkB T X.N X.env.scope ir s = true → PSs X s (tS X.K G W (evB v ir))
  | .nil, T, G, n, X, W, hS, hF, g, [], h => by unfold evB; exact pss_nilM
  | .nil, T, G, n, X, W, hS, hF, g, _ :: _, h => by simp [chkB] at h
  | .cons a as, T, G, n, X, W, hS, hF, g, [], h => by simp [chkB] at h
  | .cons a as, T, G, n, X, W, hS, hF, g, s :: ss, h => by
    simp only [chkB, Bool.and_eq_true] at h
    unfold evB
    exact pss_consM (okS a hS hF g s h.1) (okB as hS hF g ss h.2)
end
end
end PK
namespace PK
open PySem PySem.Spec PyProof.Rows L2
/-! ### classes of exceptions, by evaluation -/
def oexB (K : PySem.W.Frag) (C : Addr) : Bool := (match K.lookup C with
  | some ⟨.type t, _, .cls cd, sl⟩ => decide (t = "type") && (match cd.mro, sl.toList with
    | .ref C' :: bm, [_, _, _, _, some (.builtin n), _] => decide (C' = C) && decide (n = "ValueError.__new__") && !cd.hasDel && cd.hasDict && PySem.HandSPX.refsVE bm
    | _, _ => false)
  | _ => false) && decide (PySem.W.findIn K (.ref C) "__setattr__" = some (some (.builtin "object.__setattr__"))) && decide (PySem.W.subIn K (.ref C) (.type "BaseException") = some true) && decide (PySem.W.typeIn K (.ref C) = some (.type "type")) && PySem.W.keepIn K (.ref C)
theorem oexB_ok {K : PySem.W.Frag} {C : Addr} (h : oexB K C = true) : OexC K C := by
  unfold oexB at h
  simp only [Bool.and_eq_true, decide_eq_true_eq] at h
  obtain ⟨⟨⟨⟨h1, h2⟩, h3⟩, h4⟩, h5⟩ := h
  refine ⟨?_, h2, h3, h4, h5⟩
  split at h1
  · rename_i t dd cd sl ho
    rw [Bool.and_eq_true, decide_eq_true_eq] at h1
    obtain ⟨rfl, h1⟩ := h1
    split at h1
    · rename_i C' bm k0 k1 k2 k3 n k5 hm hs
      simp only [Bool.and_eq_true, decide_eq_true_eq, Bool.not_eq_true'] at h1
      obtain ⟨⟨⟨⟨rfl, rfl⟩, hdel⟩, hdict⟩, hve⟩ := h1
      obtain ⟨nm, bs, mro, ns, qn, hd, sn, sub, ab, col, del⟩ := cd
      dsimp only at hm hdel hdict
      subst hm hdel hdict
      have hsl : sl = #[k0, k1, k2, k3, some (.builtin "ValueError.__new__"), k5] := by
        obtain ⟨l⟩ := sl
        simp only at hs
        rw [hs]
      subst hsl
      exact ⟨nm, qn, ns, bs, bm, sn, sub, ab, col, dd, k0, k1, k2, k3, k5, ho, hve⟩
    · cases h1
  · cases h1
def xatB (K : PySem.W.Frag) (C : Addr) (f : Str) : Bool := decide (PySem.W.findIn K (.ref C) "__getattribute__" = some (some (.builtin "BaseException.__getattribute__"))) && (PySem.W.findIn K (.ref C) "__getattr__").isSome && decide (PySem.W.findIn K (.ref C) f = some none) && decide (PySem.W.subIn K (.ref C) (.type "BaseException") = some true) && PySem.W.hasDictIn K C
theorem xatB_ok {K : PySem.W.Frag} {C : Addr} {f : Str} (h : xatB K C f = true) : XAt K C f := by
  unfold xatB at h
  simp only [Bool.and_eq_true, decide_eq_true_eq] at h
  obtain ⟨⟨⟨⟨h1, h2⟩, h3⟩, h4⟩, h5⟩ := h
  exact ⟨h1, Option.isSome_iff_exists.mp h2, h3, h4, h5⟩
def xisB (K : PySem.W.Frag) (C : Addr) : Bool := (PySem.W.clsIn K C).isSome && decide (PySem.W.findIn K (.ref C) "__getattribute__" = some (some (.builtin "BaseException.__getattribute__"))) && (PySem.W.findIn K (.ref C) "__getattr__").isSome && decide (PySem.W.subIn K (.ref C) (.type "BaseException") = some true) &&
  decide (PySem.W.findIn K (.ref C) "__class__" = some (some (.builtin "object.__class__"))) && decide (PySem.W.specialIn K (.builtin "object.__class__") "__get__" = some (some (.builtin "getset_descriptor.__get__"))) && decide (PySem.W.takesIn K (.builtin "object.__class__") = some true) && decide (PySem.W.mroIn K C (.type "object") = some true)
theorem xisB_ok {K : PySem.W.Frag} {C : Addr} (h : xisB K C = true) : XIs K C := by
  unfold xisB at h
  simp only [Bool.and_eq_true, decide_eq_true_eq] at h
  obtain ⟨⟨⟨⟨⟨⟨⟨h1, h2⟩, h3⟩, h4⟩, h5⟩, h6⟩, h7⟩, h8⟩ := h
  exact ⟨h1, h2, Option.isSome_iff_exists.mp h3, h4, h5, h6, h7, h8⟩
/-- what a name stands for: a class of the program, a built-in one -/
def tgV (K : PySem.W.Frag) (u : Str) : Option Value := match PySem.W.nsIn K mainGlobals u with
  | some (some v) => some v
  | some none => if u = "__name__" then none else bootBuiltins u
  | none => none
def tgW (v : Value) : Option V := match v with
  | .ref a => some (.ref a)
  | .type n => some (.ty n)
  | _ => none
theorem tgW_rel {v : Value} {w : V} (h : tgW v = some w) : RelV w v ∧ ∀ u, RelV w u → u = v := by
  cases v <;> simp [tgW] at h
  · subst h; exact ⟨rfl, fun u e => e⟩
  · subst h; exact ⟨rfl, fun u e => e⟩
/-! ### __init__ -/
def ibB (self : Str) : List Str → List Stmt → Bool
  | [], [] => true
  | f :: r, .Assign [.Attribute (.Name s _) g _] (.Name h _) _ :: b => decide (s = self) && decide (g = f) && decide (h = f) && ibB self r b
  | _, _ => false
def ilB (self f : Str) : List Stmt → Bool
  | [.Assign [.Attribute (.Name s _) g _] (.Call (.Name l _) [.Name h _] [] _) _] => decide (s = self) && decide (g = f) && decide (l = "list") && decide (h = f)
  | _ => false
theorem ilB_ok {self f : Str} {b : List Stmt} (h : ilB self f b = true) : ∃ p p1 p2 p3 p4 pos, b = [.Assign [.Attribute (.Name self p) f p1] (.Call (.Name "list" p2) [.Name f p3] [] p4) pos] := by
  unfold ilB at h
  split at h
  · simp only [Bool.and_eq_true, decide_eq_true_eq] at h
    obtain ⟨⟨⟨rfl, rfl⟩, rfl⟩, rfl⟩ := h
    exact ⟨_, _, _, _, _, _, rfl⟩
  · cases h
theorem ibB_ok {self : Str} : ∀ {ns : List Str} {b : List Stmt}, ibB self ns b = true → IB self ns b
  | [], [], _ => .nil
  | [], _ :: _, h => by simp [ibB] at h
  | f :: r, b, h => by
    unfold ibB at h
    split at h
    · rename_i h1 h2
      cases h2
    · rename_i h1
      cases h1
      simp only [Bool.and_eq_true, decide_eq_true_eq] at h
      obtain ⟨⟨⟨rfl, rfl⟩, rfl⟩, h⟩ := h
      exact .cons (ibB_ok h)
    · cases h
end PK
namespace PK
open PySem PySem.Spec PyProof.Rows L2

/-! ### a program: defs by number -/
structure FD where
  at_ : Str × Option Str
  name : Str
  qual : Str
  st : Stmt
  N : List Str
  np : Nat
  ir : ISs
  dfl : List He.Dv
  drop : Nat
def dD : He.Dv → Option D
  | .non => some .non
  | .bl b => some (.bl b)
  | .int i => some (.int i)
  | .str x => some (.str x)
  | _ => none
def dDs : List He.Dv → List D
  | [] => []
  | d :: ds => (dD d).getD .non :: dDs ds
def FD.dds (F : FD) : List D := dDs (F.dfl.drop F.drop)
def FD.defD (F : FD) : He.DefD := ⟨F.at_, F.name, F.qual, defArgs F.st, defBody F.st, defScope F.st, F.dfl, []⟩
/-- a scope's facts, by evaluation -/
def scB (N P : List Str) (sc : Scope) : Bool := (match sc.kind with
  | .function => true
  | _ => false) && !sc.isCoroutine && !sc.isGenerator && decide N.Nodup && decide (N.take P.length = P) && P.all (fun x => match sc.names.lookup x with
  | some .local => true
  | some .cell => true
  | _ => false) && sc.names.all fun y => match y.2 with
  | .free => false
  | _ => true
theorem scB_ok {N P : List Str} {sc : Scope} (h : scB N P sc = true) : FnScope N P sc := by
  unfold scB at h
  simp only [Bool.and_eq_true, Bool.not_eq_true', decide_eq_true_eq, List.all_eq_true] at h
  obtain ⟨⟨⟨⟨⟨⟨h1, h2⟩, h3⟩, h4⟩, h5⟩, h6⟩, h7⟩ := h
  refine ⟨?_, h2, h3, h4, h5, fun x hx => ?_, fun y hy e => ?_⟩
  · split at h1
    · assumption
    · cases h1
  · have := h6 x hx
    split at this
    · exact .inl ‹_›
    · exact .inr ‹_›
    · cases this
  · have := h7 y hy
    rw [e] at this
    cases this
/-- the k-th statement of a class -/
def clsDef (s : Stmt) (k : Nat) : Stmt := match s with
  | .ClassDef _ _ _ b _ _ _ _ _ _ _ => b.getD k (.Pass ⟨0, 0, 0, 0⟩)
  | _ => .Pass ⟨0, 0, 0, 0⟩
/-- a class of exceptions: its name, its fields, __init__ -/
structure XC where
  name : Str
  qual : Str
  self : Str
  fs : List Nat
  st : Stmt
  kd : Nat := 0
structure Pr where
  fds : List FD
  cst : List (Str × D)
  free : List Str
  wf : Nat
  kws : List (Nat × Nat × Str) := []
  cls : List XC := []
  flds : List Str := []
  xts : List Str := []
  isx : List (List Bool) := []
  mks : List (Nat × Option (List Str) × List Nat) := []
def Pr.tab (p : Pr) : PK.Tab := ⟨p.free, p.fds.map fun F => (F.at_.1, F.np, F.dds), p.cst, p.kws, p.cls.map (fun x => if x.kd = 0 then some x.name else none), p.xts, p.flds, p.mks.map (fun z => ((p.cls.map XC.name).getD z.1 "", z.2.1)), false⟩
def Pr.fld (p : Pr) (f : Nat) : Str := p.flds.getD f ""
def Pr.xf (p : Pr) (c : Nat) : List Nat := match p.cls[c]? with
  | some x => x.fs
  | none => []
def Pr.isxO (p : Pr) (c t : Nat) : Option Bool := match p.isx[c]? with
  | some r => r[t]?
  | none => none
def Pr.xk (p : Pr) (c _f : Nat) : Bool := decide (c < p.cls.length)
def Pr.fok (p : Pr) (f : Nat) : Bool := decide (f < p.flds.length)
def Pr.gc (p : Pr) (K : PySem.W.Frag) (P : Program) (w : World) : Cls := ⟨fun c => He.ga K ((p.cls.map XC.name).getD c ""), p.fld, P, w, fun _ => none⟩
/-- __init__ as a def -/
def XC.fd (p : Pr) (x : XC) : FD := ⟨(x.name, some "__init__"), "__init__", x.qual, x.st, x.self :: x.fs.map p.fld, x.fs.length + 1, .nil, [], 0⟩
def XC.chk (p : Pr) (x : XC) : Bool := if x.kd = 2 then x.fs.isEmpty else scB (x.self :: x.fs.map p.fld) (x.self :: x.fs.map p.fld) (defScope x.st) && (if x.kd = 1 then decide (x.fs.length = 1) && ilB x.self (p.fld (x.fs.headD 0)) (defBody x.st) && glB (defScope x.st) "list" && decide (("list" : Str) ∈ p.free) else ibB x.self (x.fs.map p.fld) (defBody x.st)) && (x.self :: x.fs.map p.fld).all (fun y => visB (defScope x.st) y && !(y == ("__debug__" : Str)) && !(y == ("__classdict__" : Str))) && !x.fs.isEmpty && decide (x.fs.length ≤ 800)
/-- what the fragment must say of the classes -/
def Pr.kb (p : Pr) (K : PySem.W.Frag) : Bool := (p.cls.all fun x => decide (PySem.W.nsIn K mainGlobals x.name = some (some (.ref (He.ga K x.name)))) && oexB K (He.ga K x.name) && xisB K (He.ga K x.name) && (p.flds.all fun f => xatB K (He.ga K x.name) f) &&
    (if x.kd = 2 then PySem.W.excIn K (He.ga K x.name) bmVE "ValueError.__new__" else decide (PySem.W.findIn K (.ref (He.ga K x.name)) "__init__" = some (some (.ref (He.ma K (He.ga K x.name) "__init__")))) && decide (PySem.W.typeIn K (.ref (He.ma K (He.ga K x.name) "__init__")) = some (.type "function")))) &&
  (p.xts.all fun u => match tgV K u with
    | some v => (tgW v).isSome
    | none => false) &&
  (List.range p.cls.length).all fun c => (List.range p.xts.length).all fun t => match p.isxO c t, tgV K (p.xts.getD t "") with
    | some b, some v => decide (PySem.W.exmOne K (.ref (He.ga K ((p.cls.map XC.name).getD c ""))) v = some b) && decide (PySem.W.kitOne K (.ref (He.ga K ((p.cls.map XC.name).getD c ""))) v = some b)
    | none, _ => true
    | _, none => false
def Pr.mkC (p : Pr) (z : Nat × Option (List Str) × List Nat) : Bool := match p.cls[z.1]? with
  | some x => if x.kd = 2 then decide (z.2.1 = some []) else if x.kd = 1 then (match z.2.1 with
    | none => true
    | some ks => decide (ks.length = 1) && decide (z.2.2 = [0])) else (match z.2.1 with
    | none => false
    | some ks => decide (ks.length = x.fs.length) && decide (z.2.2.length = x.fs.length))
  | none => false
def Pr.mf (p : Pr) (j : Nat) : MF := match p.mks[j]? with
  | some z => (match p.cls[z.1]? with
    | some x => if x.kd = 2 then mfB z.1 else if x.kd = 1 then mfL z.1 (x.fs.headD 0) else mfK z.1 x.fs z.2.2
    | none => fun _ _ => none)
  | none => fun _ _ => none
def Pr.clsOk (p : Pr) : Bool := p.mks.all p.mkC && (decide (p.isx.length ≤ p.cls.length) && decide (p.cls.length < 1000) && decide p.flds.Nodup && (p.cls.all fun x => x.chk p && x.fs.all fun f => decide (f < p.flds.length)))
def Pr.np (p : Pr) (f : Nat) : Nat := match p.fds[f]? with
  | some F => F.np
  | none => 0
def Pr.dds (p : Pr) (f : Nat) : List D := match p.fds[f]? with
  | some F => F.dds
  | none => []
def Pr.csts (p : Pr) (g : Nat) : Option D := match p.cst[g]? with
  | some q => some q.2
  | none => none
def Pr.kn (p : Pr) (j : Nat) : Nat := match p.kws[j]? with
  | some z => z.2.1
  | none => 0
def Pr.evWith (p : Pr) (call : Nat → List D → EM D) : Ev := ⟨call, p.np, p.dds, p.csts, p.wf, p.kn, p.xf, p.isxO, p.xk, p.fok, p.mf⟩
def Pr.call (p : Pr) : Nat → Nat → List D → EM D
  | 0, _ => fun _ => EM.fail
  | n + 1, f => match p.fds[f]? with
    | some F => runBody F.N.length (evB (p.evWith (p.call n)) F.ir)
    | none => fun _ => EM.fail
def Pr.ev (p : Pr) (n : Nat) : Ev := p.evWith (p.call n)

theorem dDs_ok {K : PySem.W.Frag} {G : Cls} : ∀ {ds : List He.Dv}, (ds.all fun d => (dD d).isSome) = true → ∀ ρ H, RepVs K G ρ H (dDs ds) (ds.map (He.Dv.v K))
  | [], _, _, _ => .nil
  | d :: ds, h, ρ, H => by
    rw [List.all_cons, Bool.and_eq_true] at h
    refine .cons ?_ (dDs_ok h.2 ρ H)
    have h1 := h.1
    cases d <;> simp [dD] at h1 ⊢
    · exact .non
    · exact .bl _
    · exact .int _
    · exact .str _
/-- what the text must be -/
def FD.chk (p : Pr) (F : FD) : Bool := scB F.N (F.N.take F.np) (defScope F.st) && decide ((F.N.take F.np).length = F.np) && (F.dfl.all fun d => (dD d).isSome) && chkB p.tab F.N (defScope F.st) F.ir (defBody F.st)
/-- what stands behind the top -/
structure Pr.Ok (p : Pr) (K : PySem.W.Frag) (mg : Str → Option Value) (a : FD → Addr) : Prop where
  free : ∀ x ∈ p.free, mg x = none
  cst : ∀ q ∈ p.cst, ∃ w u, mg q.1 = some u ∧ RelV w u ∧ ∀ (G : Cls) ρ H, RepV K G ρ H q.2 w
  fns : ∀ F ∈ p.fds, ∃ fd ds, mg F.at_.1 = some (.ref (a F)) ∧ FunD K F.name F.qual (defArgs F.st) (defBody F.st) (defScope F.st) (F.dfl.map (He.Dv.v K)) [] (a F) fd ∧ Vals ((F.dfl.drop F.drop).map (He.Dv.v K)) ds ∧ Binds K fd (F.N.take F.np) ds
  chk : ∀ F ∈ p.fds, F.chk p = true
  kw : ∀ z ∈ p.kws, ∀ F, p.fds[z.1]? = some F → ∃ fd, mg F.at_.1 = some (.ref (a F)) ∧ FunD K F.name F.qual (defArgs F.st) (defBody F.st) (defScope F.st) (F.dfl.map (He.Dv.v K)) [] (a F) fd ∧ KBn K fd (F.N.take F.np) z.2.1 [z.2.2] (fun us ws => us ++ ws) (fun us ws => us ++ ws)
  kb : p.kb K = true
  co : p.clsOk = true
  xmg : ∀ x ∈ p.cls, mg x.name = some (.ref (He.ga K x.name))
  ini : ∀ x ∈ p.cls, x.kd ≠ 2 → ∃ fd, FunD K "__init__" x.qual (defArgs x.st) (defBody x.st) (defScope x.st) [] [] (He.ma K (He.ga K x.name) "__init__") fd ∧ Binds K fd (x.self :: x.fs.map p.fld) []
  inik : ∀ z ∈ p.mks, ∀ x, p.cls[z.1]? = some x → x.kd ≠ 2 → ∀ ks, z.2.1 = some ks → ∀ fd, FunD K "__init__" x.qual (defArgs x.st) (defBody x.st) (defScope x.st) [] [] (He.ma K (He.ga K x.name) "__init__") fd → KBn K fd (x.self :: x.fs.map p.fld) 1 ks (gK .none z.2.2) (gK .non z.2.2)
  xtg : ∀ u ∈ p.xts, ∀ v, tgV K u = some v → mg u = some v ∨ (mg u = none ∧ bootBuiltins u = some v ∧ u ≠ "__name__")
section
variable {p : Pr} {P : Program} {w : World} {K : PySem.W.Frag} {mg : Str → Option Value} {base : Heap} {a : FD → Addr}
theorem Pr.Ok.xcFacts (h : p.Ok K mg a) {y : XC} (hy : y ∈ p.cls) : OexC K (He.ga K y.name) ∧ XIs K (He.ga K y.name) ∧ PySem.W.nsIn K mainGlobals y.name = some (some (.ref (He.ga K y.name))) ∧ (∀ f ∈ p.flds, XAt K (He.ga K y.name) f) ∧ (y.kd ≠ 2 → PySem.W.findIn K (.ref (He.ga K y.name)) "__init__" = some (some (.ref (He.ma K (He.ga K y.name) "__init__"))) ∧ PySem.W.typeIn K (.ref (He.ma K (He.ga K y.name) "__init__")) = some (.type "function")) ∧ (y.kd = 2 → PySem.W.excIn K (He.ga K y.name) bmVE "ValueError.__new__" = true) := by
  have h1 := h.kb
  unfold Pr.kb at h1
  rw [Bool.and_eq_true, Bool.and_eq_true] at h1
  have h2 := List.all_eq_true.mp h1.1.1 y hy
  simp only [Bool.and_eq_true, decide_eq_true_eq] at h2
  obtain ⟨⟨⟨⟨q1, q2⟩, q3⟩, q4⟩, q5⟩ := h2
  refine ⟨oexB_ok q2, xisB_ok q3, q1, fun f hf => xatB_ok (List.all_eq_true.mp q4 f hf), fun hk => ?_, fun hk => ?_⟩
  · rw [if_neg hk] at q5
    simpa only [Bool.and_eq_true, decide_eq_true_eq] using q5
  · rw [if_pos hk] at q5
    exact q5
theorem Pr.Ok.xcChk (h : p.Ok K mg a) {y : XC} (hy : y ∈ p.cls) : y.chk p = true ∧ ∀ f ∈ y.fs, f < p.flds.length := by
  have h1 := h.co
  unfold Pr.clsOk at h1
  rw [Bool.and_eq_true, Bool.and_eq_true] at h1
  have h2 := List.all_eq_true.mp h1.2.2 y hy
  rw [Bool.and_eq_true] at h2
  exact ⟨h2.1, fun f hf => of_decide_eq_true (List.all_eq_true.mp h2.2 f hf)⟩
theorem Pr.Ok.xNodup (h : p.Ok K mg a) : p.flds.Nodup := by
  have h1 := h.co
  unfold Pr.clsOk at h1
  simp only [Bool.and_eq_true, decide_eq_true_eq] at h1
  exact h1.2.1.2
theorem Pr.Ok.xcOf (h : p.Ok K mg a) {c : Nat} {x : Str} (e : (p.cls.map XC.name)[c]? = some x) : ∃ y, p.cls[c]? = some y ∧ y ∈ p.cls ∧ y.name = x ∧ (∀ K, (p.gc K P w).addr c = He.ga K y.name) ∧ p.xf c = y.fs := by
  have e0 := e
  rw [List.getElem?_map, Option.map_eq_some_iff] at e
  obtain ⟨y, e1, e2⟩ := e
  refine ⟨y, e1, List.mem_of_getElem? e1, e2, fun K => ?_, ?_⟩
  · show He.ga K ((p.cls.map XC.name).getD c "") = _
    rw [List.getD_eq_getElem?_getD, e0, e2]
    rfl
  · unfold Pr.xf; rw [e1]
theorem Pr.Ok.initFacts (h : p.Ok K mg a) {c : Nat} {y : XC} (ey : p.cls[c]? = some y) (hk : y.kd ≠ 2) : y ∈ p.cls ∧ (∀ K, (p.gc K P w).addr c = He.ga K y.name) ∧ p.xf c = y.fs ∧ mg y.name = some (.ref (He.ga K y.name)) ∧ OexC K (He.ga K y.name) ∧ (∀ f ∈ y.fs.map p.fld, PySem.W.findIn K (.ref (He.ga K y.name)) f = some none) ∧
    (PySem.W.findIn K (.ref (He.ga K y.name)) "__init__" = some (some (.ref (He.ma K (He.ga K y.name) "__init__"))) ∧ PySem.W.typeIn K (.ref (He.ma K (He.ga K y.name) "__init__")) = some (.type "function")) ∧ scB (y.self :: y.fs.map p.fld) (y.self :: y.fs.map p.fld) (defScope y.st) = true ∧
    (if y.kd = 1 then decide (y.fs.length = 1) && ilB y.self (p.fld (y.fs.headD 0)) (defBody y.st) && glB (defScope y.st) "list" && decide (("list" : Str) ∈ p.free) else ibB y.self (y.fs.map p.fld) (defBody y.st)) = true ∧
    (∀ z ∈ y.self :: y.fs.map p.fld, Vis (defScope y.st) z ∧ (z == ("__debug__" : Str)) = false ∧ (z == ("__classdict__" : Str)) = false) ∧ y.fs ≠ [] ∧ y.fs.length ≤ 800 := by
  have e1 : (p.cls.map XC.name)[c]? = some y.name := by rw [List.getElem?_map, ey]; rfl
  obtain ⟨y', ey', hy, _, ea, ex⟩ := h.xcOf (P := P) (w := w) e1
  rw [ey] at ey'
  cases ey'
  obtain ⟨k1, k2, k3, k4, k5, _⟩ := h.xcFacts hy
  obtain ⟨c1, c2⟩ := h.xcChk hy
  unfold XC.chk at c1
  rw [if_neg hk] at c1
  simp only [Bool.and_eq_true, Bool.not_eq_true', decide_eq_true_eq, List.all_eq_true] at c1
  obtain ⟨⟨⟨⟨q1, q2⟩, q3⟩, q4⟩, q5⟩ := c1
  refine ⟨hy, ea, ex, h.xmg y hy, k1, fun f hf => ?_, k5 hk, q1, ?_, fun z hz => ?_, fun z => by rw [z] at q4; simp at q4, q5⟩
  · obtain ⟨j, hj, rfl⟩ := List.mem_map.mp hf
    have hj' := c2 j hj
    exact (k4 (p.fld j) (by unfold Pr.fld; rw [List.getD_eq_getElem?_getD, List.getElem?_eq_getElem hj']; exact List.getElem_mem hj')).no
  · exact q2
  · obtain ⟨⟨z1, z2⟩, z3⟩ := q3 z hz
    refine ⟨?_, z2, z3⟩
    unfold visB at z1
    split at z1
    · exact .inl ‹_›
    · exact .inr (.inl ‹_›)
    · exact .inr (.inr ‹_›)
    · cases z1
theorem KBn.one {K : PySem.W.Frag} {fd : FuncData} {ps ks : List Str} (hl : ks.length = 1) (b : KBn K fd ps 1 ks (gK .none [0]) (gK .non [0])) : KBn K fd ps 1 ks (fun us ws => us ++ ws) (fun vs zs => vs ++ zs) := by
  refine ⟨fun s us ws X l1 l2 => ?_, fun r1 r2 => r1.append r2⟩
  have := b.to s us ws X l1 l2
  rw [hl] at l2
  match ws, l2 with
  | [x], _ => exact this
theorem Pr.Ok.xtFacts (h : p.Ok K mg a) {t : Nat} {u : Str} (e : p.xts[t]? = some u) : ∃ v w0, (RelV w0 v ∧ ∀ z, RelV w0 z → z = v) ∧ tgV K u = some v ∧
    ∀ c b, xcl c = true → p.isxO c t = some b → XIs K ((p.gc K P w).addr c) ∧ PySem.W.exmOne K (.ref ((p.gc K P w).addr c)) v = some b ∧ PySem.W.kitOne K (.ref ((p.gc K P w).addr c)) v = some b := by
  have h1 := h.kb
  unfold Pr.kb at h1
  rw [Bool.and_eq_true, Bool.and_eq_true] at h1
  have h2 := List.all_eq_true.mp h1.1.2 u (List.mem_of_getElem? e)
  cases hv : tgV K u with
  | none => simp only [hv] at h2; cases h2
  | some v =>
    simp only [hv] at h2
    obtain ⟨w0, hw⟩ := Option.isSome_iff_exists.mp h2
    refine ⟨v, w0, tgW_rel hw, rfl, fun c b hc hb => ?_⟩
    have hcl : c < p.cls.length := by
      have h3 := h.co
      unfold Pr.clsOk at h3
      simp only [Bool.and_eq_true, decide_eq_true_eq] at h3
      unfold Pr.isxO at hb
      cases hr : p.isx[c]? with
      | none => rw [hr] at hb; cases hb
      | some r => exact Nat.lt_of_lt_of_le (List.getElem?_eq_some_iff.mp hr).1 h3.2.1.1.1
    have htl : t < p.xts.length := (List.getElem?_eq_some_iff.mp e).1
    have h3 := List.all_eq_true.mp h1.2 c (List.mem_range.mpr hcl)
    have h4 := List.all_eq_true.mp h3 t (List.mem_range.mpr htl)
    have eu : p.xts.getD t "" = u := by rw [List.getD_eq_getElem?_getD, e]; rfl
    simp only [hb, eu, hv, Bool.and_eq_true, decide_eq_true_eq] at h4
    have e1 : (p.cls.map XC.name)[c]? = some (p.cls[c]).name := by rw [List.getElem?_map, List.getElem?_eq_getElem hcl]; rfl
    obtain ⟨y, ey, hy, en, ea, ex⟩ := h.xcOf (P := P) (w := w) e1
    obtain ⟨k1, k2, k3, k4, k5, k6⟩ := h.xcFacts hy
    refine ⟨?_, h4.1, h4.2⟩
    rw [ea K]
    exact k2
theorem Pr.Ok.good (h : p.Ok K mg a) {n : Nat} (ih : ∀ (f : Nat) (F : FD) fd, p.fds[f]? = some F → FunD K F.name F.qual (defArgs F.st) (defBody F.st) (defScope F.st) (F.dfl.map (He.Dv.v K)) [] (a F) fd → FnOk P w K mg base (L2.CX P w) (n + 2) (a F) fd (F.N.take F.np) (spF K (p.gc K P w) F.np (p.call n f)))
    {X : Cx} {W : L2.WX} (hP : X.prog = P) (hw : X.w = w) (hK : X.K = K) (hm : X.mg = mg) (hb : X.base = base) (tk : Takes X W) (po : PassesOwn (model X.prog X.w) X.A X.env X.xe) (calm : X.calm = true) (nd : X.N.Nodup) (room : Room (n + 2) X.A) (fn : ∀ x, X.fn x = true) : Good p.tab (p.ev n) (p.gc K P w) (n + 2) X W fun _ => true := by
  subst hP hw hK hm hb
  refine ⟨tk, po, fun _ => calm, rfl, rfl, nd, fun _ => room, room.units, fun x _ => fn x, h.free, fun g q e => ?_, fun _ f q e => ?_, fun _ j z e => ?_, fun _ c x e => ?_, fun _ j x o e => ?_, fun t u e => ?_, fun f n e => ?_, fun i j h1 h2 h3 => ?_, fun c f h1 h2 => ?_, fun _ _ => rfl, fun _ _ _ e => by cases e⟩
  · have e' : p.cst[g]? = some q := e
    obtain ⟨w, u, h1, h2, h3⟩ := h.cst q (List.mem_of_getElem? e')
    refine ⟨?_, w, u, h1, h2, fun ρ H => h3 _ ρ H⟩
    show p.csts g = some q.2
    unfold Pr.csts
    rw [e']
  · have e' : (p.fds.map fun F => (F.at_.1, F.np, F.dds))[f]? = some q := e
    rw [List.getElem?_map, Option.map_eq_some_iff] at e'
    obtain ⟨F, e1, rfl⟩ := e'
    have hF := List.mem_of_getElem? e1
    obtain ⟨fd, ds, h1, h2, h3, h4⟩ := h.fns F hF
    have hc := h.chk F hF
    unfold FD.chk at hc
    simp only [Bool.and_eq_true] at hc
    refine ⟨?_, ?_, a F, fd, F.N.take F.np, ds, (F.dfl.drop F.drop).map (He.Dv.v X.K), h1, h2.kp, h4, h3, ?_, ih f F fd e1 h2⟩
    · show p.np f = F.np
      unfold Pr.np
      rw [e1]
    · show p.dds f = F.dds
      unfold Pr.dds
      rw [e1]
    · refine dDs_ok ?_
      exact List.all_eq_true.mpr fun d hd => List.all_eq_true.mp hc.1.2 d (List.mem_of_mem_drop hd)
  · have e' : p.kws[j]? = some z := e
    refine ⟨?_, fun q eq => ?_⟩
    · show p.kn j = z.2.1
      unfold Pr.kn
      rw [e']
    · have eq' : (p.fds.map fun F => (F.at_.1, F.np, F.dds))[z.1]? = some q := eq
      rw [List.getElem?_map, Option.map_eq_some_iff] at eq'
      obtain ⟨F, e1, rfl⟩ := eq'
      obtain ⟨fd, h1, h2, h3⟩ := h.kw z (List.mem_of_getElem? e') F e1
      exact ⟨a F, fd, F.N.take F.np, h1, h2.kp, h3, ih z.1 F fd e1 h2⟩
  · have e' : (p.cls.map fun x => if x.kd = 0 then some x.name else none)[c]? = some (some x) := e
    rw [List.getElem?_map, Option.map_eq_some_iff] at e'
    obtain ⟨y, ey, e2⟩ := e'
    have hk : y.kd = 0 := by
      by_cases z : y.kd = 0
      · exact z
      · rw [if_neg z] at e2; cases e2
    rw [if_pos hk] at e2
    cases e2
    obtain ⟨hy, ea, exf, hxm, k1, k4, f1, q1, q2, q3, q4, q5⟩ := h.initFacts (P := X.prog) (w := X.w) ey (by omega)
    obtain ⟨fd, FF, hB⟩ := h.ini y hy (by omega)
    have eG : (p.gc X.K X.prog X.w).addr c = He.ga X.K y.name := ea X.K
    have exf' : (p.ev n).xf c = y.fs := exf
    rw [if_neg (by omega)] at q2
    rw [exf', eG]
    exact ⟨hxm, ⟨q4, q5⟩, k1, k4, n + 1, _, fd, y.self, rfl, f1.1, f1.2, hB, init_fnOk FF (scB_ok q1) q3 (ibB_ok q2) n⟩
  · have e' : (p.mks.map fun z => ((p.cls.map XC.name).getD z.1 "", z.2.1))[j]? = some (x, o) := e
    rw [List.getElem?_map, Option.map_eq_some_iff] at e'
    obtain ⟨z, ez, e2⟩ := e'
    cases e2
    have hz := List.mem_of_getElem? ez
    have hco := h.co
    unfold Pr.clsOk at hco
    rw [Bool.and_eq_true] at hco
    have hmc := List.all_eq_true.mp hco.1 z hz
    unfold Pr.mkC at hmc
    cases ey : p.cls[z.1]? with
    | none => rw [ey] at hmc; cases hmc
    | some y =>
    rw [ey] at hmc
    dsimp only at hmc
    have hy := List.mem_of_getElem? ey
    have e1 : (p.cls.map XC.name)[z.1]? = some y.name := by rw [List.getElem?_map, ey]; rfl
    obtain ⟨y', ey', _, _, ea, ex⟩ := h.xcOf (P := X.prog) (w := X.w) e1
    rw [ey] at ey'
    cases ey'
    have eG : (p.gc X.K X.prog X.w).addr z.1 = He.ga X.K y.name := ea X.K
    have en : (p.cls.map XC.name).getD z.1 "" = y.name := by rw [List.getD_eq_getElem?_getD, e1]; rfl
    have em : (p.ev n).mf j = if y.kd = 2 then mfB z.1 else if y.kd = 1 then mfL z.1 (y.fs.headD 0) else mfK z.1 y.fs z.2.2 := by
      show p.mf j = _
      unfold Pr.mf
      rw [ez]
      dsimp only
      rw [ey]
    obtain ⟨k1, _, _, _, _, k6⟩ := h.xcFacts hy
    refine ⟨z.1, by rw [en, eG]; exact h.xmg y hy, by rw [eG]; exact k1, ?_⟩
    unfold MkF
    rw [eG, em]
    by_cases hk : y.kd = 2
    · rw [if_pos hk] at hmc ⊢
      exact .inl ⟨of_decide_eq_true hmc, rfl, k6 hk⟩
    · rw [if_neg hk] at hmc
      rw [if_neg hk]
      obtain ⟨_, _, _, _, _, k4, f1, q1, q2, q3, q4, q5⟩ := h.initFacts (P := X.prog) (w := X.w) ey hk
      obtain ⟨fd, FF, hB⟩ := h.ini y hy hk
      refine .inr ⟨n + 1, _, fd, y.self, rfl, f1.1, f1.2, ?_⟩
      by_cases hk1 : y.kd = 1
      · rw [if_pos hk1] at hmc q2
        rw [if_pos hk1]
        simp only [Bool.and_eq_true, decide_eq_true_eq] at q2
        obtain ⟨⟨⟨l1, l2⟩, l3⟩, l4⟩ := q2
        obtain ⟨f, hf⟩ : ∃ f, y.fs = [f] := by
          cases hfs : y.fs with
          | nil => rw [hfs] at l1; cases l1
          | cons a b =>
            cases b with
            | nil => exact ⟨a, rfl⟩
            | cons c d => rw [hfs] at l1; simp at l1
        have hik := fun ks hks => h.inik z hz y ey hk ks hks fd FF
        rw [hf] at q1 q3 k4 hB l2 hik ⊢
        obtain ⟨b1, b2, b3, b4, b5, b6, bb⟩ := ilB_ok l2
        rw [bb] at FF
        refine .inr ⟨f, rfl, initL_fnOk FF (scB_ok q1) q3 (of_decide_eq_true l3) (h.free _ l4) n, k4 (p.fld f) (List.mem_cons_self ..), ?_⟩
        cases ho : z.2.1 with
        | none => exact .inl ⟨rfl, hB⟩
        | some ks =>
          rw [ho] at hmc
          simp only [Bool.and_eq_true, decide_eq_true_eq] at hmc
          have := hik ks ho
          rw [hmc.2] at this
          exact .inr ⟨ks, rfl, hmc.1, KBn.one hmc.1 this⟩
      · rw [if_neg hk1] at hmc q2
        rw [if_neg hk1]
        cases ho : z.2.1 with
        | none => rw [ho] at hmc; cases hmc
        | some ks =>
          rw [ho] at hmc
          simp only [Bool.and_eq_true, decide_eq_true_eq] at hmc
          exact .inl ⟨y.fs, z.2.2, ks, rfl, rfl, init_fnOk FF (scB_ok q1) q3 (ibB_ok q2) n, h.inik z hz y ey hk ks ho fd FF, ⟨q4, q5⟩, hmc.2, hmc.1, k4⟩
  · have e' : p.xts[t]? = some u := e
    obtain ⟨v, k1, k2, k3, k4⟩ := h.xtFacts e'
    exact ⟨v, k1, h.xtg u (List.mem_of_getElem? e') v k3, k2.1, k2.2, k4⟩
  · have e' : p.flds[f]? = some n := e
    show p.fld f = n
    unfold Pr.fld
    rw [List.getD_eq_getElem?_getD, e']
    rfl
  · have h1' : i < p.flds.length := of_decide_eq_true h1
    have h2' : j < p.flds.length := of_decide_eq_true h2
    have h3' : p.fld i = p.fld j := h3
    have nd := h.xNodup
    unfold Pr.fld at h3'
    rw [List.getD_eq_getElem?_getD, List.getD_eq_getElem?_getD, List.getElem?_eq_getElem h1', List.getElem?_eq_getElem h2'] at h3'
    exact (List.getElem_inj nd).mp h3'
  · have h1' : c < p.cls.length := of_decide_eq_true h1
    have h2' : f < p.flds.length := of_decide_eq_true h2
    have e1 : (p.cls.map XC.name)[c]? = some (p.cls[c]).name := by rw [List.getElem?_map, List.getElem?_eq_getElem h1']; rfl
    obtain ⟨y, ey, hy, en, ea, ex⟩ := h.xcOf e1
    obtain ⟨k1, k2, k3, k4, k5, k6⟩ := h.xcFacts hy
    have eG : (p.gc X.K X.prog X.w).addr c = He.ga X.K y.name := ea X.K
    rw [eG]
    exact k4 (p.fld f) (by unfold Pr.fld; rw [List.getD_eq_getElem?_getD, List.getElem?_eq_getElem h2']; exact List.getElem_mem h2')
theorem Pr.Ok.fnOk (h : p.Ok K mg a) : ∀ (n f : Nat) (F : FD) fd, p.fds[f]? = some F → FunD K F.name F.qual (defArgs F.st) (defBody F.st) (defScope F.st) (F.dfl.map (He.Dv.v K)) [] (a F) fd → FnOk P w K mg base (L2.CX P w) (n + 2) (a F) fd (F.N.take F.np) (spF K (p.gc K P w) F.np (p.call n f))
  | 0, f, F, fd, e, FF => by
    have no : ∀ vs H Q E, ¬ spF K (p.gc K P w) F.np (p.call 0 f) vs H Q E := fun vs H Q E ⟨_, ρ, S, ds, _, _, g⟩ => g
    exact ⟨fun vs H Q E hs => (no vs H Q E hs).elim, fun A outer s H args us vs Q E hr he hb hv hs => (no vs H Q E hs).elim⟩
  | n + 1, f, F, fd, e, FF => by
    have hc := h.chk F (List.mem_of_getElem? e)
    unfold FD.chk at hc
    simp only [Bool.and_eq_true, decide_eq_true_eq] at hc
    obtain ⟨⟨⟨c1, c2⟩, c3⟩, c4⟩ := hc
    have sc := scB_ok c1
    refine FF.ok sc (fun vs H Q E hs => hs.1.trans c2.symm) fun cdv A outer s H vs Q E hr hs => ?_
    obtain ⟨hl, ρ, S, ds, rp, rv, g⟩ := hs
    have gd : Good p.tab (p.ev n) (p.gc K P w) (n + 2) (cxOf (L2.CX P w) P w K mg base F.N F.qual (defScope F.st) (a F) cdv A outer s H E) (fun cls d _ H => E cls d H) fun _ => true :=
      h.good (fun f F fd e1 e2 => Pr.Ok.fnOk h n f F fd e1 e2) rfl rfl rfl rfl rfl (takes_of rfl rfl rfl rfl) (passes_of rfl) rfl sc.nd hr fun _ => rfl
    refine ⟨_, okB F.ir rfl rfl gd (defBody F.st) c4, ρ, S, _, rp, RepE.start (N := F.N) rv, ?_⟩
    have e2 : p.call (n + 1) f = runBody F.N.length (evB (p.ev n) F.ir) := by
      show (match p.fds[f]? with | some F => runBody F.N.length (evB (p.evWith (p.call n)) F.ir) | none => fun _ => EM.fail) = _
      rw [e]
      rfl
    rw [e2] at g
    unfold runBody at g
    cases hm : evB (p.ev n) F.ir (ds.map some ++ List.replicate (F.N.length - ds.length) none) S with
    | nx E' S' => rw [hm] at g; exact fun ρ' σ' H' x r q => g ρ' _ H' x r .non
    | rt d S' => rw [hm] at g; exact fun ρ' v H' x r q => g ρ' v H' x r q
    | brk E' S' => rw [hm] at g; exact g.elim
    | ct E' S' => rw [hm] at g; exact g.elim
    | exc c fs E' S' => rw [hm] at g; exact fun ρ' σ' H' od x r q z => g ρ' H' od x r z
    | stuck => rw [hm] at g; exact g.elim
end
end PK
namespace PK
open PySem PySem.Spec PyProof.Rows L2

def cFa (q : Str × D) : He.Fa := match q.2 with
  | .int i => .int q.1 i
  | .str z => .str q.1 z
  | _ => .free q.1
def cOk (q : Str × D) : Bool := match q.2 with
  | .int _ => true
  | .str _ => true
  | _ => false
/-- what is asked of the top -/
def Pr.fa (p : Pr) : List He.Fa := (p.fds.map fun F => .glo F.at_.1) ++ (p.free.map .free ++ p.cst.map cFa)
def Pr.fn (p : Pr) : List He.DefD := p.fds.map FD.defD ++ (p.cls.filter fun x => decide (x.kd ≠ 2)).map fun x => (x.fd p).defD
/-- what is looked at: the facts and what is asked of the classes -/
abbrev AlP : Type := Bool × He.AlD
def Pr.obs (p : Pr) (n : Nat) (g : Addr → Option Obj) : AlP := (p.kb (He.frG g (He.asD g n)), He.obsDG n p.fa p.fn g)
def Pr.says (p : Pr) (K : PySem.W.Frag) : Prop := p.kb K = true ∧ He.SaysD p.fa p.fn K
def Pr.hook (p : Pr) (n : Nat) : PySem.W.Hook where
  α := AlP
  obs := fun s => p.obs n s.heap.get?
  val := fun _ => (true, He.valD p.fn)
  says := fun _ h => ∃ K : PySem.W.Frag, K.In h ∧ p.says K
  of := fun _ _ e => ⟨_, He.frG_in, congrArg (fun z : AlP => z.1) e, congrArg (fun z : AlP => z.2) e⟩
  keeps := fun _ _ _ ⟨K, hK, c⟩ k => ⟨K, PySem.W.Frag.In.keeps hK k, c⟩
theorem Pr.obs_eq {p : Pr} {n : Nat} {g : Addr → Option Obj} {s : Shared} (h : ∀ a, g a = s.heap.get? a) : p.obs n g = (p.hook n).obs s := by
  have e : g = s.heap.get? := funext h
  rw [e] <;> rfl
/-- a call binds the parameters -/
def FD.Bd (F : FD) : Prop := ∀ (K : PySem.W.Frag) (f : Addr) (fd : FuncData), FunD K F.name F.qual (defArgs F.st) (defBody F.st) (defScope F.st) (F.dfl.map (He.Dv.v K)) [] f fd → ∃ ds, Vals ((F.dfl.drop F.drop).map (He.Dv.v K)) ds ∧ Binds K fd (F.N.take F.np) ds
def FD.BdN (F : FD) : Prop := F.dfl = [] ∧ ∀ (kV doc pm : Value) (an : Option Addr) (cdv ct : Value) (us : List Value), us.length = (F.N.take F.np).length → bindArgs (PySem.W.fnOf F.name F.qual (defArgs F.st) (defBody F.st) (defScope F.st) .none kV doc pm an cdv ct) ⟨us, []⟩ = pure ((F.N.take F.np).zip us)
/-- a call with one keyword -/
def FD.BdK (F : FD) (n : Nat) (y : Str) : Prop := ∀ (K : PySem.W.Frag) (f : Addr) (fd : FuncData), FunD K F.name F.qual (defArgs F.st) (defBody F.st) (defScope F.st) (F.dfl.map (He.Dv.v K)) [] f fd → KBn K fd (F.N.take F.np) n [y] (fun us ws => us ++ ws) (fun us ws => us ++ ws)
def Pr.Kw (p : Pr) : Prop := ∀ z ∈ p.kws, ∀ F, p.fds[z.1]? = some F → F.BdK z.2.1 z.2.2
def Pr.Ini (p : Pr) : Prop := ∀ x ∈ p.cls, x.kd ≠ 2 → (x.fd p).BdN
/-- an exception's __init__, called with keywords -/
def XcKw (p : Pr) (x : XC) (ks : List Str) (pm : List Nat) : Prop := ∀ (kV doc pv : Value) (an : Option Addr) (cdv ct : Value) (us ws : List Value), us.length = 1 → ws.length = ks.length → bindArgs (PySem.W.fnOf "__init__" x.qual (defArgs x.st) (defBody x.st) (defScope x.st) .none kV doc pv an cdv ct) ⟨us, ks.zip ws⟩ = pure ((x.self :: x.fs.map p.fld).zip (gK .none pm us ws))
def Pr.Ink (p : Pr) : Prop := ∀ z ∈ p.mks, ∀ x, p.cls[z.1]? = some x → x.kd ≠ 2 → ∀ ks, z.2.1 = some ks → XcKw p x ks z.2.2
theorem FD.BdN.bd {F : FD} (h : F.BdN) : F.Bd := fun K f fd FF => by
  obtain ⟨h1, h2⟩ := h
  rw [h1] at FF ⊢
  exact ⟨[], by rw [List.drop_nil]; exact .nil, FF.bindsN h2⟩
/-- any world's way out -/
def CXa (P : Program) : CXT := fun outer H s E u s' => ∃ w, L2.CX P w outer H s E u s'
theorem cxa_none {P : Program} {H : Hp} {s : Shared} {e : Value} {s' : Shared} (h : CXa P [] H s (fun _ _ _ => False) e s') : False := by
  obtain ⟨_, _, _, _, _, _, _, _, _, _, _, _, _, z⟩ := h
  exact z
theorem FnOk.any {P : Program} {w : World} {K : PySem.W.Frag} {mg : Str → Option Value} {base : Heap} {k : Nat} {f : Addr} {fd : FuncData} {ps : List Str} {sp : Sp} (F : FnOk P w K mg base (L2.CX P w) k f fd ps sp) : FnOk P w K mg base (CXa P) k f fd ps sp :=
  ⟨F.len, fun A outer s H args us vs Q E hr he hb hv hs => codeAny_mono (F.run A outer s H args us vs Q E hr he hb hv hs) fun r s' h => by
    cases r with
    | error e => exact ⟨w, h⟩
    | ok fl => cases fl <;> exact h⟩
theorem only_fz {K : PySem.W.Frag} {H : Hp} {a : Addr} {us : List V} (o : Only H) (h : SqL K H a us) : FzL K H a us := by
  rcases h with (h | h) | h
  · rcases o a with z | ⟨ob, xs, z⟩
    · rw [h] at z; cases z
    · rw [h] at z; cases z
  · exact .inl h
  · exact .inr h
theorem mem_fa_glo {p : Pr} {F : FD} (h : F ∈ p.fds) : He.Fa.glo F.at_.1 ∈ p.fa := List.mem_append_left _ (List.mem_map.mpr ⟨F, h, rfl⟩)
theorem mem_fa_free {p : Pr} {x : Str} (h : x ∈ p.free) : He.Fa.free x ∈ p.fa := List.mem_append_right _ (List.mem_append_left _ (List.mem_map.mpr ⟨x, h, rfl⟩))
theorem mem_fa_cst {p : Pr} {q : Str × D} (h : q ∈ p.cst) : cFa q ∈ p.fa := List.mem_append_right _ (List.mem_append_right _ (List.mem_map.mpr ⟨q, h, rfl⟩))
theorem says_fact {fa : List He.Fa} {fn : List He.DefD} {K : PySem.W.Frag} (c : He.SaysD fa fn K) {f : He.Fa} (h : f ∈ fa) : f.ok K = true := by
  obtain ⟨i, e⟩ := List.getElem?_of_mem h
  exact c.fact i e
theorem says_def {fa : List He.Fa} {fn : List He.DefD} {K : PySem.W.Frag} (c : He.SaysD fa fn K) {d : He.DefD} (h : d ∈ fn) : ∃ fd, FunD K d.name d.qual d.params d.body d.scope (d.dvs K) (d.kws K) (He.fAd K d.at_) fd := by
  obtain ⟨i, e⟩ := List.getElem?_of_mem h
  exact c.def_ i e
theorem fAd_ga {K : PySem.W.Frag} {q : Str × Option Str} (h : q.2.isNone = true) : He.fAd K q = He.ga K q.1 := by
  obtain ⟨x, o⟩ := q
  cases o with
  | none => rfl
  | some _ => cases h
theorem tgV_ok {K : PySem.W.Frag} {h : Heap} {mg : Str → Option Value} (X : K.In h) (G : h.Ns mainGlobals mg) {u : Str} {v : Value} (e : tgV K u = some v) : mg u = some v ∨ (mg u = none ∧ bootBuiltins u = some v ∧ u ≠ "__name__") := by
  unfold tgV at e
  cases q : PySem.W.nsIn K mainGlobals u with
  | none => rw [q] at e; cases e
  | some o =>
    rw [q] at e
    cases o with
    | some w =>
      cases e
      exact .inl (PySem.W.mg_of X G q)
    | none =>
      dsimp only at e
      by_cases hn : u = "__name__"
      · rw [if_pos hn] at e; cases e
      · rw [if_neg hn] at e; exact .inr ⟨PySem.W.mg_none_of X G q, e, hn⟩
theorem pr_ok {p : Pr} {K : PySem.W.Frag} {h : Heap} {mg : Str → Option Value} (X : K.In h) (G : h.Ns mainGlobals mg) (cc : p.says K) (hco : p.clsOk = true) (hini : p.Ini) (hink : p.Ink) (hat : (p.fds.all fun F => F.at_.2.isNone) = true) (hbd : ∀ F ∈ p.fds, F.Bd) (hcst : p.cst.all cOk = true) (hchk : ∀ F ∈ p.fds, F.chk p = true) (hkw : p.Kw) : p.Ok K mg fun F => He.fAd K F.at_ := by
  obtain ⟨hkb, c⟩ := cc
  have xmg : ∀ x ∈ p.cls, mg x.name = some (.ref (He.ga K x.name)) := fun x hx => by
    have h1 := hkb
    unfold Pr.kb at h1
    rw [Bool.and_eq_true, Bool.and_eq_true] at h1
    have h2 := List.all_eq_true.mp h1.1.1 x hx
    simp only [Bool.and_eq_true, decide_eq_true_eq] at h2
    exact PySem.W.mg_of X G h2.1.1.1.1
  refine ⟨fun x hx => He.free_ok X G (says_fact c (mem_fa_free hx)), fun q hq => ?_, fun F hF => ?_, hchk, fun z hz F e => ?_, hkb, hco, xmg, fun x hx hk => ?_, fun z hz x ex hk ks hks fd FF => ?_, fun u _ v e => tgV_ok X G e⟩
  · have h1 := List.all_eq_true.mp hcst q hq
    have h2 := says_fact c (mem_fa_cst hq)
    obtain ⟨x, d⟩ := q
    cases d <;> simp [cOk] at h1
    · obtain ⟨t, e⟩ := He.int_ok X G h2
      exact ⟨.int _, _, e, ⟨t, rfl⟩, fun _ _ _ => .int _⟩
    · obtain ⟨t, e⟩ := He.str_ok X G h2
      exact ⟨.str _, _, e, ⟨t, rfl⟩, fun _ _ _ => .str _⟩
  · obtain ⟨fd, FF⟩ := says_def c (d := F.defD) (List.mem_append_left _ (List.mem_map.mpr ⟨F, hF, rfl⟩))
    obtain ⟨ds, h1, h2⟩ := hbd F hF K _ fd FF
    refine ⟨fd, ds, ?_, FF, h1, h2⟩
    show mg F.at_.1 = some (.ref (He.fAd K F.at_))
    rw [fAd_ga (List.all_eq_true.mp hat F hF)]
    exact He.glo_ok X G (says_fact c (mem_fa_glo hF))
  · have hF := List.mem_of_getElem? e
    obtain ⟨fd, FF⟩ := says_def c (d := F.defD) (List.mem_append_left _ (List.mem_map.mpr ⟨F, hF, rfl⟩))
    refine ⟨fd, ?_, FF, hkw z hz F e K _ fd FF⟩
    show mg F.at_.1 = some (.ref (He.fAd K F.at_))
    rw [fAd_ga (List.all_eq_true.mp hat F hF)]
    exact He.glo_ok X G (says_fact c (mem_fa_glo hF))
  · obtain ⟨fd, FF⟩ := says_def c (d := (x.fd p).defD) (List.mem_append_right _ (List.mem_map.mpr ⟨x, List.mem_filter.mpr ⟨hx, decide_eq_true hk⟩, rfl⟩))
    obtain ⟨b1, b2⟩ := hini x hx hk
    refine ⟨fd, FF, ?_⟩
    have e : (x.fd p).N.take (x.fd p).np = x.self :: x.fs.map p.fld := by
      show (x.self :: x.fs.map p.fld).take (x.fs.length + 1) = _
      rw [List.take_of_length_le (by simp)]
    have hB := L2.FunD.bindsN FF (fun kV doc pm an cdv ct us hl => b2 kV doc pm an cdv ct us hl)
    rw [e] at hB
    exact hB
  · exact FunD.kbindsK FF 1 ks _ _ (fun r1 r2 => r1.append (vals_perm r2 z.2.2)) (hink z hz x ex hk ks hks)
theorem walk_law {l : PySem.W.OpenLaw} {p : Pr} {nm n li : Nat} {q : Program} {loose : List Str} {XP : (Str → Option Value) → Heap → Prop} {d : DefRec} {x : Str} {L : FD}
    (hm : l.most = some 63) (hdf : d.params.defaults = []) (hr : Room (n + 2) callerA) (hname : d.name = L.at_.1) (hL : p.fds[li]? = some L) (hx : L.N.take L.np = [x]) (hnp : L.np = 1) (hLN : L.BdN)
    (hat : (p.fds.all fun F => F.at_.2.isNone) = true) (hbd : ∀ F ∈ p.fds, F.Bd) (hcst : p.cst.all cOk = true) (hchk : ∀ F ∈ p.fds, F.chk p = true) (hkw : p.Kw) (hco : p.clsOk = true) (hini : p.Ini) (hink : p.Ink)
    (sem : ∀ ns : List Int, ns.length ≤ 63 → ∃ S, p.call n li [.scr ns] [] = .ok (.bl true) S) :
    PySem.W.WalkO q loose XP (p.hook nm).says l.row.toRowW d [] (fun f vs => PySem.call f vs) := by
  refine L2.walk_ofE (n := 63) (k := n + 2) (x := x) (CX := CXa l.prog) hm (by decide) hdf hr ?F (fun _ _ _ _ z => cxa_none z)
  rintro w mg fa h ⟨K, KX, c⟩ G hfa
  have ok := pr_ok KX G c hco hini hink hat hbd hcst hchk hkw
  have hLm := List.mem_of_getElem? hL
  obtain ⟨fd, ds, h1, FF, h2, h3⟩ := ok.fns L hLm
  have e := hfa.symm.trans (hname ▸ h1)
  cases e
  obtain ⟨b1, b2⟩ := hLN
  have FF' := FF
  rw [b1] at FF'
  refine ⟨K, fd, spF K (p.gc K l.prog w) L.np (p.call n li), KX, fun s u => ?_, fun H a ns hl ho hS => ?_, fun base bk bn => ?_⟩
  · have := FF'.bindsA (ps := L.N.take L.np) b2 s [u] (by rw [hx]; rfl)
    rw [hx] at this
    exact this
  · obtain ⟨S, e⟩ := sem ns hl
    refine ⟨hnp.symm, [], [], [.scr ns], Rep.nil, .cons (.scr (only_fz ho hS)) .nil, ?_⟩
    rw [e]
    intro ρ' v H' x r q
    exact q.bl_inv'
  · have ok2 := pr_ok bk bn c hco hini hink hat hbd hcst hchk hkw
    have := ok2.fnOk (P := l.prog) (w := w) (base := base) n li L fd hL FF
    rw [hx] at this
    exact PK.FnOk.any this
/-- a list of statements -/
def bs : List IS → ISs
  | [] => .nil
  | s :: ss => .cons s (bs ss)
end PK
namespace PK
open PySem PySem.Spec PyProof.Rows L2

/-! ### what a run gives, backwards -/
abbrev XP := Nat → List (Nat × D) → List DO → Prop
def wE0 {α : Type} (m : EM α) (S : List DO) (Q : α → List DO → Prop) (X : XP) : Prop := match m S with
  | .ok a S' => Q a S'
  | .exc c fs S' => X c fs S'
  | .stuck => False
structure Post where
  nx : Env → List DO → Prop
  rt : D → List DO → Prop
  bk : Env → List DO → Prop
  ct : Env → List DO → Prop
  x : Nat → List (Nat × D) → Env → List DO → Prop
structure wE {α : Type} (m : EM α) (S : List DO) (Q : α → List DO → Prop) (X : XP) : Prop where
  p : wE0 m S Q X
theorem wE_iff {α : Type} {m : EM α} {S : List DO} {Q : α → List DO → Prop} {X : XP} : wE m S Q X = wE0 m S Q X := propext ⟨fun h => h.p, fun h => ⟨h⟩⟩
def wS0 (m : SM) (E : Env) (S : List DO) (P : Post) : Prop := match m E S with
  | .nx E' S' => P.nx E' S'
  | .rt d S' => P.rt d S'
  | .brk E' S' => P.bk E' S'
  | .ct E' S' => P.ct E' S'
  | .exc c fs E' S' => P.x c fs E' S'
  | .stuck => False
structure wS (m : SM) (E : Env) (S : List DO) (P : Post) : Prop where
  p : wS0 m E S P
theorem wS_iff {m : SM} {E : Env} {S : List DO} {P : Post} : wS m E S P = wS0 m E S P := propext ⟨fun h => h.p, fun h => ⟨h⟩⟩
section
variable {α β : Type} {S : List DO} {X : XP} {E : Env} {P : Post}
theorem wE.mono {m : EM α} {Q Q' : α → List DO → Prop} {X' : XP} (h : wE m S Q X) (hq : ∀ a S', Q a S' → Q' a S') (hx : ∀ c fs S', X c fs S' → X' c fs S') : wE m S Q' X' := by
  rw [wE_iff] at *; unfold wE0 at *
  cases e : m S with
  | ok a S' => rw [e] at h; exact hq _ _ h
  | exc c fs S' => rw [e] at h; exact hx _ _ _ h
  | stuck => rw [e] at h; exact h
theorem wE.to {m : EM α} {Q Q' : α → List DO → Prop} (h : wE m S Q fun _ _ _ => False) (hq : ∀ a S', Q a S' → Q' a S') : wE m S Q' X := h.mono hq fun _ _ _ z => z.elim
theorem wE.ok {m : EM α} {Q : α → List DO → Prop} (h : wE m S Q fun _ _ _ => False) : ∃ a S', m S = .ok a S' ∧ Q a S' := by
  rw [wE_iff] at h; unfold wE0 at h
  cases e : m S with
  | ok a S' => rw [e] at h; exact ⟨a, S', rfl, h⟩
  | exc c fs S' => rw [e] at h; exact h.elim
  | stuck => rw [e] at h; exact h.elim
theorem wE_of_eq {m : EM α} {Q : α → List DO → Prop} {a : α} {S' : List DO} (h : m S = .ok a S') : wE m S Q X = Q a S' := by simp only [wE_iff]; unfold wE0; rw [h]
theorem w_pure {a : α} {Q : α → List DO → Prop} : wE (EM.pure a) S Q X = Q a S := by simp only [wE_iff, wS_iff]; rfl
theorem w_bind {m : EM α} {k : α → EM β} {Q : β → List DO → Prop} : wE (EM.bind m k) S Q X = wE m S (fun a S1 => wE (k a) S1 Q X) X := by
  simp only [wE_iff]; unfold wE0 EM.bind
  cases m S <;> rfl
theorem w_some {a : α} {Q : α → List DO → Prop} : wE (EM.ofO (some a)) S Q X = Q a S := by simp only [wE_iff, wS_iff]; rfl
theorem w_ofO {o : Option α} {Q : α → List DO → Prop} : wE (EM.ofO o) S Q X = (∃ a, o = some a ∧ Q a S) := by
  cases o with
  | none => exact propext ⟨fun h => False.elim h.p, fun ⟨a, e, _⟩ => by cases e⟩
  | some a => exact propext ⟨fun h => ⟨a, rfl, h.p⟩, fun ⟨b, e, h⟩ => by cases e; exact ⟨h⟩⟩
theorem w_ite {c : Prop} [Decidable c] {m n : EM α} {Q : α → List DO → Prop} : wE (if c then m else n) S Q X = ((c → wE m S Q X) ∧ (¬ c → wE n S Q X)) := by
  by_cases h : c
  · rw [if_pos h]; exact propext ⟨fun z => ⟨fun _ => z, fun k => absurd h k⟩, fun z => z.1 h⟩
  · rw [if_neg h]; exact propext ⟨fun z => ⟨fun k => absurd k h, fun _ => z⟩, fun z => z.2 h⟩
theorem w_var {i : Nat} {Q : D → List DO → Prop} {d : D} (h : E[i]? = some (some d)) : wE (eVar i E) S Q X = Q d S := by unfold eVar; rw [h]; simp only [wE_iff]; rfl
/-! operators on ints -/
variable {Q : D → List DO → Prop} {QB : Bool → List DO → Prop} {i j : Int}
theorem w_add : wE (EM.ofO (addO (.int i) (.int j))) S Q X = Q (.int (i + j)) S := by simp only [wE_iff, wS_iff]; rfl
theorem w_sub : wE (EM.ofO (subO (.int i) (.int j))) S Q X = Q (.int (i - j)) S := by simp only [wE_iff, wS_iff]; rfl
theorem w_mul : wE (EM.ofO (mulO (.int i) (.int j))) S Q X = (mulOk i j ∧ Q (.int (i * j)) S) := by
  simp only [mulO]
  by_cases h : mulOk i j
  · rw [if_pos h]; exact propext ⟨fun z => ⟨h, z.p⟩, fun z => ⟨z.2⟩⟩
  · rw [if_neg h]; exact propext ⟨fun z => False.elim z.p, fun z => absurd z.1 h⟩
theorem w_fdiv : wE (EM.ofO (fdivO (.int i) (.int j))) S Q X = ((j ≠ 0 ∧ j.natAbs.log2 < 9000) ∧ Q (.int (i.fdiv j)) S) := by
  simp only [fdivO]
  by_cases h : j ≠ 0 ∧ j.natAbs.log2 < 9000
  · rw [if_pos h]; exact propext ⟨fun z => ⟨h, z.p⟩, fun z => ⟨z.2⟩⟩
  · rw [if_neg h]; exact propext ⟨fun z => False.elim z.p, fun z => absurd z.1 h⟩
theorem w_mod : wE (EM.ofO (modO (.int i) (.int j))) S Q X = (j ≠ 0 ∧ Q (.int (i.fmod j)) S) := by
  simp only [modO]
  by_cases h : j ≠ 0
  · rw [if_pos h]; exact propext ⟨fun z => ⟨h, z.p⟩, fun z => ⟨z.2⟩⟩
  · rw [if_neg h]; exact propext ⟨fun z => False.elim z.p, fun z => absurd z.1 h⟩
theorem w_lt : wE (EM.ofO (ltO (.int i) (.int j))) S Q X = Q (.bl (decide (i < j))) S := by simp only [wE_iff, wS_iff]; rfl
theorem w_le : wE (EM.ofO (leO (.int i) (.int j))) S Q X = Q (.bl (decide (i ≤ j))) S := by simp only [wE_iff, wS_iff]; rfl
theorem w_gt : wE (EM.ofO (gtO (.int i) (.int j))) S Q X = Q (.bl (decide (i > j))) S := by simp only [wE_iff, wS_iff]; rfl
theorem w_ge : wE (EM.ofO (geO (.int i) (.int j))) S Q X = Q (.bl (decide (i ≥ j))) S := by simp only [wE_iff, wS_iff]; rfl
theorem w_neg : wE (EM.ofO (negO (.int i))) S Q X = Q (.int (-i)) S := by simp only [wE_iff, wS_iff]; rfl
theorem w_asB {b : Bool} : wE (EM.ofO (asB (.bl b))) S QB X = QB b S := by simp only [wE_iff, wS_iff]; rfl
theorem w_int : wE (EM.ofO (intO [.int i])) S Q X = Q (.int i) S := by simp only [wE_iff, wS_iff]; rfl
theorem w_intB {b : Bool} : wE (EM.ofO (intO [.bl b])) S Q X = Q (.int (if b then 1 else 0)) S := by simp only [wE_iff, wS_iff]; rfl
theorem w_abs : wE (EM.ofO (absO [.int i])) S Q X = Q (.int (if i < 0 then -i else i)) S := by simp only [wE_iff, wS_iff]; rfl
theorem w_min : wE (EM.ofO (minO [.int i, .int j])) S Q X = Q (.int (if j < i then j else i)) S := by simp only [wE_iff, wS_iff]; rfl
theorem w_max : wE (EM.ofO (maxO [.int i, .int j])) S Q X = Q (.int (if j > i then j else i)) S := by simp only [wE_iff, wS_iff]; rfl
theorem w_pow18 : wE (EM.ofO (powO (.int 10) (.int 18))) S Q X = Q (.int 1000000000000000000) S := by
  have : powO (.int 10) (.int 18) = some (.int 1000000000000000000) := by
    simp only [powO]
    rw [if_pos (by decide)]
    rfl
  rw [this]
  simp only [wE_iff]; rfl
theorem w_eq {x y : D} : wE (eqM x y) S Q X = (eqOk (derefL S x) (derefL S y) = true ∧ Q (.bl (PyData.eqv (toPy (derefL S x)) (toPy (derefL S y)))) S) := by
  simp only [wE_iff]; unfold wE0 eqM
  by_cases h : eqOk (derefL S x) (derefL S y) = true
  · rw [if_pos h]; exact propext ⟨fun z => ⟨h, z⟩, fun z => z.2⟩
  · rw [if_neg h]; exact propext ⟨fun z => False.elim z, fun z => absurd z.1 h⟩
theorem w_ne {x y : D} : wE (neM x y) S Q X = (eqOk (derefL S x) (derefL S y) = true ∧ Q (.bl (!PyData.eqv (toPy (derefL S x)) (toPy (derefL S y)))) S) := by
  simp only [wE_iff]; unfold wE0 neM
  by_cases h : eqOk (derefL S x) (derefL S y) = true
  · rw [if_pos h]; exact propext ⟨fun z => ⟨h, z⟩, fun z => z.2⟩
  · rw [if_neg h]; exact propext ⟨fun z => False.elim z, fun z => absurd z.1 h⟩
theorem viewD_none {S : List DO} {x : D} (h : (derefL S x).plain = true) : viewD S x = none := by
  cases x <;> try rfl
  · simp [derefL, D.plain] at h
  · rename_i r
    unfold derefL at h
    unfold viewD
    dsimp only at h ⊢
    split <;> rename_i e
    · rw [e] at h; simp [D.plain] at h
    · rw [e] at h; simp [D.plain] at h
    · rfl
theorem eqOk_view {S : List DO} {x y : D} (h : eqOk (derefL S x) (derefL S y) = true) : eq2M x y S = eqM x y S ∧ ne2M x y S = neM x y S := by
  have h1 : (derefL S x).plain = true := by
    unfold eqOk at h; simp only [Bool.and_eq_true] at h; exact h.1.1.1
  have := viewD_none h1
  unfold eq2M ne2M
  simp only [this, h, Bool.not_true, Bool.false_and, Bool.false_eq_true, if_false]
  exact ⟨trivial, trivial⟩
theorem w_eqI : wE (eqM (.int i) (.int j)) S Q X = Q (.bl (decide (i = j))) S := by
  rw [w_eq]
  refine propext ⟨fun z => ?_, fun z => ⟨rfl, ?_⟩⟩
  · have := z.2
    simpa [derefL, toPy, PyData.eqv, BEq.beq] using this
  · simpa [derefL, toPy, PyData.eqv, BEq.beq] using z
theorem w_neI : wE (neM (.int i) (.int j)) S Q X = Q (.bl (!decide (i = j))) S := by
  rw [w_ne]
  refine propext ⟨fun z => ?_, fun z => ⟨rfl, ?_⟩⟩
  · have := z.2
    simpa [derefL, toPy, PyData.eqv, BEq.beq] using this
  · simpa [derefL, toPy, PyData.eqv, BEq.beq] using z
/-! calls -/
theorem w_call {np : Nat} {m : List D → EM D} {dds xs : List D} (h : xs.length + dds.length = np) : wE (mCall np m dds xs) S Q X = wE (m (xs ++ dds)) S Q X := by unfold mCall; rw [if_pos h]
theorem w_pureCall {m : List D → EM D} {xs : List D} (h : D.noRefs xs = true) : wE (pureCall m xs) S Q X = wE (m xs) [] (fun d _ => d.noRef = true ∧ Q d S) (fun c fs _ => D.noRefF fs = true ∧ X c fs S) := by
  simp only [wE_iff]; unfold pureCall wE0
  simp only [if_pos h]
  cases e : m xs [] with
  | stuck => rfl
  | ok d S' =>
    by_cases hd : d.noRef = true
    · dsimp only; rw [if_pos hd]; exact propext ⟨fun z => ⟨hd, z⟩, fun z => z.2⟩
    · dsimp only; rw [if_neg hd]; exact propext ⟨fun z => False.elim z, fun z => absurd z.1 hd⟩
  | exc c fs S' =>
    by_cases hd : D.noRefF fs = true
    · dsimp only; rw [if_pos hd]; exact propext ⟨fun z => ⟨hd, z⟩, fun z => z.2⟩
    · dsimp only; rw [if_neg hd]; exact propext ⟨fun z => False.elim z, fun z => absurd z.1 hd⟩
theorem w_body {n : Nat} {mb : SM} {ds : List D} : wE (runBody n mb ds) S Q X = wS mb (ds.map some ++ List.replicate (n - ds.length) none) S ⟨fun _ S => Q .non S, Q, fun _ _ => False, fun _ _ => False, fun c fs _ S => X c fs S⟩ := by
  simp only [wS_iff, wE_iff]; unfold wE0 wS0 runBody
  cases mb (ds.map some ++ List.replicate (n - ds.length) none) S <;> rfl
/-! lists -/
theorem w_idxT {xs : List D} {d : D} (h : L2.atI xs i = some d) : wE (idxM (.tup xs) (.int i)) S Q X = Q d S := by simp only [wE_iff]; unfold wE0 idxM; dsimp only; rw [h]
theorem w_idxN {ns : List Int} {n : Int} (h : L2.atI ns i = some n) : wE (idxM (.scr ns) (.int i)) S Q X = Q (.int n) S := by simp only [wE_iff]; unfold wE0 idxM; dsimp only; rw [h]
theorem w_idxL {xs : List D} {d : D} (h : L2.atI xs i = some d) : wE (idxM (.lst xs) (.int i)) S Q X = Q d S := by simp only [wE_iff]; unfold wE0 idxM; simp only [viewL]; rw [h]
theorem w_idxR {r : Nat} {xs : List D} {d : D} (h0 : S[r]? = some (.lst xs)) (h : L2.atI xs i = some d) : wE (idxM (.ref r) (.int i)) S Q X = Q d S := by simp only [wE_iff]; unfold wE0 idxM; simp only [viewL, h0]; rw [h]
theorem w_set {QU : Unit → List DO → Prop} {r : Nat} {xs : List D} {d : D} {j : Nat} (h0 : S[r]? = some (.lst xs)) (h : ixN xs.length i = some j) : wE (setM (.ref r) (.int i) d) S QU X = QU () (S.set r (.lst (xs.set j d))) := by simp only [wE_iff]; unfold wE0 setM; dsimp only; rw [h0]; dsimp only; rw [h]
end
section
variable {α : Type} {S : List DO} {E : Env} {P : Post}
/-! statements -/
theorem wS_next : wS sNext E S P = P.nx E S := by simp only [wE_iff, wS_iff]; rfl
theorem wS_seq {m n : SM} : wS (sSeq m n) E S P = wS m E S ⟨fun E S => wS n E S P, P.rt, P.bk, P.ct, P.x⟩ := by
  simp only [wS_iff]; unfold wS0 sSeq
  cases m E S <;> rfl
theorem wS_ret {m : Env → EM D} : wS (sRet m) E S P = wE (m E) S P.rt fun c fs S => P.x c fs E S := by
  simp only [wS_iff, wE_iff]; unfold wS0 wE0 sRet sOf
  cases m E S <;> rfl
theorem wS_retN : wS sRetN E S P = P.rt .non S := by simp only [wE_iff, wS_iff]; rfl
theorem wS_expr {m : Env → EM D} : wS (sExpr m) E S P = wE (m E) S (fun _ S => P.nx E S) fun c fs S => P.x c fs E S := by
  simp only [wS_iff, wE_iff]; unfold wS0 wE0 sExpr sOf
  cases m E S <;> rfl
theorem wS_if {c : Env → EM Bool} {m n : SM} : wS (sIf c m n) E S P = wE (c E) S (fun b S => (b = true → wS m E S P) ∧ (b = false → wS n E S P)) fun c fs S => P.x c fs E S := by
  simp only [wS_iff, wE_iff]; unfold wS0 wE0 sIf sOf
  cases c E S with
  | ok b S' => cases b <;> simp
  | exc c fs S' => rfl
  | stuck => rfl
theorem wS_asg {m : Env → EM D} {g : D → Env → EM Env} : wS (sAsg m g) E S P = wE (m E) S (fun d S => wE (g d E) S P.nx fun c fs S => P.x c fs E S) fun c fs S => P.x c fs E S := by
  simp only [wS_iff, wE_iff]; unfold wS0 wE0 sAsg sOf
  cases m E S with
  | ok d S' => dsimp only; cases g d E S' <;> rfl
  | exc c fs S' => rfl
  | stuck => rfl
theorem wS_for {it : Env → EM (List D)} {g : D → Env → EM Env} {b : SM} : wS (sFor it g b) E S P = wE (it E) S (fun ds S => wS (sLoop g b ds) E S P) fun c fs S => P.x c fs E S := by
  simp only [wS_iff, wE_iff]; unfold wS0 wE0 sFor sOf
  cases it E S <;> rfl
theorem wS_loop0 {g : D → Env → EM Env} {b : SM} : wS (sLoop g b []) E S P = P.nx E S := by simp only [wE_iff, wS_iff]; rfl
theorem wS_loop1 {g : D → Env → EM Env} {b : SM} {d : D} {ds : List D} : wS (sLoop g b (d :: ds)) E S P = wE (g d E) S (fun E1 S1 => wS b E1 S1 ⟨fun E S => wS (sLoop g b ds) E S P, P.rt, P.nx, fun E S => wS (sLoop g b ds) E S P, P.x⟩) fun c fs S => P.x c fs E S := by
  simp only [wS_iff, wE_iff]; unfold wS0 wE0
  rw [sLoop]
  cases g d E S with
  | ok E1 S1 => dsimp only; cases b E1 S1 <;> rfl
  | exc c fs S' => rfl
  | stuck => rfl
theorem wS.mono {m : SM} {P P' : Post} (h : wS m E S P) (h1 : ∀ E S, P.nx E S → P'.nx E S) (h2 : ∀ d S, P.rt d S → P'.rt d S) (h3 : ∀ E S, P.bk E S → P'.bk E S) (h4 : ∀ E S, P.ct E S → P'.ct E S) (h5 : ∀ c fs E S, P.x c fs E S → P'.x c fs E S) : wS m E S P' := by
  rw [wS_iff] at *; unfold wS0 at *
  cases e : m E S <;> rw [e] at h <;> first | exact h1 _ _ h | exact h2 _ _ h | exact h3 _ _ h | exact h4 _ _ h | exact h5 _ _ _ _ h | exact h
/-- a loop by an invariant: I k holds ahead of the k-th item -/
theorem wS_loop {g : D → Env → EM Env} {b : SM} (I : Nat → Env → List DO → Prop) : ∀ (ds : List D) (k : Nat) {E : Env} {S : List DO}, I k E S →
    (∀ (j : Nat) (d : D) (E : Env) (S : List DO), ds[j]? = some d → I (k + j) E S → wE (g d E) S (fun E1 S1 => wS b E1 S1 ⟨I (k + j + 1), P.rt, P.nx, I (k + j + 1), P.x⟩) fun c fs S => P.x c fs E S) →
    (∀ E S, I (k + ds.length) E S → P.nx E S) → wS (sLoop g b ds) E S P
  | [], k, E, S, h, _, hn => by rw [wS_loop0]; exact hn _ _ h
  | d :: ds, k, E, S, h, hs, hn => by
    rw [wS_loop1]
    refine (hs 0 d E S rfl h).mono (fun E1 S1 z => z.mono (fun E2 S2 z => ?_) (fun _ _ z => z) (fun _ _ z => z) (fun E2 S2 z => ?_) fun _ _ _ _ z => z) fun _ _ _ z => z
    · exact wS_loop I ds (k + 1) z (fun j d E S e h => by have := hs (j + 1) d E S e; rw [show k + (j + 1) = k + 1 + j by omega] at this; exact this h) fun E S h => hn E S (by rw [List.length_cons]; rw [show k + 1 + ds.length = k + (ds.length + 1) by omega] at h; exact h)
    · exact wS_loop I ds (k + 1) z (fun j d E S e h => by have := hs (j + 1) d E S e; rw [show k + (j + 1) = k + 1 + j by omega] at this; exact this h) fun E S h => hn E S (by rw [List.length_cons]; rw [show k + 1 + ds.length = k + (ds.length + 1) by omega] at h; exact h)
theorem wS_while1 {c : Env → EM Bool} {b : SM} {n : Nat} : wS (sWhile c b (n + 1)) E S P = wE (c E) S (fun k S => (k = true → wS b E S ⟨fun E S => wS (sWhile c b n) E S P, P.rt, P.nx, fun E S => wS (sWhile c b n) E S P, P.x⟩) ∧ (k = false → P.nx E S)) fun c fs S => P.x c fs E S := by
  simp only [wS_iff, wE_iff]; unfold wS0 wE0
  rw [sWhile]
  unfold sOf
  cases c E S with
  | ok k S1 =>
    dsimp only
    cases k with
    | true =>
      simp only [if_true, true_implies, reduceCtorEq, false_implies, and_true]
      cases b E S1 <;> rfl
    | false => simp
  | exc c fs S' => rfl
  | stuck => rfl
/-! comprehensions -/
theorem w_cl0 {t : Tgt} {c : Env → EM Bool} {m : Env → EM D} {Ew : Env} {Q : List D → List DO → Prop} {X : XP} : wE (cLoop t c m Ew []) S Q X = Q [] S := by simp only [wE_iff, wS_iff]; rfl
/-- a comprehension whose items each give f's value, and change nothing -/
theorem w_clMap {t : Tgt} {m : Env → EM D} {Ew : Env} {X : XP} (f : D → D) : ∀ (ds : List D) {Q : List D → List DO → Prop}, (∀ d ∈ ds, ∃ E1, t.put d Ew = some E1 ∧ m E1 S = .ok (f d) S) → Q (ds.map f) S → wE (cLoop t eYes m Ew ds) S Q X
  | [], Q, _, h => ⟨h⟩
  | d :: ds, Q, hs, h => by
    obtain ⟨E1, e1, e2⟩ := hs d (List.mem_cons_self ..)
    rw [cLoop, e1]
    simp only [w_bind, eYes, w_pure, if_true]
    rw [wE_of_eq e2]
    exact w_clMap f ds (fun d hd => hs d (List.mem_cons_of_mem _ hd)) h
/-- by an invariant: I k xs S ahead of the k-th item -/
theorem w_clInv {t : Tgt} {m : Env → EM D} {Ew : Env} {X : XP} (I : List D → List DO → Prop) : ∀ (ds : List D) (acc : List D) {S : List DO} {Q : List D → List DO → Prop}, I acc S →
    (∀ d ∈ ds, ∀ acc S, I acc S → ∃ E1, t.put d Ew = some E1 ∧ wE (m E1) S (fun x S' => I (acc ++ [x]) S') X) → (∀ xs S', I (acc ++ xs) S' → xs.length = ds.length → Q xs S') → wE (cLoop t eYes m Ew ds) S Q X
  | [], acc, S, Q, h, _, hq => ⟨hq [] S (by rw [List.append_nil]; exact h) rfl⟩
  | d :: ds, acc, S, Q, h, hs, hq => by
    obtain ⟨E1, e1, e2⟩ := hs d (List.mem_cons_self ..) acc S h
    rw [cLoop, e1]
    simp only [w_bind, eYes, w_pure, if_true]
    refine e2.mono (fun x S' hx => ?_) fun _ _ _ z => z
    exact w_clInv I ds (acc ++ [x]) hx (fun d hd => hs d (List.mem_cons_of_mem _ hd)) fun xs S2 h2 hl => hq (x :: xs) S2 (by rw [List.append_assoc] at h2; exact h2) (by simp [hl])
theorem w_noX {m : EM α} {Q : α → List DO → Prop} {X : XP} (h : wE m S Q fun _ _ _ => False) : wE (noX m) S Q X := by
  rw [wE_iff] at *; unfold wE0 at *; unfold noX
  cases e : m S <;> rw [e] at h <;> first | exact h | exact h.elim
end
/-! ### bounds -/
def Sm (k : Nat) (i : Int) : Prop := i.natAbs < 2 ^ k
theorem Sm.mulOk {k l : Nat} {i j : Int} (h : Sm k i) (h' : Sm l j) (hkl : k + l ≤ 900000) : mulOk i j := by
  have aux : ∀ {k : Nat} {i : Int}, Sm k i → i.natAbs.log2 ≤ k := fun {k i} h => by
    by_cases hi : i.natAbs = 0
    · rw [hi]; exact Nat.zero_le _
    · exact Nat.le_of_lt ((Nat.log2_lt hi).mpr h)
  unfold PK.mulOk
  have := aux h
  have := aux h'
  omega
theorem Sm.mono {k l : Nat} {i : Int} (h : Sm k i) (hkl : k ≤ l) : Sm l i := Nat.lt_of_lt_of_le h (Nat.pow_le_pow_right (by decide) hkl)
theorem Sm.mul {k l : Nat} {i j : Int} (h : Sm k i) (h' : Sm l j) : Sm (k + l) (i * j) := by
  unfold Sm at *
  rw [Int.natAbs_mul, Nat.pow_add]
  exact Nat.mul_lt_mul_of_lt_of_le h (Nat.le_of_lt h') (Nat.pos_of_ne_zero (by intro z; rw [z] at h'; omega))
theorem Sm.add {k : Nat} {i j : Int} (h : Sm k i) (h' : Sm k j) : Sm (k + 1) (i + j) := by
  unfold Sm at *
  rw [Nat.pow_succ]
  have := Int.natAbs_add_le i j
  omega
theorem Sm.sub {k : Nat} {i j : Int} (h : Sm k i) (h' : Sm k j) : Sm (k + 1) (i - j) := by
  unfold Sm at *
  rw [Nat.pow_succ]
  have := Int.natAbs_sub_le i j
  omega
theorem Sm.of {k : Nat} {i : Int} (h : -(2 ^ k : Nat) < i ∧ i < (2 ^ k : Nat)) : Sm k i := by
  unfold Sm
  omega
theorem Sm.one {k : Nat} (h : 1 ≤ k) : Sm k 1 := Sm.mono (k := 1) (by unfold Sm; decide) h
theorem Sm.zero {k : Nat} : Sm k 0 := Sm.mono (k := 0) (by unfold Sm; decide) (Nat.zero_le _)
theorem Sm.pow {k : Nat} {i : Int} (h : Sm k i) : ∀ n : Nat, Sm (k * n + 1) (i ^ n)
  | 0 => by unfold Sm; simp
  | n + 1 => by
    unfold Sm at *
    have ih := Sm.pow h n
    unfold Sm at ih
    have : i.natAbs ^ (n + 1) < 2 ^ (k * (n + 1) + 1) := by
      have : i.natAbs ^ (n + 1) ≤ (2 ^ k) ^ (n + 1) := Nat.pow_le_pow_left (Nat.le_of_lt h) _
      rw [← Nat.pow_mul] at this
      exact Nat.lt_of_le_of_lt this (Nat.pow_lt_pow_right (by decide) (by omega))
    rw [Int.natAbs_pow]
    exact this
end PK
namespace PK
open PySem PySem.Spec PyProof.Rows L2

/-! ### one rule a construct, backwards -/
section
variable {v : Ev} {S : List DO} {E : PK.Env} {X : XP} {Q : D → List DO → Prop} {QB : Bool → List DO → Prop} {QL : List D → List DO → Prop} {QO : Option Int → List DO → Prop} {QC : DO → List DO → Prop}
theorem r_var {i : Nat} {d : D} (h : E[i]? = some (some d)) (q : Q d S) : wE (evE v (.var i) E) S Q X := by unfold evE; rw [w_var h]; exact q
theorem r_int {i : Int} (q : Q (.int i) S) : wE (evE v (.int i) E) S Q X := by unfold evE; exact ⟨q⟩
theorem r_bl {b : Bool} (q : Q (.bl b) S) : wE (evE v (.bl b) E) S Q X := by unfold evE; exact ⟨q⟩
theorem r_non (q : Q .non S) : wE (evE v .non E) S Q X := by unfold evE; exact ⟨q⟩
theorem r_str {x : Str} (q : Q (.str x) S) : wE (evE v (.str x) E) S Q X := by unfold evE; exact ⟨q⟩
theorem r_glo {g : Nat} {d : D} (h : v.cst g = some d) (q : Q d S) : wE (evE v (.glo g) E) S Q X := by unfold evE eCst; rw [h]; exact ⟨q⟩
theorem r_tup {es : IEs} (q : wE (evEs v es E) S (fun xs S => xs.length ≤ 1000 ∧ Q (.tup xs) S) X) : wE (evE v (.tup es) E) S Q X := by
  unfold evE PK.es
  rw [w_bind]
  refine q.mono (fun xs S h => ?_) fun _ _ _ z => z
  unfold mTup
  rw [if_pos h.1]
  exact ⟨h.2⟩
theorem r_new {c : IC} (q : wE (evC v c E) S (fun o S => ∃ d, valOf o = some d ∧ Q d S) X) : wE (evE v (.new c) E) S Q X := by
  unfold evE eNew
  rw [w_bind]
  refine q.mono (fun o S ⟨d, e, h⟩ => ?_) fun _ _ _ z => z
  rw [e]
  exact ⟨h⟩
theorem r_newL {c : IC} (q : wE (evC v c E) S (fun o S => ∃ xs, o = .lst xs ∧ Q (.lst xs) S) X) : wE (evE v (.new c) E) S Q X :=
  r_new (q.mono (fun o S ⟨xs, e, h⟩ => ⟨.lst xs, by rw [e]; rfl, h⟩) fun _ _ _ z => z)
theorem r_box {c : IC} (q : wE (evC v c E) S (fun o S => Q (.ref S.length) (S ++ [o])) X) : wE (evE v (.box c) E) S Q X := by
  unfold evE
  rw [wE_iff] at *; unfold wE0 at *; unfold eBox
  cases h : evC v c E S with
  | ok o S' => rw [h] at q; exact q
  | exc c fs S' => rw [h] at q; exact q
  | stuck => rw [h] at q; exact q
theorem r_frz {i r : Nat} {o : DO} {d : D} (h : E[i]? = some (some (.ref r))) (h1 : S[r]? = some o) (h2 : valOf o = some d) (q : Q d (S.set r .gone)) : wE (evE v (.frz i) E) S Q X := by
  rw [wE_iff]; unfold evE eFrz wE0
  rw [h]
  dsimp only
  rw [h1]
  dsimp only
  rw [h2]
  exact q
theorem r_bin {o : BOp} {a b : IE} (q : wE (evE v a E) S (fun x S => wE (evE v b E) S (fun y S => wE (bopM o x y) S Q X) X) X) : wE (evE v (.bin o a b) E) S Q X := by
  unfold evE e2
  rw [w_bind]
  refine q.mono (fun x S h => ?_) fun _ _ _ z => z
  rw [w_bind]
  exact h
theorem r_cmp {o : COp} {a b : IE} (q : wE (evE v a E) S (fun x S => wE (evE v b E) S (fun y S => wE (copM o x y) S Q X) X) X) : wE (evE v (.cmp o a b) E) S Q X := by
  unfold evE e2
  rw [w_bind]
  refine q.mono (fun x S h => ?_) fun _ _ _ z => z
  rw [w_bind]
  exact h
theorem r_neg {a : IE} (q : wE (evE v a E) S (fun x S => ∃ i, x = .int i ∧ Q (.int (-i)) S) X) : wE (evE v (.neg a) E) S Q X := by
  unfold evE e1
  rw [w_bind]
  refine q.mono (fun x S ⟨i, e, h⟩ => ?_) fun _ _ _ z => z
  subst e
  exact ⟨h⟩
theorem r_ife {t : IT} {a b : IE} (q : wE (evT v t E) S (fun k S => (k = true → wE (evE v a E) S Q X) ∧ (k = false → wE (evE v b E) S Q X)) X) : wE (evE v (.ife t a b) E) S Q X := by
  unfold evE eIf
  rw [w_bind]
  refine q.mono (fun k S h => ?_) fun _ _ _ z => z
  cases k with
  | true => exact h.1 rfl
  | false => exact h.2 rfl
theorem r_andV {a b : IE} (q : wE (evE v a E) S (fun x S => ∃ k, x = .bl k ∧ (k = true → wE (evE v b E) S Q X) ∧ (k = false → Q (.bl false) S)) X) : wE (evE v (.andV a b) E) S Q X := by
  unfold evE eAndV
  rw [w_bind]
  refine q.mono (fun x S ⟨k, e, h1, h2⟩ => ?_) fun _ _ _ z => z
  subst e
  rw [w_bind, w_asB]
  cases k with
  | true => exact h1 rfl
  | false => exact ⟨h2 rfl⟩
theorem r_orV {a b : IE} (q : wE (evE v a E) S (fun x S => ∃ k, x = .bl k ∧ (k = false → wE (evE v b E) S Q X) ∧ (k = true → Q (.bl true) S)) X) : wE (evE v (.orV a b) E) S Q X := by
  unfold evE eOrV
  rw [w_bind]
  refine q.mono (fun x S ⟨k, e, h1, h2⟩ => ?_) fun _ _ _ z => z
  subst e
  rw [w_bind, w_asB]
  cases k with
  | true => exact ⟨h2 rfl⟩
  | false => exact h1 rfl
theorem r_andV1 {a : IE} (q : wE (evE v a E) S Q X) : wE (evE v (.andV1 a) E) S Q X := by unfold evE; exact q
theorem r_orV1 {a : IE} (q : wE (evE v a E) S Q X) : wE (evE v (.orV1 a) E) S Q X := by unfold evE; exact q
theorem r_notV {a : IE} (q : wE (evE v a E) S (fun x S => ∃ k, x = .bl k ∧ Q (.bl (!k)) S) X) : wE (evE v (.notV a) E) S Q X := by
  unfold evE eNotV
  rw [w_bind]
  refine q.mono (fun x S ⟨k, e, h⟩ => ?_) fun _ _ _ z => z
  subst e
  rw [w_bind]; exact ⟨⟨h⟩⟩
theorem r_idx {a b : IE} (q : wE (evE v a E) S (fun x S => wE (evE v b E) S (fun y S => wE (idx2M x y) S Q X) X) X) : wE (evE v (.idx a b) E) S Q X := by
  unfold evE e2
  rw [w_bind]
  refine q.mono (fun x S h => ?_) fun _ _ _ z => z
  rw [w_bind]
  exact h
theorem r_cut {a : IE} {lo hi : IO} (q : wE (evE v a E) S (fun x S => wE (evO v lo E) S (fun l S => wE (evO v hi E) S (fun h S => ∃ d, cutO x l h = some d ∧ Q d S) X) X) X) : wE (evE v (.cut a lo hi) E) S Q X := by
  unfold evE eCut
  rw [w_bind]
  refine q.mono (fun x S h => ?_) fun _ _ _ z => z
  rw [w_bind]
  refine h.mono (fun l S h => ?_) fun _ _ _ z => z
  rw [w_bind]
  refine h.mono (fun l S h => ?_) fun _ _ _ z => z
  rw [w_ofO]
  exact h
theorem r_o0 (q : QO none S) : wE (evO v .none E) S QO X := by unfold evO; exact ⟨q⟩
theorem r_o1 {a : IE} (q : wE (evE v a E) S (fun x S => ∃ i, x = .int i ∧ QO (some i) S) X) : wE (evO v (.some a) E) S QO X := by
  unfold evO ePart
  rw [w_bind]
  refine q.mono (fun x S ⟨i, e, h⟩ => ?_) fun _ _ _ z => z
  subst e
  exact ⟨h⟩
theorem r_bi {f : BI} {e : IE} {es : IEs} (q : wE (evEs v (.cons e es) E) S (fun xs S => wE (biM f xs) S Q X) X) : wE (evE v (.bi f e es) E) S Q X := by
  unfold evEs at q
  unfold evE PK.es
  rw [w_bind]
  exact q
theorem r_ty {f : TI0} {e : IE} {es : IEs} (q : wE (evEs v (.cons e es) E) S (fun xs S => wE (tyM f xs) S Q X) X) : wE (evE v (.ty f e es) E) S Q X := by
  unfold evEs at q
  unfold evE PK.es
  rw [w_bind]
  exact q
theorem r_isT {t : Ty0} {e : IE} (q : wE (evE v e E) S (fun x S => ∃ b, isTy S t x = some b ∧ Q (.bl b) S) X) : wE (evE v (.isT t e) E) S Q X := by
  unfold evE e1
  rw [w_bind]
  refine q.mono (fun x S ⟨b, e, h⟩ => ?_) fun _ _ _ z => z
  rw [wE_iff]; unfold wE0 isTyM
  rw [e]
  exact h
theorem r_call {f : Nat} {e : IE} {es : IEs} (q : wE (evEs v (.cons e es) E) S (fun xs S => xs.length + (v.dds f).length = v.np f ∧ wE (v.call f (xs ++ v.dds f)) S Q X) X) : wE (evE v (.call false f e es) E) S Q X := by
  unfold evEs at q
  unfold evE PK.es
  rw [w_bind, if_neg Bool.false_ne_true]
  refine q.mono (fun xs S h => ?_) fun _ _ _ z => z
  rw [w_call h.1]
  exact h.2
theorem r_callP {f : Nat} {e : IE} {es : IEs} (q : wE (evEs v (.cons e es) E) S (fun xs S => xs.length + (v.dds f).length = v.np f ∧ D.noRefs (xs ++ v.dds f) = true ∧ wE (v.call f (xs ++ v.dds f)) [] (fun d _ => d.noRef = true ∧ Q d S) (fun c fs _ => D.noRefF fs = true ∧ X c fs S)) X) : wE (evE v (.call true f e es) E) S Q X := by
  unfold evEs at q
  unfold evE PK.es
  rw [w_bind, if_pos rfl]
  refine q.mono (fun xs S h => ?_) fun _ _ _ z => z
  rw [w_call h.1, w_pureCall h.2.1]
  exact h.2.2
theorem r_app {o e : IE} (q : wE (evE v o E) S (fun x S => ∃ r ys, x = .ref r ∧ S[r]? = some (.lst ys) ∧ wE (evE v e E) S (fun d S => ∃ xs, S[r]? = some (.lst xs) ∧ xs.length < 16777216 ∧ Q .non (S.set r (.lst (xs ++ [d])))) X) X) : wE (evE v (.app o e) E) S Q X := by
  unfold evE eApp
  rw [w_bind]
  refine q.mono (fun x S ⟨r, ys, e1, e2, h⟩ => ?_) fun _ _ _ z => z
  subst e1
  rw [w_bind]
  rw [wE_iff]; unfold wE0 chkL
  simp only [viewL, e2]
  show wE (EM.bind _ _) S Q X
  rw [w_bind]
  refine h.mono (fun d S ⟨xs, e3, e4, h⟩ => ?_) fun _ _ _ z => z
  rw [wE_iff]; unfold wE0 appM
  simp only [e3, if_pos e4]
  exact h
theorem r_nil (q : QL [] S) : wE (evEs v .nil E) S QL X := by unfold evEs; exact ⟨q⟩
theorem r_cons {e : IE} {es : IEs} (q : wE (evE v e E) S (fun x S => wE (evEs v es E) S (fun xs S => QL (x :: xs) S) X) X) : wE (evEs v (.cons e es) E) S QL X := by
  unfold evEs eCons
  rw [w_bind]
  refine q.mono (fun x S h => ?_) fun _ _ _ z => z
  rw [w_bind]
  exact h.mono (fun _ _ h => ⟨h⟩) fun _ _ _ z => z
/-! tests -/
theorem t_val {e : IE} (q : wE (evE v e E) S (fun x S => ∃ k, x = .bl k ∧ QB k S) X) : wE (evT v (.val e) E) S QB X := by
  unfold evT eTest
  rw [w_bind]
  refine q.mono (fun x S ⟨k, e, h⟩ => ?_) fun _ _ _ z => z
  subst e
  exact ⟨h⟩
theorem t_cmp {o : COp} {a b : IE} (q : wE (evE v a E) S (fun x S => wE (evE v b E) S (fun y S => wE (copM o x y) S (fun x S => ∃ k, x = .bl k ∧ QB k S) X) X) X) : wE (evT v (.cmp o a b) E) S QB X := by
  unfold evT eTest
  rw [w_bind]
  have := r_cmp (v := v) (E := E) q
  unfold evE at this
  refine this.mono (fun x S ⟨k, e, h⟩ => ?_) fun _ _ _ z => z
  subst e
  exact ⟨h⟩
theorem t_and {a b : IT} (q : wE (evT v a E) S (fun k S => (k = true → wE (evT v b E) S QB X) ∧ (k = false → QB false S)) X) : wE (evT v (.and a b) E) S QB X := by
  unfold evT eAnd
  rw [w_bind]
  refine q.mono (fun k S h => ?_) fun _ _ _ z => z
  cases k with
  | true => exact h.1 rfl
  | false => exact ⟨h.2 rfl⟩
theorem t_or {a b : IT} (q : wE (evT v a E) S (fun k S => (k = false → wE (evT v b E) S QB X) ∧ (k = true → QB true S)) X) : wE (evT v (.or a b) E) S QB X := by
  unfold evT eOr
  rw [w_bind]
  refine q.mono (fun k S h => ?_) fun _ _ _ z => z
  cases k with
  | true => exact ⟨h.2 rfl⟩
  | false => exact h.1 rfl
theorem t_and1 {a : IT} (q : wE (evT v a E) S QB X) : wE (evT v (.and1 a) E) S QB X := by unfold evT; exact q
theorem t_or1 {a : IT} (q : wE (evT v a E) S QB X) : wE (evT v (.or1 a) E) S QB X := by unfold evT; exact q
theorem t_not {a : IT} (q : wE (evT v a E) S (fun k S => QB (!k) S) X) : wE (evT v (.not a) E) S QB X := by
  unfold evT eNot
  rw [w_bind]
  exact q.mono (fun _ _ h => ⟨h⟩) fun _ _ _ z => z
/-! containers -/
theorem c_lst {es : IEs} (q : wE (evEs v es E) S (fun xs S => xs.length ≤ 1000 ∧ QC (.lst xs) S) X) : wE (evC v (.lst es) E) S QC X := by
  unfold evC PK.fs
  rw [w_bind]
  refine q.mono (fun xs S h => ?_) fun _ _ _ z => z
  unfold mLst
  rw [if_pos h.1]
  exact ⟨h.2⟩
theorem c_cat {a b : IE} (q : wE (evE v a E) S (fun x S => wE (evE v b E) S (fun y S => ∃ xs ys, viewL S x = some xs ∧ viewL S y = some ys ∧ xs.length + ys.length ≤ 16777216 ∧ QC (.lst (xs ++ ys)) S) X) X) : wE (evC v (.cat a b) E) S QC X := by
  unfold evC f2
  rw [w_bind]
  refine q.mono (fun x S h => ?_) fun _ _ _ z => z
  rw [w_bind]
  refine h.mono (fun y S ⟨xs, ys, e1, e2, e3, h⟩ => ?_) fun _ _ _ z => z
  rw [wE_iff]; unfold wE0 catM
  simp only [e1, e2, if_pos e3]
  exact h
theorem c_rep {c : IC} {b : IE} (q : wE (evC v c E) S (fun o S => wE (evE v b E) S (fun y S => ∃ xs k, o = .lst xs ∧ y = .int k ∧ (-(2 ^ 63) ≤ k ∧ k < 2 ^ 63 ∧ xs.length * k.toNat ≤ 16777216) ∧ QC (.lst (List.replicate k.toNat xs).flatten) S) X) X) : wE (evC v (.rep c b) E) S QC X := by
  unfold evC repF
  rw [w_bind]
  refine q.mono (fun x S h => ?_) fun _ _ _ z => z
  rw [w_bind]
  refine h.mono (fun y S ⟨xs, k, e1, e2, e3, hh⟩ => ?_) fun _ _ _ z => z
  subst e1 e2
  rw [w_ofO]
  exact ⟨_, by simp only [timesO]; rw [if_pos e3], hh⟩
theorem c_cut {a : IE} {lo hi : IO} (q : wE (evE v a E) S (fun x S => wE (evO v lo E) S (fun l S => wE (evO v hi E) S (fun h S => ∃ xs, viewL S x = some xs ∧ QC (.lst (cutL xs l h)) S) X) X) X) : wE (evC v (.cut a lo hi) E) S QC X := by
  unfold evC fCut
  rw [w_bind]
  refine q.mono (fun x S h => ?_) fun _ _ _ z => z
  rw [w_bind]
  refine h.mono (fun l S h => ?_) fun _ _ _ z => z
  rw [w_bind]
  refine h.mono (fun l S ⟨xs, e, h⟩ => ?_) fun _ _ _ z => z
  rw [wE_iff]; unfold wE0
  simp only [e]
  exact h
theorem c_list {a : IE} (q : wE (evE v a E) S (fun x S => ∃ xs, viewS S x = some xs ∧ QC (.lst xs) S) X) : wE (evC v (.list a) E) S QC X := by
  unfold evC PK.fs eCons
  rw [w_bind, w_bind]
  refine q.mono (fun x S ⟨xs, e, h⟩ => ?_) fun _ _ _ z => z
  rw [w_bind]
  unfold eNil
  rw [w_pure, w_pure]
  rw [wE_iff]; unfold wE0 listM
  simp only [e]
  exact h
theorem c_lc {it : II} {t : Tgt} {own : List (Str × Nat)} {c : ITo} {m : IE} (q : wE (evI v it E) S (fun ds S => ds.length ≤ 16777216 ∧ wE (cLoop t (evTo v c) (evE v m) (wipeE E (own.map (·.2))) ds) S (fun xs S => QC (.lst xs) S) fun _ _ _ => False) X) : wE (evC v (.lc it t own c m) E) S QC X := by
  unfold evC fLc
  rw [w_bind]
  refine q.mono (fun ds S h => ?_) fun _ _ _ z => z
  rw [if_pos h.1, w_bind]
  exact w_noX (h.2.mono (fun _ _ h => ⟨h⟩) fun _ _ _ z => z)
theorem o_none (q : QB true S) : wE (evTo v .none E) S QB X := by unfold evTo eYes; exact ⟨q⟩
theorem o_some {t : IT} (q : wE (evT v t E) S QB X) : wE (evTo v (.some t) E) S QB X := by unfold evTo; exact q
/-! iterables -/
theorem i_seq {e : IE} (q : wE (evE v e E) S (fun x S => ∃ ds, seqO x = some ds ∧ QL ds S) X) : wE (evI v (.seq e) E) S QL X := by
  unfold evI eOf
  rw [w_bind]
  refine q.mono (fun x S h => ?_) fun _ _ _ z => z
  rw [w_ofO]
  exact h
theorem i_rng1 {e : IE} (q : wE (evE v e E) S (fun x S => ∃ i, x = .int i ∧ (-(2 ^ 62) ≤ i ∧ i < 2 ^ 62) ∧ QL (rangeD 0 i.toNat) S) X) : wE (evI v (.rng1 e) E) S QL X := by
  unfold evI eOf eCons eNil
  rw [w_bind, w_bind]
  refine q.mono (fun x S ⟨i, e, h1, h2⟩ => ?_) fun _ _ _ z => z
  subst e
  rw [w_bind, w_pure, w_pure, w_ofO]
  refine ⟨rangeD 0 i.toNat, ?_, h2⟩
  unfold rng1O small62
  simp only [h1.1, h1.2, decide_true, Bool.and_self, if_true]
theorem i_rng2 {a b : IE} (q : wE (evE v a E) S (fun x S => wE (evE v b E) S (fun y S => ∃ i j, x = .int i ∧ y = .int j ∧ (-(2 ^ 62) ≤ i ∧ i < 2 ^ 62 ∧ -(2 ^ 62) ≤ j ∧ j < 2 ^ 62) ∧ QL (rangeD i (j - i).toNat) S) X) X) : wE (evI v (.rng2 a b) E) S QL X := by
  unfold evI eOf eCons eNil
  rw [w_bind, w_bind]
  refine q.mono (fun x S h => ?_) fun _ _ _ z => z
  rw [w_bind, w_bind]
  refine h.mono (fun y S ⟨i, j, e1, e2, h1, h2⟩ => ?_) fun _ _ _ z => z
  subst e1 e2
  rw [w_bind, w_pure, w_pure, w_pure, w_ofO]
  refine ⟨rangeD i (j - i).toNat, ?_, h2⟩
  unfold rng2O small62
  simp only [h1.1, h1.2.1, h1.2.2.1, h1.2.2.2, decide_true, Bool.and_self, and_self, if_true]
theorem i_revr {e : IE} (q : wE (evE v e E) S (fun x S => ∃ i, x = .int i ∧ (-(2 ^ 62) ≤ i ∧ i < 2 ^ 62) ∧ QL (revR 0 i) S) X) : wE (evI v (.revr e) E) S QL X := by
  unfold evI eOf
  rw [w_bind]
  refine q.mono (fun x S ⟨i, e, h1, h2⟩ => ?_) fun _ _ _ z => z
  subst e
  rw [w_ofO]
  refine ⟨revR 0 i, ?_, h2⟩
  unfold rev1O small62
  simp only [h1.1, h1.2, decide_true, Bool.and_self, if_true]
theorem i_rev {e : IE} (q : wE (evE v e E) S (fun x S => ∃ ds, seqO x = some ds ∧ QL ds.reverse S) X) : wE (evI v (.rev e) E) S QL X := by
  unfold evI eOf
  rw [w_bind]
  refine q.mono (fun x S ⟨ds, e, h⟩ => ?_) fun _ _ _ z => z
  rw [w_ofO]
  exact ⟨ds.reverse, by show (seqO x).map List.reverse = _; rw [e]; rfl, h⟩
theorem i_zip {a b : IE} (q : wE (evE v a E) S (fun x S => wE (evE v b E) S (fun y S => ∃ ds, zipO [x, y] = some ds ∧ QL ds S) X) X) : wE (evI v (.zip a b) E) S QL X := by
  unfold evI eOf eCons eNil
  rw [w_bind, w_bind]
  refine q.mono (fun x S h => ?_) fun _ _ _ z => z
  rw [w_bind, w_bind]
  refine h.mono (fun y S h => ?_) fun _ _ _ z => z
  rw [w_bind, w_pure, w_pure, w_pure, w_ofO]
  exact h
theorem i_enum {e : IE} (q : wE (evE v e E) S (fun x S => ∃ ds, enumO [x] = some ds ∧ QL ds S) X) : wE (evI v (.enum e) E) S QL X := by
  unfold evI eOf eCons eNil
  rw [w_bind, w_bind]
  refine q.mono (fun x S h => ?_) fun _ _ _ z => z
  rw [w_bind, w_pure, w_pure, w_ofO]
  exact h
end
/-! statements -/
section
variable {v : Ev} {S : List DO} {E : PK.Env} {P : Post}
theorem s_nil (q : P.nx E S) : wS (evB v .nil) E S P := by unfold evB; exact ⟨q⟩
theorem s_cons {s : IS} {ss : ISs} (q : wS (evS v s) E S ⟨fun E S => wS (evB v ss) E S P, P.rt, P.bk, P.ct, P.x⟩) : wS (evB v (.cons s ss)) E S P := by
  unfold evB
  rw [wS_seq]
  exact q
theorem s_set {i : Nat} {e : IE} (q : wE (evE v e E) S (fun d S => P.nx (E.set i (some d)) S) fun c fs S => P.x c fs E S) : wS (evS v (.set i e)) E S P := by
  unfold evS
  rw [wS_asg]
  exact q.mono (fun _ _ h => ⟨h⟩) fun _ _ _ z => z
theorem s_tup {t : Tgt} {e : IE} (q : wE (evE v e E) S (fun d S => ∃ E', t.put d E = some E' ∧ P.nx E' S) fun c fs S => P.x c fs E S) : wS (evS v (.tup t e)) E S P := by
  unfold evS
  rw [wS_asg]
  refine q.mono (fun d S ⟨E', e, h⟩ => ?_) fun _ _ _ z => z
  unfold mTgt
  rw [e]
  exact ⟨h⟩
theorem s_sub {o i e : IE} (q : wE (evE v e E) S (fun d S => wE (evE v o E) S (fun x S => wE (evE v i E) S (fun y S => ∃ r k xs j, x = .ref r ∧ y = .int k ∧ S[r]? = some (.lst xs) ∧ ixN xs.length k = some j ∧ P.nx E (S.set r (.lst (xs.set j d)))) (fun c fs S => P.x c fs E S)) (fun c fs S => P.x c fs E S)) fun c fs S => P.x c fs E S) : wS (evS v (.sub o i e)) E S P := by
  unfold evS
  rw [wS_asg]
  refine q.mono (fun d S h => ?_) fun _ _ _ z => z
  unfold mSub
  rw [w_bind]
  refine h.mono (fun x S h => ?_) fun _ _ _ z => z
  rw [w_bind]
  refine h.mono (fun y S ⟨r, k, xs, j, e1, e2, e3, e4, hh⟩ => ?_) fun _ _ _ z => z
  subst e1 e2
  rw [w_bind, w_set e3 e4]
  exact ⟨hh⟩
theorem s_setC {i : Nat} {c : IC} (q : wE (evC v c E) S (fun o S => ∃ d, valOf o = some d ∧ P.nx (E.set i (some d)) S) fun c fs S => P.x c fs E S) : wS (evS v (.setC i c)) E S P := by
  unfold evS
  rw [wS_asg]
  have := r_new (v := v) (E := E) (Q := fun d S => P.nx (E.set i (some d)) S) q
  unfold evE at this
  exact this.mono (fun _ _ h => ⟨h⟩) fun _ _ _ z => z
theorem s_boxC {i : Nat} {c : IC} (q : wE (evC v c E) S (fun o S => P.nx (E.set i (some (.ref S.length))) (S ++ [o])) fun c fs S => P.x c fs E S) : wS (evS v (.boxC i c)) E S P := by
  unfold evS
  rw [wS_asg]
  have := r_box (v := v) (E := E) (Q := fun d S => P.nx (E.set i (some d)) S) q
  unfold evE at this
  exact this.mono (fun _ _ h => ⟨h⟩) fun _ _ _ z => z
theorem s_expr {e : IE} (q : wE (evE v e E) S (fun _ S => P.nx E S) fun c fs S => P.x c fs E S) : wS (evS v (.expr e)) E S P := by
  unfold evS
  rw [wS_expr]
  exact q
theorem s_ret {e : IE} (q : wE (evE v e E) S P.rt fun c fs S => P.x c fs E S) : wS (evS v (.ret e)) E S P := by
  unfold evS
  rw [wS_ret]
  exact q
theorem s_retN (q : P.rt .non S) : wS (evS v .retN) E S P := by unfold evS; exact ⟨q⟩
theorem s_if {t : IT} {a b : ISs} (q : wE (evT v t E) S (fun k S => (k = true → wS (evB v a) E S P) ∧ (k = false → wS (evB v b) E S P)) fun c fs S => P.x c fs E S) : wS (evS v (.ifS t a b)) E S P := by
  unfold evS
  rw [wS_if]
  exact q
theorem s_for {t : Tgt} {it : II} {b : ISs} (q : wE (evI v it E) S (fun ds S => wS (sLoop (mTgt t) (evB v b) ds) E S P) fun c fs S => P.x c fs E S) : wS (evS v (.forS t it b)) E S P := by
  unfold evS
  rw [wS_for]
  exact q
theorem s_brk (q : P.bk E S) : wS (evS v .brk) E S P := by unfold evS; exact ⟨q⟩
theorem s_cont (q : P.ct E S) : wS (evS v .cont) E S P := by unfold evS; exact ⟨q⟩
theorem s_pass (q : P.nx E S) : wS (evS v .pass) E S P := by unfold evS; exact ⟨q⟩
theorem s_doc (q : P.nx E S) : wS (evS v .doc) E S P := by unfold evS; exact ⟨q⟩
theorem s_while {t : IT} {b : ISs} (q : wS (sWhile (evT v t) (evB v b) v.wf) E S P) : wS (evS v (.whileS t b)) E S P := by unfold evS; exact q
theorem put_1 {i : Nat} {d : D} {X : XP} {Q : PK.Env → List DO → Prop} (q : Q (E.set i (some d)) S) : wE (mTgt (.name i) d E) S Q X := ⟨q⟩
theorem put_n {t : Tgt} {d : D} {X : XP} {Q : PK.Env → List DO → Prop} {E' : PK.Env} (h : t.put d E = some E') (q : Q E' S) : wE (mTgt t d E) S Q X := by unfold mTgt; rw [h]; exact ⟨q⟩
theorem b_call {p : Pr} {n f : Nat} {F : FD} {ds : List D} {Q : D → List DO → Prop} {X : XP} (h : p.fds[f]? = some F) (q : wS (evB (p.ev n) F.ir) (ds.map some ++ List.replicate (F.N.length - ds.length) none) S ⟨fun _ S => Q .non S, Q, fun _ _ => False, fun _ _ => False, fun c fs _ S => X c fs S⟩) : wE (p.call (n + 1) f ds) S Q X := by
  have e : p.call (n + 1) f = runBody F.N.length (evB (p.ev n) F.ir) := by
    show (match p.fds[f]? with | some F => runBody F.N.length (evB (p.evWith (p.call n)) F.ir) | none => fun _ => EM.fail) = _
    rw [h]
    rfl
  rw [e, w_body]
  exact q
end
/-! operators on ints, as rules -/
section
variable {S : List DO} {X : XP} {Q : D → List DO → Prop} {i j : Int}
theorem p_add (q : Q (.int (i + j)) S) : wE (bopM .add (.int i) (.int j)) S Q X := ⟨q⟩
theorem p_sub (q : Q (.int (i - j)) S) : wE (bopM .sub (.int i) (.int j)) S Q X := ⟨q⟩
theorem p_mul (h : mulOk i j) (q : Q (.int (i * j)) S) : wE (bopM .mul (.int i) (.int j)) S Q X := by unfold bopM; rw [w_mul]; exact ⟨h, q⟩
theorem p_fdiv (h : j ≠ 0 ∧ j.natAbs.log2 < 9000) (q : Q (.int (i.fdiv j)) S) : wE (bopM .fdiv (.int i) (.int j)) S Q X := by unfold bopM; rw [w_fdiv]; exact ⟨h, q⟩
theorem p_mod (h : j ≠ 0) (q : Q (.int (i.fmod j)) S) : wE (bopM .mod (.int i) (.int j)) S Q X := by unfold bopM; rw [w_mod]; exact ⟨h, q⟩
theorem p_pow18 (q : Q (.int 1000000000000000000) S) : wE (bopM .pow (.int 10) (.int 18)) S Q X := by unfold bopM; rw [w_pow18]; exact q
theorem p_catT {xs ys : List D} (h : xs.length + ys.length ≤ 16777216) (q : Q (.tup (xs ++ ys)) S) : wE (bopM .add (.tup xs) (.tup ys)) S Q X := by
  unfold bopM
  rw [w_ofO]
  exact ⟨_, by simp only [addO]; rw [if_pos h], q⟩
theorem p_lt (q : Q (.bl (decide (i < j))) S) : wE (copM .lt (.int i) (.int j)) S Q X := ⟨q⟩
theorem p_le (q : Q (.bl (decide (i ≤ j))) S) : wE (copM .le (.int i) (.int j)) S Q X := ⟨q⟩
theorem p_gt (q : Q (.bl (decide (i > j))) S) : wE (copM .gt (.int i) (.int j)) S Q X := ⟨q⟩
theorem p_ge (q : Q (.bl (decide (i ≥ j))) S) : wE (copM .ge (.int i) (.int j)) S Q X := ⟨q⟩
theorem p_eq (q : Q (.bl (decide (i = j))) S) : wE (copM .eq (.int i) (.int j)) S Q X := by
  show wE (eqM (.int i) (.int j)) S Q X
  rw [w_eqI]; exact q
theorem p_ne (q : Q (.bl (!decide (i = j))) S) : wE (copM .ne (.int i) (.int j)) S Q X := by
  show wE (neM (.int i) (.int j)) S Q X
  rw [w_neI]; exact q
theorem p_eqG {x y : D} (h : eqOk (derefL S x) (derefL S y) = true) (q : Q (.bl (PyData.eqv (toPy (derefL S x)) (toPy (derefL S y)))) S) : wE (copM .eq x y) S Q X := by
  rw [wE_iff]
  show wE0 (eq2M x y) S Q X
  unfold wE0
  rw [(eqOk_view h).1]
  unfold eqM
  rw [if_pos h]
  exact q
theorem p_neG {x y : D} (h : eqOk (derefL S x) (derefL S y) = true) (q : Q (.bl (!PyData.eqv (toPy (derefL S x)) (toPy (derefL S y)))) S) : wE (copM .ne x y) S Q X := by
  rw [wE_iff]
  show wE0 (ne2M x y) S Q X
  unfold wE0
  rw [(eqOk_view h).2]
  unfold neM
  rw [if_pos h]
  exact q
/-- == of dicts -/
theorem p_eqD {x y : D} {k1 k2 : List (D × D)} (h1 : viewD S x = some k1) (h2 : viewD S y = some k2) (h : dEqOk k1 k2 = true) (q : Q (.bl (k1.length == k2.length && dEq k2 k1)) S) : wE (copM .eq x y) S Q X := by
  rw [wE_iff]
  show wE0 (eq2M x y) S Q X
  unfold wE0 eq2M
  simp only [h1, h2, if_pos h]
  exact q
theorem p_neD {x y : D} {k1 k2 : List (D × D)} (h1 : viewD S x = some k1) (h2 : viewD S y = some k2) (h : dEqOk k1 k2 = true) (q : Q (.bl (!(k1.length == k2.length && dEq k2 k1))) S) : wE (copM .ne x y) S Q X := by
  rw [wE_iff]
  show wE0 (ne2M x y) S Q X
  unfold wE0 ne2M
  simp only [h1, h2, if_pos h]
  exact q
theorem p_int (q : Q (.int i) S) : wE (tyM .int [.int i]) S Q X := ⟨q⟩
theorem p_intB {b : Bool} (q : Q (.int (if b then 1 else 0)) S) : wE (tyM .int [.bl b]) S Q X := ⟨q⟩
theorem p_abs (q : Q (.int (if i < 0 then -i else i)) S) : wE (biM .abs [.int i]) S Q X := ⟨q⟩
theorem p_min (q : Q (.int (if j < i then j else i)) S) : wE (biM .min [.int i, .int j]) S Q X := ⟨q⟩
theorem p_max (q : Q (.int (if j > i then j else i)) S) : wE (biM .max [.int i, .int j]) S Q X := ⟨q⟩
theorem p_lenN {ns : List Int} (q : Q (.int ns.length) S) : wE (biM .len [.scr ns]) S Q X := ⟨q⟩
theorem p_lenT {xs : List D} (q : Q (.int xs.length) S) : wE (biM .len [.tup xs]) S Q X := ⟨q⟩
theorem p_lenL {xs : List D} (q : Q (.int xs.length) S) : wE (biM .len [.lst xs]) S Q X := ⟨q⟩
theorem p_lenR {r : Nat} {xs : List D} (h : S[r]? = some (.lst xs)) (q : Q (.int xs.length) S) : wE (biM .len [.ref r]) S Q X := by
  rw [wE_iff]; unfold biM wE0 len2M
  simp only [viewD, h]
  unfold lenM viewS
  simp only [viewL, h]
  exact q
theorem p_tupL {xs : List D} (q : Q (.tup xs) S) : wE (tyM .tuple [.lst xs]) S Q X := ⟨q⟩
theorem p_idxT {xs : List D} {d : D} (h : L2.atI xs i = some d) (q : Q d S) : wE (idx2M (.tup xs) (.int i)) S Q X := by show wE (idxM (.tup xs) (.int i)) S Q X; rw [w_idxT h]; exact q
theorem p_idxL {xs : List D} {d : D} (h : L2.atI xs i = some d) (q : Q d S) : wE (idx2M (.lst xs) (.int i)) S Q X := by show wE (idxM (.lst xs) (.int i)) S Q X; rw [w_idxL h]; exact q
theorem p_idxN {xs : List Int} {n : Int} (h : L2.atI xs i = some n) (q : Q (.int n) S) : wE (idx2M (.scr xs) (.int i)) S Q X := by show wE (idxM (.scr xs) (.int i)) S Q X; rw [w_idxN h]; exact q
theorem p_idxR {r : Nat} {xs : List D} {d : D} (h0 : S[r]? = some (.lst xs)) (h : L2.atI xs i = some d) (q : Q d S) : wE (idx2M (.ref r) (.int i)) S Q X := by show wE (idxM (.ref r) (.int i)) S Q X; rw [w_idxR h0 h]; exact q
end
theorem lg31 {m : Int} (h : m ≠ 0 ∧ m.natAbs < 2147483648) : m ≠ 0 ∧ m.natAbs.log2 < 9000 := ⟨h.1, Nat.lt_trans ((Nat.log2_lt (by omega)).mpr (show m.natAbs < 2 ^ 31 from h.2)) (by decide)⟩
theorem mul64 {i j : Int} (h : i.natAbs < 18446744073709551616 ∧ j.natAbs < 18446744073709551616) : mulOk i j := Sm.mulOk (k := 64) (l := 64) h.1 h.2 (by decide)
end PK
namespace PK
open PySem PySem.Spec PyProof.Rows L2

theorem s_cut {v : Ev} {S : List DO} {E : PK.Env} {P : Post} {s : IS} {ss : ISs} (J : PK.Env → List DO → Prop) (h1 : wS (evS v s) E S ⟨J, P.rt, P.bk, P.ct, P.x⟩) (h2 : ∀ E S, J E S → wS (evB v ss) E S P) : wS (evB v (.cons s ss)) E S P :=
  s_cons (h1.mono h2 (fun _ _ z => z) (fun _ _ z => z) (fun _ _ z => z) fun _ _ _ _ z => z)
theorem k_call {p : Pr} {n f : Nat} {xs : List D} (ds : List D) {S : List DO} {Q : D → List DO → Prop} {X : XP} (hd : p.dds f = ds) (hn : xs.length + ds.length = p.np f) (q : wE (p.call n f (xs ++ ds)) S Q X) :
    xs.length + ((p.ev n).dds f).length = (p.ev n).np f ∧ wE ((p.ev n).call f (xs ++ (p.ev n).dds f)) S Q X := by
  subst hd
  exact ⟨hn, q⟩
theorem k_pure {p : Pr} {n f : Nat} {xs : List D} (ds : List D) {Q : D → List DO → Prop} {X : XP} (hd : p.dds f = ds) (hn : xs.length + ds.length = p.np f) (h : D.noRefs (xs ++ ds) = true) (q : wE (p.call n f (xs ++ ds)) [] Q X) :
    xs.length + ((p.ev n).dds f).length = (p.ev n).np f ∧ D.noRefs (xs ++ (p.ev n).dds f) = true ∧ wE ((p.ev n).call f (xs ++ (p.ev n).dds f)) [] Q X := by
  subst hd
  exact ⟨hn, h, q⟩
/-! plain data -/
theorem ixN_nn {n : Nat} {i : Int} (h0 : 0 ≤ i) (h1 : i < n) : ixN n i = some i.toNat := by unfold ixN; rw [if_pos h0, if_pos h1]
theorem atI_nn {α : Type} {xs : List α} {i : Int} (h0 : 0 ≤ i) : L2.atI xs i = xs[i.toNat]? := by
  unfold L2.atI
  by_cases h : i < xs.length
  · rw [ixN_nn h0 h]; rfl
  · unfold ixN
    rw [if_pos h0, if_neg h]
    rw [List.getElem?_eq_none (by omega)]
    rfl
theorem cut_drop {α : Type} {xs : List α} {k : Nat} : cutL xs (some (k : Int)) none = xs.drop k := by
  unfold cutL
  rw [HT.sIx_nat, HT.sIx_none]
  by_cases h : k ≤ xs.length
  · rw [Nat.min_eq_left h, List.take_of_length_le (by simp)]
  · rw [Nat.min_eq_right (by omega), List.drop_eq_nil_of_le (Nat.le_refl _), List.drop_eq_nil_of_le (by omega)]
    simp
theorem cut_take {α : Type} {xs : List α} {k : Nat} : cutL xs none (some (k : Int)) = xs.take k := by
  unfold cutL
  rw [HT.sIx_nat, HT.sIx_none, List.drop_zero, Nat.sub_zero]
  by_cases h : k ≤ xs.length
  · rw [Nat.min_eq_left h]
  · rw [Nat.min_eq_right (by omega), List.take_of_length_le (Nat.le_refl _), List.take_of_length_le (by omega)]
mutual
theorem eqv_refl : ∀ d : D, d.plain = true → PyData.eqv (toPy d) (toPy d) = true
  | .non, _ => by simp [toPy, PyData.eqv]
  | .bl b, _ => by simp [toPy, PyData.eqv]
  | .int i, _ => by simp [toPy, PyData.eqv]
  | .str x, _ => by simp [toPy, PyData.eqv]
  | .tup xs, h => by simp only [toPy, PyData.eqv]; exact eqvs_refl xs (by simpa [D.plain] using h)
  | .lst xs, h => by simp only [toPy, PyData.eqv]; exact eqvs_refl xs (by simpa [D.plain] using h)
  | .dct _, h => by simp [D.plain] at h
  | .ins _ _, h => by simp [D.plain] at h
  | .ref _, h => by simp [D.plain] at h
  | .scr ns, _ => by
    simp only [toPy, PyData.eqv]
    induction ns with
    | nil => rfl
    | cons n ns ih => simp [PyData.eqvAll, PyData.eqv, ih (by simp [D.plain])]
theorem eqvs_refl : ∀ ds : List D, D.plains ds = true → PyData.eqvAll (toPys ds) (toPys ds) = true
  | [], _ => rfl
  | d :: ds, h => by
    simp only [D.plains, Bool.and_eq_true] at h
    simp only [toPys, PyData.eqvAll, eqv_refl d h.1, eqvs_refl ds h.2, Bool.and_self]
end
theorem plains_all : ∀ {ds : List D}, (∀ d ∈ ds, d.plain = true) → D.plains ds = true
  | [], _ => rfl
  | d :: ds, h => by simp only [D.plains, h d (List.mem_cons_self ..), plains_all fun e he => h e (List.mem_cons_of_mem _ he), Bool.and_self]
theorem depths_le {k : Nat} : ∀ {ds : List D}, (∀ d ∈ ds, d.depth ≤ k) → D.depths ds ≤ k
  | [], _ => Nat.zero_le _
  | d :: ds, h => by
    have h1 := h d (List.mem_cons_self ..)
    have h2 := depths_le fun e he => h e (List.mem_cons_of_mem _ he)
    simp only [D.depths]
    omega
theorem noRefs_all : ∀ {ds : List D}, (∀ d ∈ ds, d.noRef = true) → D.noRefs ds = true
  | [], _ => rfl
  | d :: ds, h => by simp only [D.noRefs, h d (List.mem_cons_self ..), noRefs_all fun e he => h e (List.mem_cons_of_mem _ he), Bool.and_self]
/-- tuples of ints, and lists, tuples of them -/
def dI (xs : List Int) : D := .tup (xs.map .int)
theorem dI_plain {xs : List Int} : (dI xs).plain = true := by
  unfold dI D.plain
  exact plains_all fun d h => by obtain ⟨x, _, rfl⟩ := List.mem_map.mp h; rfl
theorem dI_depth {xs : List Int} : (dI xs).depth ≤ 1 := by
  unfold dI D.depth
  have := depths_le (k := 0) (ds := xs.map D.int) fun d h => by obtain ⟨x, _, rfl⟩ := List.mem_map.mp h; exact Nat.le_refl _
  omega
theorem dI_noRef {xs : List Int} : (dI xs).noRef = true := by
  unfold dI D.noRef
  exact noRefs_all fun d h => by obtain ⟨x, _, rfl⟩ := List.mem_map.mp h; rfl
def dW (xs : List (List Int)) : D := .tup (xs.map dI)
def dR (xs : List (List Int)) : D := .lst (xs.map dI)
theorem dW_plain {xs : List (List Int)} : (dW xs).plain = true := by
  unfold dW D.plain
  exact plains_all fun d h => by obtain ⟨x, _, rfl⟩ := List.mem_map.mp h; exact dI_plain
theorem dR_plain {xs : List (List Int)} : (dR xs).plain = true := by
  unfold dR D.plain
  exact plains_all fun d h => by obtain ⟨x, _, rfl⟩ := List.mem_map.mp h; exact dI_plain
theorem dW_depth {xs : List (List Int)} : (dW xs).depth ≤ 2 := by
  unfold dW D.depth
  have := depths_le (k := 1) (ds := xs.map dI) fun d h => by obtain ⟨x, _, rfl⟩ := List.mem_map.mp h; exact dI_depth
  omega
theorem dR_depth {xs : List (List Int)} : (dR xs).depth ≤ 2 := by
  unfold dR D.depth
  have := depths_le (k := 1) (ds := xs.map dI) fun d h => by obtain ⟨x, _, rfl⟩ := List.mem_map.mp h; exact dI_depth
  omega
theorem dW_noRef {xs : List (List Int)} : (dW xs).noRef = true := by
  unfold dW D.noRef
  exact noRefs_all fun d h => by obtain ⟨x, _, rfl⟩ := List.mem_map.mp h; exact dI_noRef
theorem dR_noRef {xs : List (List Int)} : (dR xs).noRef = true := by
  unfold dR D.noRef
  exact noRefs_all fun d h => by obtain ⟨x, _, rfl⟩ := List.mem_map.mp h; exact dI_noRef
section
variable {S : List DO} {X : XP} {Q : D → List DO → Prop} {i : Int}
theorem p_lenI {xs : List Int} (q : Q (.int xs.length) S) : wE (biM .len [dI xs]) S Q X := by unfold dI; refine p_lenT ?_; rw [List.length_map]; exact q
theorem p_lenW {xs : List (List Int)} (q : Q (.int xs.length) S) : wE (biM .len [dW xs]) S Q X := by unfold dW; refine p_lenT ?_; rw [List.length_map]; exact q
theorem p_lenRw {xs : List (List Int)} (q : Q (.int xs.length) S) : wE (biM .len [dR xs]) S Q X := by unfold dR; refine p_lenL ?_; rw [List.length_map]; exact q
theorem p_idxI {xs : List Int} {a : Int} (h0 : 0 ≤ i) (h : xs[i.toNat]? = some a) (q : Q (.int a) S) : wE (idx2M (dI xs) (.int i)) S Q X := by unfold dI; refine p_idxT ?_ q; rw [atI_nn h0, List.getElem?_map, h]; rfl
theorem p_idxW {xs : List (List Int)} {a : List Int} (h0 : 0 ≤ i) (h : xs[i.toNat]? = some a) (q : Q (dI a) S) : wE (idx2M (dW xs) (.int i)) S Q X := by unfold dW; refine p_idxT ?_ q; rw [atI_nn h0, List.getElem?_map, h]; rfl
theorem p_idxRw {xs : List (List Int)} {a : List Int} (h0 : 0 ≤ i) (h : xs[i.toNat]? = some a) (q : Q (dI a) S) : wE (idx2M (dR xs) (.int i)) S Q X := by unfold dR; refine p_idxL ?_ q; rw [atI_nn h0, List.getElem?_map, h]; rfl
theorem rangeD_len {lo : Int} {n : Nat} : (rangeD lo n).length = n := by simp [rangeD]
theorem take_snoc {α : Type} {xs : List α} {k : Nat} {a : α} (h : xs[k]? = some a) : xs.take (k + 1) = xs.take k ++ [a] := by
  rw [List.take_add_one, h]; rfl
end
theorem eqOk_of {x y : D} (h1 : x.plain = true) (h2 : y.plain = true) (h3 : x.depth ≤ 64) (h4 : y.depth ≤ 64) : eqOk x y = true := by
  unfold eqOk
  rw [h1, h2]
  simp [h3, h4]
theorem eqv_nil {xs : List (List Int)} : PyData.eqv (toPy (dW xs)) (toPy (.tup [])) = decide (xs = []) := by
  cases xs <;> simp [dW, toPy, toPys, PyData.eqv, PyData.eqvAll]
end PK
namespace PK
open PySem PySem.Spec PyProof.Rows L2
/-! ### rules backwards, of dicts -/
section
variable {v : Ev} {S : List DO} {E : PK.Env} {X : XP} {Q : D → List DO → Prop} {QL : List D → List DO → Prop} {QC : DO → List DO → Prop} {P : Post}
theorem r_get {o e : IE} {es : IEs} (q : wE (evE v o E) S (fun x S => ∃ kvs, viewD S x = some kvs ∧ wE (evEs v (.cons e es) E) S (fun xs S => wE (dgetM x xs) S Q X) X) X) : wE (evE v (.get o e es) E) S Q X := by
  unfold evEs at q
  unfold evE eGet
  rw [w_bind]
  refine q.mono (fun x S ⟨kvs, e1, h⟩ => ?_) fun _ _ _ z => z
  rw [w_bind]
  rw [wE_iff]; unfold wE0 chkD
  simp only [e1]
  show wE (EM.bind _ _) S Q X
  rw [w_bind]
  exact h
theorem p_get2 {x k y : D} {kvs : List (D × D)} {kn : NestedKey} (h : viewD S x = some kvs) (hk : tkey k = some kn) (ht : tkeys kvs = true) (q : Q ((dget kvs k).getD y) S) : wE (dgetM x [k, y]) S Q X := by
  rw [wE_iff]; unfold wE0 dgetM
  simp only [h, hk, ht, if_true]
  exact q
theorem p_didx {x : D} {ds : List D} {d : D} {kvs : List (D × D)} {kn : NestedKey} (h : viewD S x = some kvs) (hk : tkey (.tup ds) = some kn) (ht : tkeys kvs = true) (hd : dget kvs (.tup ds) = some d) (q : Q d S) : wE (idx2M x (.tup ds)) S Q X := by
  show wE (dixM x (.tup ds)) S Q X
  rw [wE_iff]; unfold wE0 dixM
  simp only [h, hk, ht, if_true, hd]
  exact q
theorem c_dnew (q : QC (.dct []) S) : wE (evC v .dnew E) S QC X := by unfold evC fDnew; exact ⟨q⟩
theorem c_disp {k w : IE} (q : wE (evE v k E) S (fun x S => wE (evE v w E) S (fun y S => (tkey x).isSome = true ∧ QC (.dct [(x, y)]) S) X) X) : wE (evC v (.disp k w) E) S QC X := by
  unfold evC fDisp1
  rw [w_bind]
  refine q.mono (fun x S h => ?_) fun _ _ _ z => z
  rw [w_bind]
  refine h.mono (fun y S ⟨h1, h2⟩ => ?_) fun _ _ _ z => z
  obtain ⟨kn, hk⟩ := Option.isSome_iff_exists.mp h1
  rw [w_ofO]
  exact ⟨_, by unfold disp1O; rw [hk], h2⟩
theorem i_keys {e : IE} (q : wE (evE v e E) S (fun x S => ∃ kvs, x = .dct kvs ∧ tkeys kvs = true ∧ QL (kvs.map (·.1)) S) X) : wE (evI v (.keys e) E) S QL X := by
  unfold evI eOf
  rw [w_bind]
  refine q.mono (fun x S ⟨kvs, e1, e2, h⟩ => ?_) fun _ _ _ z => z
  subst e1
  rw [w_ofO]
  exact ⟨_, by simp only [keys2O, e2, Bool.true_or, if_true], h⟩
theorem i_keysS {e : IE} (q : wE (evE v e E) S (fun x S => ∃ kvs, x = .dct kvs ∧ skeys kvs = true ∧ QL (kvs.map (·.1)) S) X) : wE (evI v (.keys e) E) S QL X := by
  unfold evI eOf
  rw [w_bind]
  refine q.mono (fun x S ⟨kvs, e1, e2, h⟩ => ?_) fun _ _ _ z => z
  subst e1
  rw [w_ofO]
  exact ⟨_, by simp only [keys2O, e2, Bool.or_true, if_true], h⟩
theorem i_items {e : IE} (q : wE (evE v e E) S (fun x S => ∃ kvs, x = .dct kvs ∧ tkeys kvs = true ∧ QL (kvs.map fun q => D.tup [q.1, q.2]) S) X) : wE (evI v (.items e) E) S QL X := by
  unfold evI eOf
  rw [w_bind]
  refine q.mono (fun x S ⟨kvs, e1, e2, h⟩ => ?_) fun _ _ _ z => z
  subst e1
  rw [w_ofO]
  exact ⟨_, by simp only [itemsO, e2, if_true], h⟩
theorem s_subD {o i e : IE} (q : wE (evE v e E) S (fun d S => wE (evE v o E) S (fun x S => wE (evE v i E) S (fun y S => ∃ r kvs, x = .ref r ∧ S[r]? = some (.dct kvs) ∧ (tkey y).isSome = true ∧ tkeys kvs = true ∧ kvs.length < 16777216 ∧ P.nx E (S.set r (.dct (dput kvs y d)))) (fun c fs S => P.x c fs E S)) (fun c fs S => P.x c fs E S)) fun c fs S => P.x c fs E S) : wS (evS v (.sub o i e)) E S P := by
  unfold evS
  rw [wS_asg]
  refine q.mono (fun d S h => ?_) fun _ _ _ z => z
  unfold mSub
  rw [w_bind]
  refine h.mono (fun x S h => ?_) fun _ _ _ z => z
  rw [w_bind]
  refine h.mono (fun y S ⟨r, kvs, e1, e2, e3, e4, e5, hh⟩ => ?_) fun _ _ _ z => z
  subst e1
  obtain ⟨kn, hk⟩ := Option.isSome_iff_exists.mp e3
  rw [w_bind, wE_iff]
  unfold wE0 setM
  simp only [e2, hk, e4, e5, and_self, if_true]
  exact ⟨hh⟩
theorem r_frzE {e : IE} (q : wE (evE v e E) S (fun x S => ∃ r o d, x = .ref r ∧ S[r]? = some o ∧ valOf o = some d ∧ Q d (S.set r .gone)) X) : wE (evE v (.frzE e) E) S Q X := by
  unfold evE eFrzE
  rw [w_bind]
  refine q.mono (fun x S ⟨r, o, d, e1, e2, e3, h⟩ => ?_) fun _ _ _ z => z
  subst e1
  rw [wE_iff]
  unfold wE0 frzD
  simp only [e2, e3]
  exact h
theorem r_lckv {i r : Nat} {o : DO} {d : D} (h : E[i]? = some (some (.ref r))) (h1 : S[r]? = some o) (h2 : lkV o = some d) (q : Q d S) : wE (evE v (.lckv i) E) S Q X := by
  unfold evE
  rw [wE_iff]
  unfold wE0 eLkv
  rw [h]
  dsimp only
  rw [h1]
  dsimp only
  rw [h2]
  exact q
/-- what is asked where the lock ends -/
def UnP (r : Nat) (k : Bool) (E : PK.Env) (S : List DO) (q : List DO → Prop) : Prop := ∃ o o', S[r]? = some o ∧ unO k o = some o' ∧ cleanE k E = true ∧ S.all (DO.noL k) = true ∧ q (S.set r o')
theorem s_lock {i r : Nat} {s : IS} {o o' : DO} {k : Bool} (h : E[i]? = some (some (.ref r))) (h1 : S[r]? = some o) (h2 : lkO o = some (o', k))
    (q : wS (evS v s) E (S.set r o') ⟨fun E S => UnP r k E S (P.nx E), fun d S => UnP r k [some d] S (P.rt d), fun E S => UnP r k E S (P.bk E), fun E S => UnP r k E S (P.ct E), P.x⟩) : wS (evS v (.lock i s)) E S P := by
  have e : ∀ {d : D}, cleanE k [some d] = true → d.noL k = true := fun h => by simpa [cleanE] using h
  unfold evS
  rw [wS_iff] at q ⊢
  unfold wS0 sLock
  unfold wS0 at q
  rw [h]
  dsimp only
  rw [h1]
  dsimp only
  rw [h2]
  dsimp only
  cases hm : evS v s E (S.set r o') with
  | nx E S => rw [hm] at q; obtain ⟨o, o', e1, e2, e3, e4, q⟩ := q; unfold unR; simp only [e1, e2, if_pos (And.intro e3 e4)]; exact q
  | brk E S => rw [hm] at q; obtain ⟨o, o', e1, e2, e3, e4, q⟩ := q; unfold unR; simp only [e1, e2, if_pos (And.intro e3 e4)]; exact q
  | ct E S => rw [hm] at q; obtain ⟨o, o', e1, e2, e3, e4, q⟩ := q; unfold unR; simp only [e1, e2, if_pos (And.intro e3 e4)]; exact q
  | rt d S => rw [hm] at q; obtain ⟨o, o', e1, e2, e3, e4, q⟩ := q; unfold unR; simp only [e1, e2, if_pos (And.intro (e e3) e4)]; exact q
  | exc c fs E S => rw [hm] at q; exact q
  | stuck => rw [hm] at q; exact q
theorem s_par {i j : Nat} {es : IEs} (q : wE (evEs v es E) S (fun xs S => ∃ a b, xs = [a, b] ∧ P.nx ((E.set i (some a)).set j (some b)) S) fun c fs S => P.x c fs E S) : wS (evS v (.par i j es)) E S P := by
  unfold evS sPar
  rw [wS_iff]
  unfold wS0 sOf
  rw [wE_iff] at q
  unfold wE0 at q
  cases hm : evEs v es E S with
  | ok ds S' =>
    rw [hm] at q
    obtain ⟨a, b, rfl, h⟩ := q
    exact h
  | exc c fs S' => rw [hm] at q; exact q
  | stuck => rw [hm] at q; exact q.elim
end
end PK
namespace PK
open PySem PySem.Spec PyProof.Rows L2
local macro_rules | `(tactic| symm_saturate) => `(tactic| repeat (with_reducible (first | refine s_cons ?_ | refine s_set ?_ | refine s_ret ?_ | refine r_var (by with_unfolding_all rfl) ?_ | refine r_int ?_ | refine r_bin ?_ | refine r_cons ?_ | refine r_nil ?_ | refine r_cmp ?_ | refine r_idx ?_ | refine r_bi ?_ | refine r_ty ?_ | refine r_call ?_ | refine r_callP ?_ | refine s_if ?_ | refine s_for ?_ | refine s_expr ?_ | refine s_sub ?_ | refine s_nil ?_ | refine s_setC ?_ | refine s_boxC ?_ | refine s_retN ?_ | refine s_doc ?_ | refine r_bl ?_ | refine r_tup ?_ | refine r_newL ?_ | refine r_box ?_ | refine r_cut ?_ | refine r_o0 ?_ | refine r_o1 ?_ | refine r_ife ?_ | refine r_str ?_ | refine r_non ?_ | refine r_neg ?_ | refine r_isT ?_ | refine r_app ?_ | refine r_andV ?_ | refine r_andV1 ?_ | refine r_orV ?_ | refine r_orV1 ?_ | refine r_notV ?_ | refine r_get ?_ | refine r_frzE ?_ | refine r_glo (by with_unfolding_all rfl) ?_ | refine t_cmp ?_ | refine t_val ?_ | refine t_and ?_ | refine t_and1 ?_ | refine t_or ?_ | refine t_or1 ?_ | refine t_not ?_ | refine c_lst ?_ | refine c_cat ?_ | refine c_rep ?_ | refine c_cut ?_ | refine c_list ?_ | refine c_lc ?_ | refine c_dnew ?_ | refine c_disp ?_ | refine o_none ?_ | refine o_some ?_ | refine i_seq ?_ | refine i_rng1 ?_ | refine i_rng2 ?_ | refine i_revr ?_ | refine i_rev ?_ | refine i_zip ?_ | refine i_enum ?_ | refine i_keys ?_ | refine i_items ?_ | refine p_add ?_ | refine p_sub ?_ | refine p_lt ?_ | refine p_le ?_ | refine p_gt ?_ | refine p_ge ?_ | refine p_eq ?_ | refine p_ne ?_ | refine p_int ?_ | refine p_intB ?_ | refine p_abs ?_ | refine p_min ?_ | refine p_max ?_ | refine p_lenN ?_ | refine p_lenT ?_ | refine p_lenL ?_ | refine p_tupL ?_ | refine p_pow18 ?_ | refine p_idxR (by assumption) (by with_unfolding_all rfl) ?_ | refine p_idxT (by with_unfolding_all rfl) ?_ | refine p_idxL (by with_unfolding_all rfl) ?_ | refine p_idxN (by assumption) ?_ | refine p_mod (by omega) ?_ | refine p_lenI ?_ | refine p_lenW ?_ | refine p_lenRw ?_ | refine ⟨_, rfl, ?_⟩ | refine p_fdiv (lg31 (by omega)) ?_ | refine p_mul (mul64 (by omega)) ?_)))

/-! ### what the laws share -/
abbrev XF : XP := fun _ _ _ => False
abbrev rP (Q : D → List DO → Prop) (X : XP) : Post := ⟨fun _ S => Q .non S, Q, fun _ _ => False, fun _ _ => False, fun c fs _ S => X c fs S⟩
def irTape : ISs := .cons (.set 2 (.ife (.cmp .lt (.var 1) (.bi .len (.var 0) .nil)) (.idx (.var 0) (.var 1)) (.int 0))) (.cons (.ret (.box (.lst (.cons (.bi .abs (.var 2) .nil) (.cons (.bin .add (.bin .mul (.int 7919) (.var 1)) (.int 104729)) .nil))))) (.nil))
def irPick : ISs := .cons (.ifS (.cmp .ge (.idx (.var 0) (.int 0)) (.bin .pow (.int 10) (.int 18))) (.cons (.set 3 (.bin .mod (.ty .int (.idx (.var 0) (.int 0)) .nil) (.var 1))) (.cons (.sub (.var 0) (.int 0) (.bin .fdiv (.idx (.var 0) (.int 0)) (.var 1))) (.cons (.ret (.var 3)) (.nil)))) (.nil)) (.cons (.sub (.var 0) (.int 1) (.bin .mod (.ty .int (.bin .add (.bin .add (.bin .mul (.idx (.var 0) (.int 1)) (.int 48271)) (.bin .mul (.idx (.var 0) (.int 0)) (.int 69621))) (.int 11)) .nil) (.int 2147483647))) (.cons (.set 2 (.bin .mod (.ty .int (.bin .add (.bin .add (.bin .mul (.idx (.var 0) (.int 1)) (.idx (.var 0) (.int 1))) (.bin .mul (.idx (.var 0) (.int 1)) (.int 40692))) (.int 7)) .nil) (.int 2147483399))) (.cons (.ret (.bin .mod (.ty .int (.bin .fdiv (.var 2) (.int 64)) .nil) (.var 1))) (.nil))))
def irNumber (kp : Nat) : ISs := .cons (.ifS (.cmp .eq (.call false kp (.var 0) (.cons (.int 8) .nil)) (.int 1)) (.cons (.ret (.bin .sub (.bin .mul (.call false kp (.var 0) (.cons (.int 1000003) .nil)) (.int 1000003)) (.bin .mul (.call false kp (.var 0) (.cons (.int 1000003) .nil)) (.int 499979)))) (.nil)) (.nil)) (.cons (.ret (.bin .sub (.call false kp (.var 0) (.cons (.int 19) .nil)) (.int 9))) (.nil))
def irWord (kp : Nat) : ISs := .cons (.set 4 (.tup .nil)) (.cons (.set 5 (.var 3)) (.cons (.set 6 (.idx (.new (.lst (.cons (.int 2) (.cons (.int 2) (.cons (.int 2) (.cons (.int 6) .nil)))))) (.call false kp (.var 0) (.cons (.int 4) .nil)))) (.cons (.forS (.name 7) (.rng1 (.call false kp (.var 0) (.cons (.bin .add (.var 2) (.int 1)) .nil))) (.cons (.set 8 (.tup .nil)) (.cons (.forS (.name 9) (.rng1 (.var 1)) (.cons (.set 10 (.call false kp (.var 0) (.cons (.bin .add (.bi .min (.var 5) (.cons (.var 6) .nil)) (.int 1)) .nil))) (.cons (.set 5 (.bin .sub (.var 5) (.var 10))) (.cons (.set 8 (.bin .add (.var 8) (.tup (.cons (.var 10) .nil)))) (.nil))))) (.cons (.set 4 (.bin .add (.var 4) (.tup (.cons (.var 8) .nil)))) (.nil))))) (.cons (.ret (.var 4)) (.nil)))))
def irRow (kp kn : Nat) : ISs := .cons (.set 3 (.box (.lst .nil))) (.cons (.forS (.name 4) (.rng1 (.call false kp (.var 0) (.cons (.bin .add (.var 2) (.int 1)) .nil))) (.cons (.expr (.app (.var 3) (.ty .tuple (.new (.lc (.rng1 (.var 1)) (.name 5) [("_law_field", 5)] .none (.call false kn (.var 0) .nil))) .nil))) (.nil))) (.cons (.ret (.frz 3)) (.nil)))
def irLMono : ISs := .cons (.set 2 (.int 1)) (.cons (.forS (.name 3) (.rng1 (.bi .len (.var 0) .nil)) (.cons (.forS (.name 4) (.rng1 (.idx (.var 0) (.var 3))) (.cons (.set 2 (.bin .mul (.var 2) (.idx (.var 1) (.var 3)))) (.nil))) (.nil))) (.cons (.ret (.var 2)) (.nil)))
def irLVal (km kv : Nat) : ISs := .cons (.ifS (.cmp .eq (.var 0) (.tup .nil)) (.cons (.ret (.int 1)) (.nil)) (.nil)) (.cons (.set 2 (.int 0)) (.cons (.forS (.name 3) (.rng1 (.bi .len (.var 1) .nil)) (.cons (.set 2 (.bin .add (.var 2) (.bin .mul (.call true km (.idx (.var 0) (.int 0)) (.cons (.idx (.var 1) (.var 3)) .nil)) (.call true kv (.cut (.var 0) (.some (.int 1)) .none) (.cons (.new (.cut (.var 1) (.some (.bin .add (.var 3) (.int 1))) .none)) .nil))))) (.nil))) (.cons (.ret (.var 2)) (.nil))))

/-- a tape: two ints -/
def Tp (S : List DO) (r : Nat) : Prop := ∃ a b : Int, S[r]? = some (.lst [.int a, .int b]) ∧ 0 ≤ a ∧ 0 ≤ b ∧ b < 2147483648
structure Tq (r : Nat) (S S' : List DO) : Prop where
  len : S'.length = S.length
  oth : ∀ j, j ≠ r → S'[j]? = S[j]?
  tp : Tp S' r
theorem Tp.lt {S : List DO} {r : Nat} (t : Tp S r) : r < S.length := by
  obtain ⟨a, b, h, _⟩ := t; exact (List.getElem?_eq_some_iff.mp h).1
theorem Tp.app {S : List DO} {r : Nat} (t : Tp S r) (S' : List DO) : Tp (S ++ S') r := by
  have hr := t.lt
  obtain ⟨a, b, h, z⟩ := t
  exact ⟨a, b, by rw [List.getElem?_append_left hr]; exact h, z⟩
theorem Tp.of {S S' : List DO} {r : Nat} (t : Tp S r) (e : S'[r]? = S[r]?) : Tp S' r := by
  obtain ⟨a, b, h, z⟩ := t
  exact ⟨a, b, e.trans h, z⟩
theorem Tq.set {r : Nat} {S : List DO} {a b : Int} {o : DO} (h : S[r]? = some o) (ha : 0 ≤ a) (hb : 0 ≤ b ∧ b < 2147483648) : Tq r S (S.set r (.lst [.int a, .int b])) :=
  ⟨by simp, fun j hj => by rw [List.getElem?_set_ne (Ne.symm hj)], a, b, by rw [List.getElem?_set_self (by exact (List.getElem?_eq_some_iff.mp h).1)], ha, hb⟩
theorem Tq.trans {r : Nat} {S S1 S2 : List DO} (a : Tq r S S1) (b : Tq r S1 S2) : Tq r S S2 := ⟨b.len.trans a.len, fun j hj => (b.oth j hj).trans (a.oth j hj), b.tp⟩
/-- a new cell beside the tape, given up at the end -/
structure Tr (r : Nat) (S S' : List DO) : Prop where
  len : S'.length = S.length + 1
  oth : ∀ j, j ≠ r → j < S.length → S'[j]? = S[j]?
  new : S'[S.length]? = some .gone
  tp : Tp S' r
/-- no dict among the values of the store -/
def Cl (S : List DO) : Prop := ∀ (j : Nat) o, S[j]? = some o → o.noL false = true
theorem Cl.all {S : List DO} (h : Cl S) : S.all (DO.noL false) = true := List.all_eq_true.mpr fun o ho => by
  obtain ⟨j, e⟩ := List.getElem?_of_mem ho
  exact h j o e
theorem Tp.noL {S : List DO} {r : Nat} (t : Tp S r) {o : DO} (h : S[r]? = some o) : o.noL false = true := by
  obtain ⟨a, b, e, _⟩ := t
  rw [h] at e; cases e; rfl
theorem Tq.cl {r : Nat} {S S' : List DO} (t : Tq r S S') (h : Cl S) : Cl S' := fun j o e => by
  by_cases hj : j = r
  · subst hj; exact t.tp.noL e
  · rw [t.oth j hj] at e; exact h j o e
theorem Tr.cl {r : Nat} {S S' : List DO} (t : Tr r S S') (h : Cl S) : Cl S' := fun j o e => by
  by_cases hj : j = r
  · subst hj; exact t.tp.noL e
  · by_cases hl : j < S.length
    · rw [t.oth j hj hl] at e; exact h j o e
    · have : j = S.length := by
        have := (List.getElem?_eq_some_iff.mp e).1
        have := t.len
        omega
      subst this
      rw [t.new] at e; cases e; rfl
theorem Cl.app {S : List DO} {o : DO} (h : Cl S) (ho : o.noL false = true) : Cl (S ++ [o]) := fun j o' e => by
  by_cases hj : j < S.length
  · rw [List.getElem?_append_left hj] at e; exact h j o' e
  · rw [List.getElem?_append_right (by omega)] at e
    cases k : j - S.length with
    | zero => rw [k] at e; cases e; exact ho
    | succ n => rw [k] at e; simp at e
theorem Cl.nil : Cl [] := fun j o e => by simp at e
theorem Cl.set {S : List DO} {r : Nat} {o : DO} (h : Cl S) (ho : o.noL false = true) : Cl (S.set r o) := fun j o' e => by
  by_cases hj : r = j
  · subst hj
    by_cases hr : r < S.length
    · rw [List.getElem?_set_self hr] at e; cases e; exact ho
    · rw [List.getElem?_eq_none (by simpa using hr)] at e; cases e
  · rw [List.getElem?_set_ne hj] at e; exact h j o' e
theorem Tq.refl {r : Nat} {S : List DO} (t : Tp S r) : Tq r S S := ⟨rfl, fun _ _ => rfl, t⟩
section
variable {v : Ev}
theorem lib_pick {r : Nat} {m : Int} {S : List DO} (t : Tp S r) (hm : 0 < m ∧ m < 2147483648) : wS (evB v irPick) [some (.ref r), some (.int m), none, none] S (rP (fun d S' => ∃ i : Int, d = .int i ∧ 0 ≤ i ∧ i < m ∧ Tq r S S') XF) := by
  obtain ⟨a, b, hr, ha, hb0, hb⟩ := t
  unfold irPick
  symm_saturate
  refine ⟨fun h => ?_, fun h => ?_⟩
  · have h' := of_decide_eq_true h
    symm_saturate
    refine ⟨_, _, _, 0, rfl, rfl, hr, rfl, ?_⟩
    symm_saturate
    refine ⟨?_, ?_, Tq.set hr ?_ ⟨hb0, hb⟩⟩
    · exact Int.fmod_nonneg_of_pos _ hm.1
    · exact Int.fmod_lt_of_pos _ hm.1
    · rw [Int.fdiv_eq_ediv_of_nonneg _ (by omega)]
      exact Int.ediv_nonneg ha (by omega)
  · have h' := of_decide_eq_false h
    symm_saturate
    refine ⟨_, _, _, 1, rfl, rfl, hr, rfl, ?_⟩
    have hb1 := Int.fmod_nonneg_of_pos (b * 48271 + a * 69621 + 11) (show (0 : Int) < 2147483647 by decide)
    have hb2 := Int.fmod_lt_of_pos (b * 48271 + a * 69621 + 11) (show (0 : Int) < 2147483647 by decide)
    generalize (b * 48271 + a * 69621 + 11).fmod 2147483647 = c at hb1 hb2
    have hr2 : (S.set r (.lst [.int a, .int c]))[r]? = some (.lst [.int a, .int c]) := List.getElem?_set_self (List.getElem?_eq_some_iff.mp hr).1
    show wS _ _ (S.set r (.lst [.int a, .int c])) _
    symm_saturate
    refine ⟨?_, ?_, Tq.set hr ha ⟨hb1, by omega⟩⟩
    · exact Int.fmod_nonneg_of_pos _ hm.1
    · exact Int.fmod_lt_of_pos _ hm.1
theorem lib_tape {k : Nat} {ns : List Int} {S : List DO} (hk : k ≤ 63) : wS (evB v irTape) [some (.scr ns), some (.int k), none] S (rP (fun d S' => ∃ a b : Int, d = .ref S.length ∧ S' = S ++ [.lst [.int a, .int b]] ∧ 0 ≤ a ∧ 0 ≤ b ∧ b < 2147483648) XF) := by
  unfold irTape
  have key : ∀ c : Int, wS (evB v (ISs.cons (IS.ret (IE.box (IC.lst (IEs.cons (IE.bi BI.abs (IE.var 2) IEs.nil) (IEs.cons (IE.bin BOp.add (IE.bin BOp.mul (IE.int 7919) (IE.var 1)) (IE.int 104729)) IEs.nil))))) ISs.nil)) [some (.scr ns), some (.int k), some (.int c)] S
      (rP (fun d S' => ∃ a b : Int, d = .ref S.length ∧ S' = S ++ [.lst [.int a, .int b]] ∧ 0 ≤ a ∧ 0 ≤ b ∧ b < 2147483648) XF) := by
    intro c
    symm_saturate
    refine ⟨by simp, _, _, rfl, rfl, ?_, by omega, by omega⟩
    split <;> omega
  symm_saturate
  refine ⟨fun h => ?_, fun h => ?_⟩
  · have h' := of_decide_eq_true h
    symm_saturate
    refine p_idxN (n := ns[k]'(by omega)) ?_ ?_
    · rw [atI_nn (by omega), Int.toNat_natCast]
      exact List.getElem?_eq_getElem (by omega)
    · exact key _
  · refine r_int ?_
    exact key 0
end
/-- call k of v is a pick -/
structure PickOk (v : Ev) (k : Nat) : Prop where
  np : v.np k = 2
  dd : v.dds k = []
  ok : ∀ {r : Nat} {m : Int} {S : List DO}, Tp S r → 0 < m ∧ m < 2147483648 → wE (v.call k [.ref r, .int m]) S (fun d S' => ∃ i : Int, d = .int i ∧ 0 ≤ i ∧ i < m ∧ Tq r S S') XF
structure NumOk (v : Ev) (k : Nat) : Prop where
  np : v.np k = 1
  dd : v.dds k = []
  ok : ∀ {r : Nat} {S : List DO}, Tp S r → wE (v.call k [.ref r]) S (fun d S' => ∃ i : Int, d = .int i ∧ Sm 42 i ∧ Tq r S S') XF
theorem k_of {v : Ev} {k np : Nat} {xs : List D} {S : List DO} {Q : D → List DO → Prop} {X : XP} (h1 : v.np k = np) (h2 : v.dds k = []) (hl : xs.length = np) (q : wE (v.call k xs) S Q X) : xs.length + (v.dds k).length = v.np k ∧ wE (v.call k (xs ++ v.dds k)) S Q X := by
  rw [h1, h2, List.append_nil]
  exact ⟨by simpa using hl, q⟩
theorem k_ofP {v : Ev} {k np : Nat} {xs : List D} {Q : D → List DO → Prop} {X : XP} (h1 : v.np k = np) (h2 : v.dds k = []) (hl : xs.length = np) (hn : D.noRefs xs = true) (q : wE (v.call k xs) [] Q X) : xs.length + (v.dds k).length = v.np k ∧ D.noRefs (xs ++ v.dds k) = true ∧ wE (v.call k (xs ++ v.dds k)) [] Q X := by
  rw [h1, h2, List.append_nil]
  exact ⟨by simpa using hl, hn, q⟩
section
variable {v : Ev} {kp kn : Nat}
theorem PickOk.use (p : PickOk v kp) {r : Nat} {m : Int} {S : List DO} {Q : D → List DO → Prop} {X : XP} (t : Tp S r) (hm : 0 < m ∧ m < 2147483648) (q : ∀ (i : Int) S', 0 ≤ i → i < m → Tq r S S' → Q (.int i) S') : [D.ref r, D.int m].length + (v.dds kp).length = v.np kp ∧ wE (v.call kp ([.ref r, .int m] ++ v.dds kp)) S Q X :=
  k_of p.np p.dd rfl ((p.ok t hm).to fun d S' ⟨i, e, h0, h1, h2⟩ => by subst e; exact q i S' h0 h1 h2)
theorem NumOk.use (p : NumOk v kn) {r : Nat} {S : List DO} {Q : D → List DO → Prop} {X : XP} (t : Tp S r) (q : ∀ (i : Int) S', Sm 42 i → Tq r S S' → Q (.int i) S') : [D.ref r].length + (v.dds kn).length = v.np kn ∧ wE (v.call kn ([.ref r] ++ v.dds kn)) S Q X :=
  k_of p.np p.dd rfl ((p.ok t).to fun d S' ⟨i, e, h0, h2⟩ => by subst e; exact q i S' h0 h2)
/-- a number of the tape -/
theorem lib_number (p : PickOk v kp) {r : Nat} {S : List DO} (t : Tp S r) : wS (evB v (irNumber kp)) [some (.ref r)] S (rP (fun d S' => ∃ i : Int, d = .int i ∧ Sm 42 i ∧ Tq r S S') XF) := by
  unfold irNumber
  symm_saturate
  refine p.use t (by decide) fun i S1 h0 h1 q => ?_
  symm_saturate
  refine ⟨fun h => ?_, fun h => ?_⟩
  · symm_saturate
    refine p.use q.tp (by decide) fun a S2 a0 a1 q2 => ?_
    symm_saturate
    refine p.use q2.tp (by decide) fun b S3 b0 b1 q3 => ?_
    symm_saturate
    exact ⟨Sm.of ⟨by omega, by omega⟩, (q.trans q2).trans q3⟩
  · symm_saturate
    refine p.use q.tp (by decide) fun a S2 a0 a1 q2 => ?_
    symm_saturate
    exact ⟨Sm.of ⟨by omega, by omega⟩, q.trans q2⟩
/-- words: exponents below b -/
def Wd (b : Int) (w : Nat) (W : List (List Int)) : Prop := ∀ m ∈ W, m.length = w ∧ ∀ e ∈ m, 0 ≤ e ∧ e ≤ b
/-- rows -/
def Rw (w : Nat) (R : List (List Int)) : Prop := ∀ m ∈ R, m.length = w ∧ ∀ x ∈ m, Sm 42 x
theorem lib_word (p : PickOk v kp) {r w lo : Nat} {S : List DO} (t : Tp S r) (hw : w ≤ 3) (hlo : lo ≤ 10) : wS (evB v (irWord kp)) [some (.ref r), some (.int w), some (.int lo), some (.int 6), none, none, none, none, none, none, none] S (rP (fun d S' => ∃ W, d = dW W ∧ Wd 6 w W ∧ W.length ≤ lo ∧ Tq r S S') XF) := by
  unfold irWord
  symm_saturate
  refine ⟨by simp, ?_⟩
  symm_saturate
  refine ⟨by simp, ?_⟩
  symm_saturate
  refine p.use t (by decide) fun i S1 h0 h1 q => ?_
  obtain ⟨mo, hm, em⟩ : ∃ mo : Int, (0 ≤ mo ∧ mo ≤ 6) ∧ L2.atI [D.int 2, D.int 2, D.int 2, D.int 6] i = some (.int mo) := by
    have : i = 0 ∨ i = 1 ∨ i = 2 ∨ i = 3 := by omega
    rcases this with rfl | rfl | rfl | rfl <;> first | exact ⟨2, by decide, rfl⟩ | exact ⟨6, by decide, rfl⟩
  refine p_idxL em ?_
  symm_saturate
  refine p.use q.tp (by omega) fun a S2 a0 a1 q2 => ?_
  refine ⟨_, rfl, by omega, ?_⟩
  refine wS_loop (fun k E S' => ∃ (W : List (List Int)) (left : Int) (e7 e8 e9 e10 : Option D), E = [some (.ref r), some (.int w), some (.int lo), some (.int 6), some (dW W), some (.int left), some (.int mo), e7, e8, e9, e10] ∧ (0 ≤ left ∧ left ≤ 6) ∧ W.length = k ∧ Wd 6 w W ∧ Tq r S S') _ 0 ⟨[], 6, none, none, none, none, rfl, by decide, rfl, (fun _ h => by cases h), q.trans q2⟩ ?_ ?_
  · intro j d E S3 hd hI
    obtain ⟨W, left, e7, e8, e9, e10, hE, hl, hW, hWm, q3⟩ := hI
    subst hE
    have hj := (rangeD_get hd).1
    with_reducible refine put_1 ?_
    symm_saturate
    refine ⟨by simp, ?_⟩
    symm_saturate
    refine ⟨by omega, ?_⟩
    refine wS_loop (fun k E S' => ∃ (M : List Int) (left : Int) (e9 e10 : Option D), E = [some (.ref r), some (.int w), some (.int lo), some (.int 6), some (dW W), some (.int left), some (.int mo), some d, some (dI M), e9, e10] ∧ (0 ≤ left ∧ left ≤ 6) ∧ M.length = k ∧ (∀ e ∈ M, 0 ≤ e ∧ e ≤ 6) ∧ Tq r S S') _ 0 ⟨[], left, e9, e10, rfl, hl, rfl, by simp, q3⟩ ?_ ?_
    · rintro j2 d2 E S4 hd2 ⟨M, left, e9, e10, rfl, hl, hM, hMm, q4⟩
      have hj2 := (rangeD_get hd2).1
      with_reducible refine put_1 ?_
      symm_saturate
      refine p.use q4.tp ⟨by split <;> omega, by split <;> omega⟩ fun x S5 x0 x1 q5 => ?_
      have x2 : x ≤ left ∧ x ≤ 6 := by split at x1 <;> omega
      symm_saturate
      refine ⟨by simp, ?_⟩
      refine p_catT (by simp; omega) ?_
      symm_saturate
      refine ⟨M ++ [x], left - x, _, _, by simp [dI]; exact ⟨rfl, rfl⟩, by omega, by simp [hM], ?_, q4.trans q5⟩
      intro e he
      rcases List.mem_append.mp he with he | he
      · exact hMm e he
      · rw [List.mem_singleton.mp he]; exact ⟨x0, x2.2⟩
    · rintro E S4 ⟨M, left, e9, e10, rfl, hl, hM, hMm, q4⟩
      symm_saturate
      have hlen : (0 + (rangeD 0 (w : Int).toNat).length) = w := by simp [rangeD]
      refine ⟨by simp, ?_⟩
      refine p_catT (by simp; omega) ?_
      symm_saturate
      refine ⟨W ++ [M], left, some d, some (dI M), e9, e10, by simp [dW], hl, by simp [hW], ?_, q4⟩
      intro m hm'
      rcases List.mem_append.mp hm' with h | h
      · exact hWm m h
      · rw [List.mem_singleton.mp h]; exact ⟨hM.trans hlen, hMm⟩
  · rintro E S3 ⟨W, left, e7, e8, e9, e10, rfl, hl, hW, hWm, q3⟩
    symm_saturate
    exact ⟨hWm, by rw [hW]; simp [rangeD]; omega, q3⟩
theorem lib_row (p : PickOk v kp) (pn : NumOk v kn) {r w mo : Nat} {S : List DO} (t : Tp S r) (hw : w ≤ 3) (hmo : mo ≤ 60) : wS (evB v (irRow kp kn)) [some (.ref r), some (.int w), some (.int mo), none, none, none] S (rP (fun d S' => ∃ R, d = dR R ∧ Rw w R ∧ R.length ≤ mo ∧ Tr r S S') XF) := by
  unfold irRow
  have hr : r < S.length := t.lt
  let Or1 : List DO → List DO → Prop := fun S S' => S'.length = S.length + 1 ∧ ∀ j, j ≠ r → j < S.length → S'[j]? = S[j]?
  symm_saturate
  refine ⟨by simp, ?_⟩
  have t0 : Tp (S ++ [.lst []]) r := t.app _
  symm_saturate
  refine p.use t0 (by omega) fun a S2 a0 a1 q2 => ?_
  refine ⟨_, rfl, by omega, ?_⟩
  refine wS_loop (fun k E S' => ∃ (R : List (List Int)) (e4 e5 : Option D), E = [some (.ref r), some (.int w), some (.int mo), some (.ref S.length), e4, e5] ∧ R.length = k ∧ Rw w R ∧ Tp S' r ∧ S'[S.length]? = some (.lst (R.map dI)) ∧ Or1 S S') _ 0 ⟨[], none, none, rfl, rfl, (fun _ h => by cases h), q2.tp, ?_, ?_⟩ ?_ ?_
  · rw [q2.oth _ (by omega)]; simp
  · exact ⟨by rw [q2.len]; simp, fun j hj hl => by rw [q2.oth j hj, List.getElem?_append_left hl]⟩
  · intro j d E S3 hd hI
    obtain ⟨R, e4, e5, hE, hR, hRm, t3, h3, o3⟩ := hI
    subst hE
    have hj := (rangeD_get hd).1
    with_reducible refine put_1 ?_
    symm_saturate
    refine ⟨_, _, rfl, h3, ?_⟩
    symm_saturate
    refine ⟨by omega, ?_⟩
    refine ⟨by simp [rangeD]; omega, ?_⟩
    refine w_clInv (fun acc S' => ∃ M : List Int, acc = M.map D.int ∧ (∀ e ∈ M, Sm 42 e) ∧ Tp S' r ∧ S'[S.length]? = some (.lst (R.map dI)) ∧ Or1 S S') _ [] ⟨[], rfl, by simp, t3, h3, o3⟩ ?_ ?_
    · rintro d2 _ acc S4 ⟨M, rfl, hM, t4, h4, o4⟩
      refine ⟨_, rfl, ?_⟩
      symm_saturate
      refine pn.use t4 fun x S5 hx q5 => ?_
      refine ⟨M ++ [x], by simp, ?_, q5.tp, by rw [q5.oth _ (by omega)]; exact h4, by rw [q5.len]; exact o4.1, fun j hj hl => by rw [q5.oth j hj]; exact o4.2 j hj hl⟩
      intro e he
      rcases List.mem_append.mp he with he | he
      · exact hM e he
      · rw [List.mem_singleton.mp he]; exact hx
    · rintro xs S4 ⟨M, hM, hMm, t4, h4, o4⟩ hl
      refine ⟨_, rfl, ?_⟩
      symm_saturate
      refine ⟨_, h4, by simp; omega, ?_⟩
      refine ⟨R ++ [M], _, e5, rfl, by simp [hR], ?_, ?_, ?_, ?_⟩
      · intro m hm
        rcases List.mem_append.mp hm with h | h
        · exact hRm m h
        · rw [List.mem_singleton.mp h]
          refine ⟨?_, hMm⟩
          have := congrArg List.length hM
          simp [rangeD] at this hl
          omega
      · exact t4.of (by rw [List.getElem?_set_ne (by omega)])
      · rw [List.getElem?_set_self (List.getElem?_eq_some_iff.mp h4).1]
        have hM' : xs = M.map D.int := hM
        simp [dI, hM']
      · exact ⟨by simpa using o4.1, fun j hj hl => by rw [List.getElem?_set_ne (by omega)]; exact o4.2 j hj hl⟩
  · rintro E S3 ⟨R, e4, e5, rfl, hR, hRm, t3, h3, o3⟩
    symm_saturate
    refine r_frz rfl h3 rfl ?_
    have hl : R.length ≤ mo := by rw [hR]; simp [rangeD]; omega
    refine ⟨R, rfl, hRm, hl, by simpa using o3.1, fun j hj hl => by rw [List.getElem?_set_ne (by omega)]; exact o3.2 j hj hl, List.getElem?_set_self (List.getElem?_eq_some_iff.mp h3).1, t3.of (List.getElem?_set_ne (by omega))⟩
end
/-! ### the plain sums -/
def mon : List Int → List Int → Int
  | e :: es, x :: xs => x ^ e.toNat * mon es xs
  | _, _ => 1
def T : List (List Int) → List (List Int) → Int
  | [], _ => 1
  | _ :: _, [] => 0
  | w :: W, x :: R => mon w x * T W R + T (w :: W) R
theorem T_nil (R : List (List Int)) : T [] R = 1 := by unfold T; rfl
theorem T_snoc : ∀ (R W : List (List Int)) (w x : List Int), T (W ++ [w]) (R ++ [x]) = T (W ++ [w]) R + T W R * mon w x
  | [], [], w, x => by simp [T]
  | [], [u], w, x => by simp [T]
  | [], u :: v :: W, w, x => by simp [T]
  | r :: R, [], w, x => by
    have ih := T_snoc R [] w x
    simp only [List.nil_append] at ih
    simp only [List.nil_append, List.cons_append, T, ih]
    omega
  | r :: R, u :: W, w, x => by
    have h1 := T_snoc R W w x
    have h2 := T_snoc R (u :: W) w x
    simp only [List.cons_append] at h2
    simp only [List.cons_append, T, h1, h2, Int.mul_add, Int.add_mul, Int.mul_assoc]
    omega
theorem mon_sm {k : Nat} : ∀ {m x : List Int}, (∀ e ∈ m, 0 ≤ e ∧ e ≤ 12) → (∀ a ∈ x, Sm 42 a) → m.length ≤ k → Sm (506 * k + 1) (mon m x)
  | [], _, _, _, _ => by unfold mon; exact Sm.one (by omega)
  | e :: m, [], _, _, _ => by unfold mon; exact Sm.one (by omega)
  | e :: m, a :: x, hm, hx, hl => by
    simp only [List.length_cons] at hl
    obtain ⟨k', rfl⟩ : ∃ k', k = k' + 1 := ⟨k - 1, by omega⟩
    have ih := mon_sm (k := k') (m := m) (x := x) (fun e he => hm e (List.mem_cons_of_mem _ he)) (fun e he => hx e (List.mem_cons_of_mem _ he)) (by omega)
    have h1 := Sm.pow (hx a (List.mem_cons_self ..)) e.toNat
    have h2 := hm e (List.mem_cons_self ..)
    unfold mon
    exact (Sm.mul h1 ih).mono (by have : e.toNat ≤ 12 := by omega
                                  omega)
theorem T_sm {w : Nat} (hw : w ≤ 3) : ∀ {R W : List (List Int)}, Wd 12 w W → Rw w R → Sm (1522 * R.length + 1) (T W R)
  | [], [], _, _ => by unfold T; exact Sm.one (by omega)
  | [], _ :: _, _, _ => by unfold T; exact Sm.zero
  | x :: R, [], _, _ => by unfold T; exact Sm.one (by omega)
  | x :: R, m :: W, hW, hR => by
    have h1 := T_sm hw (R := R) (W := W) (fun m hm => hW m (List.mem_cons_of_mem _ hm)) (fun x hx => hR x (List.mem_cons_of_mem _ hx))
    have h2 := T_sm hw (R := R) (W := m :: W) hW (fun x hx => hR x (List.mem_cons_of_mem _ hx))
    have h3 := mon_sm (k := 3) (hW m (List.mem_cons_self ..)).2 (hR x (List.mem_cons_self ..)).2 (by have := (hW m (List.mem_cons_self ..)).1; omega)
    unfold T
    exact (Sm.add ((Sm.mul h3 h1).mono (show _ ≤ 1522 * R.length + 1521 by omega)) (h2.mono (by omega))).mono (by simp only [List.length_cons]; omega)
theorem Wd.mono {b c : Int} {w : Nat} {W : List (List Int)} (h : Wd b w W) (hb : b ≤ c) : Wd c w W := fun m hm => ⟨(h m hm).1, fun e he => ⟨((h m hm).2 e he).1, by have := ((h m hm).2 e he).2; omega⟩⟩
theorem Wd.tail {b : Int} {w : Nat} {m : List Int} {W : List (List Int)} (h : Wd b w (m :: W)) : Wd b w W := fun q hq => h q (List.mem_cons_of_mem _ hq)
theorem Rw.drop {w : Nat} {R : List (List Int)} (h : Rw w R) (k : Nat) : Rw w (R.drop k) := fun z hz => h z (List.mem_of_mem_drop hz)
theorem mon_snoc : ∀ {m x : List Int} {e a : Int}, m.length = x.length → mon (m ++ [e]) (x ++ [a]) = mon m x * a ^ e.toNat
  | [], [], e, a, _ => by simp [mon]
  | u :: m, v :: x, e, a, h => by
    simp only [List.cons_append, mon]
    rw [mon_snoc (by simpa using h), Int.mul_assoc]
  | [], _ :: _, _, _, h => by simp at h
  | _ :: _, [], _, _, h => by simp at h
section
variable {v : Ev}
theorem lib_lmono {m x : List Int} (hm : ∀ e ∈ m, 0 ≤ e ∧ e ≤ 12) (hx : ∀ a ∈ x, Sm 42 a) (hl : m.length ≤ 3) (hml : m.length = x.length) : wS (evB v irLMono) [some (dI m), some (dI x), none, none, none] [] (rP (fun d S' => d = .int (mon m x)) XF) := by
  unfold irLMono
  symm_saturate
  refine ⟨by omega, ?_⟩
  refine wS_loop (fun k E S' => k ≤ m.length ∧ ∃ t u : Option D, E = [some (dI m), some (dI x), some (.int (mon (m.take k) (x.take k))), t, u] ∧ S' = []) _ 0 ⟨by omega, none, none, by simp [mon], rfl⟩ ?_ ?_
  · rintro j d E S' hd ⟨hk, t, u, rfl, rfl⟩
    obtain ⟨hj, rfl⟩ := rangeD_get hd
    have hj1 : j < m.length := by omega
    have hj2 : j < x.length := by omega
    have h1 := hm _ (List.getElem_mem hj1)
    have h2 := hx _ (List.getElem_mem hj2)
    with_reducible refine put_1 ?_
    symm_saturate
    refine p_idxI (by omega) (show m[(0 + (j : Int)).toNat]? = some m[j] by rw [show (0 + (j : Int)).toNat = j by omega]; exact List.getElem?_eq_getElem hj1) ?_
    symm_saturate
    refine ⟨by omega, ?_⟩
    have hb := mon_sm (k := 3) (m := m.take j) (x := x.take j) (fun e he => hm e (List.mem_of_mem_take he)) (fun a ha => hx a (List.mem_of_mem_take ha)) (by simp; omega)
    refine wS_loop (fun k E S' => ∃ u : Option D, E = [some (dI m), some (dI x), some (.int (mon (m.take j) (x.take j) * x[j] ^ k)), some (.int (0 + (j : Int))), u] ∧ S' = []) _ 0 ⟨u, by simp, rfl⟩ ?_ ?_
    · rintro j3 d3 E S' hd3 ⟨u, rfl, rfl⟩
      have hj3 := (rangeD_get hd3).1
      with_reducible refine put_1 ?_
      symm_saturate
      refine p_idxI (by omega) (show x[(0 + (j : Int)).toNat]? = some x[j] by rw [show (0 + (j : Int)).toNat = j by omega]; exact List.getElem?_eq_getElem hj2) ?_
      refine p_mul (Sm.mulOk (Sm.mul hb (Sm.pow h2 (0 + j3))) h2 (by omega)) ?_
      symm_saturate
      exact ⟨some d3, by simp [Int.pow_succ, Int.mul_assoc], rfl⟩
    · rintro E S' ⟨u, rfl, rfl⟩
      symm_saturate
      refine ⟨by omega, some (.int (0 + (j : Int))), u, ?_, rfl⟩
      rw [take_snoc (show m[0 + j]? = some m[j] by rw [Nat.zero_add]; exact List.getElem?_eq_getElem hj1), take_snoc (show x[0 + j]? = some x[j] by rw [Nat.zero_add]; exact List.getElem?_eq_getElem hj2), mon_snoc (by simp; omega)]
      simp [rangeD_len]
  · rintro E S' ⟨_, t, u, rfl, rfl⟩
    symm_saturate
    have e : (0 + (rangeD 0 (m.length : Int).toNat).length) = m.length := by simp [rangeD_len]
    show D.int (mon (m.take _) (x.take _)) = _
    rw [e, List.take_length, hml, List.take_length]
theorem lawT_step {w : List Int} {W R : List (List Int)} {p : Nat} {x : List Int} (h : R[p]? = some x) : T (w :: W) (R.drop p) = mon w x * T W (R.drop (p + 1)) + T (w :: W) (R.drop (p + 1)) := by
  obtain ⟨hp, e⟩ := List.getElem?_eq_some_iff.mp h
  rw [List.drop_eq_getElem_cons hp, e, T]
/-- one step of the nested sums: the callee's words are shorter -/
theorem lib_lval {km kv w : Nat} (hw : w ≤ 3) {W R : List (List Int)} (hW : Wd 12 w W) (hR : Rw w R) (hRl : R.length ≤ 60) (hWl : W.length ≤ 1000)
    (mn : v.np km = 2 ∧ v.dds km = []) (vn : v.np kv = 2 ∧ v.dds kv = [])
    (mk : ∀ {m x : List Int}, (∀ e ∈ m, 0 ≤ e ∧ e ≤ 12) → (∀ a ∈ x, Sm 42 a) → m.length ≤ 3 → m.length = x.length → wE (v.call km [dI m, dI x]) [] (fun d S' => d = .int (mon m x)) XF)
    (vk : W ≠ [] → ∀ {R' : List (List Int)}, Rw w R' → R'.length ≤ 60 → wE (v.call kv [dW W.tail, dR R']) [] (fun d S' => d = .int (T W.tail R')) XF) :
    wS (evB v (irLVal km kv)) [some (dW W), some (dR R), none, none] [] (rP (fun d S' => d = .int (T W R)) XF) := by
  unfold irLVal
  cases W with
  | nil =>
    symm_saturate
    refine ⟨by simp, ?_⟩
    refine p_eqG (eqOk_of dW_plain rfl (Nat.le_trans dW_depth (by decide)) (by decide)) ?_
    refine ⟨true, rfl, fun _ => ?_, fun z => by cases z⟩
    symm_saturate
    rw [T_nil]
  | cons m W =>
    have hm := hW m (List.mem_cons_self ..)
    symm_saturate
    refine ⟨by simp, ?_⟩
    refine p_eqG (eqOk_of dW_plain rfl (Nat.le_trans dW_depth (by decide)) (by decide)) ?_
    refine ⟨false, (congrArg D.bl eqv_nil).trans rfl, fun z => by (cases z), fun _ => ?_⟩
    symm_saturate
    refine ⟨by omega, ?_⟩
    refine wS_loop (fun k E S' => ∃ u : Option D, E = [some (dW (m :: W)), some (dR R), some (.int (T (m :: W) R - T (m :: W) (R.drop k))), u] ∧ S' = []) _ 0 ⟨none, by simp, rfl⟩ ?_ ?_
    · rintro j d E S' hd ⟨u, rfl, rfl⟩
      obtain ⟨hj, rfl⟩ := rangeD_get hd
      have hj1 : j < R.length := by omega
      have hjx : R[j]? = some R[j] := List.getElem?_eq_getElem hj1
      have hx := hR _ (List.getElem_mem hj1)
      with_reducible refine put_1 ?_
      symm_saturate
      refine p_idxW (a := m) (by decide) rfl ?_
      symm_saturate
      refine p_idxRw (by omega) (show R[(0 + (j : Int)).toNat]? = some R[j] by rw [show (0 + (j : Int)).toNat = j by omega]; exact hjx) ?_
      symm_saturate
      refine k_ofP mn.1 mn.2 rfl (by simp [D.noRefs, dI_noRef]) ((mk hm.2 hx.2 (by omega) (by omega)).to fun d S1 e => ?_)
      subst e
      refine ⟨rfl, ?_⟩
      symm_saturate
      have e1 : D.tup (cutL (List.map dI (m :: W)) (some 1) none) = dW W := by
        rw [show (some (1 : Int)) = some ((1 : Nat) : Int) from rfl, cut_drop]; rfl
      have e2 : D.lst (cutL (List.map dI R) (some (0 + (j : Int) + 1)) none) = dR (R.drop (j + 1)) := by
        rw [show (0 + (j : Int) + 1) = ((j + 1 : Nat) : Int) by omega, cut_drop, ← List.map_drop]; rfl
      rw [e1, e2]
      refine k_ofP vn.1 vn.2 rfl (by simp [D.noRefs, dW_noRef, dR_noRef]) ?_
      refine (vk (by simp) (hR.drop (j + 1)) (by simp; omega)).to fun d S1 e => ?_
      subst e
      refine ⟨rfl, ?_⟩
      have h1 := mon_sm (k := 3) hm.2 hx.2 (by omega)
      have h2 := T_sm hw (R := R.drop (j + 1)) (W := W) hW.tail (hR.drop _)
      have h3 : (R.drop (j + 1)).length ≤ 60 := by simp; omega
      refine p_mul (Sm.mulOk h1 h2 (by omega)) ?_
      symm_saturate
      refine ⟨some (.int (0 + (j : Int))), ?_, rfl⟩
      have st := lawT_step (w := m) (W := W) hjx
      have e3 : T (m :: W) R - T (m :: W) (R.drop (0 + j)) + mon m R[j] * T W (R.drop (j + 1)) = T (m :: W) R - T (m :: W) (R.drop (0 + j + 1)) := by
        rw [Nat.zero_add, st]
        omega
      simp only [List.set, List.tail_cons]
      rw [e3]
    · rintro E S' ⟨u, rfl, rfl⟩
      symm_saturate
      show D.int (T (m :: W) R - T (m :: W) (R.drop _)) = _
      rw [rangeD_len, Nat.zero_add, Int.toNat_natCast, List.drop_length]
      simp [T]
end
end PK
namespace PK
open PySem PySem.Spec PyProof.Rows L2

/-! ### dicts told by plain keys -/
structure Emb (κ : Type) [DecidableEq κ] where
  e : κ → D
  k : κ → NestedKey
  tk : ∀ x, tkey (e x) = some (k x)
  inj : ∀ x y, k x = k y → x = y
  nr : ∀ x, (e x).noRef = true
  nl : ∀ b x, (e x).noL b = true
section
variable {κ β : Type} [DecidableEq κ] (em : Emb κ) (f : β → D)
def kD (m : List (κ × β)) : List (D × D) := m.map fun q => (em.e q.1, f q.2)
def look (m : List (κ × β)) (k : κ) : Option β := match m with
  | [] => none
  | (a, b) :: r => if a = k then some b else look r k
def putD (m : List (κ × β)) (k : κ) (v : β) : List (κ × β) := match m with
  | [] => [(k, v)]
  | (a, b) :: r => if a = k then (a, v) :: r else (a, b) :: putD r k v
variable {em f}
theorem Emb.eq (x y : κ) : keyEq (em.e x) (em.e y) = decide (x = y) := by
  obtain ⟨h1, _, _⟩ := tkey_ok (em.tk x)
  obtain ⟨h2, _, _⟩ := tkey_ok (em.tk y)
  unfold keyEq
  rw [h1, h2]
  by_cases h : x = y
  · subst h; simp
  · have : ¬ em.k x = em.k y := fun z => h (em.inj _ _ z)
    simp [h, this]
theorem kD_tkeys (m : List (κ × β)) : tkeys (kD em f m) = true := by
  unfold tkeys kD
  rw [List.all_eq_true]
  rintro q hq
  obtain ⟨p, _, rfl⟩ := List.mem_map.mp hq
  rw [em.tk]; rfl
theorem kD_len (m : List (κ × β)) : (kD em f m).length = m.length := by simp [kD]
theorem kD_get (k : κ) : ∀ m : List (κ × β), dget (kD em f m) (em.e k) = (look m k).map f
  | [] => rfl
  | (a, b) :: r => by
    show (if keyEq (em.e a) (em.e k) = true then some (f b) else dget (kD em f r) (em.e k)) = _
    rw [Emb.eq, kD_get k r]
    show _ = Option.map f (if a = k then some b else look r k)
    by_cases h : a = k <;> simp [h]
theorem kD_put (k : κ) (v : β) : ∀ m : List (κ × β), dput (kD em f m) (em.e k) (f v) = kD em f (putD m k v)
  | [] => rfl
  | (a, b) :: r => by
    show (if keyEq (em.e a) (em.e k) = true then (em.e a, f v) :: kD em f r else (em.e a, f b) :: dput (kD em f r) (em.e k) (f v)) = _
    rw [Emb.eq, kD_put k v r]
    show _ = kD em f (if a = k then (a, v) :: r else (a, b) :: putD r k v)
    by_cases h : a = k <;> simp [h, kD]
theorem putD_len (k : κ) (v : β) : ∀ m : List (κ × β), (putD m k v).length ≤ m.length + 1
  | [] => by simp [putD]
  | (a, b) :: r => by
    unfold putD
    split
    · simp
    · have := putD_len k v r
      simp only [List.length_cons]
      omega
theorem look_put (k : κ) (v : β) (k' : κ) : ∀ m : List (κ × β), look (putD m k v) k' = if k = k' then some v else look m k'
  | [] => by simp [putD, look]
  | (a, b) :: r => by
    unfold putD
    by_cases h : a = k
    · subst h
      simp only [if_pos, look]
      by_cases h' : a = k' <;> simp [h']
    · simp only [if_neg h, look]
      rw [look_put k v k' r]
      by_cases h' : a = k'
      · have : ¬ k = k' := fun z => h (h'.trans z.symm)
        simp [h', this]
      · simp [h']
theorem putD_keys (k : κ) (v : β) : ∀ m : List (κ × β), (putD m k v).map (·.1) = if k ∈ m.map (·.1) then m.map (·.1) else m.map (·.1) ++ [k]
  | [] => by simp [putD]
  | (a, b) :: r => by
    unfold putD
    by_cases h : a = k
    · subst h; simp
    · rw [if_neg h, List.map_cons, putD_keys k v r]
      have : k ≠ a := fun z => h z.symm
      by_cases h' : k ∈ r.map (·.1)
      · simp [h', this]
      · simp only [List.map_cons, List.mem_cons, if_neg h', not_or]
        rw [if_neg (by rintro (z | z); exact this z; exact h' z)]
        rfl
theorem putD_nodup {k : κ} {v : β} {m : List (κ × β)} (h : (m.map (·.1)).Nodup) : ((putD m k v).map (·.1)).Nodup := by
  rw [putD_keys]
  split
  · exact h
  · rename_i h'
    rw [List.nodup_append]
    exact ⟨h, by simp, fun a ha b hb => by rw [List.mem_singleton.mp hb]; exact fun z => h' (z ▸ ha)⟩
theorem putD_all {P : κ × β → Prop} {k : κ} {v : β} : ∀ {m : List (κ × β)}, (∀ q ∈ m, P q) → P (k, v) → ∀ q ∈ putD m k v, P q
  | [], _, h, q, hq => by
    simp only [putD, List.mem_singleton] at hq
    subst hq; exact h
  | (a, b) :: r, h0, h, q, hq => by
    unfold putD at hq
    split at hq
    · rename_i e
      rcases List.mem_cons.mp hq with z | z
      · subst z; rw [e]; exact h
      · exact h0 q (List.mem_cons_of_mem _ z)
    · rcases List.mem_cons.mp hq with z | z
      · subst z; exact h0 _ (List.mem_cons_self ..)
      · exact putD_all (fun q hq => h0 q (List.mem_cons_of_mem _ hq)) h q z
theorem look_mem {k : κ} {v : β} : ∀ {m : List (κ × β)}, look m k = some v → (k, v) ∈ m
  | [], h => by simp [look] at h
  | (a, b) :: r, h => by
    unfold look at h
    split at h
    · rename_i e; cases h; subst e; exact List.mem_cons_self ..
    · exact List.mem_cons_of_mem _ (look_mem h)
theorem look_none {k : κ} : ∀ {m : List (κ × β)}, look m k = none ↔ k ∉ m.map (·.1)
  | [] => by simp [look]
  | (a, b) :: r => by
    unfold look
    by_cases h : a = k
    · simp [h]
    · have h2 : k ≠ a := fun z => h z.symm
      rw [if_neg h, look_none (m := r)]
      simp [h2]
theorem mem_look {k : κ} {v : β} : ∀ {m : List (κ × β)}, (m.map (·.1)).Nodup → (k, v) ∈ m → look m k = some v
  | [], _, h => by cases h
  | (a, b) :: r, nd, h => by
    simp only [List.map_cons, List.nodup_cons] at nd
    unfold look
    rcases List.mem_cons.mp h with z | z
    · cases z; simp
    · have : ¬ a = k := fun e => nd.1 (e ▸ List.mem_map_of_mem (f := (·.1)) z)
      rw [if_neg this]
      exact mem_look nd.2 z
theorem kD_noRef (hf : ∀ b, (f b).noRef = true) : ∀ m : List (κ × β), D.noRefK (kD em f m) = true
  | [] => rfl
  | (a, b) :: r => by
    show (D.noRef (em.e a) && D.noRef (f b) && D.noRefK (kD em f r)) = true
    rw [em.nr, hf, kD_noRef hf r]; rfl
theorem kD_noL (k : Bool) (hf : ∀ b, (f b).noL k = true) : ∀ m : List (κ × β), D.noLK k (kD em f m) = true
  | [] => rfl
  | (a, b) :: r => by
    show (D.noL k (em.e a) && D.noL k (f b) && D.noLK k (kD em f r)) = true
    rw [em.nl, hf, kD_noL k hf r]; rfl
end
/-! ### dicts to ints -/
section
variable {κ : Type} [DecidableEq κ] {em : Emb κ}
abbrev kI (em : Emb κ) (m : List (κ × Int)) : List (D × D) := kD em D.int m
def dv (m : List (κ × Int)) (k : κ) : Int := (look m k).getD 0
def addD (m : List (κ × Int)) (k : κ) (c : Int) : List (κ × Int) := putD m k (dv m k + c)
theorem kI_getD (m : List (κ × Int)) (k : κ) : (dget (kI em m) (em.e k)).getD (.int 0) = .int (dv m k) := by
  unfold kI
  rw [kD_get]
  unfold dv
  cases look m k <;> rfl
theorem kI_add (m : List (κ × Int)) (k : κ) (c : Int) : dput (kI em m) (em.e k) (.int (dv m k + c)) = kI em (addD m k c) := kD_put k _ m
theorem dv_nil (k : κ) : dv ([] : List (κ × Int)) k = 0 := rfl
theorem dv_put (m : List (κ × Int)) (k k' : κ) (c : Int) : dv (putD m k c) k' = if k = k' then c else dv m k' := by
  unfold dv
  rw [look_put]
  by_cases h : k = k' <;> simp [h]
theorem dv_add (m : List (κ × Int)) (k k' : κ) (c : Int) : dv (addD m k c) k' = dv m k' + if k = k' then c else 0 := by
  unfold addD
  rw [dv_put]
  by_cases h : k = k'
  · subst h; simp
  · simp [h]
theorem dv_mem {m : List (κ × Int)} {k : κ} {v : Int} (nd : (m.map (·.1)).Nodup) (h : (k, v) ∈ m) : dv m k = v := by
  unfold dv
  rw [mem_look nd h]; rfl
theorem dv_not {m : List (κ × Int)} {k : κ} (h : k ∉ m.map (·.1)) : dv m k = 0 := by
  unfold dv
  rw [look_none.mpr h]; rfl
theorem kI_noRef (m : List (κ × Int)) : D.noRefK (kI em m) = true := kD_noRef (fun _ => rfl) m
theorem kI_noL (k : Bool) (m : List (κ × Int)) : D.noLK k (kI em m) = true := kD_noL k (fun _ => rfl) m
theorem kI_vOks (m : List (κ × Int)) : vOks (kI em m) = true := by
  unfold vOks kI kD
  rw [List.all_eq_true]
  rintro q hq
  obtain ⟨p, _, rfl⟩ := List.mem_map.mp hq
  rfl
theorem kI_eqOk (m n : List (κ × Int)) : dEqOk (kI em m) (kI em n) = true := by
  unfold dEqOk
  rw [kD_tkeys, kD_tkeys, kI_vOks, kI_vOks]; rfl
theorem kI_dEq (n : List (κ × Int)) : ∀ m : List (κ × Int), dEq (kI em n) (kI em m) = m.all fun q => decide (look n q.1 = some q.2)
  | [] => rfl
  | (a, b) :: r => by
    show (match dget (kI em n) (em.e a) with
      | none => false
      | some u => PyData.eqv (toPy (D.int b)) (toPy u) && dEq (kI em n) (kI em r)) = _
    rw [kI_dEq n r, List.all_cons]
    unfold kI
    rw [kD_get]
    cases h : look n a with
    | none => simp
    | some u =>
      simp only [Option.map_some, toPy, PyData.eqv]
      by_cases e : b = u
      · subst e; simp
      · have e' : ¬ u = b := fun z => e z.symm
        simp [e, e', BEq.beq]
/-- the answer of == -/
def eqD (m n : List (κ × Int)) : Bool := m.length == n.length && m.all fun q => decide (look n q.1 = some q.2)
theorem kI_eq (m n : List (κ × Int)) : ((kI em m).length == (kI em n).length && dEq (kI em n) (kI em m)) = eqD m n := by
  rw [kI_dEq]
  unfold kI eqD
  rw [kD_len, kD_len]
/-- no value is 0 -/
def NZ (m : List (κ × Int)) : Prop := ∀ q ∈ m, q.2 ≠ 0
theorem mem_iff {m : List (κ × Int)} (nd : (m.map (·.1)).Nodup) (nz : NZ m) (k : κ) : k ∈ m.map (·.1) ↔ dv m k ≠ 0 := by
  refine ⟨fun h => ?_, fun h => Decidable.byContradiction fun z => h (dv_not z)⟩
  obtain ⟨⟨a, b⟩, hq, rfl⟩ := List.mem_map.mp h
  rw [dv_mem nd hq]
  exact nz _ hq
theorem sub_len {α : Type} [DecidableEq α] : ∀ {l m : List α}, l.Nodup → (∀ a ∈ l, a ∈ m) → l.length ≤ m.length
  | [], _, _, _ => Nat.zero_le _
  | a :: l, m, nd, h => by
    simp only [List.nodup_cons] at nd
    have ha := h a (List.mem_cons_self ..)
    have := sub_len (l := l) (m := m.erase a) nd.2 fun b hb => by
      have hne : b ≠ a := fun z => nd.1 (z ▸ hb)
      exact (List.mem_erase_of_ne hne).mpr (h b (List.mem_cons_of_mem _ hb))
    rw [List.length_erase_of_mem ha] at this
    have hp := List.length_pos_of_mem ha
    simp only [List.length_cons]
    omega
theorem eqD_of {m n : List (κ × Int)} (nd : (m.map (·.1)).Nodup) (nd' : (n.map (·.1)).Nodup) (nz : NZ m) (nz' : NZ n) (h : ∀ k, dv m k = dv n k) : eqD m n = true := by
  unfold eqD
  have hl : m.length = n.length := by
    have h1 := sub_len nd (m := n.map (·.1)) fun k hk => (mem_iff nd' nz' k).mpr (by rw [← h]; exact (mem_iff nd nz k).mp hk)
    have h2 := sub_len nd' (m := m.map (·.1)) fun k hk => (mem_iff nd nz k).mpr (by rw [h]; exact (mem_iff nd' nz' k).mp hk)
    simp only [List.length_map] at h1 h2
    omega
  rw [Bool.and_eq_true, beq_iff_eq, List.all_eq_true]
  refine ⟨hl, fun ⟨k, v⟩ hq => ?_⟩
  rw [decide_eq_true_eq]
  have e := dv_mem nd hq
  have hv := nz _ hq
  rw [h] at e
  unfold dv at e
  cases hc : look n k with
  | none => rw [hc] at e; exact absurd e.symm hv
  | some u => rw [hc] at e; exact congrArg some e
end
/-! ### words as keys -/
def kI1 (xs : List Int) : NestedKey := .tup (xs.map .num)
def kW (W : List (List Int)) : NestedKey := .tup (W.map kI1)
theorem nkeys_ints : ∀ xs : List Int, nkeys (xs.map .int) = some (xs.map .num)
  | [] => rfl
  | x :: xs => by simp only [List.map_cons, nkeys, nkey, nkeys_ints xs]
theorem nkey_dI (xs : List Int) : nkey (dI xs) = some (kI1 xs) := by
  unfold dI kI1
  simp only [nkey, nkeys_ints]
theorem nkeys_dIs : ∀ W : List (List Int), nkeys (W.map dI) = some (W.map kI1)
  | [] => rfl
  | x :: xs => by simp only [List.map_cons, nkeys, nkey_dI, nkeys_dIs xs]
theorem nkey_dW (W : List (List Int)) : nkey (dW W) = some (kW W) := by
  unfold dW kW
  simp only [nkey, nkeys_dIs]
theorem depth_nums : ∀ xs : List Int, NestedKey.depthAll (xs.map .num) = 0
  | [] => rfl
  | x :: xs => by simp [NestedKey.depthAll, NestedKey.depth, depth_nums xs]
theorem depth_kI1 (xs : List Int) : (kI1 xs).depth ≤ 1 := by
  unfold kI1
  simp only [NestedKey.depth, depth_nums]
  omega
theorem depth_kIs : ∀ W : List (List Int), NestedKey.depthAll (W.map kI1) ≤ 1
  | [] => by simp [NestedKey.depthAll]
  | x :: xs => by
    have h1 := depth_kI1 x
    have h2 := depth_kIs xs
    simp only [List.map_cons, NestedKey.depthAll]
    omega
theorem depth_kW (W : List (List Int)) : (kW W).depth ≤ 2 := by
  have := depth_kIs W
  unfold kW
  simp only [NestedKey.depth]
  omega
theorem tkey_dW (W : List (List Int)) : tkey (dW W) = some (kW W) := by
  have h := nkey_dW W
  unfold dW at h ⊢
  unfold tkey
  dsimp only
  rw [h]
  dsimp only
  rw [if_pos (Nat.le_trans (depth_kW W) (by decide))]
theorem map_inj {α β : Type} {f : α → β} (hf : ∀ x y, f x = f y → x = y) : ∀ {l m : List α}, l.map f = m.map f → l = m
  | [], [], _ => rfl
  | [], _ :: _, h => by simp at h
  | _ :: _, [], h => by simp at h
  | a :: l, b :: m, h => by
    simp only [List.map_cons, List.cons.injEq] at h
    rw [hf _ _ h.1, map_inj hf h.2]
theorem kI1_inj (x y : List Int) (h : kI1 x = kI1 y) : x = y := by
  unfold kI1 at h
  injection h with h
  exact map_inj (fun a b e => by injection e) h
theorem kW_inj (x y : List (List Int)) (h : kW x = kW y) : x = y := by
  unfold kW at h
  injection h with h
  exact map_inj kI1_inj h
theorem noLs_all {k : Bool} : ∀ {ds : List D}, (∀ d ∈ ds, d.noL k = true) → D.noLs k ds = true
  | [], _ => rfl
  | d :: ds, h => by simp only [D.noLs, h d (List.mem_cons_self ..), noLs_all fun e he => h e (List.mem_cons_of_mem _ he), Bool.and_self]
theorem dI_noL (k : Bool) (xs : List Int) : (dI xs).noL k = true := by
  unfold dI D.noL
  exact noLs_all fun d h => by obtain ⟨x, _, rfl⟩ := List.mem_map.mp h; rfl
theorem dW_noL (k : Bool) (W : List (List Int)) : (dW W).noL k = true := by
  unfold dW D.noL
  exact noLs_all fun d h => by obtain ⟨x, _, rfl⟩ := List.mem_map.mp h; exact dI_noL k x
def emW : Emb (List (List Int)) := ⟨dW, kW, tkey_dW, kW_inj, fun _ => dW_noRef, dW_noL⟩
theorem dR_noL (W : List (List Int)) : (dR W).noL false = true := by
  unfold dR D.noL
  rw [noLs_all fun d h => by obtain ⟨x, _, rfl⟩ := List.mem_map.mp h; exact dI_noL false x]
  rfl
end PK
namespace PK
open PySem PySem.Spec PyProof.Rows L2

/-! ### sums over dicts -/
section
variable {κ : Type} [DecidableEq κ]
def wsum (m : List (κ × Int)) (h : κ → Int) : Int := (m.map fun q => q.2 * h q.1).sum
theorem wsum_put {k : κ} {v : Int} {h : κ → Int} : ∀ {m : List (κ × Int)}, (m.map (·.1)).Nodup → wsum (putD m k v) h = wsum m h + (v - dv m k) * h k
  | [], _ => by simp [putD, wsum, dv, look]
  | (a, b) :: r, nd => by
    simp only [List.map_cons, List.nodup_cons] at nd
    unfold putD
    by_cases e : a = k
    · subst e
      have : dv ((a, b) :: r) a = b := by simp [dv, look]
      rw [if_pos rfl, this]
      simp only [wsum, List.map_cons, List.sum_cons, Int.sub_mul]
      omega
    · have e2 : dv ((a, b) :: r) k = dv r k := by simp [dv, look, e]
      have ih := wsum_put (k := k) (v := v) (h := h) nd.2
      rw [if_neg e, e2]
      simp only [wsum, List.map_cons, List.sum_cons] at ih ⊢
      omega
theorem wsum_zero {h : κ → Int} : ∀ {m : List (κ × Int)}, (∀ q ∈ m, q.2 = 0) → wsum m h = 0
  | [], _ => rfl
  | (a, b) :: r, hz => by
    have h1 := hz _ (List.mem_cons_self ..)
    have h2 := wsum_zero (h := h) fun q hq => hz q (List.mem_cons_of_mem _ hq)
    simp only [wsum, List.map_cons, List.sum_cons] at h1 h2 ⊢
    rw [h1, h2]; simp
/-- a dict that counts a list -/
structure Cnt (m : List (κ × Int)) (l : List κ) : Prop where
  nd : (m.map (·.1)).Nodup
  eq : ∀ k, dv m k = (l.count k : Int)
theorem Cnt.sum {h : κ → Int} : ∀ {l : List κ} {m : List (κ × Int)}, Cnt m l → wsum m h = (l.map h).sum
  | [], m, c => wsum_zero fun ⟨k, v⟩ hq => by
    have := dv_mem c.nd hq
    rw [c.eq] at this
    simpa using this.symm
  | x :: l, m, c => by
    have hx : dv m x = (l.count x : Int) + 1 := by rw [c.eq, List.count_cons_self]; omega
    have c' : Cnt (putD m x (dv m x - 1)) l := ⟨putD_nodup c.nd, fun k => by
      rw [dv_put]
      by_cases e : x = k
      · subst e; rw [if_pos rfl, hx]; omega
      · rw [if_neg e, c.eq, List.count_cons_of_ne (by simpa using e)]⟩
    have ih := Cnt.sum (h := h) c'
    rw [wsum_put c.nd] at ih
    simp only [List.map_cons, List.sum_cons]
    have : (dv m x - 1 - dv m x) * h x = - h x := by rw [show dv m x - 1 - dv m x = -1 by omega]; omega
    omega
theorem count_map {μ : Type} [DecidableEq μ] {g : κ → μ} {w : μ} : ∀ l : List κ, (l.map fun k => if g k = w then (1 : Int) else 0).sum = ((l.map g).count w : Int)
  | [] => rfl
  | x :: l => by
    simp only [List.map_cons, List.sum_cons]
    rw [count_map l]
    by_cases e : g x = w
    · rw [if_pos e, e, List.count_cons_self]; omega
    · rw [if_neg e, List.count_cons_of_ne (by simpa using e)]; omega
/-- the pairs of m added to out, by g -/
def addAll {κ' : Type} [DecidableEq κ'] (g : κ → κ') (out : List (κ' × Int)) (m : List (κ × Int)) : List (κ' × Int) := m.foldl (fun o q => addD o (g q.1) q.2) out
variable {κ' : Type} [DecidableEq κ'] {g : κ → κ'}
theorem addAll_dv (w : κ') : ∀ (m : List (κ × Int)) (out : List (κ' × Int)), dv (addAll g out m) w = dv out w + wsum m fun k => if g k = w then 1 else 0
  | [], out => by simp [addAll, wsum]
  | (a, b) :: r, out => by
    show dv (addAll g (addD out (g a) b) r) w = _
    rw [addAll_dv w r, dv_add]
    simp only [wsum, List.map_cons, List.sum_cons]
    by_cases e : g a = w <;> simp [e] <;> omega
theorem addAll_nd : ∀ (m : List (κ × Int)) {out : List (κ' × Int)}, (out.map (·.1)).Nodup → ((addAll g out m).map (·.1)).Nodup
  | [], _, h => h
  | (a, b) :: r, out, h => addAll_nd r (putD_nodup h)
theorem addAll_len : ∀ (m : List (κ × Int)) (out : List (κ' × Int)), (addAll g out m).length ≤ out.length + m.length
  | [], _ => by simp [addAll]
  | (a, b) :: r, out => by
    have h1 := addAll_len r (addD out (g a) b)
    have h2 := putD_len (g a) (dv out (g a) + b) out
    have h3 : (addD out (g a) b).length ≤ out.length + 1 := h2
    show (addAll g (addD out (g a) b) r).length ≤ _
    simp only [List.length_cons]
    omega
def Pos (m : List (κ × Int)) : Prop := ∀ q ∈ m, 0 < q.2
theorem Pos.nz {m : List (κ × Int)} (h : Pos m) : NZ m := fun q hq => by have := h q hq; omega
theorem Pos.dv {m : List (κ × Int)} (h : Pos m) (k : κ) : 0 ≤ dv m k := by
  unfold PK.dv
  cases e : look m k with
  | none => exact Int.le_refl _
  | some v => exact Int.le_of_lt (h _ (look_mem e))
theorem Pos.add {m : List (κ × Int)} {k : κ} {c : Int} (h : Pos m) (hc : 0 < c) : Pos (addD m k c) := putD_all h (by have := h.dv k; show 0 < PK.dv m k + c; omega)
theorem addAll_pos : ∀ {m : List (κ × Int)} {out : List (κ' × Int)}, Pos m → Pos out → Pos (addAll g out m)
  | [], _, _, h => h
  | (a, b) :: r, out, hm, h => addAll_pos (m := r) (fun q hq => hm q (List.mem_cons_of_mem _ hq)) (h.add (hm _ (List.mem_cons_self ..)))
end

/-! ### stuffles -/
def mrg (a b : List Int) : List Int := List.zipWith (· + ·) a b
def lF : List (List Int) → List (List Int) → List (List (List Int))
  | [], B => [B]
  | a :: A, [] => [a :: A]
  | a :: A, b :: B => (lF A (b :: B)).map (a :: ·) ++ ((lF (a :: A) B).map (b :: ·) ++ (lF A B).map (mrg a b :: ·))
termination_by A B => A.length + B.length
theorem lF_nil (B : List (List Int)) : lF [] B = [B] := by unfold lF; rfl
theorem lF_nil' (A : List (List Int)) : lF A [] = [A] := by cases A <;> (unfold lF; rfl)
theorem lF_cons (a b : List Int) (A B : List (List Int)) : lF (a :: A) (b :: B) = (lF A (b :: B)).map (a :: ·) ++ ((lF (a :: A) B).map (b :: ·) ++ (lF A B).map (mrg a b :: ·)) := by
  rw [lF]
theorem mrg_comm : ∀ a b : List Int, mrg a b = mrg b a
  | [], [] => rfl
  | [], _ :: _ => rfl
  | _ :: _, [] => rfl
  | x :: a, y :: b => by
    have := mrg_comm a b
    unfold mrg at this ⊢
    simp only [List.zipWith_cons_cons, this, Int.add_comm]
theorem lF_comm (w : List (List Int)) : ∀ A B : List (List Int), (lF A B).Perm (lF B A)
  | [], B => by rw [lF_nil, lF_nil']
  | a :: A, [] => by rw [lF_nil, lF_nil']
  | a :: A, b :: B => by
    rw [lF_cons, lF_cons]
    have h1 := (lF_comm w A (b :: B)).map (a :: ·)
    have h2 := (lF_comm w (a :: A) B).map (b :: ·)
    have h3 := (lF_comm w A B).map (mrg a b :: ·)
    rw [mrg_comm a b] at h3 ⊢
    refine (List.Perm.append h1 (List.Perm.append h2 h3)).trans ?_
    rw [← List.append_assoc, ← List.append_assoc]
    exact List.Perm.append_right _ List.perm_append_comm
termination_by A B => A.length + B.length
theorem map_cs (y : List Int) (b : List Int) (X : List (List (List Int))) : (X.map (y :: ·)).map (· ++ [b]) = (X.map (· ++ [b])).map (y :: ·) := by
  simp only [List.map_map]; rfl
theorem lF_snoc : ∀ (A B : List (List Int)) (a b : List Int), (lF (A ++ [a]) (B ++ [b])).Perm ((lF A (B ++ [b])).map (· ++ [a]) ++ ((lF (A ++ [a]) B).map (· ++ [b]) ++ (lF A B).map (· ++ [mrg a b])))
  | [], [], a, b => by
    simp only [List.nil_append, lF_cons, lF_nil, lF_nil', List.map_cons, List.map_nil, List.cons_append]
    exact List.Perm.swap _ _ _
  | [], y :: B, a, b => by
    have ih := (lF_snoc [] B a b).map (y :: ·)
    rw [List.perm_iff_count] at ih ⊢
    intro w
    have := ih w
    simp only [List.nil_append, List.cons_append, lF_cons, lF_nil, List.map_append, List.map_cons, List.map_nil, List.count_append, List.count_cons, map_cs] at this ⊢
    omega
  | x :: A, [], a, b => by
    have ih := (lF_snoc A [] a b).map (x :: ·)
    rw [List.perm_iff_count] at ih ⊢
    intro w
    have := ih w
    simp only [List.nil_append, List.cons_append, lF_cons, lF_nil, lF_nil', List.map_append, List.map_cons, List.map_nil, List.count_append, List.count_cons, map_cs] at this ⊢
    omega
  | x :: A, y :: B, a, b => by
    have h1 := (lF_snoc A (y :: B) a b).map (x :: ·)
    have h2 := (lF_snoc (x :: A) B a b).map (y :: ·)
    have h3 := (lF_snoc A B a b).map (mrg x y :: ·)
    rw [List.perm_iff_count] at h1 h2 h3 ⊢
    intro w
    have h1 := h1 w
    have h2 := h2 w
    have h3 := h3 w
    simp only [List.cons_append, lF_cons, List.map_append, List.count_append, map_cs] at h1 h2 h3 ⊢
    omega
termination_by A B => A.length + B.length
theorem lF_len : ∀ A B : List (List Int), (lF A B).length ≤ 3 ^ (A.length + B.length)
  | [], B => by rw [lF_nil]; exact Nat.pos_of_ne_zero (by simp)
  | a :: A, [] => by rw [lF_nil']; exact Nat.pos_of_ne_zero (by simp)
  | a :: A, b :: B => by
    have h1 := lF_len A (b :: B)
    have h2 := lF_len (a :: A) B
    have h3 := lF_len A B
    rw [lF_cons]
    simp only [List.length_append, List.length_map, List.length_cons] at h1 h2 h3 ⊢
    have e1 : 3 ^ (A.length + (B.length + 1)) = 3 * 3 ^ (A.length + B.length) := by rw [show A.length + (B.length + 1) = A.length + B.length + 1 by omega, Nat.pow_succ, Nat.mul_comm]
    have e2 : 3 ^ (A.length + 1 + B.length) = 3 * 3 ^ (A.length + B.length) := by rw [show A.length + 1 + B.length = A.length + B.length + 1 by omega, Nat.pow_succ, Nat.mul_comm]
    have e3 : 3 ^ (A.length + 1 + (B.length + 1)) = 9 * 3 ^ (A.length + B.length) := by rw [show A.length + 1 + (B.length + 1) = A.length + B.length + 1 + 1 by omega, Nat.pow_succ, Nat.pow_succ]; omega
    omega
termination_by A B => A.length + B.length
/-- the words of a product -/
theorem lF_wd {w : Nat} : ∀ {A B : List (List Int)}, Wd 6 w A → Wd 6 w B → ∀ W ∈ lF A B, Wd 12 w W ∧ W.length ≤ A.length + B.length
  | [], B, _, hB, W, h => by
    rw [lF_nil, List.mem_singleton] at h
    subst h; exact ⟨hB.mono (by decide), by simp⟩
  | a :: A, [], hA, _, W, h => by
    rw [lF_nil', List.mem_singleton] at h
    subst h; exact ⟨hA.mono (by decide), by simp⟩
  | a :: A, b :: B, hA, hB, W, h => by
    rw [lF_cons] at h
    have ca := hA a (List.mem_cons_self ..)
    have cb := hB b (List.mem_cons_self ..)
    have cons : ∀ {x : List Int} {V : List (List Int)}, (x.length = w ∧ ∀ e ∈ x, 0 ≤ e ∧ e ≤ 12) → Wd 12 w V → Wd 12 w (x :: V) := fun hx hV m hm => by
      rcases List.mem_cons.mp hm with z | z
      · subst z; exact hx
      · exact hV m z
    simp only [List.mem_append, List.mem_map] at h
    rcases h with ⟨V, hV, rfl⟩ | ⟨V, hV, rfl⟩ | ⟨V, hV, rfl⟩
    · obtain ⟨h1, h2⟩ := lF_wd hA.tail hB V hV
      exact ⟨cons ⟨ca.1, fun e he => ⟨(ca.2 e he).1, by have := (ca.2 e he).2; omega⟩⟩ h1, by simp only [List.length_cons] at h2 ⊢; omega⟩
    · obtain ⟨h1, h2⟩ := lF_wd hA hB.tail V hV
      exact ⟨cons ⟨cb.1, fun e he => ⟨(cb.2 e he).1, by have := (cb.2 e he).2; omega⟩⟩ h1, by simp only [List.length_cons] at h2 ⊢; omega⟩
    · obtain ⟨h1, h2⟩ := lF_wd hA.tail hB.tail V hV
      refine ⟨cons ⟨by unfold mrg; simp [ca.1, cb.1], fun e he => ?_⟩ h1, by simp only [List.length_cons] at h2 ⊢; omega⟩
      unfold mrg at he
      obtain ⟨i, hi⟩ := List.getElem?_of_mem he
      rw [List.getElem?_zipWith] at hi
      cases h1 : a[i]? with
      | none => rw [h1] at hi; cases hi
      | some p =>
        cases h2 : b[i]? with
        | none => rw [h1, h2] at hi; cases hi
        | some q =>
          rw [h1, h2] at hi
          cases hi
          have k1 := ca.2 p (List.mem_of_getElem? h1)
          have k2 := cb.2 q (List.mem_of_getElem? h2)
          exact ⟨by omega, by omega⟩
termination_by A B => A.length + B.length
theorem mon_mrg : ∀ {a b x : List Int}, a.length = b.length → (∀ e ∈ a, 0 ≤ e) → (∀ e ∈ b, 0 ≤ e) → mon (mrg a b) x = mon a x * mon b x
  | [], [], x, _, _, _ => by simp [mrg, mon]
  | [], _ :: _, _, h, _, _ => by simp at h
  | _ :: _, [], _, h, _, _ => by simp at h
  | e :: a, f :: b, [], _, _, _ => by simp [mrg, mon]
  | e :: a, f :: b, x :: xs, h, h1, h2 => by
    have ih := mon_mrg (a := a) (b := b) (x := xs) (by simpa using h) (fun e he => h1 e (List.mem_cons_of_mem _ he)) (fun e he => h2 e (List.mem_cons_of_mem _ he))
    have k1 := h1 e (List.mem_cons_self ..)
    have k2 := h2 f (List.mem_cons_self ..)
    unfold mrg at ih ⊢
    simp only [List.zipWith_cons_cons, mon]
    rw [ih, show (e + f).toNat = e.toNat + f.toNat by omega, Int.pow_add]
    simp only [Int.mul_assoc, Int.mul_left_comm, Int.mul_comm]
theorem sum_map_add {α : Type} (f g : α → Int) : ∀ l : List α, (l.map fun a => f a + g a).sum = (l.map f).sum + (l.map g).sum
  | [] => rfl
  | a :: l => by simp only [List.map_cons, List.sum_cons]; rw [sum_map_add f g l]; omega
theorem sum_map_mul {α : Type} (c : Int) (f : α → Int) : ∀ l : List α, (l.map fun a => c * f a).sum = c * (l.map f).sum
  | [] => by simp
  | a :: l => by simp only [List.map_cons, List.sum_cons]; rw [sum_map_mul c f l, Int.mul_add]
/-- the product of two ordered sums -/
theorem lF_T {w : Nat} : ∀ (R : List (List Int)) {A B : List (List Int)}, Wd 6 w A → Wd 6 w B → ((lF A B).map fun W => T W R).sum = T A R * T B R
  | R, [], B, _, _ => by rw [lF_nil, T_nil]; simp
  | R, a :: A, [], _, _ => by rw [lF_nil', T_nil]; simp
  | [], a :: A, b :: B, _, _ => by
    have z : ∀ l : List (List (List Int)), (∀ W ∈ l, W ≠ []) → (l.map fun W => T W []).sum = 0 := by
      intro l
      induction l with
      | nil => intro _; rfl
      | cons W l ih =>
        intro h
        simp only [List.map_cons, List.sum_cons]
        rw [ih fun V hV => h V (List.mem_cons_of_mem _ hV)]
        have := h W (List.mem_cons_self ..)
        cases W with
        | nil => exact absurd rfl this
        | cons _ _ => simp [T]
    rw [z _ (by
      intro W h
      rw [lF_cons] at h
      simp only [List.mem_append, List.mem_map] at h
      rcases h with ⟨V, _, rfl⟩ | ⟨V, _, rfl⟩ | ⟨V, _, rfl⟩ <;> simp)]
    simp [T]
  | x :: R, a :: A, b :: B, hA, hB => by
    have ca := hA a (List.mem_cons_self ..)
    have cb := hB b (List.mem_cons_self ..)
    have i0 := lF_T R hA hB
    have i1 := lF_T R hA.tail hB
    have i2 := lF_T R hA hB.tail
    have i3 := lF_T R hA.tail hB.tail
    have hm := mon_mrg (x := x) (ca.1.trans cb.1.symm) (fun e he => (ca.2 e he).1) (fun e he => (cb.2 e he).1)
    rw [lF_cons] at i0 ⊢
    simp only [List.map_append, List.map_map, List.sum_append, Function.comp_def] at i0 ⊢
    have t : ∀ (c : List Int) (l : List (List (List Int))), (l.map fun W => T (c :: W) (x :: R)).sum = mon c x * (l.map fun W => T W R).sum + (l.map fun W => T (c :: W) R).sum := by
      intro c l
      simp only [T]
      rw [sum_map_add, sum_map_mul]
    rw [t, t, t, i1, i2, i3, hm]
    simp only [T]
    have e : (mon a x * T A R + T (a :: A) R) * (mon b x * T B R + T (b :: B) R) = mon a x * (T A R * T (b :: B) R) + mon b x * (T (a :: A) R * T B R) + mon a x * mon b x * (T A R * T B R) + T (a :: A) R * T (b :: B) R := by
      simp only [Int.add_mul, Int.mul_add]
      have e1 : mon a x * T A R * (mon b x * T B R) = mon a x * mon b x * (T A R * T B R) := by simp only [Int.mul_assoc, Int.mul_left_comm, Int.mul_comm]
      have e2 : T (a :: A) R * (mon b x * T B R) = mon b x * (T (a :: A) R * T B R) := by simp only [Int.mul_assoc, Int.mul_left_comm, Int.mul_comm]
      have e3 : mon a x * T A R * T (b :: B) R = mon a x * (T A R * T (b :: B) R) := by simp only [Int.mul_assoc]
      omega
    rw [e, ← i0]
    generalize mon a x * (T A R * T (b :: B) R) = f1
    generalize mon b x * (T (a :: A) R * T B R) = f2
    generalize mon a x * mon b x * (T A R * T B R) = f3
    omega
termination_by R A B => R.length + A.length + B.length
end PK
namespace PK
open PySem PySem.Spec PyProof.Rows L2
section
variable {v : Ev} {S : List DO} {E : PK.Env} {X : XP} {Q : D → List DO → Prop}
theorem r_newDn (q : wE (evC v .dnew E) S (fun o S => ∃ kvs, o = .dct kvs ∧ Q (.dct kvs) S) X) : wE (evE v (.new .dnew) E) S Q X :=
  r_new (q.mono (fun o S ⟨xs, e, h⟩ => ⟨.dct xs, by rw [e]; rfl, h⟩) fun _ _ _ z => z)
theorem r_newDs {k w : IE} (q : wE (evC v (.disp k w) E) S (fun o S => ∃ kvs, o = .dct kvs ∧ Q (.dct kvs) S) X) : wE (evE v (.new (.disp k w)) E) S Q X :=
  r_new (q.mono (fun o S ⟨xs, e, h⟩ => ⟨.dct xs, by rw [e]; rfl, h⟩) fun _ _ _ z => z)
theorem p_catW1 {x : List Int} {W : List (List Int)} (h : W.length ≤ 1000000) (q : Q (dW (x :: W)) S) : wE (bopM .add (.tup [dI x]) (dW W)) S Q X :=
  p_catT (xs := [dI x]) (ys := W.map dI) (by simp; omega) q
theorem p_catWr {x : List Int} {W : List (List Int)} (h : W.length ≤ 1000000) (q : Q (dW (W ++ [x])) S) : wE (bopM .add (dW W) (.tup [dI x])) S Q X :=
  p_catT (xs := W.map dI) (ys := [dI x]) (by simp; omega) (by rw [show List.map dI W ++ [dI x] = (W ++ [x]).map dI by simp]; exact q)
theorem p_catWW {V W : List (List Int)} (h : V.length + W.length ≤ 1000000) (q : Q (dW (V ++ W)) S) : wE (bopM .add (dW V) (dW W)) S Q X :=
  p_catT (xs := V.map dI) (ys := W.map dI) (by simp; omega) (by rw [← List.map_append]; exact q)
end
theorem setS_self {S : List DO} {r : Nat} {o : DO} (h : S[r]? = some o) : S.set r o = S := by
  refine List.ext_getElem? fun i => ?_
  by_cases e : r = i
  · subst e; rw [List.getElem?_set_self (List.getElem?_eq_some_iff.mp h).1, h]
  · rw [List.getElem?_set_ne e]
local macro_rules | `(tactic| symm_saturate) => `(tactic| repeat (with_reducible (first | refine s_cons ?_ | refine s_set ?_ | refine s_ret ?_ | refine r_var (by with_unfolding_all rfl) ?_ | refine r_int ?_ | refine r_bin ?_ | refine r_cons ?_ | refine r_nil ?_ | refine r_cmp ?_ | refine r_idx ?_ | refine r_bi ?_ | refine r_ty ?_ | refine r_call ?_ | refine r_callP ?_ | refine s_if ?_ | refine s_for ?_ | refine s_expr ?_ | refine s_nil ?_ | refine s_setC ?_ | refine s_boxC ?_ | refine s_retN ?_ | refine s_doc ?_ | refine r_bl ?_ | refine r_tup ?_ | refine r_newDn ?_ | refine r_newDs ?_ | refine r_newL ?_ | refine r_box ?_ | refine r_cut ?_ | refine r_o0 ?_ | refine r_o1 ?_ | refine r_ife ?_ | refine r_str ?_ | refine r_non ?_ | refine r_neg ?_ | refine r_isT ?_ | refine r_app ?_ | refine r_andV ?_ | refine r_andV1 ?_ | refine r_orV ?_ | refine r_orV1 ?_ | refine r_notV ?_ | refine r_get ?_ | refine r_frzE ?_ | refine r_glo (by with_unfolding_all rfl) ?_ | refine t_cmp ?_ | refine t_val ?_ | refine t_and ?_ | refine t_and1 ?_ | refine t_or ?_ | refine t_or1 ?_ | refine t_not ?_ | refine c_lst ?_ | refine c_cat ?_ | refine c_rep ?_ | refine c_cut ?_ | refine c_list ?_ | refine c_lc ?_ | refine c_dnew ?_ | refine c_disp ?_ | refine o_none ?_ | refine o_some ?_ | refine i_seq ?_ | refine i_rng1 ?_ | refine i_rng2 ?_ | refine i_revr ?_ | refine i_rev ?_ | refine i_zip ?_ | refine i_enum ?_ | refine i_keys ?_ | refine i_items ?_ | refine p_add ?_ | refine p_sub ?_ | refine p_lt ?_ | refine p_le ?_ | refine p_gt ?_ | refine p_ge ?_ | refine p_eq ?_ | refine p_ne ?_ | refine p_int ?_ | refine p_intB ?_ | refine p_abs ?_ | refine p_min ?_ | refine p_max ?_ | refine p_lenN ?_ | refine p_lenT ?_ | refine p_lenL ?_ | refine p_tupL ?_ | refine p_pow18 ?_ | refine p_idxR (by assumption) (by with_unfolding_all rfl) ?_ | refine p_idxT (by with_unfolding_all rfl) ?_ | refine p_idxL (by with_unfolding_all rfl) ?_ | refine p_idxN (by assumption) ?_ | refine p_mod (by omega) ?_ | refine p_lenI ?_ | refine p_lenW ?_ | refine p_lenRw ?_ | refine ⟨_, rfl, ?_⟩ | refine p_fdiv (lg31 (by omega)) ?_ | refine p_mul (mul64 (by omega)) ?_)))
def irSt (ks km : Nat) : ISs := .cons (.ifS (.or (.cmp .eq (.var 0) (.tup .nil)) (.or1 (.cmp .eq (.var 1) (.tup .nil)))) (.cons (.ret (.new (.disp (.bin .add (.var 0) (.var 1)) (.int 1)))) (.nil)) (.nil)) (.cons (.set 2 (.box .dnew)) (.cons (.par 4 5 (.cons (.idx (.var 0) (.neg (.int 1))) (.cons (.idx (.var 1) (.neg (.int 1))) .nil))) (.cons (.forS (.tup (.cons (.name 6) (.cons (.name 7) .nil))) (.items (.call true ks (.cut (.var 0) .none (.some (.neg (.int 1)))) (.cons (.var 1) .nil))) (.cons (.sub (.var 2) (.bin .add (.var 6) (.tup (.cons (.var 4) .nil))) (.bin .add (.get (.var 2) (.bin .add (.var 6) (.tup (.cons (.var 4) .nil))) (.cons (.int 0) .nil)) (.var 7))) (.nil))) (.cons (.forS (.tup (.cons (.name 6) (.cons (.name 7) .nil))) (.items (.call true ks (.var 0) (.cons (.cut (.var 1) .none (.some (.neg (.int 1)))) .nil))) (.cons (.sub (.var 2) (.bin .add (.var 6) (.tup (.cons (.var 5) .nil))) (.bin .add (.get (.var 2) (.bin .add (.var 6) (.tup (.cons (.var 5) .nil))) (.cons (.int 0) .nil)) (.var 7))) (.nil))) (.cons (.set 3 (.call true km (.var 4) (.cons (.var 5) .nil))) (.cons (.forS (.tup (.cons (.name 6) (.cons (.name 7) .nil))) (.items (.call true ks (.cut (.var 0) .none (.some (.neg (.int 1)))) (.cons (.cut (.var 1) .none (.some (.neg (.int 1)))) .nil))) (.cons (.sub (.var 2) (.bin .add (.var 6) (.tup (.cons (.var 3) .nil))) (.bin .add (.get (.var 2) (.bin .add (.var 6) (.tup (.cons (.var 3) .nil))) (.cons (.int 0) .nil)) (.var 7))) (.nil))) (.cons (.ret (.frz 2)) (.nil))))))))
def irStB (ks km : Nat) : ISs := .cons (.ifS (.or (.cmp .eq (.var 0) (.tup .nil)) (.or1 (.cmp .eq (.var 1) (.tup .nil)))) (.cons (.ret (.box (.disp (.bin .add (.var 0) (.var 1)) (.int 1)))) (.nil)) (.nil)) (.cons (.set 2 (.box .dnew)) (.cons (.par 4 5 (.cons (.idx (.var 0) (.neg (.int 1))) (.cons (.idx (.var 1) (.neg (.int 1))) .nil))) (.cons (.forS (.tup (.cons (.name 6) (.cons (.name 7) .nil))) (.items (.call true ks (.cut (.var 0) .none (.some (.neg (.int 1)))) (.cons (.var 1) .nil))) (.cons (.sub (.var 2) (.bin .add (.var 6) (.tup (.cons (.var 4) .nil))) (.bin .add (.get (.var 2) (.bin .add (.var 6) (.tup (.cons (.var 4) .nil))) (.cons (.int 0) .nil)) (.var 7))) (.nil))) (.cons (.forS (.tup (.cons (.name 6) (.cons (.name 7) .nil))) (.items (.call true ks (.var 0) (.cons (.cut (.var 1) .none (.some (.neg (.int 1)))) .nil))) (.cons (.sub (.var 2) (.bin .add (.var 6) (.tup (.cons (.var 5) .nil))) (.bin .add (.get (.var 2) (.bin .add (.var 6) (.tup (.cons (.var 5) .nil))) (.cons (.int 0) .nil)) (.var 7))) (.nil))) (.cons (.set 3 (.call true km (.var 4) (.cons (.var 5) .nil))) (.cons (.forS (.tup (.cons (.name 6) (.cons (.name 7) .nil))) (.items (.call true ks (.cut (.var 0) .none (.some (.neg (.int 1)))) (.cons (.cut (.var 1) .none (.some (.neg (.int 1)))) .nil))) (.cons (.sub (.var 2) (.bin .add (.var 6) (.tup (.cons (.var 3) .nil))) (.bin .add (.get (.var 2) (.bin .add (.var 6) (.tup (.cons (.var 3) .nil))) (.cons (.int 0) .nil)) (.var 7))) (.nil))) (.cons (.ret (.var 2)) (.nil))))))))
def irMerged : ISs := .cons (.ret (.ty .tuple (.new (.lc (.zip (.var 0) (.var 1)) (.tup (.cons (.name 2) (.cons (.name 3) .nil))) [("left", 2), ("right", 3)] .none (.bin .add (.var 2) (.var 3)))) .nil)) (.nil)
def irFront : ISs := .cons (.forS (.name 3) (.keys (.var 1)) (.cons (.set 4 (.bin .add (.tup (.cons (.var 2) .nil)) (.var 3))) (.cons (.sub (.var 0) (.var 4) (.bin .add (.get (.var 0) (.var 4) (.cons (.int 0) .nil)) (.idx (.var 1) (.var 3)))) (.nil)))) (.cons (.ret (.var 0)) (.nil))
def irLSt (ks kf : Nat) : ISs := .cons (.ifS (.or (.cmp .eq (.var 0) (.tup .nil)) (.or1 (.cmp .eq (.var 1) (.tup .nil)))) (.cons (.ret (.new (.disp (.bin .add (.var 0) (.var 1)) (.int 1)))) (.nil)) (.nil)) (.cons (.set 2 (.ty .tuple (.new (.lc (.rng1 (.bi .len (.idx (.var 0) (.int 0)) .nil)) (.name 4) [("_law_field", 4)] .none (.bin .add (.idx (.idx (.var 0) (.int 0)) (.var 4)) (.idx (.idx (.var 1) (.int 0)) (.var 4))))) .nil)) (.cons (.set 3 (.call false kf (.box .dnew) (.cons (.call true ks (.cut (.var 0) (.some (.int 1)) .none) (.cons (.var 1) .nil)) (.cons (.idx (.var 0) (.int 0)) .nil)))) (.cons (.set 3 (.call false kf (.var 3) (.cons (.call true ks (.var 0) (.cons (.cut (.var 1) (.some (.int 1)) .none) .nil)) (.cons (.idx (.var 1) (.int 0)) .nil)))) (.cons (.ret (.frzE (.call false kf (.var 3) (.cons (.call true ks (.cut (.var 0) (.some (.int 1)) .none) (.cons (.cut (.var 1) (.some (.int 1)) .none) .nil)) (.cons (.var 2) .nil))))) (.nil)))))
def irLStB (ks kf : Nat) : ISs := .cons (.ifS (.or (.cmp .eq (.var 0) (.tup .nil)) (.or1 (.cmp .eq (.var 1) (.tup .nil)))) (.cons (.ret (.box (.disp (.bin .add (.var 0) (.var 1)) (.int 1)))) (.nil)) (.nil)) (.cons (.set 2 (.ty .tuple (.new (.lc (.rng1 (.bi .len (.idx (.var 0) (.int 0)) .nil)) (.name 4) [("_law_field", 4)] .none (.bin .add (.idx (.idx (.var 0) (.int 0)) (.var 4)) (.idx (.idx (.var 1) (.int 0)) (.var 4))))) .nil)) (.cons (.set 3 (.call false kf (.box .dnew) (.cons (.call true ks (.cut (.var 0) (.some (.int 1)) .none) (.cons (.var 1) .nil)) (.cons (.idx (.var 0) (.int 0)) .nil)))) (.cons (.set 3 (.call false kf (.var 3) (.cons (.call true ks (.var 0) (.cons (.cut (.var 1) (.some (.int 1)) .none) .nil)) (.cons (.idx (.var 1) (.int 0)) .nil)))) (.cons (.ret (.call false kf (.var 3) (.cons (.call true ks (.cut (.var 0) (.some (.int 1)) .none) (.cons (.cut (.var 1) (.some (.int 1)) .none) .nil)) (.cons (.var 2) .nil)))) (.nil)))))

/-- for word, count in m.items(): out[word + (x,)] = out.get(word + (x,), 0) + count -/
theorem lib_stLoop {v : Ev} {j r : Nat} {x : List Int} {d0 d1 : D} {e3 e4 e5 : Option D} (hj : ∀ u6 u7 : Option D, ([some d0, some d1, some (.ref r), e3, e4, e5, u6, u7] : PK.Env)[j]? = some (some (dI x))) {P : Post} :
    ∀ (m : List (List (List Int) × Int)) (out : List (List (List Int) × Int)) (S : List DO) (e6 e7 : Option D), S[r]? = some (.dct (kI emW out)) → (∀ q ∈ m, q.1.length ≤ 1000) → out.length + m.length < 16777216 →
    (∀ e6 e7, P.nx [some d0, some d1, some (.ref r), e3, e4, e5, e6, e7] (S.set r (.dct (kI emW (addAll (· ++ [x]) out m))))) →
    wS (sLoop (mTgt (.tup (.cons (.name 6) (.cons (.name 7) .nil)))) (evB v (.cons (.sub (.var 2) (.bin .add (.var 6) (.tup (.cons (.var j) .nil))) (.bin .add (.get (.var 2) (.bin .add (.var 6) (.tup (.cons (.var j) .nil))) (.cons (.int 0) .nil)) (.var 7))) (.nil))) ((kI emW m).map fun q => D.tup [q.1, q.2])) [some d0, some d1, some (.ref r), e3, e4, e5, e6, e7] S P
  | [], out, S, e6, e7, hr, _, _, h => by
    show wS (sLoop _ _ []) _ _ _
    rw [wS_loop0]
    have := h e6 e7
    rw [show addAll (· ++ [x]) out [] = out from rfl, setS_self hr] at this
    exact this
  | (W, c) :: m, out, S, e6, e7, hr, hm, hl, h => by
    show wS (sLoop _ _ (D.tup [dW W, .int c] :: _)) _ _ _
    rw [wS_loop1]
    refine put_n rfl ?_
    show wS _ [some d0, some d1, some (.ref r), e3, e4, e5, some (dW W), some (.int c)] _ _
    have hW := hm _ (List.mem_cons_self ..)
    dsimp only at hW
    have hv : viewD S (.ref r) = some (kI emW out) := by unfold viewD; simp only [hr]
    simp only [List.length_cons] at hl
    refine s_cons (s_subD ?_)
    refine r_bin (r_get (r_var rfl ⟨_, hv, ?_⟩))
    refine r_cons (r_bin (r_var rfl (r_tup (r_cons (r_var (hj _ _) (r_nil ⟨by simp, ?_⟩))))))
    refine p_catWr (by omega) ?_
    refine r_cons (r_int (r_nil ?_))
    refine p_get2 hv (tkey_dW _) (kD_tkeys _) ?_
    rw [show dget (kI emW out) (dW (W ++ [x])) = dget (kI emW out) (emW.e (W ++ [x])) from rfl, kI_getD]
    refine r_var rfl (p_add ?_)
    refine r_var rfl (r_bin (r_var rfl (r_tup (r_cons (r_var (hj _ _) (r_nil ⟨by simp, ?_⟩))))))
    refine p_catWr (by omega) ?_
    refine ⟨r, _, rfl, hr, by rw [tkey_dW]; rfl, kD_tkeys _, by unfold kI; rw [kD_len]; omega, s_nil ?_⟩
    rw [show dput (kI emW out) (dW (W ++ [x])) (.int (dv out (W ++ [x]) + c)) = dput (kI emW out) (emW.e (W ++ [x])) (.int (dv out (W ++ [x]) + c)) from rfl, kI_add]
    have hr2 : (S.set r (.dct (kI emW (addD out (W ++ [x]) c))))[r]? = some (.dct (kI emW (addD out (W ++ [x]) c))) := List.getElem?_set_self (List.getElem?_eq_some_iff.mp hr).1
    have hl2 := putD_len (W ++ [x]) (dv out (W ++ [x]) + c) out
    refine lib_stLoop hj m (addD out (W ++ [x]) c) _ _ _ hr2 (fun q hq => hm q (List.mem_cons_of_mem _ hq)) (by show (putD out (W ++ [x]) _).length + m.length < _; omega) ?_
    intro e6 e7
    rw [List.set_set]
    exact h e6 e7
theorem w_clMapW {t : Tgt} {m : Env → EM D} {Ew : Env} {X : XP} {S : List DO} (f : D → D) : ∀ (ds : List D) {Q : List D → List DO → Prop}, (∀ d ∈ ds, ∃ E1, t.put d Ew = some E1 ∧ wE (m E1) S (fun x S' => x = f d ∧ S' = S) fun _ _ _ => False) → Q (ds.map f) S → wE (cLoop t eYes m Ew ds) S Q X := fun ds Q hs h =>
  w_clMap f ds (fun d hd => by
    obtain ⟨E1, e1, e2⟩ := hs d hd
    obtain ⟨a, S', e3, e4, e5⟩ := e2.ok
    subst e4 e5
    exact ⟨E1, e1, e3⟩) h
theorem evTo_none {v : Ev} : evTo v .none = eYes := by unfold evTo; rfl
def addP : D → D
  | .tup [.int l, .int r] => .int (l + r)
  | _ => .non
theorem addP_zip : ∀ a b : List Int, (List.zipWith pairD (a.map .int) (b.map .int)).map addP = (mrg a b).map D.int
  | [], _ => rfl
  | _ :: _, [] => rfl
  | x :: a, y :: b => by
    have := addP_zip a b
    unfold mrg at this ⊢
    simp only [List.map_cons, List.zipWith_cons_cons, this]
    rfl
theorem zip_mem : ∀ {a b : List Int} {d : D}, d ∈ List.zipWith pairD (a.map D.int) (b.map D.int) → ∃ l r : Int, d = .tup [.int l, .int r]
  | [], _, _, h => by simp at h
  | _ :: _, [], _, h => by simp at h
  | x :: a, y :: b, d, h => by
    simp only [List.map_cons, List.zipWith_cons_cons, List.mem_cons] at h
    rcases h with h | h
    · exact ⟨x, y, h⟩
    · exact zip_mem h
theorem lib_merged {v : Ev} {a b : List Int} (h : a.length ≤ 1000) : wS (evB v irMerged) [some (dI a), some (dI b), none, none] [] (rP (fun d S' => d = dI (mrg a b)) XF) := by
  unfold irMerged
  refine s_cons (s_ret (r_ty (r_cons (r_newL (c_lc (i_zip ?_))))))
  refine r_var rfl (r_var rfl ⟨List.zipWith pairD (a.map .int) (b.map .int), rfl, by simp; omega, ?_⟩)
  rw [evTo_none]
  refine w_clMapW addP _ (fun d hd => ?_) ?_
  · obtain ⟨l, r, rfl⟩ := zip_mem hd
    refine ⟨_, rfl, ?_⟩
    exact r_bin (r_var rfl (r_var rfl (p_add ⟨rfl, rfl⟩)))
  · rw [addP_zip]
    exact ⟨_, rfl, r_nil (p_tupL rfl)⟩
structure StOk (v : Ev) (ks : Nat) (A B : List (List Int)) : Prop where
  np : v.np ks = 2
  dd : v.dds ks = []
  ok : wE (v.call ks [dW A, dW B]) [] (fun d S' => ∃ m, d = .dct (kI emW m) ∧ Cnt m (lF A B) ∧ Pos m ∧ m.length ≤ (lF A B).length) XF
structure MgOk (v : Ev) (km : Nat) : Prop where
  np : v.np km = 2
  dd : v.dds km = []
  ok : ∀ {a b : List Int}, a.length ≤ 1000 → wE (v.call km [dI a, dI b]) [] (fun d S' => d = dI (mrg a b)) XF
/-- the result of the three loops -/
theorem st_count {A B : List (List Int)} {a b : List Int} {m1 m2 m3 : List (List (List Int) × Int)} (c1 : Cnt m1 (lF A (B ++ [b]))) (c2 : Cnt m2 (lF (A ++ [a]) B)) (c3 : Cnt m3 (lF A B)) (p1 : Pos m1) (p2 : Pos m2) (p3 : Pos m3)
    (l1 : m1.length ≤ (lF A (B ++ [b])).length) (l2 : m2.length ≤ (lF (A ++ [a]) B).length) (l3 : m3.length ≤ (lF A B).length) :
    Cnt (addAll (· ++ [mrg a b]) (addAll (· ++ [b]) (addAll (· ++ [a]) [] m1) m2) m3) (lF (A ++ [a]) (B ++ [b])) ∧ Pos (addAll (· ++ [mrg a b]) (addAll (· ++ [b]) (addAll (· ++ [a]) [] m1) m2) m3) ∧
      (addAll (· ++ [mrg a b]) (addAll (· ++ [b]) (addAll (· ++ [a]) [] m1) m2) m3).length ≤ (lF (A ++ [a]) (B ++ [b])).length := by
  refine ⟨⟨addAll_nd _ (addAll_nd _ (addAll_nd _ List.nodup_nil)), fun k => ?_⟩, addAll_pos p3 (addAll_pos p2 (addAll_pos p1 (by intro q hq; cases hq))), ?_⟩
  · rw [addAll_dv, addAll_dv, addAll_dv, c1.sum, c2.sum, c3.sum, count_map, count_map, count_map, dv_nil]
    have hp := @List.Perm.count_eq _ instBEqOfDecidableEq _ _ (lF_snoc A B a b) k
    simp only [List.count_append] at hp
    omega
  · have h1 := addAll_len (g := (· ++ [a])) m1 []
    have h2 := addAll_len (g := (· ++ [b])) m2 (addAll (· ++ [a]) [] m1)
    have h3 := addAll_len (g := (· ++ [mrg a b])) m3 (addAll (· ++ [b]) (addAll (· ++ [a]) [] m1) m2)
    have := (lF_snoc A B a b).length_eq
    simp only [List.length_append, List.length_map] at this
    simp only [List.length_nil] at h1
    omega
theorem lF_lens {A B : List (List Int)} (hl : A.length + B.length ≤ 12) : (lF A B).length ≤ 531441 ∧ ∀ W ∈ lF A B, W.length ≤ 12 := by
  refine ⟨Nat.le_trans (lF_len A B) (Nat.pow_le_pow_right (by decide) hl), fun W hW => ?_⟩
  have : ∀ (A B W : List (List Int)), W ∈ lF A B → W.length ≤ A.length + B.length := by
    intro A B
    induction A, B using lF.induct with
    | case1 B => intro W h; rw [lF_nil, List.mem_singleton] at h; subst h; simp
    | case2 a A => intro W h; rw [lF_nil', List.mem_singleton] at h; subst h; simp
    | case3 a A b B i1 i2 i3 =>
      intro W h
      rw [lF_cons] at h
      simp only [List.mem_append, List.mem_map] at h
      rcases h with ⟨V, hV, rfl⟩ | ⟨V, hV, rfl⟩ | ⟨V, hV, rfl⟩
      · have := i1 V hV; simp only [List.length_cons] at this ⊢; omega
      · have := i2 V hV; simp only [List.length_cons] at this ⊢; omega
      · have := i3 V hV; simp only [List.length_cons] at this ⊢; omega
  exact Nat.le_trans (this A B W hW) hl
theorem Cnt.keys {m : List (List (List Int) × Int)} {l : List (List (List Int))} (c : Cnt m l) (p : Pos m) : ∀ q ∈ m, q.1 ∈ l := fun q hq => by
  have h1 := dv_mem c.nd (k := q.1) (v := q.2) hq
  rw [c.eq] at h1
  have h2 := p q hq
  exact (@List.count_pos_iff (List (List Int)) instBEqOfDecidableEq _ _ _).mp (by omega)
/-- the common middle of the two forms -/
def irStMid (ks km : Nat) (last : ISs) : ISs := .cons (.set 2 (.box .dnew)) (.cons (.par 4 5 (.cons (.idx (.var 0) (.neg (.int 1))) (.cons (.idx (.var 1) (.neg (.int 1))) .nil))) (.cons (.forS (.tup (.cons (.name 6) (.cons (.name 7) .nil))) (.items (.call true ks (.cut (.var 0) .none (.some (.neg (.int 1)))) (.cons (.var 1) .nil))) (.cons (.sub (.var 2) (.bin .add (.var 6) (.tup (.cons (.var 4) .nil))) (.bin .add (.get (.var 2) (.bin .add (.var 6) (.tup (.cons (.var 4) .nil))) (.cons (.int 0) .nil)) (.var 7))) (.nil))) (.cons (.forS (.tup (.cons (.name 6) (.cons (.name 7) .nil))) (.items (.call true ks (.var 0) (.cons (.cut (.var 1) .none (.some (.neg (.int 1)))) .nil))) (.cons (.sub (.var 2) (.bin .add (.var 6) (.tup (.cons (.var 5) .nil))) (.bin .add (.get (.var 2) (.bin .add (.var 6) (.tup (.cons (.var 5) .nil))) (.cons (.int 0) .nil)) (.var 7))) (.nil))) (.cons (.set 3 (.call true km (.var 4) (.cons (.var 5) .nil))) (.cons (.forS (.tup (.cons (.name 6) (.cons (.name 7) .nil))) (.items (.call true ks (.cut (.var 0) .none (.some (.neg (.int 1)))) (.cons (.cut (.var 1) .none (.some (.neg (.int 1)))) .nil))) (.cons (.sub (.var 2) (.bin .add (.var 6) (.tup (.cons (.var 3) .nil))) (.bin .add (.get (.var 2) (.bin .add (.var 6) (.tup (.cons (.var 3) .nil))) (.cons (.int 0) .nil)) (.var 7))) (.nil))) last)))))
theorem cut_init {A : List (List Int)} {a : List Int} : D.tup (cutL ((A ++ [a]).map dI) none (some (-1))) = dW A := by
  unfold cutL dW
  congr 1
  simp [HT.sIx]
  rw [show (-1 + ((A.length : Int) + 1)).toNat = A.length by omega]
  exact List.take_left' (by simp)
theorem idx_last {A : List (List Int)} {a : List Int} : L2.atI ((A ++ [a]).map dI) (-1) = some (dI a) := by
  simp only [L2.atI, ixN, List.map_append, List.map_cons, List.map_nil, List.length_append, List.length_map, List.length_cons, List.length_nil]
  rw [if_neg (by decide), if_pos (by omega)]
  show (List.map dI A ++ [dI a])[_]? = _
  rw [List.getElem?_append_right (by simp; omega)]
  simp only [List.length_map]
  rw [show (-1 + ((A.length + (0 + 1) : Nat) : Int)).toNat - A.length = 0 by omega]
  rfl
theorem lib_stMid {v : Ev} {ks km : Nat} {A B : List (List Int)} {a b : List Int} {last : ISs} {S : List DO} {P : Post} (hl : A.length + B.length ≤ 10) (ha : a.length ≤ 1000) (mg : MgOk v km)
    (h1 : StOk v ks A (B ++ [b])) (h2 : StOk v ks (A ++ [a]) B) (h3 : StOk v ks A B)
    (h : ∀ m e3 e6 e7, Cnt m (lF (A ++ [a]) (B ++ [b])) → Pos m → m.length ≤ (lF (A ++ [a]) (B ++ [b])).length → wS (evB v last) [some (dW (A ++ [a])), some (dW (B ++ [b])), some (.ref S.length), e3, some (dI a), some (dI b), e6, e7] (S ++ [.dct (kI emW m)]) P) :
    wS (evB v (irStMid ks km last)) [some (dW (A ++ [a])), some (dW (B ++ [b])), none, none, none, none, none, none] S P := by
  unfold irStMid
  refine s_cons (s_set (r_box (c_dnew ?_)))
  have hS : ∀ o : DO, (S ++ [o])[S.length]? = some o := fun o => by simp
  refine s_cons (s_par (r_cons (r_idx (r_var rfl (r_neg (r_int ⟨1, rfl, ?_⟩))))))
  refine p_idxT (xs := (A ++ [a]).map dI) idx_last ?_
  refine r_cons (r_idx (r_var rfl (r_neg (r_int ⟨1, rfl, ?_⟩))))
  refine p_idxT (xs := (B ++ [b]).map dI) idx_last ?_
  refine r_nil ⟨_, _, rfl, ?_⟩
  show wS _ [some (dW (A ++ [a])), some (dW (B ++ [b])), some (.ref S.length), none, some (dI a), some (dI b), none, none] _ _
  have b1 := lF_lens (A := A) (B := B ++ [b]) (by simp; omega)
  have b2 := lF_lens (A := A ++ [a]) (B := B) (by simp; omega)
  have b3 := lF_lens (A := A) (B := B) (by omega)
  have hset : ∀ o o' : DO, (S ++ [o]).set S.length o' = S ++ [o'] := fun o o' => by simp
  -- the first loop
  refine s_cons (s_for (i_items (r_callP (r_cons (r_cut ?_)))))
  symm_saturate
  rw [cut_init]
  refine k_ofP h1.np h1.dd rfl (by simp [D.noRefs, dW_noRef]) (h1.ok.to fun d _ ⟨m1, e, c1, p1, l1⟩ => ?_)
  subst e
  refine ⟨kI_noRef m1, _, rfl, kD_tkeys _, ?_⟩
  refine lib_stLoop (j := 4) (x := a) (fun _ _ => rfl) m1 [] _ _ _ (hS _) (fun q hq => Nat.le_trans (b1.2 _ (c1.keys p1 q hq)) (by decide)) (by simp; omega) ?_
  intro e6 e7
  rw [hset]
  have n1 := addAll_len (g := (· ++ [a])) m1 []
  simp only [List.length_nil] at n1
  -- the second one
  refine s_cons (s_for (i_items (r_callP (r_cons ?_))))
  symm_saturate
  rw [cut_init]
  refine k_ofP h2.np h2.dd rfl (by simp [D.noRefs, dW_noRef]) (h2.ok.to fun d _ ⟨m2, e, c2, p2, l2⟩ => ?_)
  subst e
  refine ⟨kI_noRef m2, _, rfl, kD_tkeys _, ?_⟩
  refine lib_stLoop (j := 5) (x := b) (fun _ _ => rfl) m2 _ _ _ _ (hS _) (fun q hq => Nat.le_trans (b2.2 _ (c2.keys p2 q hq)) (by decide)) (by omega) ?_
  intro e6 e7
  rw [hset]
  have n2 := addAll_len (g := (· ++ [b])) m2 (addAll (· ++ [a]) [] m1)
  refine s_cons (s_set (r_callP ?_))
  symm_saturate
  refine k_ofP mg.np mg.dd rfl (by simp [D.noRefs, dI_noRef]) ((mg.ok ha).to fun d _ e => ?_)
  subst e
  refine ⟨dI_noRef, ?_⟩
  show wS _ [some (dW (A ++ [a])), some (dW (B ++ [b])), some (.ref S.length), some (dI (mrg a b)), some (dI a), some (dI b), e6, e7] _ _
  -- the third one
  refine s_cons (s_for (i_items (r_callP (r_cons (r_cut ?_)))))
  symm_saturate
  rw [cut_init, cut_init]
  refine k_ofP h3.np h3.dd rfl (by simp [D.noRefs, dW_noRef]) (h3.ok.to fun d _ ⟨m3, e, c3, p3, l3⟩ => ?_)
  subst e
  refine ⟨kI_noRef m3, _, rfl, kD_tkeys _, ?_⟩
  refine lib_stLoop (j := 3) (x := mrg a b) (fun _ _ => rfl) m3 _ _ _ _ (hS _) (fun q hq => Nat.le_trans (b3.2 _ (c3.keys p3 q hq)) (by decide)) (by omega) ?_
  intro e6 e7
  rw [hset]
  obtain ⟨k1, k2, k3⟩ := st_count c1 c2 c3 p1 p2 p3 l1 l2 l3
  exact h _ _ _ _ k1 k2 k3
theorem p_eqW0 {S : List DO} {X : XP} {Q : D → List DO → Prop} {W : List (List Int)} (q : Q (.bl (decide (W = []))) S) : wE (copM .eq (dW W) (.tup [])) S Q X := by
  refine p_eqG (eqOk_of dW_plain rfl (Nat.le_trans dW_depth (by decide)) (show (D.tup []).depth ≤ 64 by decide)) ?_
  rw [show derefL S (dW W) = dW W from rfl, show derefL S (D.tup []) = D.tup [] from rfl, eqv_nil]
  exact q
theorem count_sing {κ : Type} [DecidableEq κ] (x k : κ) : [x].count k = if x = k then 1 else 0 := by
  by_cases e : x = k
  · subst e; simp
  · rw [if_neg e, List.count_cons_of_ne (by simpa using e)]; rfl
theorem cnt_base {A B : List (List Int)} (h : A = [] ∨ B = []) : Cnt [(A ++ B, 1)] (lF A B) ∧ Pos [(A ++ B, (1 : Int))] ∧ [(A ++ B, (1 : Int))].length ≤ (lF A B).length := by
  have e : lF A B = [A ++ B] := by
    rcases h with h | h
    · subst h; rw [lF_nil]; rfl
    · subst h; rw [lF_nil']; simp
  rw [e]
  refine ⟨⟨by simp, fun k => ?_⟩, ?_, by simp⟩
  · rw [count_sing]
    by_cases e : A ++ B = k <;> simp [dv, look, e]
  · intro q hq
    rw [List.mem_singleton] at hq
    subst hq
    show (0 : Int) < 1
    decide
theorem snoc_of {α : Type} {l : List α} (h : l ≠ []) : ∃ l' a, l = l' ++ [a] := ⟨l.dropLast, l.getLast h, (List.dropLast_concat_getLast h).symm⟩
def Len (W : List (List Int)) : Prop := ∀ m ∈ W, m.length ≤ 1000
/-- the head of both forms: the result where a word is empty, or what follows -/
theorem lib_stHead {v : Ev} {A B : List (List Int)} {r1 : IE} {rest : ISs} {E : PK.Env} {S : List DO} {P : Post} (h0 : E[0]? = some (some (dW A))) (h1 : E[1]? = some (some (dW B)))
    (hr : A = [] ∨ B = [] → wE (evE v r1 E) S P.rt fun c fs S => P.x c fs E S) (h : A ≠ [] → B ≠ [] → wS (evB v rest) E S P) :
    wS (evB v (.cons (.ifS (.or (.cmp .eq (.var 0) (.tup .nil)) (.or1 (.cmp .eq (.var 1) (.tup .nil)))) (.cons (.ret r1) (.nil)) (.nil)) rest)) E S P := by
  refine s_cons (s_if (t_or (t_cmp (r_var h0 (r_tup (r_nil ⟨by simp, p_eqW0 ⟨_, rfl, fun e => ?_, fun e => ?_⟩⟩))))))
  · have e' := of_decide_eq_false e
    refine t_or1 (t_cmp (r_var h1 (r_tup (r_nil ⟨by simp, p_eqW0 ⟨_, rfl, fun e => ?_, fun e => ?_⟩⟩))))
    · exact s_cons (s_ret (hr (.inr (of_decide_eq_true e))))
    · exact s_nil (h e' (of_decide_eq_false e))
  · exact ⟨fun _ => s_cons (s_ret (hr (.inl (of_decide_eq_true e)))), fun z => by cases z⟩
abbrev StP (A B : List (List Int)) (m : List (List (List Int) × Int)) : Prop := Cnt m (lF A B) ∧ Pos m ∧ m.length ≤ (lF A B).length
theorem lib_st {v : Ev} {ks km : Nat} {A B : List (List Int)} (hl : A.length + B.length ≤ 12) (ha : Len A) (mg : MgOk v km) (rc : ∀ A' B' : List (List Int), A'.length + B'.length < A.length + B.length → Len A' → StOk v ks A' B') :
    wS (evB v (irSt ks km)) [some (dW A), some (dW B), none, none, none, none, none, none] [] (rP (fun d S' => ∃ m, d = .dct (kI emW m) ∧ StP A B m) XF) := by
  refine lib_stHead rfl rfl (fun h => ?_) fun hA hB => ?_
  · refine r_newDs (c_disp (r_bin (r_var rfl (r_var rfl (p_catWW (by omega) (r_int ⟨by rw [tkey_dW]; rfl, _, rfl, ?_⟩))))))
    exact ⟨[(A ++ B, 1)], rfl, cnt_base h⟩
  · obtain ⟨A, a, rfl⟩ := snoc_of hA
    obtain ⟨B, b, rfl⟩ := snoc_of hB
    simp only [List.length_append, List.length_cons, List.length_nil] at hl rc
    have la : Len A := fun m hm => ha m (by simp [hm])
    refine lib_stMid (last := .cons (.ret (.frz 2)) .nil) (by omega) (ha a (by simp)) mg (rc _ _ (by simp <;> omega) la) (rc _ _ (by simp <;> omega) ha) (rc _ _ (by omega) la) fun m e3 e6 e7 k1 k2 k3 => ?_
    refine s_cons (s_ret (r_frz rfl (show ([] ++ [DO.dct (kI emW m)])[0]? = _ from rfl) rfl ?_))
    exact ⟨m, rfl, k1, k2, k3⟩
theorem lib_stB {v : Ev} {ks km : Nat} {A B : List (List Int)} {S : List DO} (hl : A.length + B.length ≤ 12) (ha : Len A) (mg : MgOk v km) (rc : ∀ A' B' : List (List Int), A'.length + B'.length < A.length + B.length → Len A' → StOk v ks A' B') :
    wS (evB v (irStB ks km)) [some (dW A), some (dW B), none, none, none, none, none, none] S (rP (fun d S' => d = .ref S.length ∧ ∃ m, S' = S ++ [.dct (kI emW m)] ∧ StP A B m) XF) := by
  refine lib_stHead rfl rfl (fun h => ?_) fun hA hB => ?_
  · refine r_box (c_disp (r_bin (r_var rfl (r_var rfl (p_catWW (by omega) (r_int ⟨by rw [tkey_dW]; rfl, ?_⟩))))))
    exact ⟨rfl, [(A ++ B, 1)], rfl, cnt_base h⟩
  · obtain ⟨A, a, rfl⟩ := snoc_of hA
    obtain ⟨B, b, rfl⟩ := snoc_of hB
    simp only [List.length_append, List.length_cons, List.length_nil] at hl rc
    have la : Len A := fun m hm => ha m (by simp [hm])
    refine lib_stMid (last := .cons (.ret (.var 2)) .nil) (by omega) (ha a (by simp)) mg (rc _ _ (by simp <;> omega) la) (rc _ _ (by simp <;> omega) ha) (rc _ _ (by omega) la) fun m e3 e6 e7 k1 k2 k3 => ?_
    exact s_cons (s_ret (r_var rfl ⟨rfl, m, rfl, k1, k2, k3⟩))
/-! the law's own, from the front -/
theorem lib_frLoop {v : Ev} {r : Nat} {x : List Int} {m0 : List (List (List Int) × Int)} {P : Post} :
    ∀ (m : List (List (List Int) × Int)) (out : List (List (List Int) × Int)) (S : List DO) (e3 e4 : Option D), S[r]? = some (.dct (kI emW out)) → (∀ q ∈ m, q.1.length ≤ 1000 ∧ look m0 q.1 = some q.2) → out.length + m.length < 16777216 →
    (∀ e3 e4, P.nx [some (.ref r), some (.dct (kI emW m0)), some (dI x), e3, e4] (S.set r (.dct (kI emW (addAll (x :: ·) out m))))) →
    wS (sLoop (mTgt (.name 3)) (evB v (.cons (.set 4 (.bin .add (.tup (.cons (.var 2) .nil)) (.var 3))) (.cons (.sub (.var 0) (.var 4) (.bin .add (.get (.var 0) (.var 4) (.cons (.int 0) .nil)) (.idx (.var 1) (.var 3)))) (.nil)))) ((kI emW m).map (·.1))) [some (.ref r), some (.dct (kI emW m0)), some (dI x), e3, e4] S P
  | [], out, S, e3, e4, hr, _, _, h => by
    show wS (sLoop _ _ []) _ _ _
    rw [wS_loop0]
    have := h e3 e4
    rw [show addAll (x :: ·) out [] = out from rfl, setS_self hr] at this
    exact this
  | (W, c) :: m, out, S, e3, e4, hr, hm, hl, h => by
    show wS (sLoop _ _ (dW W :: _)) _ _ _
    rw [wS_loop1]
    refine put_1 ?_
    obtain ⟨hW, hc⟩ := hm _ (List.mem_cons_self ..)
    dsimp only at hW hc
    have hv : viewD S (.ref r) = some (kI emW out) := by unfold viewD; simp only [hr]
    simp only [List.length_cons] at hl
    refine s_cons (s_set (r_bin (r_tup (r_cons (r_var rfl (r_nil ⟨by simp, ?_⟩))))))
    refine r_var rfl (p_catW1 (by omega) ?_)
    show wS _ [some (.ref r), some (.dct (kI emW m0)), some (dI x), some (dW W), some (dW (x :: W))] _ _
    refine s_cons (s_subD ?_)
    refine r_bin (r_get (r_var rfl ⟨_, hv, ?_⟩))
    refine r_cons (r_var rfl (r_cons (r_int (r_nil ?_))))
    refine p_get2 hv (tkey_dW _) (kD_tkeys _) ?_
    rw [show dget (kI emW out) (dW (x :: W)) = dget (kI emW out) (emW.e (x :: W)) from rfl, kI_getD]
    refine r_idx (r_var rfl (r_var rfl ?_))
    refine p_didx (ds := W.map dI) (d := .int c) rfl (tkey_dW W) (kD_tkeys _) ?_ (p_add ?_)
    · show dget (kI emW m0) (emW.e W) = _
      rw [kD_get, hc]; rfl
    refine r_var rfl (r_var rfl ?_)
    refine ⟨r, _, rfl, hr, by rw [tkey_dW]; rfl, kD_tkeys _, by unfold kI; rw [kD_len]; omega, s_nil ?_⟩
    rw [show dput (kI emW out) (dW (x :: W)) (.int (dv out (x :: W) + c)) = dput (kI emW out) (emW.e (x :: W)) (.int (dv out (x :: W) + c)) from rfl, kI_add]
    have hr2 : (S.set r (.dct (kI emW (addD out (x :: W) c))))[r]? = some (.dct (kI emW (addD out (x :: W) c))) := List.getElem?_set_self (List.getElem?_eq_some_iff.mp hr).1
    have hl2 := putD_len (x :: W) (dv out (x :: W) + c) out
    refine lib_frLoop m (addD out (x :: W) c) _ _ _ hr2 (fun q hq => hm q (List.mem_cons_of_mem _ hq)) (by show (putD out (x :: W) _).length + m.length < _; omega) ?_
    intro e3 e4
    rw [List.set_set]
    exact h e3 e4
structure FrOk (v : Ev) (kf : Nat) : Prop where
  np : v.np kf = 3
  dd : v.dds kf = []
  ok : ∀ {m out : List (List (List Int) × Int)} {x : List Int} {r : Nat} {S : List DO}, S[r]? = some (.dct (kI emW out)) → (m.map (·.1)).Nodup → (∀ q ∈ m, q.1.length ≤ 1000) → out.length + m.length < 16777216 →
    wE (v.call kf [.ref r, .dct (kI emW m), dI x]) S (fun d S' => d = .ref r ∧ S' = S.set r (.dct (kI emW (addAll (x :: ·) out m)))) XF
theorem lib_front {v : Ev} {m out : List (List (List Int) × Int)} {x : List Int} {r : Nat} {S : List DO} (hr : S[r]? = some (.dct (kI emW out))) (nd : (m.map (·.1)).Nodup) (hm : ∀ q ∈ m, q.1.length ≤ 1000) (hl : out.length + m.length < 16777216) :
    wS (evB v irFront) [some (.ref r), some (.dct (kI emW m)), some (dI x), none, none] S (rP (fun d S' => d = .ref r ∧ S' = S.set r (.dct (kI emW (addAll (x :: ·) out m)))) XF) := by
  unfold irFront
  refine s_cons (s_for (i_keys (r_var rfl ⟨_, rfl, kD_tkeys _, ?_⟩)))
  refine lib_frLoop m out S _ _ hr (fun q hq => ⟨hm q hq, mem_look nd hq⟩) hl fun e3 e4 => ?_
  exact s_cons (s_ret (r_var rfl ⟨rfl, rfl⟩))
theorem lst_count {A B : List (List Int)} {a b : List Int} {m1 m2 m3 : List (List (List Int) × Int)} (c1 : StP A (b :: B) m1) (c2 : StP (a :: A) B m2) (c3 : StP A B m3) :
    StP (a :: A) (b :: B) (addAll (mrg a b :: ·) (addAll (b :: ·) (addAll (a :: ·) [] m1) m2) m3) := by
  obtain ⟨c1, p1, l1⟩ := c1
  obtain ⟨c2, p2, l2⟩ := c2
  obtain ⟨c3, p3, l3⟩ := c3
  refine ⟨⟨addAll_nd _ (addAll_nd _ (addAll_nd _ List.nodup_nil)), fun k => ?_⟩, addAll_pos p3 (addAll_pos p2 (addAll_pos p1 (by intro q hq; cases hq))), ?_⟩
  · rw [addAll_dv, addAll_dv, addAll_dv, c1.sum, c2.sum, c3.sum, count_map, count_map, count_map, dv_nil, lF_cons]
    simp only [List.count_append]
    rw [show List.map (fun x => a :: x) (lF A (b :: B)) = List.map (List.cons a) (lF A (b :: B)) from rfl, show List.map (fun x => b :: x) (lF (a :: A) B) = List.map (List.cons b) (lF (a :: A) B) from rfl, show List.map (fun x => mrg a b :: x) (lF A B) = List.map (List.cons (mrg a b)) (lF A B) from rfl]
    omega
  · have h1 := addAll_len (g := (a :: ·)) m1 []
    have h2 := addAll_len (g := (b :: ·)) m2 (addAll (a :: ·) [] m1)
    have h3 := addAll_len (g := (mrg a b :: ·)) m3 (addAll (b :: ·) (addAll (a :: ·) [] m1) m2)
    rw [lF_cons]
    simp only [List.length_append, List.length_map]
    simp only [List.length_nil] at h1
    omega
theorem cut_tail {A : List (List Int)} {a : List Int} : D.tup (cutL ((a :: A).map dI) (some 1) none) = dW A := by
  rw [show (some (1 : Int)) = some ((1 : Nat) : Int) from rfl, cut_drop]; rfl
structure LsOk (v : Ev) (ks : Nat) (A B : List (List Int)) : Prop where
  np : v.np ks = 2
  dd : v.dds ks = []
  ok : wE (v.call ks [dW A, dW B]) [] (fun d S' => ∃ m, d = .dct (kI emW m) ∧ StP A B m) XF
def addI (a b : List Int) : D → D
  | .int k => .int (a.getD k.toNat 0 + b.getD k.toNat 0)
  | _ => .non
theorem both_eq {a b : List Int} (h : a.length = b.length) : (rangeD 0 a.length).map (addI a b) = (mrg a b).map D.int := by
  unfold rangeD mrg
  rw [List.map_map]
  refine List.ext_getElem? fun i => ?_
  rw [List.getElem?_map, List.getElem?_map, List.getElem?_zipWith]
  by_cases hi : i < a.length
  · rw [List.getElem?_range hi, List.getElem?_eq_getElem hi, List.getElem?_eq_getElem (show i < b.length by omega)]
    simp only [Option.map_some, Function.comp_def, addI]
    rw [show (0 + (i : Int)).toNat = i by omega]
    rw [List.getD_eq_getElem?_getD, List.getD_eq_getElem?_getD, List.getElem?_eq_getElem hi, List.getElem?_eq_getElem (show i < b.length by omega)]
    rfl
  · rw [List.getElem?_eq_none (by simpa using hi), List.getElem?_eq_none (by omega)]
    rfl
/-- the middle: three fronts -/
theorem lib_lstMid {v : Ev} {ks kf : Nat} {A B : List (List Int)} {a b : List Int} {r2 : IE} {S : List DO} {P : Post} (hl : A.length + B.length ≤ 10) (hab : a.length = b.length) (hal : a.length ≤ 1000) (fr : FrOk v kf)
    (h1 : LsOk v ks A (b :: B)) (h2 : LsOk v ks (a :: A) B)
    (h : ∀ m1 m2, StP A (b :: B) m1 → StP (a :: A) B m2 → wS (evB v (.cons (.ret r2) .nil)) [some (dW (a :: A)), some (dW (b :: B)), some (dI (mrg a b)), some (.ref S.length), none] (S ++ [.dct (kI emW (addAll (b :: ·) (addAll (a :: ·) [] m1) m2))]) P) :
    wS (evB v (.cons (.set 2 (.ty .tuple (.new (.lc (.rng1 (.bi .len (.idx (.var 0) (.int 0)) .nil)) (.name 4) [("_law_field", 4)] .none (.bin .add (.idx (.idx (.var 0) (.int 0)) (.var 4)) (.idx (.idx (.var 1) (.int 0)) (.var 4))))) .nil)) (.cons (.set 3 (.call false kf (.box .dnew) (.cons (.call true ks (.cut (.var 0) (.some (.int 1)) .none) (.cons (.var 1) .nil)) (.cons (.idx (.var 0) (.int 0)) .nil)))) (.cons (.set 3 (.call false kf (.var 3) (.cons (.call true ks (.var 0) (.cons (.cut (.var 1) (.some (.int 1)) .none) .nil)) (.cons (.idx (.var 1) (.int 0)) .nil)))) (.cons (.ret r2) .nil)))))
      [some (dW (a :: A)), some (dW (b :: B)), none, none, none] S P := by
  have b1 := lF_lens (A := A) (B := b :: B) (by simp; omega)
  have b2 := lF_lens (A := a :: A) (B := B) (by simp; omega)
  have hS : ∀ o : DO, (S ++ [o])[S.length]? = some o := fun o => by simp
  have hset : ∀ o o' : DO, (S ++ [o]).set S.length o' = S ++ [o'] := fun o o' => by simp
  refine s_cons (s_set (r_ty (r_cons (r_newL (c_lc (i_rng1 (r_bi (r_cons (r_idx (r_var rfl (r_int ?_))))))))))) 
  refine p_idxW (a := a) (by decide) rfl (r_nil (p_lenI ⟨_, rfl, by omega, by simp [rangeD]; omega, ?_⟩))
  rw [evTo_none]
  refine w_clMapW (addI a b) _ (fun d hd => ?_) ?_
  · obtain ⟨i, hi⟩ := List.getElem?_of_mem hd
    obtain ⟨hi, rfl⟩ := rangeD_get hi
    have hi1 : i < a.length := by omega
    refine ⟨_, rfl, ?_⟩
    refine r_bin (r_idx (r_idx (r_var rfl (r_int (p_idxW (a := a) (by decide) rfl (r_var rfl ?_))))))
    refine p_idxI (by omega) (show a[(0 + (i : Int)).toNat]? = some a[i] by rw [show (0 + (i : Int)).toNat = i by omega]; exact List.getElem?_eq_getElem hi1) ?_
    refine r_idx (r_idx (r_var rfl (r_int (p_idxW (a := b) (by decide) rfl (r_var rfl ?_)))))
    refine p_idxI (by omega) (show b[(0 + (i : Int)).toNat]? = some b[i] by rw [show (0 + (i : Int)).toNat = i by omega]; exact List.getElem?_eq_getElem (by omega)) ?_
    refine p_add ⟨?_, rfl⟩
    unfold addI
    simp only [List.getD_eq_getElem?_getD, show (0 + (i : Int)).toNat = i by omega, List.getElem?_eq_getElem hi1, List.getElem?_eq_getElem (show i < b.length by omega), Option.getD_some]
  rw [Int.toNat_natCast, both_eq hab]
  refine ⟨_, rfl, r_nil (p_tupL ?_)⟩
  show wS _ [some (dW (a :: A)), some (dW (b :: B)), some (dI (mrg a b)), none, none] _ _
  refine s_cons (s_set (r_call (r_cons (r_box (c_dnew (r_cons (r_callP (r_cons (r_cut ?_)))))))))
  symm_saturate
  rw [cut_tail]
  refine k_ofP h1.np h1.dd rfl (by simp [D.noRefs, dW_noRef]) (h1.ok.to fun d _ ⟨m1, e, c1⟩ => ?_)
  subst e
  refine ⟨kI_noRef m1, ?_⟩
  refine r_cons (r_idx (r_var rfl (r_int (p_idxW (a := a) (by decide) rfl (r_nil ?_)))))
  refine k_of fr.np fr.dd rfl ((fr.ok (out := []) (hS _) c1.1.nd (fun q hq => Nat.le_trans (b1.2 _ (c1.1.keys c1.2.1 q hq)) (by decide)) (by have := c1.2.2; simp; omega)).to fun d S' ⟨e1, e2⟩ => ?_)
  subst e1 e2
  rw [hset]
  have n1 := addAll_len (g := (a :: ·)) m1 []
  simp only [List.length_nil] at n1
  show wS _ [some (dW (a :: A)), some (dW (b :: B)), some (dI (mrg a b)), some (.ref S.length), none] _ _
  refine s_cons (s_set (r_call (r_cons (r_var rfl (r_cons (r_callP (r_cons (r_var rfl ?_))))))))
  symm_saturate
  rw [cut_tail]
  refine k_ofP h2.np h2.dd rfl (by simp [D.noRefs, dW_noRef]) (h2.ok.to fun d _ ⟨m2, e, c2⟩ => ?_)
  subst e
  refine ⟨kI_noRef m2, ?_⟩
  refine r_cons (r_idx (r_var rfl (r_int (p_idxW (a := b) (by decide) rfl (r_nil ?_)))))
  refine k_of fr.np fr.dd rfl ((fr.ok (hS _) c2.1.nd (fun q hq => Nat.le_trans (b2.2 _ (c2.1.keys c2.2.1 q hq)) (by decide)) (by have := c1.2.2; have := c2.2.2; omega)).to fun d S' ⟨e1, e2⟩ => ?_)
  subst e1 e2
  rw [hset]
  exact h m1 m2 c1 c2
theorem lib_lst {v : Ev} {ks kf : Nat} {A B : List (List Int)} {w : Nat} (hl : A.length + B.length ≤ 12) (hA : ∀ m ∈ A, m.length = w) (hB : ∀ m ∈ B, m.length = w) (hw : w ≤ 1000) (fr : FrOk v kf) (rc : ∀ A' B' : List (List Int), A'.length + B'.length < A.length + B.length → (∀ m ∈ A', m.length = w) → (∀ m ∈ B', m.length = w) → LsOk v ks A' B') :
    wS (evB v (irLSt ks kf)) [some (dW A), some (dW B), none, none, none] [] (rP (fun d S' => ∃ m, d = .dct (kI emW m) ∧ StP A B m) XF) := by
  refine lib_stHead rfl rfl (fun h => ?_) fun hA' hB' => ?_
  · refine r_newDs (c_disp (r_bin (r_var rfl (r_var rfl (p_catWW (by omega) (r_int ⟨by rw [tkey_dW]; rfl, _, rfl, ?_⟩))))))
    exact ⟨[(A ++ B, 1)], rfl, cnt_base h⟩
  · cases A with
    | nil => exact absurd rfl hA'
    | cons a A =>
      cases B with
      | nil => exact absurd rfl hB'
      | cons b B =>
        simp only [List.length_cons] at hl rc
        have la : ∀ m ∈ A, m.length = w := fun m hm => hA m (List.mem_cons_of_mem _ hm)
        have lb : ∀ m ∈ B, m.length = w := fun m hm => hB m (List.mem_cons_of_mem _ hm)
        have ea := hA a (List.mem_cons_self ..)
        have eb := hB b (List.mem_cons_self ..)
        refine lib_lstMid (by omega) (ea.trans eb.symm) (by omega) fr (rc _ _ (by simp <;> omega) la hB) (rc _ _ (by simp <;> omega) hA lb) fun m1 m2 c1 c2 => ?_
        have h3 := rc A B (by omega) la lb
        have b3 := lF_lens (A := A) (B := B) (by omega)
        have b1 := lF_lens (A := A) (B := b :: B) (by simp; omega)
        have b2 := lF_lens (A := a :: A) (B := B) (by simp; omega)
        have n1 := addAll_len (g := (a :: ·)) m1 []
        have n2 := addAll_len (g := (b :: ·)) m2 (addAll (a :: ·) [] m1)
        simp only [List.length_nil] at n1
        refine s_cons (s_ret (r_frzE (r_call (r_cons (r_var rfl (r_cons (r_callP (r_cons (r_cut ?_)))))))))
        symm_saturate
        rw [cut_tail, cut_tail]
        refine k_ofP h3.np h3.dd rfl (by simp [D.noRefs, dW_noRef]) (h3.ok.to fun d _ ⟨m3, e, c3⟩ => ?_)
        subst e
        refine ⟨kI_noRef m3, ?_⟩
        refine r_cons (r_var rfl (r_nil ?_))
        refine k_of fr.np fr.dd rfl ((fr.ok (r := 0) (S := [.dct (kI emW (addAll (b :: ·) (addAll (a :: ·) [] m1) m2))]) rfl c3.1.nd (fun q hq => Nat.le_trans (b3.2 _ (c3.1.keys c3.2.1 q hq)) (by decide)) (by have := c1.2.2; have := c2.2.2; have := c3.2.2; omega)).to fun d S' ⟨e1, e2⟩ => ?_)
        subst e1 e2
        exact ⟨0, _, _, rfl, rfl, rfl, _, rfl, lst_count c1 c2 c3⟩
theorem lib_lstB {v : Ev} {ks kf : Nat} {A B : List (List Int)} {w : Nat} {S : List DO} (hl : A.length + B.length ≤ 12) (hA : ∀ m ∈ A, m.length = w) (hB : ∀ m ∈ B, m.length = w) (hw : w ≤ 1000) (fr : FrOk v kf) (rc : ∀ A' B' : List (List Int), A'.length + B'.length < A.length + B.length → (∀ m ∈ A', m.length = w) → (∀ m ∈ B', m.length = w) → LsOk v ks A' B') :
    wS (evB v (irLStB ks kf)) [some (dW A), some (dW B), none, none, none] S (rP (fun d S' => d = .ref S.length ∧ ∃ m, S' = S ++ [.dct (kI emW m)] ∧ StP A B m) XF) := by
  refine lib_stHead rfl rfl (fun h => ?_) fun hA' hB' => ?_
  · refine r_box (c_disp (r_bin (r_var rfl (r_var rfl (p_catWW (by omega) (r_int ⟨by rw [tkey_dW]; rfl, ?_⟩))))))
    exact ⟨rfl, [(A ++ B, 1)], rfl, cnt_base h⟩
  · cases A with
    | nil => exact absurd rfl hA'
    | cons a A =>
      cases B with
      | nil => exact absurd rfl hB'
      | cons b B =>
        simp only [List.length_cons] at hl rc
        have la : ∀ m ∈ A, m.length = w := fun m hm => hA m (List.mem_cons_of_mem _ hm)
        have lb : ∀ m ∈ B, m.length = w := fun m hm => hB m (List.mem_cons_of_mem _ hm)
        have ea := hA a (List.mem_cons_self ..)
        have eb := hB b (List.mem_cons_self ..)
        refine lib_lstMid (by omega) (ea.trans eb.symm) (by omega) fr (rc _ _ (by simp <;> omega) la hB) (rc _ _ (by simp <;> omega) hA lb) fun m1 m2 c1 c2 => ?_
        have h3 := rc A B (by omega) la lb
        have b3 := lF_lens (A := A) (B := B) (by omega)
        have b1 := lF_lens (A := A) (B := b :: B) (by simp; omega)
        have b2 := lF_lens (A := a :: A) (B := B) (by simp; omega)
        have n1 := addAll_len (g := (a :: ·)) m1 []
        have n2 := addAll_len (g := (b :: ·)) m2 (addAll (a :: ·) [] m1)
        simp only [List.length_nil] at n1
        refine s_cons (s_ret (r_call (r_cons (r_var rfl (r_cons (r_callP (r_cons (r_cut ?_))))))))
        symm_saturate
        rw [cut_tail, cut_tail]
        refine k_ofP h3.np h3.dd rfl (by simp [D.noRefs, dW_noRef]) (h3.ok.to fun d _ ⟨m3, e, c3⟩ => ?_)
        subst e
        refine ⟨kI_noRef m3, ?_⟩
        refine r_cons (r_var rfl (r_nil ?_))
        have hS : ∀ o : DO, (S ++ [o])[S.length]? = some o := fun o => by simp
        refine k_of fr.np fr.dd rfl ((fr.ok (hS _) c3.1.nd (fun q hq => Nat.le_trans (b3.2 _ (c3.1.keys c3.2.1 q hq)) (by decide)) (by have := c1.2.2; have := c2.2.2; have := c3.2.2; omega)).to fun d S' ⟨e1, e2⟩ => ?_)
        subst e1 e2
        exact ⟨rfl, addAll (mrg a b :: ·) (addAll (b :: ·) (addAll (a :: ·) [] m1) m2) m3, by simp, lst_count c1 c2 c3⟩
end PK
namespace PK
open PySem PySem.Spec PyProof.Rows L2
/-! ### rules backwards: more of dicts -/
section
variable {v : Ev} {S : List DO} {E : PK.Env} {X : XP} {Q : D → List DO → Prop} {QC : DO → List DO → Prop} {P : Post}
theorem c_dc {it : II} {t : Tgt} {own : List (Str × Nat)} {c : ITo} {k m : IE} (q : wE (evI v it E) S (fun ds S => wE (dLoop t (evTo v c) (evE v k) (evE v m) (wipeE E (own.map (·.2))) ds []) S (fun xs S => QC (.dct xs) S) fun _ _ _ => False) X) : wE (evC v (.dc it t own c k m) E) S QC X := by
  unfold evC fDc
  rw [w_bind]
  refine q.mono (fun ds S h => ?_) fun _ _ _ z => z
  rw [w_bind]
  exact w_noX (h.mono (fun _ _ h => ⟨h⟩) fun _ _ _ z => z)
theorem tkeys_put {k w : D} : ∀ {kvs : List (D × D)}, tkeys kvs = true → (tkey k).isSome = true → tkeys (dput kvs k w) = true
  | [], _, h => by simp [dput, tkeys, h]
  | (a, b) :: r, h0, h => by
    simp only [tkeys, List.all_cons, Bool.and_eq_true] at h0
    unfold dput
    split
    · simp only [tkeys, List.all_cons, Bool.and_eq_true]; exact h0
    · simp only [tkeys, List.all_cons, Bool.and_eq_true]; exact ⟨h0.1, tkeys_put (kvs := r) h0.2 h⟩
/-- a dict comprehension whose parts change nothing -/
theorem w_dl {t : Tgt} {c : Env → EM Bool} {mk mv : Env → EM D} {Ew : Env} {S : List DO} {X : XP} (cf : D → Bool) (kf vf : D → D) : ∀ (ds : List D) (acc : List (D × D)) {Q : List (D × D) → List DO → Prop},
    (∀ d ∈ ds, ∃ E1, t.put d Ew = some E1 ∧ wE (c E1) S (fun b S' => b = cf d ∧ S' = S) (fun _ _ _ => False) ∧ (cf d = true → wE (mk E1) S (fun k S' => k = kf d ∧ S' = S) (fun _ _ _ => False) ∧ wE (mv E1) S (fun x S' => x = vf d ∧ S' = S) (fun _ _ _ => False) ∧ (tkey (kf d)).isSome = true)) →
    tkeys acc = true → acc.length + ds.length ≤ 16777216 → Q ((ds.filter cf).foldl (fun a d => dput a (kf d) (vf d)) acc) S → wE (dLoop t c mk mv Ew ds acc) S Q X
  | [], acc, Q, _, _, _, h => ⟨h⟩
  | d :: ds, acc, Q, hs, ht, hl, h => by
    obtain ⟨E1, e1, e2, e3⟩ := hs d (List.mem_cons_self ..)
    simp only [List.length_cons] at hl
    rw [dLoop, e1]
    dsimp only
    rw [w_bind]
    refine e2.to fun b S' ⟨hb, hS⟩ => ?_
    subst hS
    subst hb
    cases hc : cf d with
    | false =>
      rw [if_neg Bool.false_ne_true]
      refine w_dl cf kf vf ds acc (fun d hd => hs d (List.mem_cons_of_mem _ hd)) ht (by omega) ?_
      rw [List.filter_cons, hc, if_neg Bool.false_ne_true] at h
      exact h
    | true =>
      obtain ⟨k1, k2, k3⟩ := e3 hc
      rw [if_pos rfl, w_bind]
      refine k1.to fun k S' ⟨hk, hS⟩ => ?_
      subst hS hk
      rw [w_bind]
      refine k2.to fun x S' ⟨hx, hS⟩ => ?_
      subst hS hx
      rw [w_bind]
      obtain ⟨kn, hkn⟩ := Option.isSome_iff_exists.mp k3
      unfold dStep
      rw [hkn]
      dsimp only
      rw [if_pos ⟨ht, by omega⟩, w_pure]
      have hp := dput_len (kf d) (vf d) acc
      refine w_dl cf kf vf ds _ (fun d hd => hs d (List.mem_cons_of_mem _ hd)) (tkeys_put ht k3) (by omega) ?_
      rw [List.filter_cons, hc, if_pos rfl, List.foldl_cons] at h
      exact h
theorem c_sorted {a : IE} (q : wE (evE v a E) S (fun x S => ∃ xs zs, viewS S x = some xs ∧ strsO xs = some zs ∧ zs.length < 64 ∧ QC (.lst ((sortS zs).map D.str)) S) X) : wE (evC v (.sorted a) E) S QC X := by
  unfold evC PK.fs eCons
  rw [w_bind, w_bind]
  refine q.mono (fun x S ⟨xs, zs, e, e2, e3, h⟩ => ?_) fun _ _ _ z => z
  rw [w_bind]
  unfold eNil
  rw [w_pure, w_pure]
  rw [wE_iff]; unfold wE0 sortM
  simp only [e, e2, e3, if_true]
  exact h
theorem c_keysL {a : IE} (q : wE (evE v a E) S (fun x S => ∃ kvs, viewD S x = some kvs ∧ tkeys kvs = true ∧ kvs.length ≤ 16777216 ∧ QC (.lst (kvs.map (·.1))) S) X) : wE (evC v (.keysL a) E) S QC X := by
  unfold evC PK.fs eCons
  rw [w_bind, w_bind]
  refine q.mono (fun x S ⟨kvs, e, e2, e3, h⟩ => ?_) fun _ _ _ z => z
  rw [w_bind]
  unfold eNil
  rw [w_pure, w_pure]
  rw [wE_iff]; unfold wE0 listDM
  simp only [e, e2, e3, and_self, if_true]
  exact h
theorem r_callK {j f : Nat} {e b : IE} {es : IEs} (q : wE (evEs v (.cons e es) E) S (fun xs S => wE (evE v b E) S (fun z S => xs.length = v.kn j ∧ v.kn j + 1 = v.np f ∧ wE (v.call f (xs ++ [z])) S Q X) X) X) : wE (evE v (.callK j f e es b) E) S Q X := by
  unfold evEs at q
  unfold evE eCallK
  rw [w_bind]
  refine q.mono (fun xs S h => ?_) fun _ _ _ z => z
  rw [w_bind]
  refine h.mono (fun z S ⟨h1, h2, h3⟩ => ?_) fun _ _ _ z => z
  unfold mCallK
  rw [if_pos ⟨h1, h2⟩]
  exact h3
theorem p_six {x d : D} {z : Str} {kvs : List (D × D)} (h : viewD S x = some kvs) (hs : skeys kvs = true) (hd : dget kvs (.str z) = some d) (q : Q d S) : wE (idx2M x (.str z)) S Q X := by
  show wE (sixM x (.str z)) S Q X
  rw [wE_iff]; unfold wE0 sixM
  simp only [h, hs, isS, and_self, if_true, hd]
  exact q
theorem s_subS {o i e : IE} (q : wE (evE v e E) S (fun d S => wE (evE v o E) S (fun x S => wE (evE v i E) S (fun y S => ∃ r kvs z, x = .ref r ∧ y = .str z ∧ S[r]? = some (.dct kvs) ∧ skeys kvs = true ∧ kvs.length < 16777216 ∧ P.nx E (S.set r (.dct (dput kvs y d)))) (fun c fs S => P.x c fs E S)) (fun c fs S => P.x c fs E S)) fun c fs S => P.x c fs E S) : wS (evS v (.sub o i e)) E S P := by
  unfold evS
  rw [wS_asg]
  refine q.mono (fun d S h => ?_) fun _ _ _ z => z
  unfold mSub
  rw [w_bind]
  refine h.mono (fun x S h => ?_) fun _ _ _ z => z
  rw [w_bind]
  refine h.mono (fun y S ⟨r, kvs, z, e1, e0, e2, e4, e5, hh⟩ => ?_) fun _ _ _ z => z
  subst e1 e0
  rw [w_bind, wE_iff]
  unfold wE0 setM
  simp only [e2, show tkey (.str z) = none from rfl, isS, e4, e5, and_self, if_true]
  exact ⟨hh⟩
theorem p_neS {x y : D} {k1 k2 : List (D × D)} (h1 : viewD S x = some k1) (h2 : viewD S y = some k2) (h0 : dEqOk k1 k2 = false) (h : sEqOk k1 k2 = true) (q : Q (.bl (!(k1.length == k2.length && dEq k2 k1))) S) : wE (copM .ne x y) S Q X := by
  rw [wE_iff]
  show wE0 (ne2M x y) S Q X
  unfold wE0 ne2M
  simp only [h1, h2, h0, h, Bool.false_eq_true, if_false, if_true]
  exact q
theorem p_lenD {x : D} {kvs : List (D × D)} (h : viewD S x = some kvs) (ht : tkeys kvs = true) (q : Q (.int kvs.length) S) : wE (biM .len [x]) S Q X := by
  rw [wE_iff]; unfold biM wE0 len2M
  simp only [h]
  unfold dlenM
  simp only [h, ht, if_true]
  exact q
/-- a walk over the keys of a dict in a cell: its body sees the cell locked -/
theorem s_lockKeys {i j r : Nat} {body : ISs} {kvs : List (D × D)} (hk : (tkeys kvs || skeys kvs) = true) (hn : D.noLK false kvs = true) (hE : E[i]? = some (some (.ref r))) (hS : S[r]? = some (.dct kvs)) (I : Nat → Env → List DO → Prop) (h0 : I 0 E S)
    (inv : ∀ n E U, I n E U → U[r]? = some (.dct kvs) ∧ Cl U ∧ cleanE false E = true)
    (step : ∀ n q E U, kvs[n]? = some q → I n E U → wS (evB v body) (E.set j (some q.1)) (U.set r (.lkd kvs)) ⟨fun E' T => ∃ U', T = U'.set r (.lkd kvs) ∧ I (n + 1) E' U', fun _ _ => False, fun _ _ => False, fun _ _ => False, fun _ _ _ _ => False⟩)
    (fin : ∀ E U, I kvs.length E U → P.nx E U) : wS (evS v (.lock i (.forS (.name j) (.keys (.lckv i)) body))) E S P := by
  refine s_lock (r := r) hE hS rfl ?_
  have g3 : (S.set r (.lkd kvs))[r]? = some (.lkd kvs) := List.getElem?_set_self (List.getElem?_eq_some_iff.mp hS).1
  have go : wE (evI v (.keys (.lckv i)) E) (S.set r (.lkd kvs)) (fun ds T => ds = kvs.map (·.1) ∧ T = S.set r (.lkd kvs)) fun _ _ _ => False := by
    rw [Bool.or_eq_true] at hk
    rcases hk with hk | hk
    · exact i_keys (r_lckv hE g3 rfl ⟨kvs, rfl, hk, rfl, rfl⟩)
    · exact i_keysS (r_lckv hE g3 rfl ⟨kvs, rfl, hk, rfl, rfl⟩)
  refine s_for (go.to fun ds T ⟨hd, hT⟩ => ?_)
  subst hd hT
  refine wS_loop (fun n E T => ∃ U, T = U.set r (.lkd kvs) ∧ I n E U) _ 0 ⟨S, rfl, h0⟩ ?_ ?_
  · rintro n d E T hd ⟨U, rfl, hI⟩
    rw [List.getElem?_map, Option.map_eq_some_iff] at hd
    obtain ⟨q, hq, rfl⟩ := hd
    refine put_1 ?_
    rw [Nat.zero_add] at hI ⊢
    exact (step n q E U hq hI).mono (fun _ _ h => h) (fun _ _ h => h.elim) (fun _ _ h => h.elim) (fun _ _ h => h.elim) fun _ _ _ _ h => h.elim
  · rintro E T ⟨U, rfl, hI⟩
    rw [Nat.zero_add, List.length_map] at hI
    obtain ⟨a1, a2, a3⟩ := inv _ _ _ hI
    have lt := (List.getElem?_eq_some_iff.mp a1).1
    refine ⟨_, _, List.getElem?_set_self lt, rfl, a3, (a2.set (show DO.noL false (.lkd kvs) = true from hn)).all, ?_⟩
    rw [List.set_set, setS_self a1]
    exact fin _ _ hI
end
/-! ### texts as keys -/
section
def sI (V : List (Str × Int)) : List (D × D) := V.map fun q => (D.str q.1, D.int q.2)
theorem sI_skeys : ∀ V : List (Str × Int), skeys (sI V) = true
  | [] => rfl
  | q :: r => by
    have := sI_skeys r
    simp only [sI, skeys, List.map_cons, List.all_cons, Bool.and_eq_true] at this ⊢
    exact ⟨rfl, this⟩
theorem sI_len (V : List (Str × Int)) : (sI V).length = V.length := by simp [sI]
theorem sI_get (x : Str) : ∀ V : List (Str × Int), dget (sI V) (.str x) = (look V x).map D.int
  | [] => rfl
  | (a, b) :: r => by
    show (if keyEq (.str a) (.str x) = true then some (D.int b) else dget (sI r) (.str x)) = _
    rw [keyEq_str, sI_get x r]
    show _ = Option.map D.int (if a = x then some b else look r x)
    by_cases h : a = x <;> simp [h]
theorem sI_put (x : Str) (c : Int) : ∀ V : List (Str × Int), dput (sI V) (.str x) (.int c) = sI (putD V x c)
  | [] => rfl
  | (a, b) :: r => by
    show (if keyEq (.str a) (.str x) = true then (D.str a, D.int c) :: sI r else (D.str a, D.int b) :: dput (sI r) (.str x) (.int c)) = _
    rw [keyEq_str, sI_put x c r]
    show _ = sI (if a = x then (a, c) :: r else (a, b) :: putD r x c)
    by_cases h : a = x <;> simp [h, sI]
theorem sI_noL : ∀ V : List (Str × Int), D.noLK false (sI V) = true
  | [] => rfl
  | q :: r => by
    show (D.noL false (D.str q.1) && D.noL false (D.int q.2) && D.noLK false (sI r)) = true
    rw [sI_noL r]; rfl
theorem sI_vOks : ∀ V : List (Str × Int), vOks (sI V) = true
  | [] => rfl
  | q :: r => by
    have := sI_vOks r
    simp only [sI, vOks, List.map_cons, List.all_cons, Bool.and_eq_true] at this ⊢
    exact ⟨rfl, this⟩
theorem sI_eqOk (V U : List (Str × Int)) : sEqOk (sI V) (sI U) = true := by
  unfold sEqOk
  rw [sI_skeys, sI_skeys, sI_vOks, sI_vOks]; rfl
theorem sI_not (V U : List (Str × Int)) (h : V ≠ []) : dEqOk (sI V) (sI U) = false := by
  cases V with
  | nil => exact absurd rfl h
  | cons q r => rfl
theorem sI_dEq (n : List (Str × Int)) : ∀ m : List (Str × Int), dEq (sI n) (sI m) = m.all fun q => decide (look n q.1 = some q.2)
  | [] => rfl
  | (a, b) :: r => by
    show (match dget (sI n) (D.str a) with
      | none => false
      | some u => PyData.eqv (toPy (D.int b)) (toPy u) && dEq (sI n) (sI r)) = _
    rw [sI_dEq n r, List.all_cons, sI_get]
    cases h : look n a with
    | none => simp
    | some u =>
      simp only [Option.map_some, toPy, PyData.eqv]
      by_cases e : b = u
      · subst e; simp
      · have e' : ¬ u = b := fun z => e z.symm
        simp [e, e', BEq.beq]
theorem sI_self {V : List (Str × Int)} (nd : (V.map (·.1)).Nodup) : ((sI V).length == (sI V).length && dEq (sI V) (sI V)) = true := by
  rw [sI_dEq, beq_self_eq_true, Bool.true_and, List.all_eq_true]
  rintro ⟨a, b⟩ hq
  exact decide_eq_true (mem_look nd hq)
theorem eqD_self {κ : Type} [DecidableEq κ] {m : List (κ × Int)} (nd : (m.map (·.1)).Nodup) : eqD m m = true := by
  unfold eqD
  rw [beq_self_eq_true, Bool.true_and, List.all_eq_true]
  rintro ⟨a, b⟩ hq
  exact decide_eq_true (mem_look nd hq)
/-- tuples of texts -/
def dS (xs : List Str) : D := .tup (xs.map D.str)
def kS (xs : List Str) : NestedKey := .tup (xs.map .text)
theorem nkeys_S : ∀ xs : List Str, nkeys (xs.map D.str) = some (xs.map .text)
  | [] => rfl
  | x :: xs => by simp only [List.map_cons, nkeys, nkey, nkeys_S xs]
theorem depth_S : ∀ xs : List Str, NestedKey.depthAll (xs.map .text) = 0
  | [] => rfl
  | x :: xs => by simp [NestedKey.depthAll, NestedKey.depth, depth_S xs]
theorem tkey_dS (xs : List Str) : tkey (dS xs) = some (kS xs) := by
  have h : nkey (dS xs) = some (kS xs) := by unfold dS kS; simp only [nkey, nkeys_S]
  have hd : (kS xs).depth ≤ 8 := by unfold kS; simp only [NestedKey.depth, depth_S]; omega
  unfold dS at h ⊢
  unfold tkey
  dsimp only
  rw [h]
  dsimp only
  rw [if_pos hd]
theorem kS_inj (x y : List Str) (h : kS x = kS y) : x = y := by
  unfold kS at h
  injection h with h
  exact map_inj (fun a b e => by injection e) h
theorem noRefs_S : ∀ xs : List Str, D.noRefs (xs.map D.str) = true
  | [] => rfl
  | x :: r => by
    show (D.noRef (D.str x) && D.noRefs (r.map D.str)) = true
    rw [noRefs_S r]; rfl
theorem noLs_S (k : Bool) : ∀ xs : List Str, D.noLs k (xs.map D.str) = true
  | [] => rfl
  | x :: r => by
    show (D.noL k (D.str x) && D.noLs k (r.map D.str)) = true
    rw [noLs_S k r]; rfl
theorem dS_noL (k : Bool) (xs : List Str) : (dS xs).noL k = true := by unfold dS D.noL; exact noLs_S k xs
def emS : Emb (List Str) := ⟨dS, kS, tkey_dS, kS_inj, fun xs => by unfold dS D.noRef; exact noRefs_S xs, dS_noL⟩
theorem sortS_len (xs : List Str) : (sortS xs).length = xs.length := (List.mergeSort_perm xs leS).length_eq
end
end PK
namespace PK
open PySem PySem.Spec PyProof.Rows L2 SX
/-! ### rules backwards: texts -/
section
variable {v : Ev} {S : List DO} {E : PK.Env} {X : XP} {Q : D → List DO → Prop} {QB : Bool → List DO → Prop} {QC : DO → List DO → Prop} {QL : List D → List DO → Prop}
theorem w_chain {p q : COp} {a b c : IE} (h : wE (evE v a E) S (fun x S => wE (evE v b E) S (fun y S => wE (copM p x y) S (fun d S => ∃ k, d = .bl k ∧ (k = true → wE (evE v c E) S (fun z S => wE (copM q y z) S Q X) X) ∧ (k = false → Q (.bl false) S)) X) X) X) :
    wE (eChain (copM p) (copM q) (evE v a) (evE v b) (evE v c) E) S Q X := by
  unfold eChain
  rw [w_bind]
  refine h.mono (fun x S h => ?_) fun _ _ _ z => z
  rw [w_bind]
  refine h.mono (fun y S h => ?_) fun _ _ _ z => z
  rw [w_bind]
  refine h.mono (fun d S ⟨k, e, h1, h2⟩ => ?_) fun _ _ _ z => z
  subst e
  rw [w_bind, w_asB]
  cases k with
  | true => rw [if_pos rfl, w_bind]; exact h1 rfl
  | false => rw [if_neg Bool.false_ne_true]; exact ⟨h2 rfl⟩
theorem t_chain {p q : COp} {a b c : IE} (h : wE (evE v a E) S (fun x S => wE (evE v b E) S (fun y S => wE (copM p x y) S (fun d S => ∃ k, d = .bl k ∧ (k = true → wE (evE v c E) S (fun z S => wE (copM q y z) S (fun d S => ∃ k, d = .bl k ∧ QB k S) X) X) ∧ (k = false → QB false S)) X) X) X) : wE (evT v (.chain p q a b c) E) S QB X := by
  unfold evT eTest
  rw [w_bind]
  refine (w_chain (Q := fun d S => ∃ k, d = .bl k ∧ QB k S) ?_).mono (fun d S ⟨k, e, h⟩ => ?_) fun _ _ _ z => z
  · refine h.mono (fun x S h => h.mono (fun y S h => h.mono (fun d S ⟨k, e, h1, h2⟩ => ⟨k, e, h1, fun z => ⟨false, rfl, h2 z⟩⟩) fun _ _ _ z => z) fun _ _ _ z => z) fun _ _ _ z => z
  · subst e
    rw [w_asB]
    exact h
theorem i_chars {e : IE} (q : wE (evE v e E) S (fun x S => ∃ z, x = .str z ∧ QL (z.cps.toList.map signD) S) X) : wE (evI v (.chars e) E) S QL X := by
  unfold evI eOf
  rw [w_bind]
  refine q.mono (fun x S ⟨z, e1, h⟩ => ?_) fun _ _ _ z => z
  subst e1
  rw [w_ofO]
  exact ⟨_, rfl, h⟩
theorem p_all {bs : List Bool} (q : Q (.bl (bs.all id)) S) : wE (biM .all [.lst (bs.map D.bl)]) S Q X := by
  rw [wE_iff]; unfold biM wE0 allM viewL
  simp only [bolsO_map]
  exact q
theorem p_inC {c : Nat} {z : Str} (q : Q (.bl (decide (c ∈ z.cps.toList))) S) : wE (copM .inD (signD c) (.str z)) S Q X := by
  rw [wE_iff]
  exact q
theorem p_ninC {c : Nat} {z : Str} (q : Q (.bl (!decide (c ∈ z.cps.toList))) S) : wE (copM .notInD (signD c) (.str z)) S Q X := by
  rw [wE_iff]
  exact q
theorem p_inT {c : Str} {zs : List Str} (q : Q (.bl (decide (c ∈ zs))) S) : wE (copM .inD (.str c) (.tup (zs.map D.str))) S Q X := by
  rw [wE_iff]
  show wE0 (in2M (.str c) (.tup (zs.map D.str))) S Q X
  unfold wE0 in2M viewD viewS
  simp only [strsO_map]
  exact q
theorem p_ninT {c : Str} {zs : List Str} (q : Q (.bl (!decide (c ∈ zs))) S) : wE (copM .notInD (.str c) (.tup (zs.map D.str))) S Q X := by
  rw [wE_iff]
  show wE0 (nin2M (.str c) (.tup (zs.map D.str))) S Q X
  unfold wE0 nin2M viewD viewS
  simp only [strsO_map]
  exact q
theorem p_inL {c : Str} {zs : List Str} (q : Q (.bl (decide (c ∈ zs))) S) : wE (copM .inD (.str c) (.lst (zs.map D.str))) S Q X := by
  rw [wE_iff]
  show wE0 (in2M (.str c) (.lst (zs.map D.str))) S Q X
  unfold wE0 in2M viewD viewS viewL
  simp only [strsO_map]
  exact q
theorem c_split {o e : IE} (q : wE (evE v o E) S (fun x S => ∃ a, x = .str a ∧ wE (evE v e E) S (fun y S => ∃ b, y = .str b ∧ (b.length == 0) = false ∧ a.length + 2 ≤ 16777216 ∧ QC (.lst ((Txt.split a b).map D.str)) S) X) X) : wE (evC v (.split o e .nil) E) S QC X := by
  unfold evC fSplit
  rw [w_bind]
  refine q.mono (fun x S ⟨a, e1, h⟩ => ?_) fun _ _ _ z => z
  subst e1
  rw [w_bind]
  refine ⟨?_⟩
  show wE (EM.bind (eCons (evE v e) (evEs v .nil) E) (fun xs => splitM (.str a) xs)) S QC X
  unfold evEs eCons
  rw [w_bind, w_bind]
  refine h.mono (fun y S ⟨b, e2, h1, h2, h3⟩ => ?_) fun _ _ _ z => z
  subst e2
  rw [w_bind]
  unfold eNil
  rw [w_pure, w_pure]
  unfold splitM
  dsimp only
  rw [if_pos ⟨h1, h2⟩]
  exact ⟨h3⟩
theorem r_join {o e : IE} (q : wE (evE v o E) S (fun x S => ∃ a, x = .str a ∧ wE (evE v e E) S (fun y S => ∃ ys zs, viewS S y = some ys ∧ strsO ys = some zs ∧ (zs.map (·.length)).sum + zs.length * a.length ≤ 16777216 ∧ Q (.str (Txt.join a zs)) S) X) X) : wE (evE v (.join o e .nil) E) S Q X := by
  unfold evE eJoin
  rw [w_bind]
  refine q.mono (fun x S ⟨a, e1, h⟩ => ?_) fun _ _ _ z => z
  subst e1
  rw [w_bind]
  refine ⟨?_⟩
  show wE (EM.bind (eCons (evE v e) (evEs v .nil) E) (fun xs => joinM (.str a) xs)) S Q X
  unfold evEs eCons
  rw [w_bind, w_bind]
  refine h.mono (fun y S ⟨ys, zs, e2, e3, h2, h3⟩ => ?_) fun _ _ _ z => z
  rw [w_bind]
  unfold eNil
  rw [w_pure, w_pure, wE_iff]
  unfold joinM wE0
  simp only [e2, e3, h2, if_true]
  exact h3
theorem p_idxS {z : Str} {i : Int} {c : Nat} (h : L2.atI z.cps.toList i = some c) (hl : z.length ≤ 16777216) (q : Q (signD c) S) : wE (idx2M (.str z) (.int i)) S Q X := by
  rw [wE_iff]
  show wE0 (idxM (.str z) (.int i)) S Q X
  unfold wE0 idxM
  simp only [h, hl, if_true]
  exact q
theorem p_lenS {z : Str} (hl : z.length ≤ 16777216) (q : Q (.int z.length) S) : wE (biM .len [.str z]) S Q X := by
  rw [wE_iff]
  show wE0 (lenM [.str z]) S Q X
  unfold wE0 lenM
  simp only [hl, if_true]
  exact q
theorem p_eqS {a b : Str} (ha : PyData.strOk a = true) (hb : PyData.strOk b = true) (q : Q (.bl (decide (a = b))) S) : wE (copM .eq (.str a) (.str b)) S Q X := by
  refine p_eqG (x := .str a) (y := .str b) (show eqOk (.str a) (.str b) = true from eqOk_of (by simp [D.plain, ha]) (by simp [D.plain, hb]) (by simp [D.depth]) (by simp [D.depth])) ?_
  rw [show PyData.eqv (toPy (derefL S (.str a))) (toPy (derefL S (.str b))) = decide (a = b) from ?_]
  · exact q
  · show (a == b) = decide (a = b)
    by_cases h : a = b <;> simp [h]
theorem p_neStr {a b : Str} (ha : PyData.strOk a = true) (hb : PyData.strOk b = true) (q : Q (.bl (!decide (a = b))) S) : wE (copM .ne (.str a) (.str b)) S Q X := by
  refine p_neG (x := .str a) (y := .str b) (show eqOk (.str a) (.str b) = true from eqOk_of (by simp [D.plain, ha]) (by simp [D.plain, hb]) (by simp [D.depth]) (by simp [D.depth])) ?_
  rw [show PyData.eqv (toPy (derefL S (.str a))) (toPy (derefL S (.str b))) = decide (a = b) from ?_]
  · exact q
  · show (a == b) = decide (a = b)
    by_cases h : a = b <;> simp [h]
end
end PK
namespace PK
open PySem PySem.Spec PyProof.Rows L2 SX
/-! ### reading of expressions: the parts -/
def irIsNum (g1 g2 : Nat) : ISs := .cons (.ifS (.or (.not (.chain .le .le (.int 1) (.bi .len (.var 0) .nil) (.glo g1))) (.or1 (.and (.cmp .eq (.idx (.var 0) (.int 0)) (.str "0")) (.and1 (.cmp .ne (.var 0) (.str "0")))))) (.cons (.ret (.bl false)) (.nil)) (.nil)) (.cons (.ret (.bi .all (.new (.lc (.chars (.var 0)) (.name 1) [("char", 1)] .none (.cmp .inD (.var 1) (.glo g2)))) .nil)) (.nil))
def irIsLet (g4 g5 : Nat) : ISs := .cons (.ifS (.or (.not (.chain .le .le (.int 1) (.bi .len (.var 0) .nil) (.int 20))) (.or1 (.cmp .notInD (.idx (.var 0) (.int 0)) (.glo g4)))) (.cons (.ret (.bl false)) (.nil)) (.nil)) (.cons (.ret (.bi .all (.new (.lc (.chars (.var 0)) (.name 1) [("char", 1)] .none (.cmp .inD (.var 1) (.glo g5)))) .nil)) (.nil))
def irFactors (g3 fn fl : Nat) : ISs := .cons (.set 1 (.new (.split (.var 0) (.str "*") .nil))) (.cons (.ifS (.cmp .gt (.bi .len (.var 1) .nil) (.glo g3)) (.cons (.ret .non) (.nil)) (.nil)) (.cons (.forS (.name 2) (.seq (.var 1)) (.cons (.ifS (.and (.not (.val (.call true fn (.var 2) .nil))) (.and1 (.not (.val (.call true fl (.var 2) .nil))))) (.cons (.ret .non) (.nil)) (.nil)) (.nil))) (.cons (.ret (.var 1)) (.nil))))
def irTerms (g0 ff : Nat) : ISs := .cons (.set 1 (.new (.split (.var 0) (.str " ") .nil))) (.cons (.ifS (.or (.cmp .gt (.bi .len (.var 1) .nil) (.bin .sub (.bin .mul (.int 2) (.glo g0)) (.int 1))) (.or1 (.cmp .inD (.idx (.var 1) (.neg (.int 1))) (.tup (.cons (.str "+") (.cons (.str "-") .nil)))))) (.cons (.ret .non) (.nil)) (.nil)) (.cons (.set 2 (.box (.lst .nil))) (.cons (.set 3 (.int 1)) (.cons (.forS (.tup (.cons (.name 4) (.cons (.name 5) .nil))) (.enum (.var 1)) (.cons (.ifS (.cmp .eq (.bin .mod (.var 4) (.int 2)) (.int 1)) (.cons (.ifS (.cmp .notInD (.var 5) (.tup (.cons (.str "+") (.cons (.str "-") .nil)))) (.cons (.ret .non) (.nil)) (.nil)) (.cons (.set 3 (.ife (.cmp .eq (.var 5) (.str "-")) (.neg (.int 1)) (.int 1))) (.nil))) (.cons (.set 6 (.var 5)) (.cons (.ifS (.and (.cmp .eq (.var 4) (.int 0)) (.and1 (.cmp .eq (.cut (.var 5) .none (.some (.int 1))) (.str "-")))) (.cons (.set 3 (.neg (.int 1))) (.cons (.set 6 (.cut (.var 5) (.some (.int 1)) .none)) (.nil))) (.nil)) (.cons (.set 7 (.call true ff (.var 6) .nil)) (.cons (.ifS (.cmp .is (.var 7) .non) (.cons (.ret .non) (.nil)) (.nil)) (.cons (.expr (.app (.var 2) (.tup (.cons (.var 3) (.cons (.var 7) .nil))))) (.nil))))))) (.nil))) (.cons (.ret (.frz 2)) (.nil))))))
def isDig (c : Nat) : Bool := decide (48 ≤ c) && decide (c ≤ 57)
def isLow (c : Nat) : Bool := decide (97 ≤ c) && decide (c ≤ 122)
def isLC (c : Nat) : Bool := isLow c || isDig c || decide (c = 91) || decide (c = 93)
theorem dig_eq (c : Nat) : decide (c ∈ ("0123456789" : Str).cps.toList) = isDig c := by
  rw [show ("0123456789" : Str).cps.toList = [48, 49, 50, 51, 52, 53, 54, 55, 56, 57] from rfl]
  by_cases h : c < 128
  · have key : ∀ c : Fin 128, decide (c.val ∈ [48, 49, 50, 51, 52, 53, 54, 55, 56, 57]) = isDig c.val := by decide
    exact key ⟨c, h⟩
  · have h1 : isDig c = false := by unfold isDig; simp; omega
    rw [h1, decide_eq_false_iff_not]
    simp
    omega
theorem low_eq (c : Nat) : decide (c ∈ ("abcdefghijklmnopqrstuvwxyz" : Str).cps.toList) = isLow c := by
  rw [show ("abcdefghijklmnopqrstuvwxyz" : Str).cps.toList = [97, 98, 99, 100, 101, 102, 103, 104, 105, 106, 107, 108, 109, 110, 111, 112, 113, 114, 115, 116, 117, 118, 119, 120, 121, 122] from rfl]
  by_cases h : c < 128
  · have key : ∀ c : Fin 128, decide (c.val ∈ [97, 98, 99, 100, 101, 102, 103, 104, 105, 106, 107, 108, 109, 110, 111, 112, 113, 114, 115, 116, 117, 118, 119, 120, 121, 122]) = isLow c.val := by decide
    exact key ⟨c, h⟩
  · have h1 : isLow c = false := by unfold isLow; simp; omega
    rw [h1, decide_eq_false_iff_not]
    simp
    omega
theorem lc_eq (c : Nat) : decide (c ∈ ("abcdefghijklmnopqrstuvwxyz0123456789[]" : Str).cps.toList) = isLC c := by
  rw [show ("abcdefghijklmnopqrstuvwxyz0123456789[]" : Str).cps.toList = [97, 98, 99, 100, 101, 102, 103, 104, 105, 106, 107, 108, 109, 110, 111, 112, 113, 114, 115, 116, 117, 118, 119, 120, 121, 122, 48, 49, 50, 51, 52, 53, 54, 55, 56, 57, 91, 93] from rfl]
  by_cases h : c < 128
  · have key : ∀ c : Fin 128, decide (c.val ∈ [97, 98, 99, 100, 101, 102, 103, 104, 105, 106, 107, 108, 109, 110, 111, 112, 113, 114, 115, 116, 117, 118, 119, 120, 121, 122, 48, 49, 50, 51, 52, 53, 54, 55, 56, 57, 91, 93]) = isLC c.val := by decide
    exact key ⟨c, h⟩
  · have h1 : isLC c = false := by unfold isLC isLow isDig; simp; omega
    rw [h1, decide_eq_false_iff_not]
    simp
    omega
def numB (x : List Nat) : Bool := decide (1 ≤ x.length) && decide (x.length ≤ 400) && !(decide (x.head? = some 48) && decide (x ≠ [48])) && x.all isDig
def letB (x : List Nat) : Bool := decide (1 ≤ x.length) && decide (x.length ≤ 20) && (match x with | c :: _ => isLow c | [] => false) && x.all isLC
def allF (p : Nat → Bool) : D → D
  | .str z => .bl (z.cps.toList.all p)
  | _ => .non
theorem allF_map (p : Nat → Bool) (x : List Nat) : (x.map signD).map (allF p) = (x.map p).map D.bl := by
  rw [List.map_map, List.map_map]
  refine List.map_congr_left fun c _ => ?_
  show D.bl ([c].all p) = D.bl (p c)
  simp
theorem all_id (p : Nat → Bool) (x : List Nat) : (x.map p).all id = x.all p := by rw [List.all_map]; rfl
section
variable {v : Ev}
def badN (x : List Nat) : Bool := !(decide (1 ≤ x.length) && decide (x.length ≤ 400)) || (decide (x.head? = some 48) && decide (x ≠ [48]))
theorem S_eq {a b : List Nat} : decide (S a = S b) = decide (a = b) := by
  by_cases h : a = b
  · subst h; simp
  · have : ¬ S a = S b := fun z => h (S_inj z)
    simp [h]
theorem cast_le {a b : Nat} : decide ((a : Int) ≤ (b : Int)) = decide (a ≤ b) := by
  by_cases h : a ≤ b
  · simp [h]
  · simp [h]
theorem ok_head {c : Nat} {r : List Nat} (h : PyData.strOk (S (c :: r)) = true) : PyData.strOk ⟨#[c]⟩ = true := by
  simp [PyData.strOk] at h ⊢
  exact h.1
theorem lib_isnum {g1 g2 : Nat} (h1 : v.cst g1 = some (.int 400)) (h2 : v.cst g2 = some (.str "0123456789")) {x : List Nat} (hl : x.length ≤ 16777216) (hx : PyData.strOk (S x) = true) : wS (evB v (irIsNum g1 g2)) [some (.str (S x)), none] [] (rP (fun d S' => d = .bl (numB x)) XF) := by
  unfold irIsNum
  have hL : (S x).length = x.length := S_len x
  refine s_cons (s_if (wE.to (Q := fun k S' => k = badN x ∧ S' = []) ?_ ?_))
  · refine t_or (t_not (t_chain (r_int (r_bi (r_cons (r_var rfl (r_nil (p_lenS (by rw [hL]; exact hl) ?_))))))))
    rw [hL]
    refine p_le ⟨_, rfl, fun ha => ?_, fun ha => ⟨fun z => by simp at z, fun _ => ⟨?_, rfl⟩⟩⟩
    · have ha : 1 ≤ x.length := by have := of_decide_eq_true ha; omega
      refine r_glo h1 (p_le ⟨_, rfl, fun hb => ?_, fun hb => ⟨?_, rfl⟩⟩)
      · have hb : x.length ≤ 400 := by
          have hb : (!decide ((x.length : Int) ≤ 400)) = false := hb
          have : decide ((x.length : Int) ≤ 400) = true := by simpa using hb
          have := of_decide_eq_true this
          omega
        obtain ⟨c, r, rfl⟩ : ∃ c r, x = c :: r := by
          cases x with
          | nil => simp at ha
          | cons c r => exact ⟨c, r, rfl⟩
        have e0 : ("0" : Str) = S [48] := rfl
        have base : badN (c :: r) = (decide (c = 48) && decide (c :: r ≠ [48])) := by
          unfold badN
          rw [decide_eq_true ha, decide_eq_true hb]
          simp
        rw [base]
        refine t_or1 (t_and (t_cmp (r_idx (r_var rfl (r_int (p_idxS (c := c) (by rw [atI_nn (by decide)]; rfl) (by rw [hL]; exact hl) (r_str ?_)))))))
        rw [e0]
        show wE (copM .eq (.str (S [c])) (.str (S [48]))) _ _ _
        refine p_eqS (ok_head hx) (by simp [PyData.strOk]) ?_
        rw [S_eq]
        refine ⟨_, rfl, fun hc => ?_, fun hc => ⟨?_, rfl⟩⟩
        · have hc : c = 48 := by have := of_decide_eq_true hc; simpa using this
          refine t_and1 (t_cmp (r_var rfl (r_str ?_)))
          refine p_neStr hx (by simp [PyData.strOk]) ?_
          rw [S_eq]
          refine ⟨_, rfl, ?_, rfl⟩
          subst hc
          simp
        · have hc : ¬ c = 48 := by have := of_decide_eq_false hc; simpa using this
          simp [hc]
      · have hb : ¬ x.length ≤ 400 := by
          have hb : (!decide ((x.length : Int) ≤ 400)) = true := hb
          have : decide ((x.length : Int) ≤ 400) = false := by simpa using hb
          have := of_decide_eq_false this
          omega
        unfold badN
        simp [hb]
    · have ha : ¬ 1 ≤ x.length := by have := of_decide_eq_false ha; omega
      unfold badN
      simp only [ha, decide_false, Bool.false_and, Bool.not_false, Bool.true_or]
  · rintro k S' ⟨rfl, rfl⟩
    have num : numB x = (!badN x && x.all isDig) := by unfold numB badN; simp [Bool.and_assoc]
    refine ⟨fun hb => ?_, fun hb => s_nil ?_⟩
    · refine s_cons (s_ret (r_bl ?_))
      show D.bl false = D.bl (numB x)
      rw [num, hb]
      rfl
    · refine s_cons (s_ret (r_bi (r_cons (r_newL (c_lc (i_chars (r_var rfl ⟨_, rfl, by rw [List.length_map]; exact hl, ?_⟩))))))) 
      rw [evTo_none]
      refine w_clMapW (allF isDig) _ (fun d hd => ?_) ?_
      · obtain ⟨c, hc, rfl⟩ := List.mem_map.mp hd
        refine ⟨_, rfl, r_cmp (r_var rfl (r_glo h2 (p_inC ⟨?_, rfl⟩)))⟩
        rw [dig_eq]
        show D.bl (isDig c) = D.bl ([c].all isDig)
        simp
      · refine ⟨_, rfl, r_nil ?_⟩
        rw [show (S x).cps.toList = x from rfl, allF_map]
        refine p_all ?_
        rw [all_id, num, hb]
        rfl
theorem lib_islet {g4 g5 : Nat} (h4 : v.cst g4 = some (.str "abcdefghijklmnopqrstuvwxyz")) (h5 : v.cst g5 = some (.str "abcdefghijklmnopqrstuvwxyz0123456789[]")) {x : List Nat} (hl : x.length ≤ 16777216) (hx : PyData.strOk (S x) = true) : wS (evB v (irIsLet g4 g5)) [some (.str (S x)), none] [] (rP (fun d S' => d = .bl (letB x)) XF) := by
  unfold irIsLet
  have hL : (S x).length = x.length := S_len x
  refine s_cons (s_if (wE.to (Q := fun k S' => k = (!(decide (1 ≤ x.length) && decide (x.length ≤ 20)) || !(match x with | c :: _ => isLow c | [] => false)) ∧ S' = []) ?_ ?_))
  · refine t_or (t_not (t_chain (r_int (r_bi (r_cons (r_var rfl (r_nil (p_lenS (by rw [hL]; exact hl) ?_))))))))
    rw [hL]
    refine p_le ⟨_, rfl, fun ha => ?_, fun ha => ⟨fun z => by simp at z, fun _ => ⟨?_, rfl⟩⟩⟩
    · have ha : 1 ≤ x.length := by have := of_decide_eq_true ha; omega
      refine r_int (p_le ⟨_, rfl, fun hb => ?_, fun hb => ⟨?_, rfl⟩⟩)
      · have hb : x.length ≤ 20 := by
          have hb : (!decide ((x.length : Int) ≤ 20)) = false := hb
          have : decide ((x.length : Int) ≤ 20) = true := by simpa using hb
          have := of_decide_eq_true this
          omega
        obtain ⟨c, r, rfl⟩ : ∃ c r, x = c :: r := by
          cases x with
          | nil => simp at ha
          | cons c r => exact ⟨c, r, rfl⟩
        refine t_or1 (t_cmp (r_idx (r_var rfl (r_int (p_idxS (c := c) (by rw [atI_nn (by decide)]; rfl) (by rw [hL]; exact hl) (r_glo h4 (p_ninC ⟨_, rfl, ?_, rfl⟩)))))))
        rw [low_eq, decide_eq_true ha, decide_eq_true hb]
        simp
      · have hb : ¬ x.length ≤ 20 := by
          have hb : (!decide ((x.length : Int) ≤ 20)) = true := hb
          have : decide ((x.length : Int) ≤ 20) = false := by simpa using hb
          have := of_decide_eq_false this
          omega
        simp [hb]
    · have ha : ¬ 1 ≤ x.length := by have := of_decide_eq_false ha; omega
      simp only [ha, decide_false, Bool.false_and, Bool.not_false, Bool.true_or]
  · rintro k S' ⟨e, rfl⟩
    have num : letB x = (!k && x.all isLC) := by rw [e]; unfold letB; simp [Bool.and_assoc]
    refine ⟨fun hb => ?_, fun hb => s_nil ?_⟩
    · refine s_cons (s_ret (r_bl ?_))
      show D.bl false = D.bl (letB x)
      rw [num, hb]
      rfl
    · refine s_cons (s_ret (r_bi (r_cons (r_newL (c_lc (i_chars (r_var rfl ⟨_, rfl, by rw [List.length_map]; exact hl, ?_⟩)))))))
      rw [evTo_none]
      refine w_clMapW (allF isLC) _ (fun d hd => ?_) ?_
      · obtain ⟨c, hc, rfl⟩ := List.mem_map.mp hd
        refine ⟨_, rfl, r_cmp (r_var rfl (r_glo h5 (p_inC ⟨?_, rfl⟩)))⟩
        rw [lc_eq]
        show D.bl (isLC c) = D.bl ([c].all isLC)
        simp
      · refine ⟨_, rfl, r_nil ?_⟩
        rw [show (S x).cps.toList = x from rfl, allF_map]
        refine p_all ?_
        rw [all_id, num, hb]
        rfl
end
end PK
namespace PK
open PySem PySem.Spec PyProof.Rows L2 SX
/-! ### the factors of a term -/
structure Asc (x : List Nat) : Prop where
  lt : ∀ c ∈ x, c < 128
  len : x.length ≤ 16000000
theorem Asc.ok {x : List Nat} (h : Asc x) : PyData.strOk (S x) = true := by
  unfold PyData.strOk
  rw [← Array.all_toList, List.all_eq_true]
  intro c hc
  have := h.lt c hc
  exact decide_eq_true (by omega)
theorem Asc.l {x : List Nat} (h : Asc x) : x.length ≤ 16777216 := Nat.le_trans h.len (by decide)
theorem mem_spl {s : List Nat} : ∀ {x acc : List Nat} {k : Nat} {f : List Nat}, f ∈ TL.spl s k acc x → (∀ c ∈ f, c ∈ acc ∨ c ∈ x) ∧ f.length ≤ acc.length + x.length
  | [], acc, k, f, h => by
    rw [TL.spl_nil] at h
    rw [List.mem_singleton.mp h]
    exact ⟨fun c hc => .inl hc, by simp⟩
  | c :: r, acc, 0, f, h => by
    cases hp : TL.pre s (c :: r) with
    | true =>
      rw [TL.spl_hit hp] at h
      rcases List.mem_cons.mp h with e | h
      · rw [e]; exact ⟨fun c hc => .inl hc, by simp⟩
      · obtain ⟨h1, h2⟩ := mem_spl h
        exact ⟨fun d hd => (h1 d hd).elim (fun z => by cases z) fun z => .inr (List.mem_cons_of_mem _ z), by simp at h2 ⊢; omega⟩
    | false =>
      rw [TL.spl_miss hp] at h
      obtain ⟨h1, h2⟩ := mem_spl h
      refine ⟨fun d hd => ?_, by simp at h2 ⊢; omega⟩
      rcases h1 d hd with z | z
      · rcases List.mem_append.mp z with z | z
        · exact .inl z
        · rw [List.mem_singleton.mp z]; exact .inr (List.mem_cons_self ..)
      · exact .inr (List.mem_cons_of_mem _ z)
  | c :: r, acc, k + 1, f, h => by
    have h' : f ∈ TL.spl s k acc r := h
    obtain ⟨h1, h2⟩ := mem_spl h'
    exact ⟨fun d hd => (h1 d hd).imp id fun z => List.mem_cons_of_mem _ z, by simp at h2 ⊢; omega⟩
theorem Asc.spl {s x : List Nat} (h : Asc x) {f : List Nat} (hf : f ∈ TL.spl s 0 [] x) : Asc f := by
  obtain ⟨h1, h2⟩ := mem_spl hf
  exact ⟨fun c hc => h.lt c ((h1 c hc).elim (fun z => by cases z) id), by have := h.len; simp at h2; omega⟩
def dT (x : List Nat) : D := .str (S x)
def facts (x : List Nat) : Option (List (List Nat)) := if (TL.spl [42] 0 [] x).length ≤ 9 ∧ (TL.spl [42] 0 [] x).all (fun f => numB f || letB f) = true then some (TL.spl [42] 0 [] x) else none
def fD : Option (List (List Nat)) → D
  | some fs => .lst (fs.map dT)
  | none => .non
/-- a pure def of one text -/
structure P1 (v : Ev) (k : Nat) (f : List Nat → D) : Prop where
  np : v.np k = 1
  dd : v.dds k = []
  ok : ∀ {x : List Nat}, Asc x → wE (v.call k [dT x]) [] (fun d _ => d = f x) XF
theorem P1.use {v : Ev} {k : Nat} {f : List Nat → D} (p : P1 v k f) {x : List Nat} (h : Asc x) {Q : D → Prop} {X : XP} (hn : (f x).noRef = true) (q : Q (f x)) : [dT x].length + (v.dds k).length = v.np k ∧ D.noRefs ([dT x] ++ v.dds k) = true ∧ wE (v.call k ([dT x] ++ v.dds k)) [] (fun d _ => d.noRef = true ∧ Q d) X :=
  k_ofP p.np p.dd rfl rfl ((p.ok h).to fun d _ e => by subst e; exact ⟨hn, q⟩)
theorem spl_S (x : List Nat) : Txt.split (S x) ("*" : Str) = (TL.spl [42] 0 [] x).map S := split_S (a := x) (b := [42]) (by decide) (by decide)
theorem spl_W (x : List Nat) : Txt.split (S x) (" " : Str) = (TL.spl [32] 0 [] x).map S := split_S (a := x) (b := [32]) (by decide) (by decide)
theorem lib_factors {v : Ev} {g3 fn fl : Nat} (h3 : v.cst g3 = some (.int 9)) (pn : P1 v fn fun x => .bl (numB x)) (pl : P1 v fl fun x => .bl (letB x)) {x : List Nat} (hx : Asc x) : wS (evB v (irFactors g3 fn fl)) [some (dT x), none, none] [] (rP (fun d S' => d = fD (facts x)) XF) := by
  unfold irFactors
  have hL : (S x).length = x.length := S_len x
  refine s_cons (s_set (r_newL (c_split (r_var rfl ⟨S x, rfl, r_str ⟨_, rfl, rfl, by rw [hL]; have := hx.len; omega, _, rfl, ?_⟩⟩))))
  rw [spl_S, List.map_map]
  generalize hfs : TL.spl [42] 0 [] x = fs
  have hA : ∀ f ∈ fs, Asc f := fun f hf => hx.spl (s := [42]) (by rw [hfs]; exact hf)
  show wS _ [some (dT x), some (.lst (fs.map dT)), none] _ _
  refine s_cons (s_if (t_cmp (r_bi (r_cons (r_var rfl (r_nil (p_lenL (r_glo h3 (p_gt ⟨_, rfl, fun h => ?_, fun h => s_nil ?_⟩))))))))) 
  · have h : 9 < fs.length := by have := of_decide_eq_true h; simp at this; omega
    refine s_cons (s_ret (r_non ?_))
    show D.non = fD (facts x)
    unfold facts
    rw [hfs, if_neg (fun z => by omega)]
    rfl
  have h : fs.length ≤ 9 := by have := of_decide_eq_false h; simp at this; omega
  refine s_cons (s_for (i_seq (r_var rfl ⟨fs.map dT, rfl, ?_⟩)))
  refine wS_loop (fun k E U => k ≤ fs.length ∧ (∀ f ∈ fs.take k, (numB f || letB f) = true) ∧ ∃ e2, E = [some (dT x), some (.lst (fs.map dT)), e2] ∧ U = []) _ 0 ⟨Nat.zero_le _, (fun f hf => by simp at hf), none, rfl, rfl⟩ ?_ ?_
  · rintro k d E U hd ⟨hk, hok, e2, rfl, rfl⟩
    rw [Nat.zero_add] at *
    rw [List.getElem?_map, Option.map_eq_some_iff] at hd
    obtain ⟨f, hf, rfl⟩ := hd
    have hfm := List.mem_of_getElem? hf
    have hkl := (List.getElem?_eq_some_iff.mp hf).1
    have step : (numB f || letB f) = true → (∀ g ∈ fs.take (k + 1), (numB g || letB g) = true) := fun hb g hg => by
      rw [take_snoc hf] at hg
      rcases List.mem_append.mp hg with z | z
      · exact hok g z
      · rw [List.mem_singleton.mp z]; exact hb
    refine put_1 ?_
    show wS _ [some (dT x), some (.lst (fs.map dT)), some (dT f)] _ _
    refine s_cons (s_if (t_and (t_not (t_val (r_callP (r_cons (r_var rfl (r_nil ?_))))))))
    refine pn.use (hA f hfm) rfl ?_
    refine ⟨_, rfl, fun h1 => ?_, fun h1 => ⟨fun z => (by cases z), fun _ => ?_⟩⟩
    · refine t_and1 (t_not (t_val (r_callP (r_cons (r_var rfl (r_nil ?_))))))
      refine pl.use (hA f hfm) rfl ?_
      refine ⟨_, rfl, fun h2 => ?_, fun h2 => ?_⟩
      · refine s_cons (s_ret (r_non ?_))
        show D.non = fD (facts x)
        unfold facts
        rw [hfs, if_neg]
        · rfl
        · rintro ⟨_, z⟩
          have z := List.all_eq_true.mp z f hfm
          have h1 : numB f = false := by simpa using h1
          have h2 : letB f = false := by simpa using h2
          rw [h1, h2] at z
          cases z
      · have h2 : letB f = true := by simpa using h2
        exact s_nil (s_nil ⟨hkl, step (by rw [h2, Bool.or_true]), some (dT f), rfl, rfl⟩)
    · have h1 : numB f = true := by simpa using h1
      exact s_nil (s_nil ⟨hkl, step (by rw [h1, Bool.true_or]), some (dT f), rfl, rfl⟩)
  · rintro E U ⟨_, hok, e2, rfl, rfl⟩
    rw [Nat.zero_add, List.length_map, List.take_length] at hok
    refine s_cons (s_ret (r_var rfl ?_))
    show D.lst (fs.map dT) = fD (facts x)
    unfold facts
    rw [hfs, if_pos ⟨h, List.all_eq_true.mpr hok⟩]
    rfl
end PK
namespace PK
open PySem PySem.Spec PyProof.Rows L2 SX
/-! ### the terms of an expression -/
def trm : Nat → Int → List (List Nat) → Option (List (Int × List (List Nat)))
  | _, _, [] => some []
  | i, s, w :: ws => if i % 2 = 1 then (if w = [43] ∨ w = [45] then trm (i + 1) (if w = [45] then -1 else 1) ws else none)
    else match facts (if i = 0 ∧ w.take 1 = [45] then w.drop 1 else w) with
      | none => none
      | some fs => (trm (i + 1) (if i = 0 ∧ w.take 1 = [45] then -1 else s) ws).map ((if i = 0 ∧ w.take 1 = [45] then -1 else s, fs) :: ·)
def badW (ws : List (List Nat)) : Bool := decide (1999 < ws.length) || (match ws.getLast? with | some w => decide (w = [43]) || decide (w = [45]) | none => false)
def readT (x : List Nat) : Option (List (Int × List (List Nat))) := if badW (TL.spl [32] 0 [] x) = true then none else trm 0 1 (TL.spl [32] 0 [] x)
def tD (q : Int × List (List Nat)) : D := .tup [.int q.1, .lst (q.2.map dT)]
def oD : Option (List (Int × List (List Nat))) → D
  | some l => .lst (l.map tD)
  | none => .non
theorem spl_ne {s : List Nat} : ∀ (x acc : List Nat) (k : Nat), TL.spl s k acc x ≠ []
  | [], acc, k => by rw [TL.spl_nil]; exact List.cons_ne_nil _ _
  | c :: r, acc, 0 => by
    cases hp : TL.pre s (c :: r) with
    | true => rw [TL.spl_hit hp]; exact List.cons_ne_nil _ _
    | false => rw [TL.spl_miss hp]; exact spl_ne r _ 0
  | c :: r, acc, k + 1 => spl_ne r acc k
theorem enumD_at {xs : List D} {k : Nat} {d : D} (h : (enumD 0 xs)[k]? = some d) : ∃ x, xs[k]? = some x ∧ d = .tup [.int (k : Nat), x] := by
  obtain ⟨x, h1, h2⟩ := enumD_get h
  exact ⟨x, h1, by rw [h2, Nat.zero_add]⟩
theorem p_is {x : D} {S : List DO} {Q : D → List DO → Prop} {X : XP} (q : Q (.bl (isNon x)) S) : wE (copM .is x .non) S Q X := by
  rw [wE_iff]
  cases x <;> exact q
theorem sgn_str : ([D.str "+", D.str "-"] : List D) = [S [43], S [45]].map D.str := rfl
theorem mem_sgn (w : List Nat) : decide (S w ∈ [S [43], S [45]]) = (decide (w = [43]) || decide (w = [45])) := by
  by_cases h1 : w = [43]
  · subst h1; simp
  · by_cases h2 : w = [45]
    · subst h2; simp
    · have e1 : ¬ S w = S [43] := fun z => h1 (S_inj z)
      have e2 : ¬ S w = S [45] := fun z => h2 (S_inj z)
      have : ¬ S w ∈ [S [43], S [45]] := by
        intro z
        rcases List.mem_cons.mp z with z | z
        · exact e1 z
        · exact e2 (List.mem_singleton.mp z)
      rw [decide_eq_false this, decide_eq_false h1, decide_eq_false h2]
      rfl
theorem fD_noRef (o : Option (List (List Nat))) : (fD o).noRef = true := by
  cases o with
  | none => rfl
  | some fs =>
    show D.noRefs (fs.map dT) = true
    induction fs with
    | nil => rfl
    | cons f r ih => show (D.noRef (dT f) && D.noRefs (r.map dT)) = true; rw [ih]; rfl
theorem cut_to {w : List Nat} (h : Asc w) : cutO (dT w) none (some 1) = some (dT (w.take 1)) := by
  show (if (S w).length ≤ 16777216 then some (D.str (cutS (S w) none (some 1))) else none) = _
  rw [if_pos (by rw [S_len]; exact h.l), C8.cutS_slice, slice_to (by decide)]
  rfl
theorem cut_from {w : List Nat} (h : Asc w) : cutO (dT w) (some 1) none = some (dT (w.drop 1)) := by
  show (if (S w).length ≤ 16777216 then some (D.str (cutS (S w) (some 1) none)) else none) = _
  rw [if_pos (by rw [S_len]; exact h.l), C8.cutS_slice, slice_from (by decide)]
  rfl
theorem lib_terms {v : Ev} {g0 ff : Nat} (h0 : v.cst g0 = some (.int 1000)) (pf : P1 v ff fun x => fD (facts x)) {x : List Nat} (hx : Asc x) : wS (evB v (irTerms g0 ff)) [some (dT x), none, none, none, none, none, none, none] [] (rP (fun d S' => d = oD (readT x)) XF) := by
  unfold irTerms
  have hL : (S x).length = x.length := S_len x
  refine s_cons (s_set (r_newL (c_split (r_var rfl ⟨S x, rfl, r_str ⟨_, rfl, rfl, by rw [hL]; have := hx.len; omega, _, rfl, ?_⟩⟩))))
  rw [spl_W, List.map_map]
  have hne := spl_ne (s := [32]) x [] 0
  have hR : readT x = if badW (TL.spl [32] 0 [] x) = true then none else trm 0 1 (TL.spl [32] 0 [] x) := rfl
  have hA : ∀ f ∈ TL.spl [32] 0 [] x, Asc f := fun f hf => hx.spl hf
  generalize TL.spl [32] 0 [] x = ws at hne hR hA
  show wS _ [some (dT x), some (.lst (ws.map dT)), none, none, none, none, none, none] _ _
  refine s_cons (s_if (wE.to (Q := fun k S' => k = badW ws ∧ S' = []) ?_ ?_))
  · refine t_or (t_cmp (r_bi (r_cons (r_var rfl (r_nil (p_lenL ?_))))))
    refine r_bin (r_bin (r_int (r_glo h0 (p_mul (mul64 (by decide)) (r_int (p_sub (p_gt ⟨_, rfl, fun h => ?_, fun h => ⟨?_, rfl⟩⟩)))))))
    · have h : ¬ 1999 < ws.length := by have := of_decide_eq_false h; simp at this; omega
      obtain ⟨w, hw⟩ : ∃ w, ws.getLast? = some w := by
        cases e : ws.getLast? with
        | none => exact absurd (List.getLast?_eq_none_iff.mp e) hne
        | some w => exact ⟨w, rfl⟩
      have hat : L2.atI (ws.map dT) (-1) = some (dT w) := by
        have hpos : 0 < ws.length := List.length_pos_iff.mpr hne
        rw [List.getLast?_eq_getElem?] at hw
        unfold L2.atI L2.ixN
        rw [List.length_map, if_neg (by decide), if_pos (by omega)]
        show (ws.map dT)[(-1 + (ws.length : Int)).toNat]? = _
        rw [show (-1 + (ws.length : Int)).toNat = ws.length - 1 by omega, List.getElem?_map, hw]
        rfl
      refine t_or1 (t_cmp (r_idx (r_var rfl (r_neg (r_int ⟨_, rfl, p_idxL hat ?_⟩)))))
      refine r_tup (r_cons (r_str (r_cons (r_str (r_nil ⟨by simp, ?_⟩)))))
      rw [sgn_str]
      refine p_inT ⟨_, rfl, ?_, rfl⟩
      rw [mem_sgn]
      unfold badW
      rw [hw]
      simp [h]
    · have h : 1999 < ws.length := by have := of_decide_eq_true h; simp at this; omega
      unfold badW
      simp [h]
  · rintro k S' ⟨rfl, rfl⟩
    refine ⟨fun hb => ?_, fun hb => s_nil ?_⟩
    · refine s_cons (s_ret (r_non ?_))
      rw [hR, if_pos hb]
      rfl
    rw [hR, if_neg (by rw [hb]; exact Bool.false_ne_true)]
    have hlen : ws.length ≤ 1999 := by
      unfold badW at hb
      rw [Bool.or_eq_false_iff] at hb
      have := of_decide_eq_false hb.1
      omega
    have mono : ∀ w ∈ ws, PyData.strOk (S (w.take 1)) = true := fun w hw => Asc.ok ⟨fun c hc => (hA w hw).lt c (List.mem_of_mem_take hc), by have := (hA w hw).len; simp; omega⟩
    have k45 : PyData.strOk (S [45]) = true := by simp [PyData.strOk]
    refine s_cons (s_set (r_box (c_lst (r_nil ⟨by simp, ?_⟩))))
    refine s_cons (s_set (r_int (s_cons (s_for (i_enum (r_var rfl ⟨_, rfl, ?_⟩))))))
    refine wS_loop (fun k E U => k ≤ ws.length ∧ ∃ (sg : Int) (acc : List (Int × List (List Nat))) (e4 e5 e6 e7 : Option D), E = [some (dT x), some (.lst (ws.map dT)), some (.ref 0), some (.int sg), e4, e5, e6, e7] ∧ U = [.lst (acc.map tD)] ∧ acc.length ≤ k ∧ trm 0 1 ws = (trm k sg (ws.drop k)).map (acc ++ ·)) _ 0
      ⟨Nat.zero_le _, 1, [], none, none, none, none, rfl, rfl, Nat.le_refl _, by rw [List.drop_zero]; simp⟩ ?_ ?_
    · rintro k d E U hd ⟨hk, sg, acc, e4, e5, e6, e7, rfl, rfl, hal, hT⟩
      rw [Nat.zero_add] at *
      obtain ⟨d', h1, rfl⟩ := enumD_at hd
      rw [List.getElem?_map, Option.map_eq_some_iff] at h1
      obtain ⟨w, hw, rfl⟩ := h1
      have hwm := List.mem_of_getElem? hw
      obtain ⟨hkl, hwe⟩ := List.getElem?_eq_some_iff.mp hw
      have hdrop : ws.drop k = w :: ws.drop (k + 1) := by rw [List.drop_eq_getElem_cons hkl, hwe]
      have hAw := hA w hwm
      refine put_n rfl ?_
      show wS _ [some (dT x), some (.lst (ws.map dT)), some (.ref 0), some (.int sg), some (.int (k : Nat)), some (dT w), e6, e7] _ _
      refine s_cons (s_if (t_cmp (r_bin (r_var rfl (r_int (p_mod (by decide) (r_int (p_eq ⟨_, rfl, fun h => ?_, fun h => ?_⟩))))))))
      · have hodd : k % 2 = 1 := by
          have := of_decide_eq_true h
          rw [Int.fmod_eq_emod_of_nonneg _ (by decide)] at this
          omega
        refine s_cons (s_if (t_cmp (r_var rfl (r_tup (r_cons (r_str (r_cons (r_str (r_nil ⟨by simp, ?_⟩)))))))))
        rw [sgn_str]
        refine p_ninT ⟨_, rfl, ?_⟩
        rw [mem_sgn]
        refine ⟨fun hb => ?_, fun hb => s_nil ?_⟩
        · refine s_cons (s_ret (r_non ?_))
          have hb : ¬ (w = [43] ∨ w = [45]) := by simpa using hb
          rw [hT, hdrop]
          unfold trm
          rw [if_pos hodd, if_neg hb]
          rfl
        · have hb : w = [43] ∨ w = [45] := by
            rcases Decidable.em (w = [43]) with z | z
            · exact .inl z
            · rcases Decidable.em (w = [45]) with y | y
              · exact .inr y
              · rw [decide_eq_false z, decide_eq_false y] at hb; cases hb
          refine s_cons (s_set (r_ife (t_cmp (r_var rfl (r_str (show wE (copM .eq (.str (S w)) (.str (S [45]))) _ _ _ from p_eqS hAw.ok k45 ⟨_, rfl, ?_⟩))))))
          rw [S_eq]
          have fin : ∀ z : Int, z = (if w = [45] then -1 else 1) → trm 0 1 ws = (trm (k + 1) z (ws.drop (k + 1))).map (acc ++ ·) := by
            intro z hz
            rw [hT, hdrop, trm, if_pos hodd, if_pos hb, hz]
          refine ⟨fun hc => r_neg (r_int ⟨_, rfl, s_nil ⟨hkl, -1, acc, _, _, _, _, rfl, rfl, by omega, fin _ ?_⟩⟩), fun hc => r_int (s_nil ⟨hkl, 1, acc, _, _, _, _, rfl, rfl, by omega, fin _ ?_⟩)⟩
          · rw [if_pos (of_decide_eq_true hc)]
          · rw [if_neg (of_decide_eq_false hc)]
      · have heven : ¬ k % 2 = 1 := by
          have := of_decide_eq_false h
          rw [Int.fmod_eq_emod_of_nonneg _ (by decide)] at this
          omega
        refine s_cons (s_set (r_var rfl ?_))
        show wS _ [some (dT x), some (.lst (ws.map dT)), some (.ref 0), some (.int sg), some (.int (k : Nat)), some (dT w), some (dT w), e7] _ _
        refine s_cut (fun E U => ∃ sg' t, E = [some (dT x), some (.lst (ws.map dT)), some (.ref 0), some (.int sg'), some (.int (k : Nat)), some (dT w), some (dT t), e7] ∧ U = [.lst (acc.map tD)] ∧ sg' = (if k = 0 ∧ w.take 1 = [45] then -1 else sg) ∧ t = (if k = 0 ∧ w.take 1 = [45] then w.drop 1 else w)) ?_ ?_
        · refine s_if (t_and (t_cmp (r_var rfl (r_int (p_eq ⟨_, rfl, fun h0 => ?_, fun h0 => ⟨fun z => (by cases z), fun _ => ?_⟩⟩)))))
          · have h0 : k = 0 := by have := of_decide_eq_true h0; omega
            refine t_and1 (t_cmp (r_cut (r_var rfl (r_o0 (r_o1 (r_int ⟨_, rfl, dT (w.take 1), cut_to hAw, r_str ?_⟩))))))
            refine (show wE (copM .eq (.str (S (w.take 1))) (.str (S [45]))) _ _ _ from p_eqS (mono w hwm) k45 ⟨_, rfl, ?_⟩)
            rw [S_eq]
            refine ⟨fun hc => ?_, fun hc => ?_⟩
            · have hc := of_decide_eq_true hc
              refine s_cons (s_set (r_neg (r_int ⟨_, rfl, ?_⟩)))
              refine s_cons (s_set (r_cut (r_var rfl (r_o1 (r_int ⟨_, rfl, r_o0 ⟨dT (w.drop 1), cut_from hAw, s_nil ?_⟩⟩)))))
              exact ⟨-1, w.drop 1, rfl, rfl, by rw [if_pos ⟨h0, hc⟩], by rw [if_pos ⟨h0, hc⟩]⟩
            · have hc := of_decide_eq_false hc
              exact s_nil ⟨sg, w, rfl, rfl, by rw [if_neg (fun z => hc z.2)], by rw [if_neg (fun z => hc z.2)]⟩
          · have h0 : ¬ k = 0 := by have := of_decide_eq_false h0; omega
            exact s_nil ⟨sg, w, rfl, rfl, by rw [if_neg (fun z => h0 z.1)], by rw [if_neg (fun z => h0 z.1)]⟩
        rintro E U ⟨sg', t, rfl, rfl, es, et⟩
        have hAt : Asc t := by
          subst et
          split
          · exact ⟨fun c hc => hAw.lt c (List.mem_of_mem_drop hc), by have := hAw.len; simp; omega⟩
          · exact hAw
        refine s_cons (s_set (r_callP (r_cons (r_var rfl (r_nil ?_)))))
        refine pf.use hAt (fD_noRef _) ?_
        refine s_cons (s_if (t_cmp (r_var rfl (r_non (p_is ⟨_, rfl, fun hb => ?_, fun hb => s_nil ?_⟩)))))
        · refine s_cons (s_ret (r_non ?_))
          rw [hT, hdrop, trm, if_neg heven, ← et]
          cases hf : facts t with
          | none => rfl
          | some fs => rw [hf] at hb; cases hb
        · obtain ⟨fs, hf⟩ : ∃ fs, facts t = some fs := by
            cases hf : facts t with
            | none => rw [hf] at hb; cases hb
            | some fs => exact ⟨fs, rfl⟩
          rw [hf]
          show wS _ [some (dT x), some (.lst (ws.map dT)), some (.ref 0), some (.int sg'), some (.int (k : Nat)), some (dT w), some (dT t), some (.lst (fs.map dT))] _ _
          refine s_cons (s_expr (r_app (r_var rfl ⟨0, _, rfl, rfl, r_tup (r_cons (r_var rfl (r_cons (r_var rfl (r_nil ⟨by simp, _, rfl, by rw [List.length_map]; omega, s_nil ?_⟩)))))⟩)))
          refine ⟨hkl, sg', acc ++ [(sg', fs)], _, _, _, _, rfl, ?_, by simp; omega, ?_⟩
          · rw [List.map_append]; rfl
          · rw [hT, hdrop, trm, if_neg heven, ← et, hf, ← es]
            cases trm (k + 1) sg' (ws.drop (k + 1)) with
            | none => rfl
            | some r => simp
    · rintro E U ⟨_, sg, acc, e4, e5, e6, e7, rfl, rfl, hal, hT⟩
      rw [Nat.zero_add, enumD_length, List.length_map, List.drop_length] at hT
      refine s_cons (s_ret (r_frz rfl rfl rfl ?_))
      rw [hT]
      show D.lst (acc.map tD) = oD ((trm ws.length sg []).map (acc ++ ·))
      rw [trm]
      simp [oD]
end PK
namespace PK
open PySem PySem.Spec PyProof.Rows L2 SX
/-! ### polynomials as dicts: what the laws share -/
def irWz : ISs := .cons (.lock 0 (.ret (.box (.dc (.keys (.lckv 0)) (.name 1) [("key", 1)] (.some (.cmp .ne (.idx (.var 0) (.var 1)) (.int 0))) (.var 1) (.idx (.var 0) (.var 1)))))) (.nil)
def clean (p : List (List Str × Int)) : List (List Str × Int) := p.filter fun q => decide (q.2 ≠ 0)

theorem clean_nz (p : List (List Str × Int)) : NZ (clean p) := fun q hq => of_decide_eq_true (List.mem_filter.mp hq).2
theorem clean_of {p : List (List Str × Int)} (h : NZ p) : clean p = p := List.filter_eq_self.mpr fun q hq => decide_eq_true (h q hq)
theorem clean_snoc (p : List (List Str × Int)) (q : List Str × Int) : clean (p ++ [q]) = clean p ++ if q.2 ≠ 0 then [q] else [] := by
  unfold clean
  rw [List.filter_append]
  by_cases h : q.2 = 0 <;> simp [h]

theorem putD_new {p : List (List Str × Int)} {k : List Str} {c : Int} (h : k ∉ p.map (·.1)) : putD p k c = p ++ [(k, c)] := by
  induction p with
  | nil => rfl
  | cons a r ih =>
    obtain ⟨x, y⟩ := a
    simp only [List.map_cons, List.mem_cons, not_or] at h
    unfold putD
    rw [if_neg (fun z => h.1 z.symm), ih h.2]
    rfl
theorem not_take {p : List (List Str × Int)} (nd : (p.map (·.1)).Nodup) {n : Nat} {q : List Str × Int} (h : p[n]? = some q) : q.1 ∉ (p.take n).map (·.1) := by
  obtain ⟨hl, e⟩ := List.getElem?_eq_some_iff.mp h
  have e2 : p = p.take n ++ q :: p.drop (n + 1) := by rw [← e, ← List.drop_eq_getElem_cons hl, List.take_append_drop]
  rw [e2, List.map_append, List.map_cons, List.nodup_append] at nd
  exact fun z => nd.2.2 _ z _ (List.mem_cons_self ..) rfl
theorem kS_at {p : List (List Str × Int)} {n : Nat} {z : D × D} (h : (kI emS p)[n]? = some z) : ∃ q, p[n]? = some q ∧ z = (dS q.1, D.int q.2) := by
  unfold kI kD at h
  rw [List.getElem?_map, Option.map_eq_some_iff] at h
  obtain ⟨q, h1, h2⟩ := h
  exact ⟨q, h1, h2.symm⟩
theorem kS_dget {p : List (List Str × Int)} (nd : (p.map (·.1)).Nodup) {q : List Str × Int} (h : q ∈ p) : dget (kI emS p) (dS q.1) = some (.int q.2) := by
  show dget (kI emS p) (emS.e q.1) = _
  rw [kD_get, mem_look nd h]; rfl
/-! ### the common steps -/
section
variable {v : Ev} {S : List DO} {E : PK.Env} {P : Post}
theorem vw_d {S : List DO} {r : Nat} {kvs : List (D × D)} (h : S[r]? = some (.dct kvs)) : viewD S (.ref r) = some kvs := by unfold viewD; simp only [h]
theorem vw_l {S : List DO} {r : Nat} {kvs : List (D × D)} (h : S[r]? = some (.lkd kvs)) : viewD S (.ref r) = some kvs := by unfold viewD; simp only [h]
theorem s_acc {io ik r : Nat} {x : IE} {O : List (List Str × Int)} {ks : List Str} (hE1 : E[io]? = some (some (.ref r))) (hE2 : E[ik]? = some (some (dS ks))) (hS : S[r]? = some (.dct (kI emS O))) (hl : O.length < 16777216)
    (hx : wE (evE v x E) S (fun d S' => ∃ c : Int, d = .int c ∧ S'[r]? = some (.dct (kI emS O)) ∧ P.nx E (S'.set r (.dct (kI emS (addD O ks c))))) fun c fs S => P.x c fs E S) :
    wS (evS v (.sub (.var io) (.var ik) (.bin .add (.get (.var io) (.var ik) (.cons (.int 0) .nil)) x))) E S P := by
  have hv := vw_d hS
  refine s_subD (r_bin (r_get (r_var hE1 ⟨_, hv, ?_⟩)))
  refine r_cons (r_var hE2 (r_cons (r_int (r_nil ?_))))
  refine p_get2 hv (tkey_dS ks) (kD_tkeys _) ?_
  rw [show dget (kI emS O) (dS ks) = dget (kI emS O) (emS.e ks) from rfl, kI_getD]
  refine hx.mono (fun d S' ⟨c, e, h1, h2⟩ => ?_) fun _ _ _ z => z
  subst e
  refine p_add ?_
  refine r_var hE1 (r_var hE2 ⟨r, _, rfl, h1, by rw [tkey_dS]; rfl, kD_tkeys _, by unfold kI; rw [kD_len]; exact hl, ?_⟩)
  rw [show dput (kI emS O) (dS ks) (.int (dv O ks + c)) = dput (kI emS O) (emS.e ks) (.int (dv O ks + c)) from rfl, kI_add]
  exact h2
/-- d[k] of a told dict -/
theorem r_rd {id ik r : Nat} {p : List (List Str × Int)} {q : List Str × Int} {Q : D → List DO → Prop} {X : XP} (hE1 : E[id]? = some (some (.ref r))) (hE2 : E[ik]? = some (some (dS q.1))) (hv : viewD S (.ref r) = some (kI emS p)) (nd : (p.map (·.1)).Nodup) (hq : q ∈ p) (h : Q (.int q.2) S) : wE (evE v (.idx (.var id) (.var ik)) E) S Q X := by
  refine r_idx (r_var hE1 (r_var hE2 ?_))
  exact p_didx (ds := q.1.map D.str) hv (tkey_dS q.1) (kD_tkeys _) (kS_dget nd hq) h
end

theorem app_at {S : List DO} {o : DO} : (S ++ [o])[S.length]? = some o := by simp
theorem app_old {S g : List DO} {j : Nat} {o : DO} (h : S[j]? = some o) : (S ++ g)[j]? = some o := by
  rw [List.getElem?_append_left (List.getElem?_eq_some_iff.mp h).1]; exact h
theorem app_set {S : List DO} {o o' : DO} : (S ++ [o]).set S.length o' = S ++ [o'] := by simp
theorem kI_clD (p : List (List Str × Int)) : DO.noL false (.dct (kI emS p)) = true := kI_noL _ _
theorem kI_clL (p : List (List Str × Int)) : DO.noL false (.lkd (kI emS p)) = true := kI_noL _ _

theorem keys_eq (p : List (List Str × Int)) : (kI emS p).map (·.1) = p.map fun q => dS q.1 := by unfold kI kD; rw [List.map_map]; rfl
theorem put_end {p : List (List Str × Int)} {q : List Str × Int} (h : q.1 ∉ p.map (·.1)) : dput (kI emS p) (dS q.1) (D.int q.2) = kI emS (p ++ [q]) := by
  show dput (kI emS p) (emS.e q.1) (D.int q.2) = _
  unfold kI
  rw [kD_put, putD_new h]
theorem fold_copy {cf : D → Bool} {vf : D → D} {f : List Str × Int → Bool} : ∀ (suf acc : List (List Str × Int)), (∀ q ∈ suf, vf (dS q.1) = .int q.2) → (∀ q ∈ suf, cf (dS q.1) = f q) → ((acc ++ suf).map (·.1)).Nodup →
    ((suf.map fun q => dS q.1).filter cf).foldl (fun a d => dput a (id d) (vf d)) (kI emS acc) = kI emS (acc ++ suf.filter f)
  | [], acc, _, _, _ => by simp
  | q :: suf, acc, h1, h2, nd => by
    rw [List.map_cons, List.filter_cons, h2 q (List.mem_cons_self ..), List.filter_cons]
    have nd' := nd
    rw [List.map_append, List.map_cons, List.nodup_append] at nd'
    cases hf : f q with
    | false =>
      rw [if_neg Bool.false_ne_true, if_neg Bool.false_ne_true]
      refine fold_copy suf acc (fun r hr => h1 r (List.mem_cons_of_mem _ hr)) (fun r hr => h2 r (List.mem_cons_of_mem _ hr)) ?_
      rw [List.map_append, List.nodup_append]
      exact ⟨nd'.1, (List.nodup_cons.mp nd'.2.1).2, fun a ha b hb => nd'.2.2 a ha b (List.mem_cons_of_mem _ hb)⟩
    | true =>
      rw [if_pos rfl, if_pos rfl, List.foldl_cons, h1 q (List.mem_cons_self ..)]
      show List.foldl _ (dput (kI emS acc) (dS q.1) (D.int q.2)) _ = _
      rw [put_end (fun z => nd'.2.2 _ z _ (List.mem_cons_self ..) rfl)]
      have := fold_copy (cf := cf) (vf := vf) (f := f) suf (acc ++ [q]) (fun r hr => h1 r (List.mem_cons_of_mem _ hr)) (fun r hr => h2 r (List.mem_cons_of_mem _ hr)) (by rw [List.append_assoc]; exact nd)
      rw [List.append_assoc] at this
      exact this
theorem set_back {S g : List DO} {x : Nat} {o o' : DO} (h : S[x]? = some o) : (S.set x o' ++ g).set x o = S ++ g := by
  have lx := (List.getElem?_eq_some_iff.mp h).1
  rw [List.set_append_left _ _ (by simpa using lx), List.set_set, setS_self h]
theorem lib_wz {v : Ev} {x : Nat} {p : List (List Str × Int)} {S : List DO} (hx : S[x]? = some (.dct (kI emS p))) (cl : Cl S) (nd : (p.map (·.1)).Nodup) (hl : p.length < 16777216) : wS (evB v irWz) [some (.ref x), none] S (rP (fun d S' => d = .ref S.length ∧ S' = S ++ [.dct (kI emS (clean p))]) XF) := by
  unfold irWz
  have lx := (List.getElem?_eq_some_iff.mp hx).1
  refine s_cons (s_lock (r := x) rfl hx rfl ?_)
  have g3 : (S.set x (.lkd (kI emS p)))[x]? = some (.lkd (kI emS p)) := List.getElem?_set_self lx
  refine s_ret (r_box (c_dc (i_keys (r_lckv rfl g3 rfl ⟨_, rfl, kD_tkeys _, ?_⟩))))
  rw [keys_eq]
  refine w_dl (fun d => match dget (kI emS p) d with | some (.int i) => decide (i ≠ 0) | _ => false) id (fun d => (dget (kI emS p) d).getD .non) _ [] ?_ rfl (by simp; omega) ?_
  · intro d hd
    obtain ⟨q, hq, rfl⟩ := List.mem_map.mp hd
    have hg := kS_dget nd hq
    refine ⟨[some (.ref x), some (dS q.1)], rfl, ?_, fun _ => ⟨r_var rfl ⟨rfl, rfl⟩, r_rd rfl rfl (vw_l g3) nd hq ⟨by rw [hg]; rfl, rfl⟩, by rw [show id (dS q.1) = dS q.1 from rfl, tkey_dS]; rfl⟩⟩
    refine o_some (t_cmp (r_rd rfl rfl (vw_l g3) nd hq (r_int (p_ne ⟨_, rfl, ?_, rfl⟩))))
    rw [hg]
    simp
  · have e := fold_copy (cf := fun d => match dget (kI emS p) d with | some (.int i) => decide (i ≠ 0) | _ => false) (vf := fun d => (dget (kI emS p) d).getD .non) (f := fun q => decide (q.2 ≠ 0)) p [] (fun q hq => by rw [kS_dget nd hq]; rfl) (fun q hq => by rw [kS_dget nd hq]) (by simpa using nd)
    have e' : ((p.map fun q => dS q.1).filter fun d => match dget (kI emS p) d with | some (.int i) => decide (i ≠ 0) | _ => false).foldl (fun a d => dput a (id d) ((dget (kI emS p) d).getD .non)) [] = kI emS (clean p) := e
    rw [e']
    have ln : (S.set x (.lkd (kI emS p))).length = S.length := by simp
    rw [ln]
    refine ⟨_, _, by rw [List.getElem?_append_left (by simpa using lx)]; exact g3, rfl, rfl, ((cl.set (kI_clL p)).app (kI_clD (clean p))).all, ?_⟩
    rw [set_back hx]
    exact ⟨rfl, rfl⟩
end PK
namespace PK
open PySem PySem.Spec PyProof.Rows L2 SX
/-! ### factors: numbers and letters -/
inductive Fa where
  | num (n : Nat) | let_ (l : List Nat)
def Fa.tx : Fa → List Nat
  | .num n => TL.numL n
  | .let_ l => l
def Fa.d : Fa → D
  | .num n => .int (n : Int)
  | .let_ l => dT l
structure LetOk (l : List Nat) : Prop where
  b : letB l = true
def Fa.Ok : Fa → Prop
  | .num n => n < 10 ^ 400
  | .let_ l => letB l = true
theorem numL_head : ∀ (n : Nat), (TL.numL n).head? = some 48 → n = 0 := by
  intro n
  induction n using Nat.strongRecOn with
  | _ n ih =>
    intro h
    by_cases hn : n < 10
    · rw [TL.numL_lt hn] at h
      simp at h
      omega
    · rw [TL.numL_step (by omega)] at h
      have h2 : (TL.numL (n / 10)).head? = some 48 := by
        cases e : TL.numL (n / 10) with
        | nil => exact absurd e (TL.numL_ne _)
        | cons c r => rw [e] at h; simpa using h
      have := ih (n / 10) (by omega) h2
      omega
theorem numB_num {n : Nat} (h : n < 10 ^ 400) : numB (TL.numL n) = true := by
  have h1 : 1 ≤ (TL.numL n).length := List.length_pos_iff.mpr (TL.numL_ne n)
  have h2 := TL.numL_len (n := n) (k := 400) (by decide) h
  have h3 : (TL.numL n).all isDig = true := by
    rw [List.all_eq_true]
    intro c hc
    obtain ⟨a, b⟩ := TL.numL_digits n c hc
    unfold isDig
    simp [a, b]
  have h4 : (decide ((TL.numL n).head? = some 48) && decide (TL.numL n ≠ [48])) = false := by
    by_cases e : (TL.numL n).head? = some 48
    · have := numL_head n e
      subst this
      rw [show TL.numL 0 = [48] from TL.numL_lt (by decide)]
      rfl
    · rw [decide_eq_false e]; rfl
  unfold numB
  rw [decide_eq_true h1, decide_eq_true h2, h3, h4]
  rfl
theorem let_parts {l : List Nat} (h : letB l = true) : 1 ≤ l.length ∧ l.length ≤ 20 ∧ (∃ c r, l = c :: r ∧ isLow c = true) ∧ ∀ c ∈ l, isLC c = true := by
  unfold letB at h
  simp only [Bool.and_eq_true, decide_eq_true_eq, List.all_eq_true] at h
  obtain ⟨⟨⟨h1, h2⟩, h3⟩, h4⟩ := h
  refine ⟨h1, h2, ?_, h4⟩
  cases l with
  | nil => simp at h1
  | cons c r => exact ⟨c, r, rfl, h3⟩
theorem lc_lt {c : Nat} (h : isLC c = true) : c < 128 ∧ c ≠ 42 ∧ c ≠ 32 ∧ c ≠ 43 ∧ c ≠ 45 := by
  unfold isLC isLow isDig at h
  simp only [Bool.or_eq_true, Bool.and_eq_true, decide_eq_true_eq] at h
  omega
theorem numB_let {l : List Nat} (h : letB l = true) : numB l = false := by
  obtain ⟨_, _, ⟨c, r, rfl, hc⟩, _⟩ := let_parts h
  have : isDig c = false := by
    unfold isLow at hc
    unfold isDig
    simp only [Bool.and_eq_true, decide_eq_true_eq] at hc
    rw [show decide (c ≤ 57) = false from decide_eq_false (by omega), Bool.and_false]
  unfold numB
  rw [List.all_cons, this, Bool.false_and, Bool.and_false]
theorem Fa.sign {f : Fa} (h : f.Ok) : ∀ c ∈ f.tx, c < 128 ∧ c ≠ 42 ∧ c ≠ 32 ∧ c ≠ 43 ∧ c ≠ 45 := by
  intro c hc
  cases f with
  | num n =>
    obtain ⟨a, b⟩ := TL.numL_digits n c hc
    omega
  | let_ l => exact lc_lt ((let_parts h).2.2.2 c hc)
theorem Fa.len {f : Fa} (h : f.Ok) : 1 ≤ f.tx.length ∧ f.tx.length ≤ 400 := by
  cases f with
  | num n => exact ⟨List.length_pos_iff.mpr (TL.numL_ne n), TL.numL_len (by decide) h⟩
  | let_ l => obtain ⟨a, b, _⟩ := let_parts h; exact ⟨a, by show l.length ≤ 400; omega⟩
theorem Fa.good {f : Fa} (h : f.Ok) : (numB f.tx || letB f.tx) = true := by
  cases f with
  | num n => rw [show numB (Fa.num n).tx = true from numB_num h]; rfl
  | let_ l => rw [show letB (Fa.let_ l).tx = true from h, Bool.or_true]
/-- a term's text -/
def tmL (fs : List Fa) : List Nat := TL.joinL [42] (fs.map Fa.tx)
theorem mem_join {s : List Nat} {c : Nat} : ∀ {ps : List (List Nat)}, c ∈ TL.joinL s ps → c ∈ s ∨ ∃ p ∈ ps, c ∈ p
  | [], h => by simp [TL.joinL] at h
  | [p], h => .inr ⟨p, List.mem_cons_self .., h⟩
  | p :: q :: r, h => by
    have h : c ∈ p ++ (s ++ TL.joinL s (q :: r)) := h
    rcases List.mem_append.mp h with z | z
    · exact .inr ⟨p, List.mem_cons_self .., z⟩
    · rcases List.mem_append.mp z with z | z
      · exact .inl z
      · rcases mem_join z with z | ⟨t, ht, hc⟩
        · exact .inl z
        · exact .inr ⟨t, List.mem_cons_of_mem _ ht, hc⟩
theorem len_join {s : List Nat} {b : Nat} : ∀ {ps : List (List Nat)}, (∀ p ∈ ps, p.length ≤ b) → (TL.joinL s ps).length ≤ ps.length * (b + s.length)
  | [], _ => by simp [TL.joinL]
  | [p], h => by have := h p (List.mem_cons_self ..); simp [TL.joinL]; omega
  | p :: q :: r, h => by
    have h1 := h p (List.mem_cons_self ..)
    have h2 := len_join (s := s) (ps := q :: r) fun t ht => h t (List.mem_cons_of_mem _ ht)
    show (p ++ (s ++ TL.joinL s (q :: r))).length ≤ _
    rw [List.length_append, List.length_append, List.length_cons, Nat.succ_mul]
    omega
theorem tm_facts {fs : List Fa} (h : ∀ f ∈ fs, f.Ok) (h1 : fs ≠ []) (h9 : fs.length ≤ 9) : facts (tmL fs) = some (fs.map Fa.tx) := by
  have e : TL.spl [42] 0 [] (tmL fs) = fs.map Fa.tx := TL.spl_join (s := 42) (S := []) (by simpa using h1) fun p hp => by
    obtain ⟨f, hf, rfl⟩ := List.mem_map.mp hp
    exact fun z => (Fa.sign (h f hf) 42 z).2.1 rfl
  have all : (fs.map Fa.tx).all (fun f => numB f || letB f) = true := by
    refine List.all_eq_true.mpr fun p hp => ?_
    obtain ⟨f, hf, rfl⟩ := List.mem_map.mp hp
    exact Fa.good (h f hf)
  unfold facts
  rw [e, if_pos ⟨by simpa using h9, all⟩]
theorem tm_sign {fs : List Fa} (h : ∀ f ∈ fs, f.Ok) : ∀ c ∈ tmL fs, c < 128 ∧ c ≠ 32 ∧ c ≠ 43 ∧ c ≠ 45 := by
  intro c hc
  rcases mem_join hc with z | ⟨p, hp, z⟩
  · rw [List.mem_singleton.mp z]; decide
  · obtain ⟨f, hf, rfl⟩ := List.mem_map.mp hp
    have := Fa.sign (h f hf) c z
    exact ⟨this.1, this.2.2⟩
theorem tm_len {fs : List Fa} (h : ∀ f ∈ fs, f.Ok) (h9 : fs.length ≤ 9) : (tmL fs).length ≤ 3609 := by
  have := len_join (s := [42]) (b := 400) (ps := fs.map Fa.tx) fun p hp => by
    obtain ⟨f, hf, rfl⟩ := List.mem_map.mp hp
    exact (Fa.len (h f hf)).2
  have h2 : (fs.map Fa.tx).length * (400 + [42].length) ≤ 9 * 401 := Nat.mul_le_mul (by simpa using h9) (by simp)
  unfold tmL
  omega
theorem tm_ne {fs : List Fa} (h : ∀ f ∈ fs, f.Ok) (h1 : fs ≠ []) : tmL fs ≠ [] := by
  cases fs with
  | nil => exact absurd rfl h1
  | cons f r =>
    have := (Fa.len (h f (List.mem_cons_self ..))).1
    intro z
    cases r with
    | nil =>
      have z : f.tx = [] := z
      rw [z] at this
      exact absurd this (by decide)
    | cons g r =>
      have z : f.tx ++ ([42] ++ TL.joinL [42] ((g :: r).map Fa.tx)) = [] := z
      have z := (List.append_eq_nil_iff.mp z).1
      rw [z] at this
      exact absurd this (by decide)
/-! ### an expression's words -/
def sgW (s : Int) : List Nat := if s = -1 then [45] else [43]
/-- the words behind the first term -/
def moreW : List (Int × List Fa) → List (List Nat)
  | [] => []
  | (s, fs) :: r => sgW s :: tmL fs :: moreW r
def exW : List (Int × List Fa) → List (List Nat)
  | [] => [[]]
  | (s, fs) :: r => (if s = -1 then 45 :: tmL fs else tmL fs) :: moreW r
structure TmOk (q : Int × List Fa) : Prop where
  sg : q.1 = 1 ∨ q.1 = -1
  ok : ∀ f ∈ q.2, f.Ok
  ne : q.2 ≠ []
  n9 : q.2.length ≤ 9
def tmT (q : Int × List Fa) : Int × List (List Nat) := (q.1, q.2.map Fa.tx)
theorem take1 {fs : List Fa} (h : ∀ f ∈ fs, f.Ok) : (tmL fs).take 1 ≠ [45] := by
  intro z
  cases e : tmL fs with
  | nil => rw [e] at z; cases z
  | cons c r =>
    rw [e] at z
    have hc : c = 45 := by simpa using z
    exact (tm_sign h c (by rw [e]; exact List.mem_cons_self ..)).2.2.2 hc
theorem trm_more : ∀ (r : List (Int × List Fa)) (i : Nat) (s : Int), i % 2 = 1 → (∀ q ∈ r, TmOk q) → trm i s (moreW r) = some (r.map tmT)
  | [], i, s, _, _ => by simp [moreW, trm]
  | (s', fs) :: r, i, s, hi, h => by
    have t := h (s', fs) (List.mem_cons_self ..)
    have ih := trm_more r (i + 1 + 1) s' (by omega) fun q hq => h q (List.mem_cons_of_mem _ hq)
    have e0 : ¬ (i + 1) % 2 = 1 := by omega
    have e1 : ¬ (i + 1 = 0 ∧ (tmL fs).take 1 = [45]) := fun z => by omega
    show trm i s (sgW s' :: tmL fs :: moreW r) = _
    rcases t.sg with e | e
    · have e : s' = 1 := e
      subst e
      rw [trm, if_pos hi, if_pos (.inl rfl), if_neg (by decide), trm, if_neg e0, if_neg e1, tm_facts t.ok t.ne t.n9]
      show (trm (i + 1 + 1) (if i + 1 = 0 ∧ (tmL fs).take 1 = [45] then -1 else 1) (moreW r)).map _ = _
      rw [if_neg e1, ih]
      rfl
    · have e : s' = -1 := e
      subst e
      rw [trm, if_pos hi, if_pos (.inr rfl), if_pos (show sgW (-1) = [45] from rfl), trm, if_neg e0, if_neg e1, tm_facts t.ok t.ne t.n9]
      show (trm (i + 1 + 1) (if i + 1 = 0 ∧ (tmL fs).take 1 = [45] then -1 else -1) (moreW r)).map _ = _
      rw [if_neg e1, ih]
      rfl
theorem trm_ex {ts : List (Int × List Fa)} (h : ∀ q ∈ ts, TmOk q) (hne : ts ≠ []) : trm 0 1 (exW ts) = some (ts.map tmT) := by
  cases ts with
  | nil => exact absurd rfl hne
  | cons q r =>
    obtain ⟨s, fs⟩ := q
    have t := h (s, fs) (List.mem_cons_self ..)
    rcases t.sg with e | e
    · have e : s = 1 := e
      subst e
      show trm 0 1 (tmL fs :: moreW r) = _
      have e1 : ¬ ((0 : Nat) = 0 ∧ (tmL fs).take 1 = [45]) := fun z => take1 t.ok z.2
      rw [trm, if_neg (by decide), if_neg e1, tm_facts t.ok t.ne t.n9]
      show (trm 1 (if (0 : Nat) = 0 ∧ (tmL fs).take 1 = [45] then -1 else 1) (moreW r)).map _ = _
      rw [if_neg e1, trm_more r 1 1 rfl fun q hq => h q (List.mem_cons_of_mem _ hq)]
      rfl
    · have e : s = -1 := e
      subst e
      show trm 0 1 ((45 :: tmL fs) :: moreW r) = _
      have e1 : ((0 : Nat) = 0 ∧ (45 :: tmL fs).take 1 = [45]) := ⟨rfl, rfl⟩
      rw [trm, if_neg (by decide), if_pos e1]
      show (match facts (tmL fs) with | none => none | some fs' => (trm 1 (if (0 : Nat) = 0 ∧ (45 :: tmL fs).take 1 = [45] then -1 else 1) (moreW r)).map ((if (0 : Nat) = 0 ∧ (45 :: tmL fs).take 1 = [45] then -1 else 1, fs') :: ·)) = _
      rw [tm_facts t.ok t.ne t.n9]
      dsimp only
      rw [if_pos e1, trm_more r 1 (-1) rfl fun q hq => h q (List.mem_cons_of_mem _ hq)]
      rfl
end PK
namespace PK
open PySem PySem.Spec PyProof.Rows L2 SX
/-! ### the whole text -/
def exL (ts : List (Int × List Fa)) : List Nat := TL.joinL [32] (exW ts)
theorem moreW_snoc : ∀ (r : List (Int × List Fa)) (q : Int × List Fa), moreW (r ++ [q]) = moreW r ++ [sgW q.1, tmL q.2]
  | [], (s, fs) => rfl
  | (s, fs) :: r, q => by
    show sgW s :: tmL fs :: moreW (r ++ [q]) = _
    rw [moreW_snoc r q]
    rfl
theorem exW_snoc {ts : List (Int × List Fa)} (h : ts ≠ []) (q : Int × List Fa) : exW (ts ++ [q]) = exW ts ++ [sgW q.1, tmL q.2] := by
  cases ts with
  | nil => exact absurd rfl h
  | cons p r =>
    obtain ⟨s, fs⟩ := p
    show (if s = -1 then 45 :: tmL fs else tmL fs) :: moreW (r ++ [q]) = _
    rw [moreW_snoc]
    rfl
theorem join_snoc2 {s a b : List Nat} : ∀ {ws : List (List Nat)}, ws ≠ [] → TL.joinL s (ws ++ [a, b]) = TL.joinL s ws ++ (s ++ (a ++ (s ++ b)))
  | [], h => absurd rfl h
  | [p], _ => rfl
  | p :: q :: r, _ => by
    show p ++ (s ++ TL.joinL s ((q :: r) ++ [a, b])) = (p ++ (s ++ TL.joinL s (q :: r))) ++ _
    rw [join_snoc2 (ws := q :: r) (List.cons_ne_nil _ _)]
    simp [List.append_assoc]
theorem exW_ne (ts : List (Int × List Fa)) : exW ts ≠ [] := by cases ts with
  | nil => exact List.cons_ne_nil _ _
  | cons p r => obtain ⟨s, fs⟩ := p; exact List.cons_ne_nil _ _
theorem exL_snoc {ts : List (Int × List Fa)} (h : ts ≠ []) (q : Int × List Fa) : exL (ts ++ [q]) = exL ts ++ ([32] ++ (sgW q.1 ++ ([32] ++ tmL q.2))) := by
  unfold exL
  rw [exW_snoc h, join_snoc2 (exW_ne ts)]
theorem exL_one (q : Int × List Fa) : exL [q] = if q.1 = -1 then 45 :: tmL q.2 else tmL q.2 := by
  obtain ⟨s, fs⟩ := q
  rfl
theorem moreW_len : ∀ r : List (Int × List Fa), (moreW r).length = 2 * r.length
  | [] => rfl
  | (s, fs) :: r => by
    show (moreW r).length + 1 + 1 = 2 * (r.length + 1)
    rw [moreW_len r]
    omega
theorem moreW_sign : ∀ {r : List (Int × List Fa)}, (∀ q ∈ r, TmOk q) → ∀ w ∈ moreW r, (∀ c ∈ w, c < 128 ∧ c ≠ 32) ∧ w.length ≤ 3609
  | [], _, w, hw => by cases hw
  | (s, fs) :: r, h, w, hw => by
    have t := h (s, fs) (List.mem_cons_self ..)
    rcases List.mem_cons.mp (show w ∈ sgW s :: tmL fs :: moreW r from hw) with e | hw
    · subst e
      unfold sgW
      split
      · exact ⟨fun c hc => by rw [List.mem_singleton.mp hc]; decide, by decide⟩
      · exact ⟨fun c hc => by rw [List.mem_singleton.mp hc]; decide, by decide⟩
    · rcases List.mem_cons.mp hw with e | hw
      · subst e
        exact ⟨fun c hc => ⟨(tm_sign t.ok c hc).1, (tm_sign t.ok c hc).2.1⟩, tm_len t.ok t.n9⟩
      · exact moreW_sign (fun q hq => h q (List.mem_cons_of_mem _ hq)) w hw
theorem exW_sign {ts : List (Int × List Fa)} (h : ∀ q ∈ ts, TmOk q) : ∀ w ∈ exW ts, (∀ c ∈ w, c < 128 ∧ c ≠ 32) ∧ w.length ≤ 3610 := by
  intro w hw
  cases ts with
  | nil =>
    rw [List.mem_singleton.mp hw]
    exact ⟨(fun c hc => by cases hc), by decide⟩
  | cons p r =>
    obtain ⟨s, fs⟩ := p
    have t := h (s, fs) (List.mem_cons_self ..)
    have tl : (tmL fs).length ≤ 3609 := tm_len t.ok t.n9
    rcases List.mem_cons.mp (show w ∈ (if s = -1 then 45 :: tmL fs else tmL fs) :: moreW r from hw) with e | hw
    · subst e
      split
      · refine ⟨fun c hc => ?_, by rw [List.length_cons]; omega⟩
        rcases List.mem_cons.mp hc with e | hc
        · rw [e]; decide
        · exact ⟨(tm_sign t.ok c hc).1, (tm_sign t.ok c hc).2.1⟩
      · exact ⟨fun c hc => ⟨(tm_sign t.ok c hc).1, (tm_sign t.ok c hc).2.1⟩, by omega⟩
    · obtain ⟨a, b⟩ := moreW_sign (fun q hq => h q (List.mem_cons_of_mem _ hq)) w hw
      exact ⟨a, by omega⟩
theorem exW_len (ts : List (Int × List Fa)) : (exW ts).length ≤ 2 * ts.length + 1 ∧ (ts ≠ [] → (exW ts).length = 2 * ts.length - 1) := by
  cases ts with
  | nil => exact ⟨by decide, fun h => absurd rfl h⟩
  | cons p r =>
    obtain ⟨s, fs⟩ := p
    have e : (exW ((s, fs) :: r)).length = 2 * r.length + 1 := by
      show (moreW r).length + 1 = _
      rw [moreW_len]
    rw [e]
    exact ⟨by simp; omega, fun _ => by simp; omega⟩
theorem exL_asc {ts : List (Int × List Fa)} (h : ∀ q ∈ ts, TmOk q) (hl : ts.length ≤ 1000) : Asc (exL ts) := by
  refine ⟨fun c hc => ?_, ?_⟩
  · rcases mem_join hc with z | ⟨w, hw, z⟩
    · rw [List.mem_singleton.mp z]; decide
    · exact ((exW_sign h w hw).1 c z).1
  · have h1 := len_join (s := [32]) (b := 3610) (ps := exW ts) fun w hw => (exW_sign h w hw).2
    have h2 := (exW_len ts).1
    have h3 : (exW ts).length * (3610 + [32].length) ≤ 2001 * 3611 := Nat.mul_le_mul (by omega) (by simp)
    unfold exL
    omega
theorem last_more : ∀ {r : List (Int × List Fa)}, (∀ q ∈ r, TmOk q) → r ≠ [] → ∃ q ∈ r, (moreW r).getLast? = some (tmL q.2)
  | [], _, h => absurd rfl h
  | [(s, fs)], h, _ => ⟨(s, fs), List.mem_cons_self .., rfl⟩
  | (s, fs) :: p :: r, h, _ => by
    obtain ⟨q, hq, e⟩ := last_more (r := p :: r) (fun q hq => h q (List.mem_cons_of_mem _ hq)) (List.cons_ne_nil _ _)
    refine ⟨q, List.mem_cons_of_mem _ hq, ?_⟩
    obtain ⟨s', fs'⟩ := p
    show (sgW s :: tmL fs :: (sgW s' :: tmL fs' :: moreW r)).getLast? = _
    have e : (sgW s' :: tmL fs' :: moreW r).getLast? = some (tmL q.2) := e
    rw [List.getLast?_cons_cons, List.getLast?_cons_cons]
    exact e
theorem tm_not {fs : List Fa} (h : ∀ f ∈ fs, f.Ok) : tmL fs ≠ [43] ∧ tmL fs ≠ [45] :=
  ⟨fun z => (tm_sign h 43 (by rw [z]; decide)).2.2.1 rfl, fun z => (tm_sign h 45 (by rw [z]; decide)).2.2.2 rfl⟩
theorem bad_ex {ts : List (Int × List Fa)} (h : ∀ q ∈ ts, TmOk q) (hne : ts ≠ []) (hl : ts.length ≤ 1000) : badW (exW ts) = false := by
  have h1 := (exW_len ts).2 hne
  obtain ⟨w, hw, n1, n2⟩ : ∃ w, (exW ts).getLast? = some w ∧ w ≠ [43] ∧ w ≠ [45] := by
    cases ts with
    | nil => exact absurd rfl hne
    | cons p r =>
      obtain ⟨s, fs⟩ := p
      have t := h (s, fs) (List.mem_cons_self ..)
      cases r with
      | nil =>
        refine ⟨if s = -1 then 45 :: tmL fs else tmL fs, rfl, ?_⟩
        have ne := tm_ne t.ok t.ne
        split
        · exact ⟨fun z => (by cases z), fun z => ne (List.cons.inj z).2⟩
        · exact tm_not t.ok
      | cons p2 r =>
        obtain ⟨q, hq, e⟩ := last_more (r := p2 :: r) (fun q hq => h q (List.mem_cons_of_mem _ hq)) (List.cons_ne_nil _ _)
        refine ⟨tmL q.2, ?_, tm_not (h q (List.mem_cons_of_mem _ hq)).ok⟩
        obtain ⟨s2, fs2⟩ := p2
        show ((if s = -1 then 45 :: tmL fs else tmL fs) :: (sgW s2 :: tmL fs2 :: moreW r)).getLast? = _
        rw [List.getLast?_cons_cons]
        exact e
  unfold badW
  rw [hw]
  simp [n1, n2]
  omega
theorem read_ex {ts : List (Int × List Fa)} (h : ∀ q ∈ ts, TmOk q) (hne : ts ≠ []) (hl : ts.length ≤ 1000) : readT (exL ts) = some (ts.map tmT) := by
  have e : TL.spl [32] 0 [] (exL ts) = exW ts := TL.spl_join (s := 32) (S := []) (exW_ne ts) fun w hw z => ((exW_sign h w hw).1 32 z).2 rfl
  unfold readT
  rw [e, bad_ex h hne hl, if_neg Bool.false_ne_true, trm_ex h hne]
def irReadP (ft fn fw : Nat) : ISs := .cons (.set 3 (.call true ft (.var 0) .nil)) (.cons (.ifS (.cmp .is (.var 3) .non) (.cons (.never) (.nil)) (.nil)) (.cons (.set 4 (.box .dnew)) (.cons (.forS (.tup (.cons (.name 5) (.cons (.name 6) .nil))) (.seq (.var 3)) (.cons (.set 7 (.var 5)) (.cons (.set 8 (.box (.lst .nil))) (.cons (.forS (.name 9) (.seq (.var 6)) (.cons (.ifS (.val (.call true fn (.var 9) .nil)) (.cons (.set 7 (.bin .mul (.var 7) (.ty .int (.var 9) .nil))) (.nil)) (.cons (.ifS (.cmp .inD (.var 9) (.var 1)) (.cons (.expr (.app (.var 8) (.var 9))) (.nil)) (.cons (.never) (.nil))) (.nil))) (.nil))) (.cons (.set 10 (.ty .tuple (.new (.sorted (.var 8))) .nil)) (.cons (.sub (.var 4) (.var 10) (.bin .add (.get (.var 4) (.var 10) (.cons (.int 0) .nil)) (.var 7))) (.nil))))))) (.cons (.ret (.call false fw (.var 4) .nil)) (.nil)))))
end PK
namespace PK
open PySem PySem.Spec PyProof.Rows L2 SX
/-! ### read_poly of an expression -/
def lsS : List Fa → List Str
  | [] => []
  | .num _ :: r => lsS r
  | .let_ l :: r => S l :: lsS r
def prodF : Int → List Fa → Int
  | a, [] => a
  | a, .num n :: r => prodF (a * (n : Int)) r
  | a, .let_ _ :: r => prodF a r
def addTm (o : List (List Str × Int)) (q : Int × List Fa) : List (List Str × Int) := addD o (sortS (lsS q.2)) (prodF q.1 q.2)
def polyT (ts : List (Int × List Fa)) : List (List Str × Int) := ts.foldl addTm []
theorem lsS_snoc : ∀ (fs : List Fa) (f : Fa), lsS (fs ++ [f]) = lsS fs ++ lsS [f]
  | [], f => rfl
  | .num _ :: r, f => lsS_snoc r f
  | .let_ l :: r, f => by show S l :: lsS (r ++ [f]) = S l :: (lsS r ++ lsS [f]); rw [lsS_snoc r f]
theorem prodF_snoc : ∀ (fs : List Fa) (a : Int) (f : Fa), prodF a (fs ++ [f]) = prodF (prodF a fs) [f]
  | [], a, f => rfl
  | .num n :: r, a, f => prodF_snoc r _ f
  | .let_ _ :: r, a, f => prodF_snoc r a f
theorem lsS_len : ∀ fs : List Fa, (lsS fs).length ≤ fs.length
  | [] => Nat.le_refl _
  | .num _ :: r => by have := lsS_len r; show (lsS r).length ≤ r.length + 1; omega
  | .let_ l :: r => by have := lsS_len r; show (lsS r).length + 1 ≤ r.length + 1; omega
theorem num_sm {n : Nat} (h : n < 10 ^ 400) : Sm 1330 (n : Int) := by
  unfold Sm
  have : (10 ^ 400 : Nat) < 2 ^ 1330 := by decide +kernel
  omega
theorem prodF_sm : ∀ {fs : List Fa} {a : Int} {k : Nat}, (∀ f ∈ fs, f.Ok) → Sm k a → Sm (k + 1330 * fs.length) (prodF a fs)
  | [], a, k, _, h => h
  | .num n :: r, a, k, ho, h => by
    have h1 := prodF_sm (fs := r) (fun f hf => ho f (List.mem_cons_of_mem _ hf)) (Sm.mul h (num_sm (ho (.num n) (List.mem_cons_self ..))))
    rw [show k + 1330 * (Fa.num n :: r).length = k + 1330 + 1330 * r.length by rw [List.length_cons]; omega]
    exact h1
  | .let_ l :: r, a, k, ho, h => (prodF_sm (fs := r) (fun f hf => ho f (List.mem_cons_of_mem _ hf)) h).mono (by rw [List.length_cons]; omega)
theorem polyT_snoc (ts : List (Int × List Fa)) (q : Int × List Fa) : polyT (ts ++ [q]) = addTm (polyT ts) q := by unfold polyT; rw [List.foldl_append]; rfl
theorem polyT_nd : ∀ ts : List (Int × List Fa), ((polyT ts).map (·.1)).Nodup := by
  have key : ∀ (ts : List (Int × List Fa)) (o : List (List Str × Int)), (o.map (·.1)).Nodup → ((ts.foldl addTm o).map (·.1)).Nodup := by
    intro ts
    induction ts with
    | nil => intro o h; exact h
    | cons q r ih => intro o h; exact ih _ (putD_nodup h)
  exact fun ts => key ts [] List.nodup_nil
theorem polyT_len : ∀ ts : List (Int × List Fa), (polyT ts).length ≤ ts.length := by
  have key : ∀ (ts : List (Int × List Fa)) (o : List (List Str × Int)), (ts.foldl addTm o).length ≤ o.length + ts.length := by
    intro ts
    induction ts with
    | nil => intro o; exact Nat.le_refl _
    | cons q r ih =>
      intro o
      have h1 := ih (addTm o q)
      have h2 : (addTm o q).length ≤ o.length + 1 := putD_len _ _ o
      show (r.foldl addTm (addTm o q)).length ≤ _
      rw [List.length_cons]
      omega
  intro ts
  have := key ts []
  simp only [List.length_nil] at this
  unfold polyT
  omega
theorem dTs_noRef (fs : List (List Nat)) : D.noRefs (fs.map dT) = true := by
  induction fs with
  | nil => rfl
  | cons f r ih => show (D.noRef (dT f) && D.noRefs (r.map dT)) = true; rw [ih]; rfl
theorem oD_noRef (o : Option (List (Int × List (List Nat)))) : (oD o).noRef = true := by
  cases o with
  | none => rfl
  | some l =>
    show D.noRefs (l.map tD) = true
    induction l with
    | nil => rfl
    | cons q r ih =>
      show (D.noRef (tD q) && D.noRefs (r.map tD)) = true
      rw [ih, show D.noRef (tD q) = (D.noRef (.int q.1) && (D.noRefs (q.2.map dT) && true)) from rfl, dTs_noRef]
      rfl
structure WzOk (v : Ev) (fw : Nat) : Prop where
  np : v.np fw = 1
  dd : v.dds fw = []
  ok : ∀ {x : Nat} {p : List (List Str × Int)} {S : List DO}, S[x]? = some (.dct (kI emS p)) → Cl S → (p.map (·.1)).Nodup → p.length < 16777216 → wE (v.call fw [.ref x]) S (fun d S' => d = .ref S.length ∧ S' = S ++ [.dct (kI emS (clean p))]) XF
theorem lets_cl (xs : List Str) : DO.noL false (.lst (xs.map D.str)) = true := noLs_S false xs
theorem int_tx {n : Nat} (h : n < 10 ^ 400) : intO [dT (TL.numL n)] = some (.int (n : Int)) := by
  have hl := TL.numL_len (n := n) (k := 400) (by decide) h
  have e : S (TL.numL n) = Str.ofString (toString ((n : Nat) : Int)) := (num_S n).symm
  show (match PySem.intText? (S (TL.numL n)) with
    | some m => if (S (TL.numL n)).length ≤ 640 then some (D.int m) else none
    | none => none) = _
  rw [show PySem.intText? (S (TL.numL n)) = some (n : Int) by rw [e]; exact TL.int_num (by omega)]
  show (if (S (TL.numL n)).length ≤ 640 then some (D.int (n : Int)) else none) = _
  rw [if_pos (by rw [S_len]; omega)]
theorem lib_readp {v : Ev} {ft fn fw : Nat} (pt : P1 v ft fun x => oD (readT x)) (pn : P1 v fn fun x => .bl (numB x)) (wz : WzOk v fw) {ts : List (Int × List Fa)} (h : ∀ q ∈ ts, TmOk q) (hne : ts ≠ []) (hl : ts.length ≤ 1000) {nm : List Str} (hnm : ∀ q ∈ ts, ∀ z ∈ lsS q.2, z ∈ nm) {ln : D} {Z : List DO} (cl : Cl Z) :
    wS (evB v (irReadP ft fn fw)) [some (dT (exL ts)), some (.lst (nm.map D.str)), some ln, none, none, none, none, none, none, none, none] Z (rP (fun d S' => ∃ g, d = .ref (Z ++ g).length ∧ S' = Z ++ g ++ [.dct (kI emS (clean (polyT ts)))] ∧ Cl S') XF) := by
  unfold irReadP
  have hA := exL_asc h hl
  refine s_cons (s_set (r_callP (r_cons (r_var rfl (r_nil ?_)))))
  refine pt.use hA (oD_noRef _) ?_
  rw [read_ex h hne hl]
  show wS _ [some (dT (exL ts)), some (.lst (nm.map D.str)), some ln, some (.lst ((ts.map tmT).map tD)), none, none, none, none, none, none, none] _ _
  refine s_cons (s_if (t_cmp (r_var rfl (r_non (p_is ⟨false, rfl, (fun z => by cases z), fun _ => s_nil ?_⟩)))))
  refine s_cons (s_set (r_box (c_dnew (s_cons (s_for (i_seq (r_var rfl ⟨ts.map (fun q => tD (tmT q)), by rw [show ts.map (fun q => tD (tmT q)) = (ts.map tmT).map tD by rw [List.map_map]; rfl]; rfl, ?_⟩)))))))
  refine wS_loop (fun k E U => k ≤ ts.length ∧ ∃ (g : List DO) (e5 e6 e7 e8 e9 e10 : Option D), E = [some (dT (exL ts)), some (.lst (nm.map D.str)), some ln, some (.lst ((ts.map tmT).map tD)), some (.ref Z.length), e5, e6, e7, e8, e9, e10] ∧ U = Z ++ [.dct (kI emS (polyT (ts.take k)))] ++ g ∧ Cl U) _ 0
    ⟨Nat.zero_le _, [], none, none, none, none, none, none, rfl, by rw [List.append_nil]; rfl, cl.app (kI_clD [])⟩ ?_ ?_
  · rintro k d E U hd ⟨hk, g, e5, e6, e7, e8, e9, e10, rfl, rfl, cU⟩
    rw [Nat.zero_add] at *
    rw [List.getElem?_map, Option.map_eq_some_iff] at hd
    obtain ⟨q, hq, rfl⟩ := hd
    have hqm := List.mem_of_getElem? hq
    have hkl := (List.getElem?_eq_some_iff.mp hq).1
    have ht : ts.take (k + 1) = ts.take k ++ [q] := take_snoc hq
    have tq := h q hqm
    have hpl := polyT_len (ts.take k)
    rw [List.length_take] at hpl
    generalize hO : polyT (ts.take k) = O at cU hpl
    refine put_n (E' := [some (dT (exL ts)), some (.lst (nm.map D.str)), some ln, some (.lst ((ts.map tmT).map tD)), some (.ref Z.length), some (.int q.1), some (.lst ((q.2.map Fa.tx).map dT)), e7, e8, e9, e10]) rfl ?_
    refine s_cons (s_set (r_var rfl (s_cons (s_set (r_box (c_lst (r_nil ⟨by simp, ?_⟩)))))))
    generalize hU0 : Z ++ [DO.dct (kI emS O)] ++ g = U0 at cU
    have z0 : U0[Z.length]? = some (.dct (kI emS O)) := by subst hU0; rw [List.append_assoc, List.getElem?_append_right (Nat.le_refl _)]; simp
    have zl := (List.getElem?_eq_some_iff.mp z0).1
    refine s_cons (s_for (i_seq (r_var rfl ⟨q.2.map (fun f => dT f.tx), by rw [show q.2.map (fun f => dT f.tx) = (q.2.map Fa.tx).map dT by rw [List.map_map]; rfl]; rfl, ?_⟩)))
    refine wS_loop (fun j E U => j ≤ q.2.length ∧ ∃ (e9 : Option D), E = [some (dT (exL ts)), some (.lst (nm.map D.str)), some ln, some (.lst ((ts.map tmT).map tD)), some (.ref Z.length), some (.int q.1), some (.lst ((q.2.map Fa.tx).map dT)), some (.int (prodF q.1 (q.2.take j))), some (.ref U0.length), e9, e10] ∧ U = U0 ++ [.lst ((lsS (q.2.take j)).map D.str)]) _ 0 ⟨Nat.zero_le _, e9, rfl, rfl⟩ ?_ ?_
    · rintro j d E U hd ⟨hj, e9, rfl, rfl⟩
      rw [Nat.zero_add] at *
      rw [List.getElem?_map, Option.map_eq_some_iff] at hd
      obtain ⟨f, hf, rfl⟩ := hd
      have hfm := List.mem_of_getElem? hf
      have hjl := (List.getElem?_eq_some_iff.mp hf).1
      have hok := tq.ok f hfm
      have hft : q.2.take (j + 1) = q.2.take j ++ [f] := take_snoc hf
      have asc : Asc f.tx := ⟨fun c hc => (Fa.sign hok c hc).1, by have := (Fa.len hok).2; omega⟩
      refine put_1 ?_
      show wS _ [some (dT (exL ts)), some (.lst (nm.map D.str)), some ln, some (.lst ((ts.map tmT).map tD)), some (.ref Z.length), some (.int q.1), some (.lst ((q.2.map Fa.tx).map dT)), some (.int (prodF q.1 (q.2.take j))), some (.ref U0.length), some (dT f.tx), e10] _ _
      refine s_cons (s_if (t_val (r_callP (r_cons (r_var rfl (r_nil ?_))))))
      refine pn.use asc rfl ?_
      cases f with
      | num n =>
        have hb : numB (Fa.num n).tx = true := numB_num hok
        refine ⟨_, rfl, fun _ => ?_, fun z => by rw [hb] at z; cases z⟩
        have sm1 : Sm 1 q.1 := by rcases tq.sg with e | e <;> rw [e] <;> (unfold Sm; decide)
        have sm2 := prodF_sm (fs := q.2.take j) (fun f hf => tq.ok f (List.mem_of_mem_take hf)) sm1
        have hjl2 : (q.2.take j).length ≤ 9 := by rw [List.length_take]; have := tq.n9; omega
        refine s_cons (s_set (r_bin (r_var rfl (r_ty (r_cons (r_var rfl (r_nil ?_)))))))
        have it : ∀ {Q : D → List DO → Prop} {T : List DO}, Q (.int (n : Int)) T → wE (tyM .int [dT (Fa.num n).tx]) T Q XF := fun {Q} {T} hq => by
          show wE (EM.ofO (intO [dT (TL.numL n)])) T Q XF
          rw [int_tx hok]
          exact ⟨hq⟩
        refine it (p_mul (Sm.mulOk sm2 (num_sm hok) (by omega)) (s_nil (s_nil ⟨hjl, some (dT (Fa.num n).tx), ?_, ?_⟩)))
        · rw [hft, prodF_snoc]; rfl
        · rw [hft, lsS_snoc]; simp [lsS]
      | let_ l =>
        have hb : numB (Fa.let_ l).tx = false := numB_let hok
        refine ⟨_, rfl, (fun z => by rw [hb] at z; cases z), fun _ => ?_⟩
        have hin : S l ∈ nm := hnm q hqm (S l) (by
          have : ∀ fs : List Fa, Fa.let_ l ∈ fs → S l ∈ lsS fs := by
            intro fs
            induction fs with
            | nil => intro h; cases h
            | cons f r ih =>
              intro h
              rcases List.mem_cons.mp h with e | h2
              · subst e; exact List.mem_cons_self ..
              · cases f with
                | num n => exact ih h2
                | let_ l' => exact List.mem_cons_of_mem _ (ih h2)
          exact this _ hfm)
        refine s_cons (s_if (t_cmp (r_var rfl (r_var rfl (show wE (copM .inD (.str (S l)) (.lst (nm.map D.str))) _ _ _ from p_inL ⟨_, rfl, fun _ => ?_, fun z => ?_⟩)))))
        · have hll := lsS_len (q.2.take j)
          rw [List.length_take] at hll
          have := tq.n9
          refine s_cons (s_expr (r_app (r_var rfl ⟨U0.length, _, rfl, app_at, r_var rfl ⟨_, app_at, by rw [List.length_map]; omega, s_nil (s_nil (s_nil ⟨hjl, some (dT l), ?_, ?_⟩))⟩⟩)))
          · rw [hft, prodF_snoc]; rfl
          · rw [app_set, hft, lsS_snoc]
            show U0 ++ [DO.lst ((lsS (q.2.take j)).map D.str ++ [D.str (S l)])] = U0 ++ [DO.lst ((lsS (q.2.take j) ++ [S l]).map D.str)]
            rw [List.map_append]
            rfl
        · rw [decide_eq_true hin] at z; cases z
    · rintro E U ⟨_, e9, rfl, rfl⟩
      rw [Nat.zero_add, List.length_map, List.take_length]
      have hll := lsS_len q.2
      have := tq.n9
      refine s_cons (s_set (r_ty (r_cons (r_newL (c_sorted (r_var rfl ⟨(lsS q.2).map D.str, lsS q.2, ?_, strsO_map _, by omega, _, rfl, r_nil (p_tupL ?_)⟩))))))
      · show viewS (U0 ++ [DO.lst ((lsS q.2).map D.str)]) (.ref U0.length) = _
        unfold viewS viewL
        simp only [app_at]
      show wS _ [some (dT (exL ts)), some (.lst (nm.map D.str)), some ln, some (.lst ((ts.map tmT).map tD)), some (.ref Z.length), some (.int q.1), some (.lst ((q.2.map Fa.tx).map dT)), some (.int (prodF q.1 q.2)), some (.ref U0.length), e9, some (dS (sortS (lsS q.2)))] _ _
      refine s_cons (s_acc (r := Z.length) rfl rfl (app_old z0) (by omega) (r_var rfl ⟨_, rfl, app_old z0, s_nil ?_⟩))
      refine ⟨hkl, g ++ [.lst ((lsS q.2).map D.str)], _, _, _, _, _, _, rfl, ?_, ((cU.app (lets_cl _)).set (kI_clD _))⟩
      rw [ht, polyT_snoc, hO, ← hU0, List.append_assoc (Z ++ [_]), List.append_assoc Z, List.set_append_right _ _ (Nat.le_refl _)]
      simp [addTm]
  · rintro E U ⟨_, g, e5, e6, e7, e8, e9, e10, rfl, rfl, cU⟩
    rw [Nat.zero_add, List.length_map, List.take_length] at *
    have z0 : (Z ++ [DO.dct (kI emS (polyT ts))] ++ g)[Z.length]? = some (.dct (kI emS (polyT ts))) := by rw [List.append_assoc, List.getElem?_append_right (Nat.le_refl _)]; simp
    refine s_cons (s_ret (r_call (r_cons (r_var rfl (r_nil ?_)))))
    have := polyT_len ts
    refine k_of wz.np wz.dd rfl ((wz.ok z0 cU (polyT_nd ts) (by omega)).to fun d S' ⟨e1, e2⟩ => ?_)
    subst e1 e2
    exact ⟨[.dct (kI emS (polyT ts))] ++ g, by rw [List.append_assoc], by simp only [List.append_assoc], cU.app (kI_clD _)⟩
end PK
namespace PK
open PySem PySem.Spec PyProof.Rows L2
/-! ### exceptions, backwards -/
section
variable {v : Ev} {S : List DO} {E : PK.Env} {X : XP} {Q : D → List DO → Prop} {P : Post}
theorem r_fld {f : Nat} {e : IE} (q : wE (evE v e E) S (fun d S => ∃ c fs x, d = .ins c fs ∧ (xcl c = true ∧ v.xk c f = true ∧ v.fok f = true ∧ (fs.all fun p => v.fok p.1) = true) ∧ fs.lookup f = some x ∧ Q x S) X) : wE (evE v (.fld f e) E) S Q X := by
  unfold evE e1
  rw [w_bind]
  refine q.mono (fun d S ⟨c, fs, x, e1, h1, h2, h3⟩ => ?_) fun _ _ _ z => z
  subst e1
  unfold fldM
  dsimp only
  rw [if_pos h1, w_ofO]
  exact ⟨x, h2, h3⟩
theorem r_isX {t : Nat} {e : IE} (q : wE (evE v e E) S (fun d S => ∃ c fs b, d = .ins c fs ∧ xcl c = true ∧ v.isx c t = some b ∧ Q (.bl b) S) X) : wE (evE v (.isX t e) E) S Q X := by
  unfold evE e1
  rw [w_bind]
  refine q.mono (fun d S ⟨c, fs, b, e1, h1, h2, h3⟩ => ?_) fun _ _ _ z => z
  subst e1
  unfold isXM
  dsimp only
  rw [if_pos h1, w_ofO]
  exact ⟨.bl b, by rw [h2]; rfl, h3⟩
theorem s_mk {j : Nat} {es : IEs} (q : wE (evEs v es E) S (fun xs S => ∃ c fs, v.mf j xs S = some (c, fs) ∧ P.x c fs E S) fun c fs S => P.x c fs E S) : wS (evS v (.mk j es)) E S P := by
  unfold evS sMk
  rw [wS_iff]
  rw [wE_iff] at q
  unfold wS0
  unfold wE0 at q
  dsimp only
  cases hm : evEs v es E S with
  | ok xs S' =>
    rw [hm] at q
    obtain ⟨c, fs, e, q⟩ := q
    dsimp only
    rw [e]
    exact q
  | exc c fs S' => rw [hm] at q; exact q
  | stuck => rw [hm] at q; exact q
theorem s_raise {c : Nat} {e : IE} {es : IEs} (q : wE (evEs v (.cons e es) E) S (fun xs S => xs.length = (v.xf c).length ∧ P.x c ((v.xf c).zip xs).reverse E S) fun c fs S => P.x c fs E S) : wS (evS v (.raise c e es)) E S P := by
  unfold evEs at q
  unfold evS sRaise
  rw [wS_iff]
  rw [wE_iff] at q
  unfold wS0
  unfold wE0 at q
  dsimp only
  cases hm : eCons (evE v e) (evEs v es) E S with
  | ok xs S' =>
    rw [hm] at q
    dsimp only at q ⊢
    rw [if_pos q.1]
    exact q.2
  | exc c' fs S' => rw [hm] at q; exact q
  | stuck => rw [hm] at q; exact q
/-- what is asked behind a suite -/
def endP (sl : Option Nat) (P : Post) : Post := ⟨fun E S => cleanX (unE sl E) = true ∧ S.all DO.noX = true ∧ P.nx (unE sl E) S, fun d S => d.noX = true ∧ S.all DO.noX = true ∧ P.rt d S,
  fun E S => cleanX (unE sl E) = true ∧ S.all DO.noX = true ∧ P.bk (unE sl E) S, fun E S => cleanX (unE sl E) = true ∧ S.all DO.noX = true ∧ P.ct (unE sl E) S, fun _ _ _ _ => False⟩
/-- what the clauses are asked -/
def wT (v : Ev) (cl : IHs) (c : Nat) (fs : List (Nat × D)) (E : PK.Env) (S : List DO) (P : Post) : Prop := wS0 (tryGo c fs (evH v cl)) E S P
theorem wS_endX {m : SM} {sl : Option Nat} (q : wS m E S (endP sl P)) : wS0 (fun E S => endX sl (m E S)) E S P := by
  rw [wS_iff] at q
  unfold wS0 at q ⊢
  dsimp only
  cases hm : m E S with
  | nx E2 S2 => rw [hm] at q; obtain ⟨a, b, q⟩ := q; unfold endX; dsimp only; rw [if_pos ⟨a, b⟩]; exact q
  | rt d S2 => rw [hm] at q; obtain ⟨a, b, q⟩ := q; unfold endX; dsimp only; rw [if_pos ⟨a, b⟩]; exact q
  | brk E2 S2 => rw [hm] at q; obtain ⟨a, b, q⟩ := q; unfold endX; dsimp only; rw [if_pos ⟨a, b⟩]; exact q
  | ct E2 S2 => rw [hm] at q; obtain ⟨a, b, q⟩ := q; unfold endX; dsimp only; rw [if_pos ⟨a, b⟩]; exact q
  | exc c fs E2 S2 => rw [hm] at q; exact q.elim
  | stuck => rw [hm] at q; exact q.elim
theorem t_hit {t : Nat} {sl : Option Nat} {b : ISs} {r : IHs} {c : Nat} {fs : List (Nat × D)} (h : v.isx c t = some true) (hl : okSl sl E = true) (q : wS (evB v b) (inE sl c fs E) S (endP sl P)) : wT v (.cons t sl b r) c fs E S P := by
  have := wS_endX q
  unfold wT evH
  unfold wS0 at this ⊢
  unfold tryGo
  dsimp only
  rw [h]
  dsimp only
  rw [if_pos hl]
  exact this
theorem t_miss {t : Nat} {sl : Option Nat} {b : ISs} {r : IHs} {c : Nat} {fs : List (Nat × D)} (h : v.isx c t = some false) (q : wT v r c fs E S P) : wT v (.cons t sl b r) c fs E S P := by
  unfold wT at q
  unfold wT evH
  unfold wS0 at q ⊢
  unfold tryGo
  dsimp only
  rw [h]
  exact q
theorem t_out {c : Nat} {fs : List (Nat × D)} (q : P.x c fs E S) : wT v .nil c fs E S P := by
  unfold wT evH
  exact q
theorem s_try {b : ISs} {cl : IHs} (q : wS (evB v b) E S ⟨P.nx, P.rt, P.bk, P.ct, fun c fs E S => xcl c = true ∧ wT v cl c fs E S P⟩) : wS (evS v (.tryS b cl)) E S P := by
  unfold evS sTry
  rw [wS_iff] at q ⊢
  unfold wS0 at q ⊢
  dsimp only
  cases hm : evB v b E S with
  | nx E2 S2 => rw [hm] at q; exact q
  | rt d S2 => rw [hm] at q; exact q
  | brk E2 S2 => rw [hm] at q; exact q
  | ct E2 S2 => rw [hm] at q; exact q
  | exc c fs E2 S2 =>
    rw [hm] at q
    obtain ⟨h1, h2⟩ := q
    dsimp only
    rw [if_pos h1]
    exact h2
  | stuck => rw [hm] at q; exact q.elim
end
theorem p_neAg {S : List DO} {x y : D} {Q : D → List DO → Prop} {X : XP} (h0 : viewD S x = none) (h : eqOk (derefL S x) (derefL S y) = false) (h2 : lsAg S x y = true) (q : Q (.bl false) S) : wE (copM .ne x y) S Q X := by
  rw [wE_iff]
  show wE0 (ne2M x y) S Q X
  unfold wE0 ne2M
  simp only [h0, h, h2, Bool.not_false, Bool.and_self, if_true]
  exact q
end PK

namespace K15
open PySem PySem.Spec PyProof.Rows L2 PK
abbrev prog : Program := PySem.Challenge.pw_keptnumbers_k15_errors_and_their_attribu
def top (i : Nat) : Stmt := prog.main.body.getD i (.Pass ⟨0, 0, 0, 0⟩)
def N_law : List Str := ["_law_script", "_law_tape_here", "_law_named", "_law_many", "_law_more", "_law_word", "_law_words", "_law_pair", "_law_side", "_law_index", "_law_entry", "_law_expected", "_law_k"]
def N__law_tape : List Str := ["_law_script", "_law_k", "_law_cell"]
def N__law_pick : List Str := ["_law_tape_here", "_law_many", "_law_mixed", "_law_digit"]
def N__law_first : List Str := ["_law_index", "_law_named", "_law_many", "_law_more", "_law_word", "_law_words", "_law_pair", "_law_side", "_law_given", "e", "_law_entry"]
def N__law_kinds : List Str := ["_law_index", "_law_named", "_law_many", "_law_more", "_law_word", "_law_words", "_law_pair", "_law_side", "e"]
def N__law_called : List Str := ["_law_index", "_law_named", "_law_many", "_law_more", "_law_word", "_law_words", "_law_pair", "_law_side"]
def N__law_raise_named : List Str := ["_law_index", "_law_many", "_law_more", "_law_word", "_law_words", "_law_pair", "_law_side"]
def N__law_raise : List Str := ["_law_index", "_law_many", "_law_more", "_law_word", "_law_words", "_law_pair", "_law_side"]
def ir_law : ISs := .cons (.set 1 (.call false 1 (.var 0) (.cons (.int 0) .nil))) (.cons (.set 2 (.cmp .eq (.call false 2 (.var 1) (.cons (.int 2) .nil)) (.int 1))) (.cons (.set 3 (.call false 2 (.var 1) (.cons (.int 1000) .nil))) (.cons (.set 4 (.bin .sub (.call false 2 (.var 1) (.cons (.int 1000) .nil)) (.int 500))) (.cons (.set 5 (.idx (.new (.lst (.cons (.str "a") (.cons (.str "x[b]") (.cons (.str "zz9") (.cons (.str "") .nil)))))) (.call false 2 (.var 1) (.cons (.int 4) .nil)))) (.cons (.set 6 (.box (.cut (.new (.lst (.cons (.str "s") (.cons (.str "t1") (.cons (.str "s2") .nil))))) .none (.some (.bin .add (.int 1) (.call false 2 (.var 1) (.cons (.int 3) .nil))))))) (.cons (.set 7 (.idx (.new (.lst (.cons (.tup (.cons (.str "turn") .nil)) (.cons (.tup (.cons (.str "raise") (.cons (.int 1) .nil))) (.cons (.tup (.cons (.str "mix") (.cons (.int 0) (.cons (.int 2) .nil)))) (.cons (.tup (.cons (.str "jump") .nil)) .nil)))))) (.call false 2 (.var 1) (.cons (.int 4) .nil)))) (.cons (.set 8 (.idx (.new (.lst (.cons (.str "back") (.cons (.str "front") .nil)))) (.call false 2 (.var 1) (.cons (.int 2) .nil)))) (.cons (.forS (.name 9) (.rng1 (.int 13)) (.cons (.forS (.name 10) (.seq (.call false 3 (.var 9) (.cons (.var 2) (.cons (.var 3) (.cons (.var 4) (.cons (.var 5) (.cons (.var 6) (.cons (.var 7) (.cons (.var 8) .nil))))))))) (.cons (.ifS (.not (.val (.var 10))) (.cons (.ret (.bl false)) (.nil)) (.nil)) (.nil))) (.cons (.set 11 (.new (.cat (.new (.lst (.cons (.bl true) .nil))) (.new (.lc (.rng1 (.int 13)) (.name 12) [("_law_k", 12)] .none (.cmp .eq (.var 12) (.var 9))))))) (.cons (.ifS (.cmp .ne (.call false 4 (.var 9) (.cons (.var 2) (.cons (.var 3) (.cons (.var 4) (.cons (.var 5) (.cons (.var 6) (.cons (.var 7) (.cons (.var 8) .nil)))))))) (.var 11)) (.cons (.ret (.bl false)) (.nil)) (.nil)) (.nil))))) (.cons (.ret (.bl true)) (.nil))))))))))
def ir__law_tape_b : ISs := PK.irTape
def ir__law_pick : ISs := PK.irPick
def ir__law_first : ISs := .cons (.lock 5 (.boxC 8 (.lc (.seq (.lckv 5)) (.name 10) [("_law_entry", 10)] .none (.var 10)))) (.cons (.tryS (.cons (.expr (.call false 5 (.var 0) (.cons (.var 1) (.cons (.var 2) (.cons (.var 3) (.cons (.var 4) (.cons (.var 8) (.cons (.var 6) (.cons (.var 7) .nil))))))))) (.nil)) (.cons 12 (some 9) (.cons (.ret (.new (.lst (.cons (.cmp .eq (.var 0) (.int 0)) (.cons (.cmp .eq (.fld 0 (.var 9)) (.var 2)) .nil))))) (.nil)) (.cons 11 (some 9) (.cons (.ret (.new (.lst (.cons (.cmp .eq (.var 0) (.int 1)) (.cons (.cmp .eq (.fld 0 (.var 9)) (.var 2)) (.cons (.cmp .eq (.fld 1 (.var 9)) (.var 4)) .nil)))))) (.nil)) (.cons 10 (some 9) (.cons (.ret (.new (.lst (.cons (.cmp .eq (.var 0) (.int 2)) (.cons (.cmp .eq (.fld 2 (.var 9)) (.var 2)) .nil))))) (.nil)) (.cons 9 (some 9) (.cons (.ret (.new (.lst (.cons (.cmp .eq (.var 0) (.int 3)) (.cons (.cmp .eq (.fld 3 (.var 9)) (.var 2)) .nil))))) (.nil)) (.cons 8 (some 9) (.cons (.expr (.app (.var 8) (.str "zz"))) (.cons (.ret (.new (.lst (.cons (.cmp .eq (.var 0) (.int 4)) (.cons (.cmp .eq (.fld 4 (.var 9)) (.var 5)) .nil))))) (.nil))) (.cons 7 (some 9) (.cons (.ret (.new (.lst (.cons (.cmp .eq (.var 0) (.int 5)) (.cons (.cmp .eq (.fld 5 (.var 9)) (.var 2)) .nil))))) (.nil)) (.cons 6 none (.cons (.ret (.new (.lst (.cons (.cmp .eq (.var 0) (.int 6)) .nil)))) (.nil)) (.cons 5 (some 9) (.cons (.ret (.new (.lst (.cons (.cmp .eq (.var 0) (.int 7)) (.cons (.cmp .eq (.fld 6 (.var 9)) (.var 6)) .nil))))) (.nil)) (.cons 4 none (.cons (.ret (.new (.lst (.cons (.cmp .eq (.var 0) (.int 8)) .nil)))) (.nil)) (.cons 3 (some 9) (.cons (.ret (.new (.lst (.cons (.cmp .eq (.var 0) (.int 9)) (.cons (.cmp .eq (.fld 7 (.var 9)) (.var 7)) .nil))))) (.nil)) (.cons 2 (some 9) (.cons (.ret (.new (.lst (.cons (.cmp .eq (.var 0) (.int 10)) (.cons (.cmp .eq (.fld 8 (.var 9)) (.var 2)) .nil))))) (.nil)) (.cons 1 (some 9) (.cons (.ret (.new (.lst (.cons (.cmp .eq (.var 0) (.int 11)) (.cons (.cmp .eq (.fld 6 (.var 9)) (.var 6)) .nil))))) (.nil)) (.cons 0 (some 9) (.cons (.ret (.new (.lst (.cons (.cmp .eq (.var 0) (.int 12)) (.cons (.cmp .eq (.fld 9 (.var 9)) (.var 3)) (.cons (.cmp .eq (.fld 10 (.var 9)) (.var 2)) .nil)))))) (.nil)) (.nil))))))))))))))) (.cons (.ret (.new (.lst (.cons (.bl false) .nil)))) (.nil)))
def ir__law_kinds : ISs := .cons (.tryS (.cons (.expr (.call false 5 (.var 0) (.cons (.var 1) (.cons (.var 2) (.cons (.var 3) (.cons (.var 4) (.cons (.var 5) (.cons (.var 6) (.cons (.var 7) .nil))))))))) (.nil)) (.cons 13 (some 8) (.cons (.ret (.new (.lst (.cons (.isX 14 (.var 8)) (.cons (.isX 12 (.var 8)) (.cons (.isX 11 (.var 8)) (.cons (.isX 10 (.var 8)) (.cons (.isX 9 (.var 8)) (.cons (.isX 8 (.var 8)) (.cons (.isX 7 (.var 8)) (.cons (.isX 6 (.var 8)) (.cons (.isX 5 (.var 8)) (.cons (.isX 4 (.var 8)) (.cons (.isX 3 (.var 8)) (.cons (.isX 2 (.var 8)) (.cons (.isX 1 (.var 8)) (.cons (.isX 0 (.var 8)) .nil))))))))))))))))) (.nil)) (.nil))) (.cons (.ret (.new (.lst .nil))) (.nil))
def ir__law_called : ISs := .cons (.ifS (.val (.var 1)) (.cons (.expr (.call false 6 (.var 0) (.cons (.var 2) (.cons (.var 3) (.cons (.var 4) (.cons (.var 5) (.cons (.var 6) (.cons (.var 7) .nil)))))))) (.nil)) (.nil)) (.cons (.expr (.call false 7 (.var 0) (.cons (.var 2) (.cons (.var 3) (.cons (.var 4) (.cons (.var 5) (.cons (.var 6) (.cons (.var 7) .nil)))))))) (.nil))
def ir__law_raise_named : ISs := .cons (.ifS (.cmp .eq (.var 0) (.int 0)) (.cons (.mk 0 (.cons (.var 1) .nil)) (.nil)) (.nil)) (.cons (.ifS (.cmp .eq (.var 0) (.int 1)) (.cons (.mk 1 (.cons (.var 3) (.cons (.var 1) .nil))) (.nil)) (.nil)) (.cons (.ifS (.cmp .eq (.var 0) (.int 2)) (.cons (.mk 2 (.cons (.var 1) .nil)) (.nil)) (.nil)) (.cons (.ifS (.cmp .eq (.var 0) (.int 3)) (.cons (.mk 3 (.cons (.var 1) .nil)) (.nil)) (.nil)) (.cons (.ifS (.cmp .eq (.var 0) (.int 4)) (.cons (.mk 4 (.cons (.var 4) .nil)) (.nil)) (.nil)) (.cons (.ifS (.cmp .eq (.var 0) (.int 5)) (.cons (.mk 5 (.cons (.var 1) .nil)) (.nil)) (.nil)) (.cons (.ifS (.cmp .eq (.var 0) (.int 7)) (.cons (.mk 6 (.cons (.var 5) .nil)) (.nil)) (.nil)) (.cons (.ifS (.cmp .eq (.var 0) (.int 9)) (.cons (.mk 7 (.cons (.var 6) .nil)) (.nil)) (.nil)) (.cons (.ifS (.cmp .eq (.var 0) (.int 10)) (.cons (.mk 8 (.cons (.var 1) .nil)) (.nil)) (.nil)) (.cons (.ifS (.cmp .eq (.var 0) (.int 11)) (.cons (.mk 9 (.cons (.var 5) .nil)) (.nil)) (.nil)) (.cons (.ifS (.cmp .eq (.var 0) (.int 12)) (.cons (.mk 10 (.cons (.var 1) (.cons (.var 2) .nil))) (.nil)) (.nil)) (.cons (.expr (.call false 7 (.var 0) (.cons (.var 1) (.cons (.var 2) (.cons (.var 3) (.cons (.var 4) (.cons (.var 5) (.cons (.var 6) .nil)))))))) (.nil))))))))))))
def ir__law_raise : ISs := .cons (.ifS (.cmp .eq (.var 0) (.int 0)) (.cons (.raise 0 (.var 1) .nil) (.nil)) (.nil)) (.cons (.ifS (.cmp .eq (.var 0) (.int 1)) (.cons (.raise 1 (.var 1) (.cons (.var 3) .nil)) (.nil)) (.nil)) (.cons (.ifS (.cmp .eq (.var 0) (.int 2)) (.cons (.raise 2 (.var 1) .nil) (.nil)) (.nil)) (.cons (.ifS (.cmp .eq (.var 0) (.int 3)) (.cons (.raise 3 (.var 1) .nil) (.nil)) (.nil)) (.cons (.ifS (.cmp .eq (.var 0) (.int 4)) (.cons (.mk 11 (.cons (.var 4) .nil)) (.nil)) (.nil)) (.cons (.ifS (.cmp .eq (.var 0) (.int 5)) (.cons (.raise 5 (.var 1) .nil) (.nil)) (.nil)) (.cons (.ifS (.cmp .eq (.var 0) (.int 6)) (.cons (.mk 12 .nil) (.nil)) (.nil)) (.cons (.ifS (.cmp .eq (.var 0) (.int 7)) (.cons (.raise 7 (.var 5) .nil) (.nil)) (.nil)) (.cons (.ifS (.cmp .eq (.var 0) (.int 8)) (.cons (.mk 13 .nil) (.nil)) (.nil)) (.cons (.ifS (.cmp .eq (.var 0) (.int 9)) (.cons (.raise 9 (.var 6) .nil) (.nil)) (.nil)) (.cons (.ifS (.cmp .eq (.var 0) (.int 10)) (.cons (.raise 10 (.var 1) .nil) (.nil)) (.nil)) (.cons (.ifS (.cmp .eq (.var 0) (.int 11)) (.cons (.raise 11 (.var 5) .nil) (.nil)) (.nil)) (.cons (.raise 12 (.var 2) (.cons (.var 1) .nil)) (.nil)))))))))))))
def f_law : FD := ⟨("law", none), "law", "law", top 23, N_law, 1, ir_law, [], 0⟩
def f__law_tape_b : FD := ⟨("_law_tape", none), "_law_tape", "_law_tape", top 16, N__law_tape, 2, ir__law_tape_b, [], 0⟩
def f__law_pick : FD := ⟨("_law_pick", none), "_law_pick", "_law_pick", top 17, N__law_pick, 2, ir__law_pick, [], 0⟩
def f__law_first : FD := ⟨("_law_first", none), "_law_first", "_law_first", top 21, N__law_first, 8, ir__law_first, [], 0⟩
def f__law_kinds : FD := ⟨("_law_kinds", none), "_law_kinds", "_law_kinds", top 22, N__law_kinds, 8, ir__law_kinds, [], 0⟩
def f__law_called : FD := ⟨("_law_called", none), "_law_called", "_law_called", top 20, N__law_called, 8, ir__law_called, [], 0⟩
def f__law_raise_named : FD := ⟨("_law_raise_named", none), "_law_raise_named", "_law_raise_named", top 19, N__law_raise_named, 7, ir__law_raise_named, [], 0⟩
def f__law_raise : FD := ⟨("_law_raise", none), "_law_raise", "_law_raise", top 18, N__law_raise, 7, ir__law_raise, [], 0⟩
def x_BadLine : XC := ⟨"BadLine", "BadLine.__init__", "self", [0], clsDef (top 2) 0, 0⟩
def x_UnknownName : XC := ⟨"UnknownName", "UnknownName.__init__", "self", [0, 1], clsDef (top 3) 0, 0⟩
def x_TooDeep : XC := ⟨"TooDeep", "TooDeep.__init__", "self", [2], clsDef (top 4) 0, 0⟩
def x_TooHigh : XC := ⟨"TooHigh", "TooHigh.__init__", "self", [3], clsDef (top 5) 0, 0⟩
def x_RingFound : XC := ⟨"RingFound", "RingFound.__init__", "self", [4], clsDef (top 6) 0, 1⟩
def x_NotExact : XC := ⟨"NotExact", "NotExact.__init__", "self", [5], clsDef (top 7) 0, 0⟩
def x_EmptyRow : XC := ⟨"EmptyRow", "EmptyRow.__init__", "self", [], clsDef (top 8) 0, 2⟩
def x_BadKind : XC := ⟨"BadKind", "BadKind.__init__", "self", [6], clsDef (top 9) 0, 0⟩
def x_NoEnd : XC := ⟨"NoEnd", "NoEnd.__init__", "self", [], clsDef (top 10) 0, 2⟩
def x_SetBarred : XC := ⟨"SetBarred", "SetBarred.__init__", "self", [7], clsDef (top 11) 0, 0⟩
def x_TooMany : XC := ⟨"TooMany", "TooMany.__init__", "self", [8], clsDef (top 12) 0, 0⟩
def x_NotKept : XC := ⟨"NotKept", "NotKept.__init__", "self", [6], clsDef (top 13) 0, 0⟩
def x_BadStretch : XC := ⟨"BadStretch", "BadStretch.__init__", "self", [9, 10], clsDef (top 14) 0, 0⟩
def pr : Pr := ⟨[f_law, f__law_tape_b, f__law_pick, f__law_first, f__law_kinds, f__law_called, f__law_raise_named, f__law_raise], [], ["range", "len", "abs", "int", "isinstance", "ValueError", "list"], 100, [], [x_BadLine, x_UnknownName, x_TooDeep, x_TooHigh, x_RingFound, x_NotExact, x_EmptyRow, x_BadKind, x_NoEnd, x_SetBarred, x_TooMany, x_NotKept, x_BadStretch], ["line", "name", "depth", "height", "names", "number", "kind", "end", "amount", "first", "last"], ["BadStretch", "NotKept", "TooMany", "SetBarred", "NoEnd", "BadKind", "EmptyRow", "NotExact", "RingFound", "TooHigh", "TooDeep", "UnknownName", "BadLine", "KeptError", "ValueError"], [[false, false, false, false, false, false, false, false, false, false, false, false, true, true, true], [false, false, false, false, false, false, false, false, false, false, false, true, false, true, true], [false, false, false, false, false, false, false, false, false, false, true, false, false, true, true], [false, false, false, false, false, false, false, false, false, true, false, false, false, true, true], [false, false, false, false, false, false, false, false, true, false, false, false, false, true, true], [false, false, false, false, false, false, false, true, false, false, false, false, false, true, true], [false, false, false, false, false, false, true, false, false, false, false, false, false, true, true], [false, false, false, false, false, true, false, false, false, false, false, false, false, true, true], [false, false, false, false, true, false, false, false, false, false, false, false, false, true, true], [false, false, false, true, false, false, false, false, false, false, false, false, false, true, true], [false, false, true, false, false, false, false, false, false, false, false, false, false, true, true], [false, true, false, false, false, false, false, false, false, false, false, false, false, true, true], [true, false, false, false, false, false, false, false, false, false, false, false, false, true, true]], [(0, some ["line"], [0]), (1, some ["name", "line"], [1, 0]), (2, some ["depth"], [0]), (3, some ["height"], [0]), (4, some ["names"], [0]), (5, some ["number"], [0]), (7, some ["kind"], [0]), (9, some ["end"], [0]), (10, some ["amount"], [0]), (11, some ["kind"], [0]), (12, some ["last", "first"], [1, 0]), (4, none, []), (6, some [], []), (8, some [], [])]⟩
theorem ik_0 : XcKw pr x_BadLine ["line"] [0] := fun _ _ _ _ _ _ us ws h1 h2 => match us, ws, h1, h2 with | [_], [_], _, _ => rfl
theorem ik_1 : XcKw pr x_UnknownName ["name", "line"] [1, 0] := fun _ _ _ _ _ _ us ws h1 h2 => match us, ws, h1, h2 with | [_], [_, _], _, _ => rfl
theorem ik_2 : XcKw pr x_TooDeep ["depth"] [0] := fun _ _ _ _ _ _ us ws h1 h2 => match us, ws, h1, h2 with | [_], [_], _, _ => rfl
theorem ik_3 : XcKw pr x_TooHigh ["height"] [0] := fun _ _ _ _ _ _ us ws h1 h2 => match us, ws, h1, h2 with | [_], [_], _, _ => rfl
theorem ik_4 : XcKw pr x_RingFound ["names"] [0] := fun _ _ _ _ _ _ us ws h1 h2 => match us, ws, h1, h2 with | [_], [_], _, _ => rfl
theorem ik_5 : XcKw pr x_NotExact ["number"] [0] := fun _ _ _ _ _ _ us ws h1 h2 => match us, ws, h1, h2 with | [_], [_], _, _ => rfl
theorem ik_6 : XcKw pr x_BadKind ["kind"] [0] := fun _ _ _ _ _ _ us ws h1 h2 => match us, ws, h1, h2 with | [_], [_], _, _ => rfl
theorem ik_7 : XcKw pr x_SetBarred ["end"] [0] := fun _ _ _ _ _ _ us ws h1 h2 => match us, ws, h1, h2 with | [_], [_], _, _ => rfl
theorem ik_8 : XcKw pr x_TooMany ["amount"] [0] := fun _ _ _ _ _ _ us ws h1 h2 => match us, ws, h1, h2 with | [_], [_], _, _ => rfl
theorem ik_9 : XcKw pr x_NotKept ["kind"] [0] := fun _ _ _ _ _ _ us ws h1 h2 => match us, ws, h1, h2 with | [_], [_], _, _ => rfl
theorem ik_10 : XcKw pr x_BadStretch ["last", "first"] [1, 0] := fun _ _ _ _ _ _ us ws h1 h2 => match us, ws, h1, h2 with | [_], [_, _], _, _ => rfl
theorem bi_BadLine : (x_BadLine.fd pr).BdN := ⟨rfl, fun _ _ _ _ _ _ us hl => match us, hl with | [_, _], _ => rfl⟩
theorem bi_UnknownName : (x_UnknownName.fd pr).BdN := ⟨rfl, fun _ _ _ _ _ _ us hl => match us, hl with | [_, _, _], _ => rfl⟩
theorem bi_TooDeep : (x_TooDeep.fd pr).BdN := ⟨rfl, fun _ _ _ _ _ _ us hl => match us, hl with | [_, _], _ => rfl⟩
theorem bi_TooHigh : (x_TooHigh.fd pr).BdN := ⟨rfl, fun _ _ _ _ _ _ us hl => match us, hl with | [_, _], _ => rfl⟩
theorem bi_RingFound : (x_RingFound.fd pr).BdN := ⟨rfl, fun _ _ _ _ _ _ us hl => match us, hl with | [_, _], _ => rfl⟩
theorem bi_NotExact : (x_NotExact.fd pr).BdN := ⟨rfl, fun _ _ _ _ _ _ us hl => match us, hl with | [_, _], _ => rfl⟩
theorem bi_BadKind : (x_BadKind.fd pr).BdN := ⟨rfl, fun _ _ _ _ _ _ us hl => match us, hl with | [_, _], _ => rfl⟩
theorem bi_SetBarred : (x_SetBarred.fd pr).BdN := ⟨rfl, fun _ _ _ _ _ _ us hl => match us, hl with | [_, _], _ => rfl⟩
theorem bi_TooMany : (x_TooMany.fd pr).BdN := ⟨rfl, fun _ _ _ _ _ _ us hl => match us, hl with | [_, _], _ => rfl⟩
theorem bi_NotKept : (x_NotKept.fd pr).BdN := ⟨rfl, fun _ _ _ _ _ _ us hl => match us, hl with | [_, _], _ => rfl⟩
theorem bi_BadStretch : (x_BadStretch.fd pr).BdN := ⟨rfl, fun _ _ _ _ _ _ us hl => match us, hl with | [_, _, _], _ => rfl⟩
theorem cls_ok : pr.clsOk = true := by decide +kernel
theorem bd_f_law : f_law.BdN := ⟨rfl, fun _ _ _ _ _ _ us hl => match us, hl with | [_], _ => rfl⟩
theorem e_law {n : Nat} {a0 : D} {S : List DO} {Q : D → List DO → Prop} {X : XP} (q : wS (evB (pr.ev n) ir_law) [some a0, none, none, none, none, none, none, none, none, none, none, none, none] S ⟨fun _ S => Q .non S, Q, fun _ _ => False, fun _ _ => False, fun c fs _ S => X c fs S⟩) : wE (pr.call (n + 1) 0 [a0]) S Q X := b_call (F := f_law) rfl q
theorem ck_f_law : f_law.chk pr = true := by decide +kernel
theorem bd_f__law_tape_b : f__law_tape_b.BdN := ⟨rfl, fun _ _ _ _ _ _ us hl => match us, hl with | [_, _], _ => rfl⟩
theorem e__law_tape_b {n : Nat} {a0 a1 : D} {S : List DO} {Q : D → List DO → Prop} {X : XP} (q : wS (evB (pr.ev n) ir__law_tape_b) [some a0, some a1, none] S ⟨fun _ S => Q .non S, Q, fun _ _ => False, fun _ _ => False, fun c fs _ S => X c fs S⟩) : wE (pr.call (n + 1) 1 [a0, a1]) S Q X := b_call (F := f__law_tape_b) rfl q
theorem ck_f__law_tape_b : f__law_tape_b.chk pr = true := by decide +kernel
theorem bd_f__law_pick : f__law_pick.BdN := ⟨rfl, fun _ _ _ _ _ _ us hl => match us, hl with | [_, _], _ => rfl⟩
theorem e__law_pick {n : Nat} {a0 a1 : D} {S : List DO} {Q : D → List DO → Prop} {X : XP} (q : wS (evB (pr.ev n) ir__law_pick) [some a0, some a1, none, none] S ⟨fun _ S => Q .non S, Q, fun _ _ => False, fun _ _ => False, fun c fs _ S => X c fs S⟩) : wE (pr.call (n + 1) 2 [a0, a1]) S Q X := b_call (F := f__law_pick) rfl q
theorem ck_f__law_pick : f__law_pick.chk pr = true := by decide +kernel
theorem bd_f__law_first : f__law_first.BdN := ⟨rfl, fun _ _ _ _ _ _ us hl => match us, hl with | [_, _, _, _, _, _, _, _], _ => rfl⟩
theorem e__law_first {n : Nat} {a0 a1 a2 a3 a4 a5 a6 a7 : D} {S : List DO} {Q : D → List DO → Prop} {X : XP} (q : wS (evB (pr.ev n) ir__law_first) [some a0, some a1, some a2, some a3, some a4, some a5, some a6, some a7, none, none, none] S ⟨fun _ S => Q .non S, Q, fun _ _ => False, fun _ _ => False, fun c fs _ S => X c fs S⟩) : wE (pr.call (n + 1) 3 [a0, a1, a2, a3, a4, a5, a6, a7]) S Q X := b_call (F := f__law_first) rfl q
theorem ck_f__law_first : f__law_first.chk pr = true := by decide +kernel
theorem bd_f__law_kinds : f__law_kinds.BdN := ⟨rfl, fun _ _ _ _ _ _ us hl => match us, hl with | [_, _, _, _, _, _, _, _], _ => rfl⟩
theorem e__law_kinds {n : Nat} {a0 a1 a2 a3 a4 a5 a6 a7 : D} {S : List DO} {Q : D → List DO → Prop} {X : XP} (q : wS (evB (pr.ev n) ir__law_kinds) [some a0, some a1, some a2, some a3, some a4, some a5, some a6, some a7, none] S ⟨fun _ S => Q .non S, Q, fun _ _ => False, fun _ _ => False, fun c fs _ S => X c fs S⟩) : wE (pr.call (n + 1) 4 [a0, a1, a2, a3, a4, a5, a6, a7]) S Q X := b_call (F := f__law_kinds) rfl q
theorem ck_f__law_kinds : f__law_kinds.chk pr = true := by decide +kernel
theorem bd_f__law_called : f__law_called.BdN := ⟨rfl, fun _ _ _ _ _ _ us hl => match us, hl with | [_, _, _, _, _, _, _, _], _ => rfl⟩
theorem e__law_called {n : Nat} {a0 a1 a2 a3 a4 a5 a6 a7 : D} {S : List DO} {Q : D → List DO → Prop} {X : XP} (q : wS (evB (pr.ev n) ir__law_called) [some a0, some a1, some a2, some a3, some a4, some a5, some a6, some a7] S ⟨fun _ S => Q .non S, Q, fun _ _ => False, fun _ _ => False, fun c fs _ S => X c fs S⟩) : wE (pr.call (n + 1) 5 [a0, a1, a2, a3, a4, a5, a6, a7]) S Q X := b_call (F := f__law_called) rfl q
theorem ck_f__law_called : f__law_called.chk pr = true := by decide +kernel
theorem bd_f__law_raise_named : f__law_raise_named.BdN := ⟨rfl, fun _ _ _ _ _ _ us hl => match us, hl with | [_, _, _, _, _, _, _], _ => rfl⟩
theorem e__law_raise_named {n : Nat} {a0 a1 a2 a3 a4 a5 a6 : D} {S : List DO} {Q : D → List DO → Prop} {X : XP} (q : wS (evB (pr.ev n) ir__law_raise_named) [some a0, some a1, some a2, some a3, some a4, some a5, some a6] S ⟨fun _ S => Q .non S, Q, fun _ _ => False, fun _ _ => False, fun c fs _ S => X c fs S⟩) : wE (pr.call (n + 1) 6 [a0, a1, a2, a3, a4, a5, a6]) S Q X := b_call (F := f__law_raise_named) rfl q
theorem ck_f__law_raise_named : f__law_raise_named.chk pr = true := by decide +kernel
theorem bd_f__law_raise : f__law_raise.BdN := ⟨rfl, fun _ _ _ _ _ _ us hl => match us, hl with | [_, _, _, _, _, _, _], _ => rfl⟩
theorem e__law_raise {n : Nat} {a0 a1 a2 a3 a4 a5 a6 : D} {S : List DO} {Q : D → List DO → Prop} {X : XP} (q : wS (evB (pr.ev n) ir__law_raise) [some a0, some a1, some a2, some a3, some a4, some a5, some a6] S ⟨fun _ S => Q .non S, Q, fun _ _ => False, fun _ _ => False, fun c fs _ S => X c fs S⟩) : wE (pr.call (n + 1) 7 [a0, a1, a2, a3, a4, a5, a6]) S Q X := b_call (F := f__law_raise) rfl q
theorem ck_f__law_raise : f__law_raise.chk pr = true := by decide +kernel
end K15
namespace K15
open PySem PySem.Spec PyProof.Rows L2 PK SX
theorem ev_call {p : Pr} {n : Nat} : (p.ev n).call = p.call n := rfl
/-- the fields of the i-th error -/
def fl (m mo w : D) (ws : List D) (pair side : D) : Nat → List (Nat × D)
  | 0 => [(0, m)]
  | 1 => [(1, w), (0, m)]
  | 2 => [(2, m)]
  | 3 => [(3, m)]
  | 4 => [(4, .lst ws)]
  | 5 => [(5, m)]
  | 6 => []
  | 7 => [(6, pair)]
  | 8 => []
  | 9 => [(7, side)]
  | 10 => [(8, m)]
  | 11 => [(6, pair)]
  | _ => [(10, m), (9, mo)]
def ErrX (m mo w : D) (ws : List D) (pair side : D) (i : Nat) (Z : List DO) (c : Nat) (fs : List (Nat × D)) (S' : List DO) : Prop := c = i ∧ fs = fl m mo w ws pair side i ∧ S' = Z
theorem sp_raise (n : Nat) {i : Nat} (hi : i ≤ 12) {m mo : Int} {w pair side : D} {r : Nat} {ws : List D} {Z : List DO} (hr : Z[r]? = some (.lst ws)) : wE (pr.call (n + 1) 7 [.int i, .int m, .int mo, w, .ref r, pair, side]) Z (fun _ _ => False) (ErrX (.int m) (.int mo) w ws pair side i Z) := by
  refine e__law_raise (n := n) ?_
  unfold ir__law_raise
  have hv : viewS Z (.ref r) = some ws := by unfold viewS viewL; simp only [hr]
  refine s_cons <| s_if <| t_cmp <| r_var rfl <| r_int <| p_eq ⟨_, rfl, fun hz => ?_, fun h0 => s_nil ?_⟩
  · obtain rfl : i = 0 := by have := of_decide_eq_true hz; omega
    exact s_cons <| s_raise <| r_cons <| r_var rfl <| r_nil ⟨rfl, rfl, rfl, rfl⟩
  refine s_cons <| s_if <| t_cmp <| r_var rfl <| r_int <| p_eq ⟨_, rfl, fun hz => ?_, fun h1 => s_nil ?_⟩
  · obtain rfl : i = 1 := by have := of_decide_eq_true hz; omega
    exact s_cons <| s_raise <| r_cons <| r_var rfl <| r_cons <| r_var rfl <| r_nil ⟨rfl, rfl, rfl, rfl⟩
  refine s_cons <| s_if <| t_cmp <| r_var rfl <| r_int <| p_eq ⟨_, rfl, fun hz => ?_, fun h2 => s_nil ?_⟩
  · obtain rfl : i = 2 := by have := of_decide_eq_true hz; omega
    exact s_cons <| s_raise <| r_cons <| r_var rfl <| r_nil ⟨rfl, rfl, rfl, rfl⟩
  refine s_cons <| s_if <| t_cmp <| r_var rfl <| r_int <| p_eq ⟨_, rfl, fun hz => ?_, fun h3 => s_nil ?_⟩
  · obtain rfl : i = 3 := by have := of_decide_eq_true hz; omega
    exact s_cons <| s_raise <| r_cons <| r_var rfl <| r_nil ⟨rfl, rfl, rfl, rfl⟩
  refine s_cons <| s_if <| t_cmp <| r_var rfl <| r_int <| p_eq ⟨_, rfl, fun hz => ?_, fun h4 => s_nil ?_⟩
  · obtain rfl : i = 4 := by have := of_decide_eq_true hz; omega
    refine s_cons <| s_mk <| r_cons <| r_var rfl <| r_nil ⟨4, [(4, .lst ws)], ?_, rfl, rfl, rfl⟩
    show (viewS Z (.ref r)).map (fun ys => (4, [(4, D.lst ys)])) = _
    rw [hv]; rfl
  refine s_cons <| s_if <| t_cmp <| r_var rfl <| r_int <| p_eq ⟨_, rfl, fun hz => ?_, fun h5 => s_nil ?_⟩
  · obtain rfl : i = 5 := by have := of_decide_eq_true hz; omega
    exact s_cons <| s_raise <| r_cons <| r_var rfl <| r_nil ⟨rfl, rfl, rfl, rfl⟩
  refine s_cons <| s_if <| t_cmp <| r_var rfl <| r_int <| p_eq ⟨_, rfl, fun hz => ?_, fun h6 => s_nil ?_⟩
  · obtain rfl : i = 6 := by have := of_decide_eq_true hz; omega
    exact s_cons <| s_mk <| r_nil ⟨6, [], rfl, rfl, rfl, rfl⟩
  refine s_cons <| s_if <| t_cmp <| r_var rfl <| r_int <| p_eq ⟨_, rfl, fun hz => ?_, fun h7 => s_nil ?_⟩
  · obtain rfl : i = 7 := by have := of_decide_eq_true hz; omega
    exact s_cons <| s_raise <| r_cons <| r_var rfl <| r_nil ⟨rfl, rfl, rfl, rfl⟩
  refine s_cons <| s_if <| t_cmp <| r_var rfl <| r_int <| p_eq ⟨_, rfl, fun hz => ?_, fun h8 => s_nil ?_⟩
  · obtain rfl : i = 8 := by have := of_decide_eq_true hz; omega
    exact s_cons <| s_mk <| r_nil ⟨8, [], rfl, rfl, rfl, rfl⟩
  refine s_cons <| s_if <| t_cmp <| r_var rfl <| r_int <| p_eq ⟨_, rfl, fun hz => ?_, fun h9 => s_nil ?_⟩
  · obtain rfl : i = 9 := by have := of_decide_eq_true hz; omega
    exact s_cons <| s_raise <| r_cons <| r_var rfl <| r_nil ⟨rfl, rfl, rfl, rfl⟩
  refine s_cons <| s_if <| t_cmp <| r_var rfl <| r_int <| p_eq ⟨_, rfl, fun hz => ?_, fun h10 => s_nil ?_⟩
  · obtain rfl : i = 10 := by have := of_decide_eq_true hz; omega
    exact s_cons <| s_raise <| r_cons <| r_var rfl <| r_nil ⟨rfl, rfl, rfl, rfl⟩
  refine s_cons <| s_if <| t_cmp <| r_var rfl <| r_int <| p_eq ⟨_, rfl, fun hz => ?_, fun h11 => s_nil ?_⟩
  · obtain rfl : i = 11 := by have := of_decide_eq_true hz; omega
    exact s_cons <| s_raise <| r_cons <| r_var rfl <| r_nil ⟨rfl, rfl, rfl, rfl⟩
  obtain rfl : i = 12 := by
    have a0 := of_decide_eq_false h0
    have a1 := of_decide_eq_false h1
    have a2 := of_decide_eq_false h2
    have a3 := of_decide_eq_false h3
    have a4 := of_decide_eq_false h4
    have a5 := of_decide_eq_false h5
    have a6 := of_decide_eq_false h6
    have a7 := of_decide_eq_false h7
    have a8 := of_decide_eq_false h8
    have a9 := of_decide_eq_false h9
    have a10 := of_decide_eq_false h10
    have a11 := of_decide_eq_false h11
    omega
  exact s_cons <| s_raise <| r_cons <| r_var rfl <| r_cons <| r_var rfl <| r_nil ⟨rfl, rfl, rfl, rfl⟩
end K15
namespace K15
open PySem PySem.Spec PyProof.Rows L2 PK SX
theorem sp_named (n : Nat) {i : Nat} (hi : i ≤ 12) {m mo : Int} {w pair side : D} {r : Nat} {ws : List D} {Z : List DO} (hr : Z[r]? = some (.lst ws)) : wE (pr.call (n + 2) 6 [.int i, .int m, .int mo, w, .ref r, pair, side]) Z (fun _ _ => False) (ErrX (.int m) (.int mo) w ws pair side i Z) := by
  refine e__law_raise_named (n := n + 1) ?_
  unfold ir__law_raise_named
  have hv : viewS Z (.ref r) = some ws := by unfold viewS viewL; simp only [hr]
  refine s_cons <| s_if <| t_cmp <| r_var rfl <| r_int <| p_eq ⟨_, rfl, fun hz => ?_, fun h0 => s_nil ?_⟩
  · obtain rfl : i = 0 := by have := of_decide_eq_true hz; omega
    exact s_cons <| s_mk <| r_cons <| r_var rfl <| r_nil ⟨_, _, rfl, rfl, rfl, rfl⟩
  refine s_cons <| s_if <| t_cmp <| r_var rfl <| r_int <| p_eq ⟨_, rfl, fun hz => ?_, fun h1 => s_nil ?_⟩
  · obtain rfl : i = 1 := by have := of_decide_eq_true hz; omega
    exact s_cons <| s_mk <| r_cons <| r_var rfl <| r_cons <| r_var rfl <| r_nil ⟨_, _, rfl, rfl, rfl, rfl⟩
  refine s_cons <| s_if <| t_cmp <| r_var rfl <| r_int <| p_eq ⟨_, rfl, fun hz => ?_, fun h2 => s_nil ?_⟩
  · obtain rfl : i = 2 := by have := of_decide_eq_true hz; omega
    exact s_cons <| s_mk <| r_cons <| r_var rfl <| r_nil ⟨_, _, rfl, rfl, rfl, rfl⟩
  refine s_cons <| s_if <| t_cmp <| r_var rfl <| r_int <| p_eq ⟨_, rfl, fun hz => ?_, fun h3 => s_nil ?_⟩
  · obtain rfl : i = 3 := by have := of_decide_eq_true hz; omega
    exact s_cons <| s_mk <| r_cons <| r_var rfl <| r_nil ⟨_, _, rfl, rfl, rfl, rfl⟩
  refine s_cons <| s_if <| t_cmp <| r_var rfl <| r_int <| p_eq ⟨_, rfl, fun hz => ?_, fun h4 => s_nil ?_⟩
  · obtain rfl : i = 4 := by have := of_decide_eq_true hz; omega
    refine s_cons <| s_mk <| r_cons <| r_var rfl <| r_nil ⟨4, [(4, .lst ws)], ?_, rfl, rfl, rfl⟩
    show (viewS Z (.ref r)).map (fun ys => (4, [(4, D.lst ys)])) = _
    rw [hv]; rfl
  refine s_cons <| s_if <| t_cmp <| r_var rfl <| r_int <| p_eq ⟨_, rfl, fun hz => ?_, fun h5 => s_nil ?_⟩
  · obtain rfl : i = 5 := by have := of_decide_eq_true hz; omega
    exact s_cons <| s_mk <| r_cons <| r_var rfl <| r_nil ⟨_, _, rfl, rfl, rfl, rfl⟩
  refine s_cons <| s_if <| t_cmp <| r_var rfl <| r_int <| p_eq ⟨_, rfl, fun hz => ?_, fun h7 => s_nil ?_⟩
  · obtain rfl : i = 7 := by have := of_decide_eq_true hz; omega
    exact s_cons <| s_mk <| r_cons <| r_var rfl <| r_nil ⟨_, _, rfl, rfl, rfl, rfl⟩
  refine s_cons <| s_if <| t_cmp <| r_var rfl <| r_int <| p_eq ⟨_, rfl, fun hz => ?_, fun h9 => s_nil ?_⟩
  · obtain rfl : i = 9 := by have := of_decide_eq_true hz; omega
    exact s_cons <| s_mk <| r_cons <| r_var rfl <| r_nil ⟨_, _, rfl, rfl, rfl, rfl⟩
  refine s_cons <| s_if <| t_cmp <| r_var rfl <| r_int <| p_eq ⟨_, rfl, fun hz => ?_, fun h10 => s_nil ?_⟩
  · obtain rfl : i = 10 := by have := of_decide_eq_true hz; omega
    exact s_cons <| s_mk <| r_cons <| r_var rfl <| r_nil ⟨_, _, rfl, rfl, rfl, rfl⟩
  refine s_cons <| s_if <| t_cmp <| r_var rfl <| r_int <| p_eq ⟨_, rfl, fun hz => ?_, fun h11 => s_nil ?_⟩
  · obtain rfl : i = 11 := by have := of_decide_eq_true hz; omega
    exact s_cons <| s_mk <| r_cons <| r_var rfl <| r_nil ⟨_, _, rfl, rfl, rfl, rfl⟩
  refine s_cons <| s_if <| t_cmp <| r_var rfl <| r_int <| p_eq ⟨_, rfl, fun hz => ?_, fun h12 => s_nil ?_⟩
  · obtain rfl : i = 12 := by have := of_decide_eq_true hz; omega
    exact s_cons <| s_mk <| r_cons <| r_var rfl <| r_cons <| r_var rfl <| r_nil ⟨_, _, rfl, rfl, rfl, rfl⟩
  refine s_cons <| s_expr <| r_call <| r_cons <| r_var rfl <| r_cons <| r_var rfl <| r_cons <| r_var rfl <| r_cons <| r_var rfl <| r_cons <| r_var rfl <| r_cons <| r_var rfl <| r_cons <| r_var rfl <| r_nil ?_
  refine k_of rfl rfl rfl ?_
  rw [ev_call]
  exact (sp_raise n hi hr).mono (fun _ _ z => z.elim) fun _ _ _ z => z
theorem sp_called (n : Nat) {i : Nat} (hi : i ≤ 12) {b : Bool} {m mo : Int} {w pair side : D} {r : Nat} {ws : List D} {Z : List DO} (hr : Z[r]? = some (.lst ws)) : wE (pr.call (n + 3) 5 [.int i, .bl b, .int m, .int mo, w, .ref r, pair, side]) Z (fun _ _ => False) (ErrX (.int m) (.int mo) w ws pair side i Z) := by
  refine e__law_called (n := n + 2) ?_
  unfold ir__law_called
  refine s_cons <| s_if <| t_val <| r_var rfl ⟨b, rfl, fun hb => ?_, fun hb => s_nil ?_⟩
  · refine s_cons <| s_expr <| r_call <| r_cons <| r_var rfl <| r_cons <| r_var rfl <| r_cons <| r_var rfl <| r_cons <| r_var rfl <| r_cons <| r_var rfl <| r_cons <| r_var rfl <| r_cons <| r_var rfl <| r_nil ?_
    refine k_of rfl rfl rfl ?_
    rw [ev_call]
    exact (sp_named n hi hr).mono (fun _ _ z => z.elim) fun _ _ _ z => z
  · refine s_cons <| s_expr <| r_call <| r_cons <| r_var rfl <| r_cons <| r_var rfl <| r_cons <| r_var rfl <| r_cons <| r_var rfl <| r_cons <| r_var rfl <| r_cons <| r_var rfl <| r_cons <| r_var rfl <| r_nil ?_
    refine k_of rfl rfl rfl ?_
    rw [ev_call]
    exact (sp_raise (n + 1) hi hr).mono (fun _ _ z => z.elim) fun _ _ _ z => z
end K15
namespace PK
open PySem PySem.Spec PyProof.Rows L2 SX
/-! ### what read_terms accepts is an expression -/
theorem numL_of : ∀ (k : Nat) (f : List Nat), f.length = k + 1 → f.all isDig = true → (f.head? = some 48 → f = [48]) → ∃ n, f = TL.numL n ∧ n < 10 ^ (k + 1)
  | 0, f, hl, hd, _ => by
    match f, hl with
    | [d], _ => 
      rw [List.all_cons, Bool.and_eq_true] at hd
      have h1 := hd.1
      unfold isDig at h1
      simp only [Bool.and_eq_true, decide_eq_true_eq] at h1
      refine ⟨d - 48, ?_, by omega⟩
      rw [TL.numL_lt (by omega)]
      congr 1
      omega
  | k + 1, f, hl, hd, h0 => by
    have hne : f ≠ [] := fun z => by rw [z] at hl; cases hl
    have e : f = f.dropLast ++ [f.getLast hne] := (List.dropLast_concat_getLast hne).symm
    have hdl : f.dropLast.length = k + 1 := by rw [List.length_dropLast, hl]; rfl
    have hd1 : f.dropLast.all isDig = true := List.all_eq_true.mpr fun c hc => List.all_eq_true.mp hd c (List.dropLast_subset _ hc)
    have hh : f.dropLast.head? = f.head? := by
      match f, hl with
      | a :: b :: r, _ => rfl
    have hno : f.head? ≠ some 48 := fun z => by rw [h0 z] at hl; simp at hl
    obtain ⟨m, e1, e2⟩ := numL_of k f.dropLast hdl hd1 fun z => absurd (hh ▸ z) hno
    have hm : m ≠ 0 := fun z => by
      subst z
      rw [TL.numL_lt (by decide)] at e1
      rw [e1] at hh
      exact hno hh.symm
    have hL := List.all_eq_true.mp hd _ (List.getLast_mem hne)
    unfold isDig at hL
    simp only [Bool.and_eq_true, decide_eq_true_eq] at hL
    generalize f.getLast hne = d at e hL
    refine ⟨m * 10 + (d - 48), ?_, ?_⟩
    · rw [TL.numL_step (by omega), e, e1]
      congr 2
      · omega
      · congr 1; omega
    · rw [Nat.pow_succ]; omega
theorem numB_ex {f : List Nat} (h : numB f = true) : ∃ n, f = TL.numL n ∧ n < 10 ^ 400 := by
  unfold numB at h
  simp only [Bool.and_eq_true, decide_eq_true_eq, Bool.not_eq_true'] at h
  obtain ⟨⟨⟨h1, h2⟩, h3⟩, h4⟩ := h
  obtain ⟨n, e1, e2⟩ := numL_of (f.length - 1) f (by omega) h4 fun z => by
    rw [z] at h3
    simpa using h3
  refine ⟨n, e1, Nat.lt_of_lt_of_le e2 (Nat.pow_le_pow_right (by decide) (by omega))⟩
theorem facts_ex {x : List Nat} {l : List (List Nat)} (h : facts x = some l) : ∃ fs : List Fa, l = fs.map Fa.tx ∧ (∀ f ∈ fs, f.Ok) ∧ fs ≠ [] ∧ fs.length ≤ 9 := by
  unfold facts at h
  split at h
  · rename_i hh
    cases h
    have key : ∀ l : List (List Nat), l.all (fun f => numB f || letB f) = true → ∃ fs : List Fa, l = fs.map Fa.tx ∧ ∀ f ∈ fs, f.Ok := by
      intro l
      induction l with
      | nil => intro _; exact ⟨[], rfl, fun f hf => by cases hf⟩
      | cons a r ih =>
        intro h
        rw [List.all_cons, Bool.and_eq_true] at h
        obtain ⟨fs, e, ok⟩ := ih h.2
        cases hn : numB a with
        | true =>
          obtain ⟨n, e1, e2⟩ := numB_ex hn
          refine ⟨.num n :: fs, by rw [e, e1]; rfl, fun f hf => ?_⟩
          rcases List.mem_cons.mp hf with q | q
          · rw [q]; exact e2
          · exact ok f q
        | false =>
          have hlb : letB a = true := by have := h.1; rw [hn] at this; exact this
          refine ⟨.let_ a :: fs, by rw [e]; rfl, fun f hf => ?_⟩
          rcases List.mem_cons.mp hf with q | q
          · rw [q]; exact hlb
          · exact ok f q
    obtain ⟨fs, e, ok⟩ := key _ hh.2
    have hl := hh.1
    have hne := spl_ne (s := [42]) x [] 0
    rw [e] at hl hne
    refine ⟨fs, e, ok, fun z => hne (by rw [z]; rfl), ?_⟩
    rw [List.length_map] at hl
    exact hl
  · cases h
theorem trm_ex2 : ∀ (ws : List (List Nat)) (i : Nat) (s : Int), (s = 1 ∨ s = -1) → ∀ {r : List (Int × List (List Nat))}, trm i s ws = some r → ∃ ts : List (Int × List Fa), r = ts.map tmT ∧ (∀ q ∈ ts, TmOk q) ∧ 2 * ts.length ≤ ws.length + (if i % 2 = 1 then 0 else 1) ∧ (i % 2 = 0 → ws ≠ [] → ts ≠ [])
  | [], i, s, hs, r, h => by
    unfold trm at h
    cases h
    exact ⟨[], rfl, (fun q hq => (by cases hq)), (by simp), fun _ h => absurd rfl h⟩
  | w :: ws, i, s, hs, r, h => by
    unfold trm at h
    split at h
    · rename_i hi
      split at h
      · obtain ⟨ts, e, ok, hl, _⟩ := trm_ex2 ws (i + 1) _ (by split <;> simp) h
        refine ⟨ts, e, ok, ?_, fun z => by omega⟩
        rw [if_pos hi, List.length_cons]
        rw [if_neg (by omega)] at hl
        omega
      · cases h
    · rename_i hi
      split at h
      · cases h
      · rename_i fs hf
        rw [Option.map_eq_some_iff] at h
        obtain ⟨r', h1, rfl⟩ := h
        obtain ⟨gs, e1, ok1, ne1, l9⟩ := facts_ex hf
        have hs' : (if i = 0 ∧ w.take 1 = [45] then (-1 : Int) else s) = 1 ∨ (if i = 0 ∧ w.take 1 = [45] then (-1 : Int) else s) = -1 := by
          split
          · exact .inr rfl
          · exact hs
        obtain ⟨ts, e, ok, hl, _⟩ := trm_ex2 ws (i + 1) _ hs' h1
        refine ⟨(_, gs) :: ts, by rw [e, e1]; rfl, fun q hq => ?_, ?_, fun _ _ => List.cons_ne_nil _ _⟩
        · rcases List.mem_cons.mp hq with z | z
          · rw [z]; exact ⟨hs', ok1, ne1, l9⟩
          · exact ok q z
        · rw [if_neg hi, List.length_cons, List.length_cons]
          rw [if_pos (by omega)] at hl
          omega
theorem readT_ex {x : List Nat} {r : List (Int × List (List Nat))} (h : readT x = some r) : ∃ ts : List (Int × List Fa), r = ts.map tmT ∧ (∀ q ∈ ts, TmOk q) ∧ ts ≠ [] ∧ ts.length ≤ 1000 := by
  unfold readT at h
  split at h
  · cases h
  · rename_i hb
    obtain ⟨ts, e, ok, hl, hne⟩ := trm_ex2 _ 0 1 (.inl rfl) h
    refine ⟨ts, e, ok, hne rfl (spl_ne _ _ _), ?_⟩
    have : (TL.spl [32] 0 [] x).length ≤ 1999 := by
      unfold badW at hb
      simp only [Bool.or_eq_true, decide_eq_true_eq, not_or] at hb
      omega
    rw [if_neg (by decide)] at hl
    omega
/-! ### read_poly at every text -/
/-- the first letter that is not known -/
def unkF (nm : List Str) : List Fa → Option (List Nat)
  | [] => none
  | .num _ :: r => unkF nm r
  | .let_ l :: r => if S l ∈ nm then unkF nm r else some l
def unkT (nm : List Str) : List (Int × List Fa) → Option (List Nat)
  | [] => none
  | q :: r => match unkF nm q.2 with
    | some l => some l
    | none => unkT nm r
theorem unkF_snoc {nm : List Str} : ∀ (fs : List Fa) (f : Fa), unkF nm fs = none → unkF nm (fs ++ [f]) = unkF nm [f]
  | [], f, _ => rfl
  | .num n :: r, f, h => unkF_snoc r f h
  | .let_ l :: r, f, h => by
    unfold unkF at h
    split at h
    · rename_i hm
      show (if S l ∈ nm then unkF nm (r ++ [f]) else some l) = _
      rw [if_pos hm]
      exact unkF_snoc r f h
    · cases h
theorem unkF_some {nm : List Str} {l : List Nat} : ∀ (fs gs : List Fa), unkF nm fs = some l → unkF nm (fs ++ gs) = some l
  | [], gs, h => by cases h
  | .num n :: r, gs, h => unkF_some r gs h
  | .let_ k :: r, gs, h => by
    unfold unkF at h
    show (if S k ∈ nm then unkF nm (r ++ gs) else some k) = _
    split at h
    · rename_i hm
      rw [if_pos hm]
      exact unkF_some r gs h
    · rename_i hm
      rw [if_neg hm]
      exact h
theorem unkT_snoc {nm : List Str} : ∀ (ts : List (Int × List Fa)) (q : Int × List Fa), unkT nm ts = none → unkT nm (ts ++ [q]) = unkF nm q.2
  | [], q, _ => by
    show (match unkF nm q.2 with | some l => some l | none => unkT nm []) = _
    cases unkF nm q.2 <;> rfl
  | t :: r, q, h => by
    unfold unkT at h
    cases e : unkF nm t.2 with
    | some l => rw [e] at h; cases h
    | none =>
      rw [e] at h
      show (match unkF nm t.2 with | some l => some l | none => unkT nm (r ++ [q])) = _
      rw [e]
      exact unkT_snoc r q h
theorem unkT_some {nm : List Str} {l : List Nat} : ∀ (ts us : List (Int × List Fa)), unkT nm ts = some l → unkT nm (ts ++ us) = some l
  | [], us, h => by cases h
  | t :: r, us, h => by
    unfold unkT at h
    show (match unkF nm t.2 with | some l => some l | none => unkT nm (r ++ us)) = _
    cases e : unkF nm t.2 with
    | some k => rw [e] at h; exact h
    | none => rw [e] at h; exact unkT_some r us h
theorem noX_strs : ∀ xs : List Str, D.noXs (xs.map D.str) = true
  | [] => rfl
  | x :: xs => by show (D.noX (D.str x) && D.noXs (xs.map D.str)) = true; rw [noX_strs xs]; rfl
theorem noX_kI : ∀ p : List (List Str × Int), D.noXK (kI emS p) = true
  | [] => rfl
  | q :: p => by
    show (D.noX (dS q.1) && D.noX (.int q.2) && D.noXK (kI emS p)) = true
    rw [noX_kI p]
    have : D.noX (dS q.1) = true := noX_strs q.1
    rw [this]
    rfl
def Cx (S : List DO) : Prop := S.all DO.noX = true
theorem Cx.nil : Cx [] := rfl
theorem Cx.app {S : List DO} {o : DO} (h : Cx S) (ho : o.noX = true) : Cx (S ++ [o]) := by
  unfold Cx at *
  rw [List.all_append, h]
  simp [ho]
theorem Cx.set {S : List DO} {r : Nat} {o : DO} (h : Cx S) (ho : o.noX = true) : Cx (S.set r o) := by
  unfold Cx at *
  rw [List.all_eq_true] at *
  intro x hx
  rcases List.mem_or_eq_of_mem_set hx with z | z
  · exact h x z
  · rw [z]; exact ho
theorem noX_lst (xs : List Str) : DO.noX (.lst (xs.map D.str)) = true := noX_strs xs
theorem noX_dct (p : List (List Str × Int)) : DO.noX (.dct (kI emS p)) = true := noX_kI p
def irReadX (ft fn fw c1 c2 : Nat) : ISs := .cons (.set 3 (.call true ft (.var 0) .nil)) (.cons (.ifS (.cmp .is (.var 3) .non) (.cons (.raise c1 (.var 2) .nil) (.nil)) (.nil)) (.cons (.set 4 (.box .dnew)) (.cons (.forS (.tup (.cons (.name 5) (.cons (.name 6) .nil))) (.seq (.var 3)) (.cons (.set 7 (.var 5)) (.cons (.set 8 (.box (.lst .nil))) (.cons (.forS (.name 9) (.seq (.var 6)) (.cons (.ifS (.val (.call true fn (.var 9) .nil)) (.cons (.set 7 (.bin .mul (.var 7) (.ty .int (.var 9) .nil))) (.nil)) (.cons (.ifS (.cmp .inD (.var 9) (.var 1)) (.cons (.expr (.app (.var 8) (.var 9))) (.nil)) (.cons (.raise c2 (.var 2) (.cons (.var 9) .nil)) (.nil))) (.nil))) (.nil))) (.cons (.set 10 (.ty .tuple (.new (.sorted (.var 8))) .nil)) (.cons (.sub (.var 4) (.var 10) (.bin .add (.get (.var 4) (.var 10) (.cons (.int 0) .nil)) (.var 7))) (.nil))))))) (.cons (.ret (.call false fw (.var 4) .nil)) (.nil)))))
/-- what read_poly answers at a text -/
def RdOk (x : List Nat) (nm : List Str) (Z : List DO) (d : D) (S' : List DO) : Prop := ∃ ts : List (Int × List Fa), readT x = some (ts.map tmT) ∧ (∀ q ∈ ts, TmOk q) ∧ ts ≠ [] ∧ ts.length ≤ 1000 ∧ unkT nm ts = none ∧ ∃ g, d = .ref (Z ++ g).length ∧ S' = Z ++ g ++ [.dct (kI emS (clean (polyT ts)))] ∧ Cl S' ∧ (Cx Z → Cx S')
def RdBad (x : List Nat) (nm : List Str) (ln : D) (c1 c2 i1 i2 i3 : Nat) (Z : List DO) (c : Nat) (fs : List (Nat × D)) (S' : List DO) : Prop := ((readT x = none ∧ c = c1 ∧ fs = [(i1, ln)]) ∨ ∃ (ts : List (Int × List Fa)) (l : List Nat), readT x = some (ts.map tmT) ∧ (∀ q ∈ ts, TmOk q) ∧ unkT nm ts = some l ∧ c = c2 ∧ fs = [(i3, dT l), (i2, ln)]) ∧ ∃ g, S' = Z ++ g ∧ Cl S' ∧ (Cx Z → Cx S')
theorem lib_readx {v : Ev} {ft fn fw c1 c2 i1 i2 i3 : Nat} (pt : P1 v ft fun x => oD (readT x)) (pn : P1 v fn fun x => .bl (numB x)) (wz : WzOk v fw) (x1 : v.xf c1 = [i1]) (x2 : v.xf c2 = [i2, i3]) {x : List Nat} (hA : Asc x) {nm : List Str} {ln : D} {Z : List DO} (cl : Cl Z) :
    wS (evB v (irReadX ft fn fw c1 c2)) [some (dT x), some (.lst (nm.map D.str)), some ln, none, none, none, none, none, none, none, none] Z (rP (RdOk x nm Z) (RdBad x nm ln c1 c2 i1 i2 i3 Z)) := by
  unfold irReadX
  refine s_cons (s_set (r_callP (r_cons (r_var rfl (r_nil ?_)))))
  refine pt.use hA (oD_noRef _) ?_
  cases hr : readT x with
  | none =>
    refine s_cons (s_if (t_cmp (r_var rfl (r_non (p_is ⟨true, rfl, fun _ => ?_, fun z => by cases z⟩)))))
    refine s_cons (s_raise (r_cons (r_var rfl (r_nil ⟨by rw [x1]; rfl, .inl ⟨hr, rfl, by rw [x1]; rfl⟩, [], by simp, cl, id⟩))))
  | some r =>
  obtain ⟨ts, rfl, h, hne, hl⟩ := readT_ex hr
  show wS _ [some (dT x), some (.lst (nm.map D.str)), some ln, some (.lst ((ts.map tmT).map tD)), none, none, none, none, none, none, none] _ _
  refine s_cons (s_if (t_cmp (r_var rfl (r_non (p_is ⟨false, rfl, (fun z => by cases z), fun _ => s_nil ?_⟩)))))
  refine s_cons (s_set (r_box (c_dnew (s_cons (s_for (i_seq (r_var rfl ⟨ts.map (fun q => tD (tmT q)), by rw [show ts.map (fun q => tD (tmT q)) = (ts.map tmT).map tD by rw [List.map_map]; rfl]; rfl, ?_⟩)))))))
  refine wS_loop (fun k E U => k ≤ ts.length ∧ unkT nm (ts.take k) = none ∧ ∃ (g : List DO) (e5 e6 e7 e8 e9 e10 : Option D), E = [some (dT x), some (.lst (nm.map D.str)), some ln, some (.lst ((ts.map tmT).map tD)), some (.ref Z.length), e5, e6, e7, e8, e9, e10] ∧ U = Z ++ [.dct (kI emS (polyT (ts.take k)))] ++ g ∧ Cl U ∧ (Cx Z → Cx U)) _ 0
    ⟨Nat.zero_le _, rfl, [], none, none, none, none, none, none, rfl, by rw [List.append_nil]; rfl, cl.app (kI_clD []), fun z => z.app rfl⟩ ?_ ?_
  · rintro k d E U hd ⟨hk, hu, g, e5, e6, e7, e8, e9, e10, rfl, rfl, cU, cX⟩
    rw [Nat.zero_add] at *
    rw [List.getElem?_map, Option.map_eq_some_iff] at hd
    obtain ⟨q, hq, rfl⟩ := hd
    have hqm := List.mem_of_getElem? hq
    have hkl := (List.getElem?_eq_some_iff.mp hq).1
    have ht : ts.take (k + 1) = ts.take k ++ [q] := take_snoc hq
    have tq := h q hqm
    have hpl := polyT_len (ts.take k)
    rw [List.length_take] at hpl
    generalize hO : polyT (ts.take k) = O at cU hpl cX
    refine put_n (E' := [some (dT x), some (.lst (nm.map D.str)), some ln, some (.lst ((ts.map tmT).map tD)), some (.ref Z.length), some (.int q.1), some (.lst ((q.2.map Fa.tx).map dT)), e7, e8, e9, e10]) rfl ?_
    refine s_cons (s_set (r_var rfl (s_cons (s_set (r_box (c_lst (r_nil ⟨by simp, ?_⟩)))))))
    generalize hU0 : Z ++ [DO.dct (kI emS O)] ++ g = U0 at cU cX
    have z0 : U0[Z.length]? = some (.dct (kI emS O)) := by subst hU0; rw [List.append_assoc, List.getElem?_append_right (Nat.le_refl _)]; simp
    have zl := (List.getElem?_eq_some_iff.mp z0).1
    have hU0' : U0 = Z ++ ([DO.dct (kI emS O)] ++ g) := by rw [← hU0, List.append_assoc]
    refine s_cons (s_for (i_seq (r_var rfl ⟨q.2.map (fun f => dT f.tx), by rw [show q.2.map (fun f => dT f.tx) = (q.2.map Fa.tx).map dT by rw [List.map_map]; rfl]; rfl, ?_⟩)))
    refine wS_loop (fun j E U => j ≤ q.2.length ∧ unkF nm (q.2.take j) = none ∧ ∃ (e9 : Option D), E = [some (dT x), some (.lst (nm.map D.str)), some ln, some (.lst ((ts.map tmT).map tD)), some (.ref Z.length), some (.int q.1), some (.lst ((q.2.map Fa.tx).map dT)), some (.int (prodF q.1 (q.2.take j))), some (.ref U0.length), e9, e10] ∧ U = U0 ++ [.lst ((lsS (q.2.take j)).map D.str)]) _ 0 ⟨Nat.zero_le _, rfl, e9, rfl, rfl⟩ ?_ ?_
    · rintro j d E U hd ⟨hj, hv, e9, rfl, rfl⟩
      rw [Nat.zero_add] at *
      rw [List.getElem?_map, Option.map_eq_some_iff] at hd
      obtain ⟨f, hf, rfl⟩ := hd
      have hfm := List.mem_of_getElem? hf
      have hjl := (List.getElem?_eq_some_iff.mp hf).1
      have hok := tq.ok f hfm
      have hft : q.2.take (j + 1) = q.2.take j ++ [f] := take_snoc hf
      have asc : Asc f.tx := ⟨fun c hc => (Fa.sign hok c hc).1, by have := (Fa.len hok).2; omega⟩
      refine put_1 ?_
      show wS _ [some (dT x), some (.lst (nm.map D.str)), some ln, some (.lst ((ts.map tmT).map tD)), some (.ref Z.length), some (.int q.1), some (.lst ((q.2.map Fa.tx).map dT)), some (.int (prodF q.1 (q.2.take j))), some (.ref U0.length), some (dT f.tx), e10] _ _
      refine s_cons (s_if (t_val (r_callP (r_cons (r_var rfl (r_nil ?_))))))
      refine pn.use asc rfl ?_
      cases f with
      | num n =>
        have hb : numB (Fa.num n).tx = true := numB_num hok
        refine ⟨_, rfl, fun _ => ?_, fun z => by rw [hb] at z; cases z⟩
        have sm1 : Sm 1 q.1 := by rcases tq.sg with e | e <;> rw [e] <;> (unfold Sm; decide)
        have sm2 := prodF_sm (fs := q.2.take j) (fun f hf => tq.ok f (List.mem_of_mem_take hf)) sm1
        have hjl2 : (q.2.take j).length ≤ 9 := by rw [List.length_take]; have := tq.n9; omega
        refine s_cons (s_set (r_bin (r_var rfl (r_ty (r_cons (r_var rfl (r_nil ?_)))))))
        have it : ∀ {Q : D → List DO → Prop} {T : List DO} {X : XP}, Q (.int (n : Int)) T → wE (tyM .int [dT (Fa.num n).tx]) T Q X := fun {Q} {T} {X} hq => by
          show wE (EM.ofO (intO [dT (TL.numL n)])) T Q X
          rw [int_tx hok]
          exact ⟨hq⟩
        refine it (p_mul (Sm.mulOk sm2 (num_sm hok) (by omega)) (s_nil (s_nil ⟨hjl, ?_, some (dT (Fa.num n).tx), ?_, ?_⟩)))
        · rw [hft, unkF_snoc _ _ hv]; rfl
        · rw [hft, prodF_snoc]; rfl
        · rw [hft, lsS_snoc]; simp [lsS]
      | let_ l =>
        have hb : numB (Fa.let_ l).tx = false := numB_let hok
        refine ⟨_, rfl, (fun z => by rw [hb] at z; cases z), fun _ => ?_⟩
        refine s_cons (s_if (t_cmp (r_var rfl (r_var rfl (show wE (copM .inD (.str (S l)) (.lst (nm.map D.str))) _ _ _ from p_inL ⟨_, rfl, fun z => ?_, fun z => ?_⟩)))))
        · have hin : S l ∈ nm := of_decide_eq_true z
          have hll := lsS_len (q.2.take j)
          rw [List.length_take] at hll
          have := tq.n9
          refine s_cons (s_expr (r_app (r_var rfl ⟨U0.length, _, rfl, app_at, r_var rfl ⟨_, app_at, by rw [List.length_map]; omega, s_nil (s_nil (s_nil ⟨hjl, ?_, some (dT l), ?_, ?_⟩))⟩⟩)))
          · rw [hft, unkF_snoc _ _ hv]
            show (if S l ∈ nm then unkF nm [] else some l) = none
            rw [if_pos hin]; rfl
          · rw [hft, prodF_snoc]; rfl
          · rw [app_set, hft, lsS_snoc]
            show U0 ++ [DO.lst ((lsS (q.2.take j)).map D.str ++ [D.str (S l)])] = U0 ++ [DO.lst ((lsS (q.2.take j) ++ [S l]).map D.str)]
            rw [List.map_append]
            rfl
        · have hin : ¬ S l ∈ nm := of_decide_eq_false z
          have hF : unkF nm q.2 = some l := by
            have e : q.2 = q.2.take (j + 1) ++ q.2.drop (j + 1) := (List.take_append_drop _ _).symm
            rw [e]
            refine unkF_some _ _ ?_
            rw [hft, unkF_snoc _ _ hv]
            show (if S l ∈ nm then unkF nm [] else some l) = some l
            rw [if_neg hin]
          have hT : unkT nm ts = some l := by
            have e : ts = ts.take (k + 1) ++ ts.drop (k + 1) := (List.take_append_drop _ _).symm
            rw [e]
            refine unkT_some _ _ ?_
            rw [ht, unkT_snoc _ _ hu]
            exact hF
          refine s_cons (s_raise (r_cons (r_var rfl (r_cons (r_var rfl (r_nil ⟨by rw [x2]; rfl, .inr ⟨ts, l, hr, h, hT, rfl, by rw [x2]; rfl⟩, ([DO.dct (kI emS O)] ++ g) ++ [.lst ((lsS (q.2.take j)).map D.str)], ?_, cU.app (lets_cl _), fun cz => (cX cz).app (noX_lst _)⟩))))))
          rw [hU0', List.append_assoc]
    · rintro E U ⟨_, hv, e9, rfl, rfl⟩
      rw [Nat.zero_add, List.length_map, List.take_length] at *
      have hll := lsS_len q.2
      have := tq.n9
      refine s_cons (s_set (r_ty (r_cons (r_newL (c_sorted (r_var rfl ⟨(lsS q.2).map D.str, lsS q.2, ?_, strsO_map _, by omega, _, rfl, r_nil (p_tupL ?_)⟩))))))
      · show viewS (U0 ++ [DO.lst ((lsS q.2).map D.str)]) (.ref U0.length) = _
        unfold viewS viewL
        simp only [app_at]
      show wS _ [some (dT x), some (.lst (nm.map D.str)), some ln, some (.lst ((ts.map tmT).map tD)), some (.ref Z.length), some (.int q.1), some (.lst ((q.2.map Fa.tx).map dT)), some (.int (prodF q.1 q.2)), some (.ref U0.length), e9, some (dS (sortS (lsS q.2)))] _ _
      refine s_cons (s_acc (r := Z.length) rfl rfl (app_old z0) (by omega) (r_var rfl ⟨_, rfl, app_old z0, s_nil ?_⟩))
      refine ⟨hkl, by rw [ht, unkT_snoc _ _ hu, hv], g ++ [.lst ((lsS q.2).map D.str)], _, _, _, _, _, _, rfl, ?_, ((cU.app (lets_cl _)).set (kI_clD _)), fun cz => ((cX cz).app (noX_lst _)).set (noX_dct _)⟩
      rw [ht, polyT_snoc, hO, ← hU0, List.append_assoc (Z ++ [_]), List.append_assoc Z, List.set_append_right _ _ (Nat.le_refl _)]
      simp [addTm]
  · rintro E U ⟨_, hu, g, e5, e6, e7, e8, e9, e10, rfl, rfl, cU, cX⟩
    rw [Nat.zero_add, List.length_map, List.take_length] at *
    have z0 : (Z ++ [DO.dct (kI emS (polyT ts))] ++ g)[Z.length]? = some (.dct (kI emS (polyT ts))) := by rw [List.append_assoc, List.getElem?_append_right (Nat.le_refl _)]; simp
    refine s_cons (s_ret (r_call (r_cons (r_var rfl (r_nil ?_)))))
    have := polyT_len ts
    refine k_of wz.np wz.dd rfl ((wz.ok z0 cU (polyT_nd ts) (by omega)).to fun d S' ⟨e1, e2⟩ => ?_)
    subst e1 e2
    exact ⟨ts, hr, h, hne, hl, hu, [.dct (kI emS (polyT ts))] ++ g, by rw [List.append_assoc], by simp only [List.append_assoc], cU.app (kI_clD _), fun cz => (cX cz).app (noX_dct _)⟩
end PK
namespace K15
open PySem PySem.Spec PyProof.Rows L2 PK SX
theorem p_sm {d e x : D} {U : List DO} {Q : D → List DO → Prop} {X : XP} (hd : derefL U d = x) (he : derefL U e = x) (h : eqOk x x = true) (q : Q (.bl true) U) : wE (copM .eq d e) U Q X := by
  refine p_eqG (by rw [hd, he]; exact h) ?_
  rw [hd, he, PK.eqv_refl x (by unfold eqOk at h; simp only [Bool.and_eq_true] at h; exact h.1.1.1)]
  exact q
/-- a value that is no cell and is like itself -/
structure Dat (d : D) : Prop where
  de : ∀ U, derefL U d = d
  eq : eqOk d d = true
  nx : d.noX = true
  nl : d.noL true = true
/-- a store without exceptions and without lists as values -/
structure Sx (S : List DO) : Prop where
  x : PK.Cx S
  l : S.all (DO.noL true) = true
theorem Sx.app {S : List DO} {o : DO} (h : Sx S) (hx : o.noX = true) (hl : o.noL true = true) : Sx (S ++ [o]) := ⟨h.x.app hx, by rw [List.all_append, h.l]; simp [hl]⟩
theorem Sx.set {S : List DO} {r : Nat} {o : DO} (h : Sx S) (hx : o.noX = true) (hl : o.noL true = true) : Sx (S.set r o) := ⟨h.x.set hx, by
  rw [List.all_eq_true]
  intro a ha
  rcases List.mem_or_eq_of_mem_set ha with z | z
  · exact List.all_eq_true.mp h.l a z
  · rw [z]; exact hl⟩
theorem noL_strs : ∀ ws : List Str, D.noLs true (ws.map D.str) = true
  | [] => rfl
  | x :: xs => by show (D.noL true (D.str x) && D.noLs true (xs.map D.str)) = true; rw [noL_strs xs]; rfl
theorem thirteen {i : Nat} (hi : i ≤ 12) : i = 0 ∨ i = 1 ∨ i = 2 ∨ i = 3 ∨ i = 4 ∨ i = 5 ∨ i = 6 ∨ i = 7 ∨ i = 8 ∨ i = 9 ∨ i = 10 ∨ i = 11 ∨ i = 12 := by omega
def kinds (i : Nat) : List Bool := true :: (List.range 13).map fun k => decide (k = i)
theorem sp_kinds (n : Nat) {i : Nat} (hi : i ≤ 12) {b : Bool} {m mo : Int} {w pair side : D} {r : Nat} {ws : List D} {Z : List DO} (hr : Z[r]? = some (.lst ws)) (cz : PK.Cx Z) : wE (pr.call (n + 4) 4 [.int i, .bl b, .int m, .int mo, w, .ref r, pair, side]) Z (fun d S' => d = .lst ((kinds i).map D.bl) ∧ S' = Z) XF := by
  refine e__law_kinds (n := n + 3) ?_
  unfold ir__law_kinds
  refine s_cons <| s_try <| s_cons <| s_expr <| r_call <| r_cons <| r_var rfl <| r_cons <| r_var rfl <| r_cons <| r_var rfl <| r_cons <| r_var rfl <| r_cons <| r_var rfl <| r_cons <| r_var rfl <| r_cons <| r_var rfl <| r_cons <| r_var rfl <| r_nil ?_
  refine k_of rfl rfl rfl ?_
  rw [ev_call]
  refine (sp_called n hi hr).mono (fun _ _ z => z.elim) fun c fs S h => ?_
  obtain ⟨rfl, hf, rfl⟩ := h
  have cz' : S.all DO.noX = true := cz
  rcases thirteen hi with rfl | rfl | rfl | rfl | rfl | rfl | rfl | rfl | rfl | rfl | rfl | rfl | rfl <;> subst hf
  · exact ⟨rfl, t_hit rfl rfl <| s_cons <| s_ret <| r_newL <| c_lst <| r_cons <| r_isX <| r_var rfl ⟨_, _, _, rfl, rfl, rfl, r_cons <| r_isX <| r_var rfl ⟨_, _, _, rfl, rfl, rfl, r_cons <| r_isX <| r_var rfl ⟨_, _, _, rfl, rfl, rfl, r_cons <| r_isX <| r_var rfl ⟨_, _, _, rfl, rfl, rfl, r_cons <| r_isX <| r_var rfl ⟨_, _, _, rfl, rfl, rfl, r_cons <| r_isX <| r_var rfl ⟨_, _, _, rfl, rfl, rfl, r_cons <| r_isX <| r_var rfl ⟨_, _, _, rfl, rfl, rfl, r_cons <| r_isX <| r_var rfl ⟨_, _, _, rfl, rfl, rfl, r_cons <| r_isX <| r_var rfl ⟨_, _, _, rfl, rfl, rfl, r_cons <| r_isX <| r_var rfl ⟨_, _, _, rfl, rfl, rfl, r_cons <| r_isX <| r_var rfl ⟨_, _, _, rfl, rfl, rfl, r_cons <| r_isX <| r_var rfl ⟨_, _, _, rfl, rfl, rfl, r_cons <| r_isX <| r_var rfl ⟨_, _, _, rfl, rfl, rfl, r_cons <| r_isX <| r_var rfl ⟨_, _, _, rfl, rfl, rfl, r_nil ⟨by simp, _, rfl, rfl, cz', rfl, rfl⟩⟩⟩⟩⟩⟩⟩⟩⟩⟩⟩⟩⟩⟩⟩⟩
  · exact ⟨rfl, t_hit rfl rfl <| s_cons <| s_ret <| r_newL <| c_lst <| r_cons <| r_isX <| r_var rfl ⟨_, _, _, rfl, rfl, rfl, r_cons <| r_isX <| r_var rfl ⟨_, _, _, rfl, rfl, rfl, r_cons <| r_isX <| r_var rfl ⟨_, _, _, rfl, rfl, rfl, r_cons <| r_isX <| r_var rfl ⟨_, _, _, rfl, rfl, rfl, r_cons <| r_isX <| r_var rfl ⟨_, _, _, rfl, rfl, rfl, r_cons <| r_isX <| r_var rfl ⟨_, _, _, rfl, rfl, rfl, r_cons <| r_isX <| r_var rfl ⟨_, _, _, rfl, rfl, rfl, r_cons <| r_isX <| r_var rfl ⟨_, _, _, rfl, rfl, rfl, r_cons <| r_isX <| r_var rfl ⟨_, _, _, rfl, rfl, rfl, r_cons <| r_isX <| r_var rfl ⟨_, _, _, rfl, rfl, rfl, r_cons <| r_isX <| r_var rfl ⟨_, _, _, rfl, rfl, rfl, r_cons <| r_isX <| r_var rfl ⟨_, _, _, rfl, rfl, rfl, r_cons <| r_isX <| r_var rfl ⟨_, _, _, rfl, rfl, rfl, r_cons <| r_isX <| r_var rfl ⟨_, _, _, rfl, rfl, rfl, r_nil ⟨by simp, _, rfl, rfl, cz', rfl, rfl⟩⟩⟩⟩⟩⟩⟩⟩⟩⟩⟩⟩⟩⟩⟩⟩
  · exact ⟨rfl, t_hit rfl rfl <| s_cons <| s_ret <| r_newL <| c_lst <| r_cons <| r_isX <| r_var rfl ⟨_, _, _, rfl, rfl, rfl, r_cons <| r_isX <| r_var rfl ⟨_, _, _, rfl, rfl, rfl, r_cons <| r_isX <| r_var rfl ⟨_, _, _, rfl, rfl, rfl, r_cons <| r_isX <| r_var rfl ⟨_, _, _, rfl, rfl, rfl, r_cons <| r_isX <| r_var rfl ⟨_, _, _, rfl, rfl, rfl, r_cons <| r_isX <| r_var rfl ⟨_, _, _, rfl, rfl, rfl, r_cons <| r_isX <| r_var rfl ⟨_, _, _, rfl, rfl, rfl, r_cons <| r_isX <| r_var rfl ⟨_, _, _, rfl, rfl, rfl, r_cons <| r_isX <| r_var rfl ⟨_, _, _, rfl, rfl, rfl, r_cons <| r_isX <| r_var rfl ⟨_, _, _, rfl, rfl, rfl, r_cons <| r_isX <| r_var rfl ⟨_, _, _, rfl, rfl, rfl, r_cons <| r_isX <| r_var rfl ⟨_, _, _, rfl, rfl, rfl, r_cons <| r_isX <| r_var rfl ⟨_, _, _, rfl, rfl, rfl, r_cons <| r_isX <| r_var rfl ⟨_, _, _, rfl, rfl, rfl, r_nil ⟨by simp, _, rfl, rfl, cz', rfl, rfl⟩⟩⟩⟩⟩⟩⟩⟩⟩⟩⟩⟩⟩⟩⟩⟩
  · exact ⟨rfl, t_hit rfl rfl <| s_cons <| s_ret <| r_newL <| c_lst <| r_cons <| r_isX <| r_var rfl ⟨_, _, _, rfl, rfl, rfl, r_cons <| r_isX <| r_var rfl ⟨_, _, _, rfl, rfl, rfl, r_cons <| r_isX <| r_var rfl ⟨_, _, _, rfl, rfl, rfl, r_cons <| r_isX <| r_var rfl ⟨_, _, _, rfl, rfl, rfl, r_cons <| r_isX <| r_var rfl ⟨_, _, _, rfl, rfl, rfl, r_cons <| r_isX <| r_var rfl ⟨_, _, _, rfl, rfl, rfl, r_cons <| r_isX <| r_var rfl ⟨_, _, _, rfl, rfl, rfl, r_cons <| r_isX <| r_var rfl ⟨_, _, _, rfl, rfl, rfl, r_cons <| r_isX <| r_var rfl ⟨_, _, _, rfl, rfl, rfl, r_cons <| r_isX <| r_var rfl ⟨_, _, _, rfl, rfl, rfl, r_cons <| r_isX <| r_var rfl ⟨_, _, _, rfl, rfl, rfl, r_cons <| r_isX <| r_var rfl ⟨_, _, _, rfl, rfl, rfl, r_cons <| r_isX <| r_var rfl ⟨_, _, _, rfl, rfl, rfl, r_cons <| r_isX <| r_var rfl ⟨_, _, _, rfl, rfl, rfl, r_nil ⟨by simp, _, rfl, rfl, cz', rfl, rfl⟩⟩⟩⟩⟩⟩⟩⟩⟩⟩⟩⟩⟩⟩⟩⟩
  · exact ⟨rfl, t_hit rfl rfl <| s_cons <| s_ret <| r_newL <| c_lst <| r_cons <| r_isX <| r_var rfl ⟨_, _, _, rfl, rfl, rfl, r_cons <| r_isX <| r_var rfl ⟨_, _, _, rfl, rfl, rfl, r_cons <| r_isX <| r_var rfl ⟨_, _, _, rfl, rfl, rfl, r_cons <| r_isX <| r_var rfl ⟨_, _, _, rfl, rfl, rfl, r_cons <| r_isX <| r_var rfl ⟨_, _, _, rfl, rfl, rfl, r_cons <| r_isX <| r_var rfl ⟨_, _, _, rfl, rfl, rfl, r_cons <| r_isX <| r_var rfl ⟨_, _, _, rfl, rfl, rfl, r_cons <| r_isX <| r_var rfl ⟨_, _, _, rfl, rfl, rfl, r_cons <| r_isX <| r_var rfl ⟨_, _, _, rfl, rfl, rfl, r_cons <| r_isX <| r_var rfl ⟨_, _, _, rfl, rfl, rfl, r_cons <| r_isX <| r_var rfl ⟨_, _, _, rfl, rfl, rfl, r_cons <| r_isX <| r_var rfl ⟨_, _, _, rfl, rfl, rfl, r_cons <| r_isX <| r_var rfl ⟨_, _, _, rfl, rfl, rfl, r_cons <| r_isX <| r_var rfl ⟨_, _, _, rfl, rfl, rfl, r_nil ⟨by simp, _, rfl, rfl, cz', rfl, rfl⟩⟩⟩⟩⟩⟩⟩⟩⟩⟩⟩⟩⟩⟩⟩⟩
  · exact ⟨rfl, t_hit rfl rfl <| s_cons <| s_ret <| r_newL <| c_lst <| r_cons <| r_isX <| r_var rfl ⟨_, _, _, rfl, rfl, rfl, r_cons <| r_isX <| r_var rfl ⟨_, _, _, rfl, rfl, rfl, r_cons <| r_isX <| r_var rfl ⟨_, _, _, rfl, rfl, rfl, r_cons <| r_isX <| r_var rfl ⟨_, _, _, rfl, rfl, rfl, r_cons <| r_isX <| r_var rfl ⟨_, _, _, rfl, rfl, rfl, r_cons <| r_isX <| r_var rfl ⟨_, _, _, rfl, rfl, rfl, r_cons <| r_isX <| r_var rfl ⟨_, _, _, rfl, rfl, rfl, r_cons <| r_isX <| r_var rfl ⟨_, _, _, rfl, rfl, rfl, r_cons <| r_isX <| r_var rfl ⟨_, _, _, rfl, rfl, rfl, r_cons <| r_isX <| r_var rfl ⟨_, _, _, rfl, rfl, rfl, r_cons <| r_isX <| r_var rfl ⟨_, _, _, rfl, rfl, rfl, r_cons <| r_isX <| r_var rfl ⟨_, _, _, rfl, rfl, rfl, r_cons <| r_isX <| r_var rfl ⟨_, _, _, rfl, rfl, rfl, r_cons <| r_isX <| r_var rfl ⟨_, _, _, rfl, rfl, rfl, r_nil ⟨by simp, _, rfl, rfl, cz', rfl, rfl⟩⟩⟩⟩⟩⟩⟩⟩⟩⟩⟩⟩⟩⟩⟩⟩
  · exact ⟨rfl, t_hit rfl rfl <| s_cons <| s_ret <| r_newL <| c_lst <| r_cons <| r_isX <| r_var rfl ⟨_, _, _, rfl, rfl, rfl, r_cons <| r_isX <| r_var rfl ⟨_, _, _, rfl, rfl, rfl, r_cons <| r_isX <| r_var rfl ⟨_, _, _, rfl, rfl, rfl, r_cons <| r_isX <| r_var rfl ⟨_, _, _, rfl, rfl, rfl, r_cons <| r_isX <| r_var rfl ⟨_, _, _, rfl, rfl, rfl, r_cons <| r_isX <| r_var rfl ⟨_, _, _, rfl, rfl, rfl, r_cons <| r_isX <| r_var rfl ⟨_, _, _, rfl, rfl, rfl, r_cons <| r_isX <| r_var rfl ⟨_, _, _, rfl, rfl, rfl, r_cons <| r_isX <| r_var rfl ⟨_, _, _, rfl, rfl, rfl, r_cons <| r_isX <| r_var rfl ⟨_, _, _, rfl, rfl, rfl, r_cons <| r_isX <| r_var rfl ⟨_, _, _, rfl, rfl, rfl, r_cons <| r_isX <| r_var rfl ⟨_, _, _, rfl, rfl, rfl, r_cons <| r_isX <| r_var rfl ⟨_, _, _, rfl, rfl, rfl, r_cons <| r_isX <| r_var rfl ⟨_, _, _, rfl, rfl, rfl, r_nil ⟨by simp, _, rfl, rfl, cz', rfl, rfl⟩⟩⟩⟩⟩⟩⟩⟩⟩⟩⟩⟩⟩⟩⟩⟩
  · exact ⟨rfl, t_hit rfl rfl <| s_cons <| s_ret <| r_newL <| c_lst <| r_cons <| r_isX <| r_var rfl ⟨_, _, _, rfl, rfl, rfl, r_cons <| r_isX <| r_var rfl ⟨_, _, _, rfl, rfl, rfl, r_cons <| r_isX <| r_var rfl ⟨_, _, _, rfl, rfl, rfl, r_cons <| r_isX <| r_var rfl ⟨_, _, _, rfl, rfl, rfl, r_cons <| r_isX <| r_var rfl ⟨_, _, _, rfl, rfl, rfl, r_cons <| r_isX <| r_var rfl ⟨_, _, _, rfl, rfl, rfl, r_cons <| r_isX <| r_var rfl ⟨_, _, _, rfl, rfl, rfl, r_cons <| r_isX <| r_var rfl ⟨_, _, _, rfl, rfl, rfl, r_cons <| r_isX <| r_var rfl ⟨_, _, _, rfl, rfl, rfl, r_cons <| r_isX <| r_var rfl ⟨_, _, _, rfl, rfl, rfl, r_cons <| r_isX <| r_var rfl ⟨_, _, _, rfl, rfl, rfl, r_cons <| r_isX <| r_var rfl ⟨_, _, _, rfl, rfl, rfl, r_cons <| r_isX <| r_var rfl ⟨_, _, _, rfl, rfl, rfl, r_cons <| r_isX <| r_var rfl ⟨_, _, _, rfl, rfl, rfl, r_nil ⟨by simp, _, rfl, rfl, cz', rfl, rfl⟩⟩⟩⟩⟩⟩⟩⟩⟩⟩⟩⟩⟩⟩⟩⟩
  · exact ⟨rfl, t_hit rfl rfl <| s_cons <| s_ret <| r_newL <| c_lst <| r_cons <| r_isX <| r_var rfl ⟨_, _, _, rfl, rfl, rfl, r_cons <| r_isX <| r_var rfl ⟨_, _, _, rfl, rfl, rfl, r_cons <| r_isX <| r_var rfl ⟨_, _, _, rfl, rfl, rfl, r_cons <| r_isX <| r_var rfl ⟨_, _, _, rfl, rfl, rfl, r_cons <| r_isX <| r_var rfl ⟨_, _, _, rfl, rfl, rfl, r_cons <| r_isX <| r_var rfl ⟨_, _, _, rfl, rfl, rfl, r_cons <| r_isX <| r_var rfl ⟨_, _, _, rfl, rfl, rfl, r_cons <| r_isX <| r_var rfl ⟨_, _, _, rfl, rfl, rfl, r_cons <| r_isX <| r_var rfl ⟨_, _, _, rfl, rfl, rfl, r_cons <| r_isX <| r_var rfl ⟨_, _, _, rfl, rfl, rfl, r_cons <| r_isX <| r_var rfl ⟨_, _, _, rfl, rfl, rfl, r_cons <| r_isX <| r_var rfl ⟨_, _, _, rfl, rfl, rfl, r_cons <| r_isX <| r_var rfl ⟨_, _, _, rfl, rfl, rfl, r_cons <| r_isX <| r_var rfl ⟨_, _, _, rfl, rfl, rfl, r_nil ⟨by simp, _, rfl, rfl, cz', rfl, rfl⟩⟩⟩⟩⟩⟩⟩⟩⟩⟩⟩⟩⟩⟩⟩⟩
  · exact ⟨rfl, t_hit rfl rfl <| s_cons <| s_ret <| r_newL <| c_lst <| r_cons <| r_isX <| r_var rfl ⟨_, _, _, rfl, rfl, rfl, r_cons <| r_isX <| r_var rfl ⟨_, _, _, rfl, rfl, rfl, r_cons <| r_isX <| r_var rfl ⟨_, _, _, rfl, rfl, rfl, r_cons <| r_isX <| r_var rfl ⟨_, _, _, rfl, rfl, rfl, r_cons <| r_isX <| r_var rfl ⟨_, _, _, rfl, rfl, rfl, r_cons <| r_isX <| r_var rfl ⟨_, _, _, rfl, rfl, rfl, r_cons <| r_isX <| r_var rfl ⟨_, _, _, rfl, rfl, rfl, r_cons <| r_isX <| r_var rfl ⟨_, _, _, rfl, rfl, rfl, r_cons <| r_isX <| r_var rfl ⟨_, _, _, rfl, rfl, rfl, r_cons <| r_isX <| r_var rfl ⟨_, _, _, rfl, rfl, rfl, r_cons <| r_isX <| r_var rfl ⟨_, _, _, rfl, rfl, rfl, r_cons <| r_isX <| r_var rfl ⟨_, _, _, rfl, rfl, rfl, r_cons <| r_isX <| r_var rfl ⟨_, _, _, rfl, rfl, rfl, r_cons <| r_isX <| r_var rfl ⟨_, _, _, rfl, rfl, rfl, r_nil ⟨by simp, _, rfl, rfl, cz', rfl, rfl⟩⟩⟩⟩⟩⟩⟩⟩⟩⟩⟩⟩⟩⟩⟩⟩
  · exact ⟨rfl, t_hit rfl rfl <| s_cons <| s_ret <| r_newL <| c_lst <| r_cons <| r_isX <| r_var rfl ⟨_, _, _, rfl, rfl, rfl, r_cons <| r_isX <| r_var rfl ⟨_, _, _, rfl, rfl, rfl, r_cons <| r_isX <| r_var rfl ⟨_, _, _, rfl, rfl, rfl, r_cons <| r_isX <| r_var rfl ⟨_, _, _, rfl, rfl, rfl, r_cons <| r_isX <| r_var rfl ⟨_, _, _, rfl, rfl, rfl, r_cons <| r_isX <| r_var rfl ⟨_, _, _, rfl, rfl, rfl, r_cons <| r_isX <| r_var rfl ⟨_, _, _, rfl, rfl, rfl, r_cons <| r_isX <| r_var rfl ⟨_, _, _, rfl, rfl, rfl, r_cons <| r_isX <| r_var rfl ⟨_, _, _, rfl, rfl, rfl, r_cons <| r_isX <| r_var rfl ⟨_, _, _, rfl, rfl, rfl, r_cons <| r_isX <| r_var rfl ⟨_, _, _, rfl, rfl, rfl, r_cons <| r_isX <| r_var rfl ⟨_, _, _, rfl, rfl, rfl, r_cons <| r_isX <| r_var rfl ⟨_, _, _, rfl, rfl, rfl, r_cons <| r_isX <| r_var rfl ⟨_, _, _, rfl, rfl, rfl, r_nil ⟨by simp, _, rfl, rfl, cz', rfl, rfl⟩⟩⟩⟩⟩⟩⟩⟩⟩⟩⟩⟩⟩⟩⟩⟩
  · exact ⟨rfl, t_hit rfl rfl <| s_cons <| s_ret <| r_newL <| c_lst <| r_cons <| r_isX <| r_var rfl ⟨_, _, _, rfl, rfl, rfl, r_cons <| r_isX <| r_var rfl ⟨_, _, _, rfl, rfl, rfl, r_cons <| r_isX <| r_var rfl ⟨_, _, _, rfl, rfl, rfl, r_cons <| r_isX <| r_var rfl ⟨_, _, _, rfl, rfl, rfl, r_cons <| r_isX <| r_var rfl ⟨_, _, _, rfl, rfl, rfl, r_cons <| r_isX <| r_var rfl ⟨_, _, _, rfl, rfl, rfl, r_cons <| r_isX <| r_var rfl ⟨_, _, _, rfl, rfl, rfl, r_cons <| r_isX <| r_var rfl ⟨_, _, _, rfl, rfl, rfl, r_cons <| r_isX <| r_var rfl ⟨_, _, _, rfl, rfl, rfl, r_cons <| r_isX <| r_var rfl ⟨_, _, _, rfl, rfl, rfl, r_cons <| r_isX <| r_var rfl ⟨_, _, _, rfl, rfl, rfl, r_cons <| r_isX <| r_var rfl ⟨_, _, _, rfl, rfl, rfl, r_cons <| r_isX <| r_var rfl ⟨_, _, _, rfl, rfl, rfl, r_cons <| r_isX <| r_var rfl ⟨_, _, _, rfl, rfl, rfl, r_nil ⟨by simp, _, rfl, rfl, cz', rfl, rfl⟩⟩⟩⟩⟩⟩⟩⟩⟩⟩⟩⟩⟩⟩⟩⟩
  · exact ⟨rfl, t_hit rfl rfl <| s_cons <| s_ret <| r_newL <| c_lst <| r_cons <| r_isX <| r_var rfl ⟨_, _, _, rfl, rfl, rfl, r_cons <| r_isX <| r_var rfl ⟨_, _, _, rfl, rfl, rfl, r_cons <| r_isX <| r_var rfl ⟨_, _, _, rfl, rfl, rfl, r_cons <| r_isX <| r_var rfl ⟨_, _, _, rfl, rfl, rfl, r_cons <| r_isX <| r_var rfl ⟨_, _, _, rfl, rfl, rfl, r_cons <| r_isX <| r_var rfl ⟨_, _, _, rfl, rfl, rfl, r_cons <| r_isX <| r_var rfl ⟨_, _, _, rfl, rfl, rfl, r_cons <| r_isX <| r_var rfl ⟨_, _, _, rfl, rfl, rfl, r_cons <| r_isX <| r_var rfl ⟨_, _, _, rfl, rfl, rfl, r_cons <| r_isX <| r_var rfl ⟨_, _, _, rfl, rfl, rfl, r_cons <| r_isX <| r_var rfl ⟨_, _, _, rfl, rfl, rfl, r_cons <| r_isX <| r_var rfl ⟨_, _, _, rfl, rfl, rfl, r_cons <| r_isX <| r_var rfl ⟨_, _, _, rfl, rfl, rfl, r_cons <| r_isX <| r_var rfl ⟨_, _, _, rfl, rfl, rfl, r_nil ⟨by simp, _, rfl, rfl, cz', rfl, rfl⟩⟩⟩⟩⟩⟩⟩⟩⟩⟩⟩⟩⟩⟩⟩⟩
end K15
namespace K15
open PySem PySem.Spec PyProof.Rows L2 PK SX
def FrS (Z S' : List DO) : Prop := ∃ g, S' = Z ++ g ∧ Sx S'
theorem sp_first (n : Nat) {i : Nat} (hi : i ≤ 12) {b : Bool} {m mo : Int} {w pair side : D} (hw : Dat w) (hp : Dat pair) (hs : Dat side) {r : Nat} {ws : List Str} (hws : eqOk (.lst (ws.map D.str)) (.lst (ws.map D.str)) = true) (hl : ws.length ≤ 3) {Z : List DO} (hr : Z[r]? = some (.lst (ws.map D.str))) (sx : Sx Z) :
    wE (pr.call (n + 4) 3 [.int i, .bl b, .int m, .int mo, w, .ref r, pair, side]) Z (fun d S' => (∃ bs : List Bool, d = .lst (bs.map D.bl) ∧ bs.all id = true) ∧ FrS Z S') XF := by
  refine e__law_first (n := n + 3) ?_
  unfold ir__law_first
  have lr := (List.getElem?_eq_some_iff.mp hr).1
  have hnw := hw.nl
  have hnp := hp.nl
  have hns := hs.nl
  have hst : DO.noL true (.lst (ws.map D.str)) = true := noL_strs ws
  have hsx : DO.noX (.lst (ws.map D.str)) = true := noX_lst ws
  refine s_cons <| s_lock (r := r) rfl hr rfl ?_
  have g3 : (Z.set r (.lkl (ws.map D.str)))[r]? = some (.lkl (ws.map D.str)) := List.getElem?_set_self lr
  refine s_boxC <| c_lc <| i_seq <| r_lckv rfl g3 rfl ⟨ws.map D.str, rfl, by rw [List.length_map]; omega, ?_⟩
  rw [evTo_none]
  refine w_clMapW (fun d => d) _ (fun d hd => ⟨_, rfl, r_var rfl ⟨rfl, rfl⟩⟩) ?_
  have sl : Sx (Z.set r (.lkl (ws.map D.str)) ++ [.lst (ws.map D.str)]) := (sx.set (show DO.noX (.lkl (ws.map D.str)) = true from hsx) (show DO.noL true (.lkl (ws.map D.str)) = true from hst)).app hsx hst
  have ln : (Z.set r (.lkl (ws.map D.str))).length = Z.length := by simp
  rw [show (ws.map D.str).map (fun d => d) = ws.map D.str from List.map_id' _, ln]
  refine ⟨_, _, by rw [List.getElem?_append_left (by simpa using lr)]; exact g3, rfl, ?_, sl.l, ?_⟩
  · simp only [cleanE, List.all_cons, List.all_nil, Bool.and_true, Bool.and_eq_true, List.set]
    exact ⟨rfl, rfl, rfl, rfl, hnw, rfl, hnp, hns, rfl⟩
  rw [set_back hr]
  have sz : Sx (Z ++ [.lst (ws.map D.str)]) := sx.app hsx hst
  have hr1 : (Z ++ [DO.lst (ws.map D.str)])[r]? = some (.lst (ws.map D.str)) := app_old hr
  have hz1 : (Z ++ [DO.lst (ws.map D.str)])[Z.length]? = some (.lst (ws.map D.str)) := app_at
  show wS _ [some (.int i), some (.bl b), some (.int m), some (.int mo), some w, some (.ref r), some pair, some side, some (.ref Z.length), none, none] (Z ++ [.lst (ws.map D.str)]) _
  refine s_cons <| s_try <| s_cons <| s_expr <| r_call <| r_cons <| r_var rfl <| r_cons <| r_var rfl <| r_cons <| r_var rfl <| r_cons <| r_var rfl <| r_cons <| r_var rfl <| r_cons <| r_var rfl <| r_cons <| r_var rfl <| r_cons <| r_var rfl <| r_nil ?_
  refine k_of rfl rfl rfl ?_
  rw [ev_call]
  refine (sp_called n hi hz1).mono (fun _ _ z => z.elim) fun c fs S h => ?_
  obtain ⟨rfl, hf, rfl⟩ := h
  have sq : Sx (Z ++ [DO.lst (ws.map D.str ++ [D.str "zz"])]) := by
    have e : ws.map D.str ++ [D.str "zz"] = (ws ++ ([("zz" : Str)] : List Str)).map D.str := by rw [List.map_append]; rfl
    rw [e]
    exact sx.app (noX_lst _) (noL_strs _)
  have cz : (Z ++ [DO.lst (ws.map D.str)]).all DO.noX = true := sz.x
  have cq : (Z ++ [DO.lst (ws.map D.str ++ [D.str "zz"])]).all DO.noX = true := sq.x
  have fr : FrS Z (Z ++ [.lst (ws.map D.str)]) := ⟨_, rfl, sz⟩
  rcases thirteen hi with rfl | rfl | rfl | rfl | rfl | rfl | rfl | rfl | rfl | rfl | rfl | rfl | rfl <;> subst hf
  · exact ⟨rfl, t_hit rfl rfl <| s_cons <| s_ret <| r_newL <| c_lst <| r_cons <| r_cmp <| r_var rfl <| r_int <| p_eq <| r_cons <| r_cmp <| r_fld <| r_var rfl ⟨_, _, .int m, rfl, ⟨rfl, rfl, rfl, rfl⟩, rfl, r_var rfl <| p_eq <| r_nil ⟨by simp, _, rfl, rfl, cz, ⟨[decide (((0 : Nat) : Int) = 0), decide (m = m)], rfl, by simp⟩, fr⟩⟩⟩
  · exact ⟨rfl, t_miss rfl <| t_hit rfl rfl <| s_cons <| s_ret <| r_newL <| c_lst <| r_cons <| r_cmp <| r_var rfl <| r_int <| p_eq <| r_cons <| r_cmp <| r_fld <| r_var rfl ⟨_, _, .int m, rfl, ⟨rfl, rfl, rfl, rfl⟩, rfl, r_var rfl <| p_eq <| r_cons <| r_cmp <| r_fld <| r_var rfl ⟨_, _, w, rfl, ⟨rfl, rfl, rfl, rfl⟩, rfl, r_var rfl <| p_sm (hw.de _) (hw.de _) hw.eq <| r_nil ⟨by simp, _, rfl, rfl, cz, ⟨[decide (((1 : Nat) : Int) = 1), decide (m = m), true], rfl, by simp⟩, fr⟩⟩⟩⟩
  · exact ⟨rfl, t_miss rfl <| t_miss rfl <| t_hit rfl rfl <| s_cons <| s_ret <| r_newL <| c_lst <| r_cons <| r_cmp <| r_var rfl <| r_int <| p_eq <| r_cons <| r_cmp <| r_fld <| r_var rfl ⟨_, _, .int m, rfl, ⟨rfl, rfl, rfl, rfl⟩, rfl, r_var rfl <| p_eq <| r_nil ⟨by simp, _, rfl, rfl, cz, ⟨[decide (((2 : Nat) : Int) = 2), decide (m = m)], rfl, by simp⟩, fr⟩⟩⟩
  · exact ⟨rfl, t_miss rfl <| t_miss rfl <| t_miss rfl <| t_hit rfl rfl <| s_cons <| s_ret <| r_newL <| c_lst <| r_cons <| r_cmp <| r_var rfl <| r_int <| p_eq <| r_cons <| r_cmp <| r_fld <| r_var rfl ⟨_, _, .int m, rfl, ⟨rfl, rfl, rfl, rfl⟩, rfl, r_var rfl <| p_eq <| r_nil ⟨by simp, _, rfl, rfl, cz, ⟨[decide (((3 : Nat) : Int) = 3), decide (m = m)], rfl, by simp⟩, fr⟩⟩⟩
  · have hlt : Z.length < (Z ++ [DO.lst (ws.map D.str)]).length := by simp
    have e2 : (Z ++ [DO.lst (ws.map D.str)]).set Z.length (.lst (ws.map D.str ++ [D.str "zz"])) = Z ++ [.lst (ws.map D.str ++ [D.str "zz"])] := app_set
    have hr2 : (Z ++ [DO.lst (ws.map D.str ++ [D.str "zz"])])[r]? = some (.lst (ws.map D.str)) := app_old hr
    have de5 : derefL (Z ++ [DO.lst (ws.map D.str ++ [D.str "zz"])]) (.ref r) = .lst (ws.map D.str) := by unfold derefL; simp only [hr2]
    refine ⟨rfl, t_miss rfl <| t_miss rfl <| t_miss rfl <| t_miss rfl <| t_hit rfl rfl <| s_cons <| s_expr <| r_app <| r_var rfl ⟨Z.length, _, rfl, hz1, r_str ⟨_, hz1, by rw [List.length_map]; omega, ?_⟩⟩⟩
    rw [e2]
    exact s_cons <| s_ret <| r_newL <| c_lst <| r_cons <| r_cmp <| r_var rfl <| r_int <| p_eq <| r_cons <| r_cmp <| r_fld <| r_var rfl ⟨_, _, .lst (ws.map D.str), rfl, ⟨rfl, rfl, rfl, rfl⟩, rfl, r_var rfl <| p_sm rfl de5 hws <| r_nil ⟨by simp, _, rfl, rfl, cq, ⟨[decide (((4 : Nat) : Int) = 4), true], rfl, by simp⟩, _, rfl, sq⟩⟩
  · exact ⟨rfl, t_miss rfl <| t_miss rfl <| t_miss rfl <| t_miss rfl <| t_miss rfl <| t_hit rfl rfl <| s_cons <| s_ret <| r_newL <| c_lst <| r_cons <| r_cmp <| r_var rfl <| r_int <| p_eq <| r_cons <| r_cmp <| r_fld <| r_var rfl ⟨_, _, .int m, rfl, ⟨rfl, rfl, rfl, rfl⟩, rfl, r_var rfl <| p_eq <| r_nil ⟨by simp, _, rfl, rfl, cz, ⟨[decide (((5 : Nat) : Int) = 5), decide (m = m)], rfl, by simp⟩, fr⟩⟩⟩
  · exact ⟨rfl, t_miss rfl <| t_miss rfl <| t_miss rfl <| t_miss rfl <| t_miss rfl <| t_miss rfl <| t_hit rfl rfl <| s_cons <| s_ret <| r_newL <| c_lst <| r_cons <| r_cmp <| r_var rfl <| r_int <| p_eq <| r_nil ⟨by simp, _, rfl, rfl, cz, ⟨[decide (((6 : Nat) : Int) = 6)], rfl, by simp⟩, fr⟩⟩
  · exact ⟨rfl, t_miss rfl <| t_miss rfl <| t_miss rfl <| t_miss rfl <| t_miss rfl <| t_miss rfl <| t_miss rfl <| t_hit rfl rfl <| s_cons <| s_ret <| r_newL <| c_lst <| r_cons <| r_cmp <| r_var rfl <| r_int <| p_eq <| r_cons <| r_cmp <| r_fld <| r_var rfl ⟨_, _, pair, rfl, ⟨rfl, rfl, rfl, rfl⟩, rfl, r_var rfl <| p_sm (hp.de _) (hp.de _) hp.eq <| r_nil ⟨by simp, _, rfl, rfl, cz, ⟨[decide (((7 : Nat) : Int) = 7), true], rfl, by simp⟩, fr⟩⟩⟩
  · exact ⟨rfl, t_miss rfl <| t_miss rfl <| t_miss rfl <| t_miss rfl <| t_miss rfl <| t_miss rfl <| t_miss rfl <| t_miss rfl <| t_hit rfl rfl <| s_cons <| s_ret <| r_newL <| c_lst <| r_cons <| r_cmp <| r_var rfl <| r_int <| p_eq <| r_nil ⟨by simp, _, rfl, rfl, cz, ⟨[decide (((8 : Nat) : Int) = 8)], rfl, by simp⟩, fr⟩⟩
  · exact ⟨rfl, t_miss rfl <| t_miss rfl <| t_miss rfl <| t_miss rfl <| t_miss rfl <| t_miss rfl <| t_miss rfl <| t_miss rfl <| t_miss rfl <| t_hit rfl rfl <| s_cons <| s_ret <| r_newL <| c_lst <| r_cons <| r_cmp <| r_var rfl <| r_int <| p_eq <| r_cons <| r_cmp <| r_fld <| r_var rfl ⟨_, _, side, rfl, ⟨rfl, rfl, rfl, rfl⟩, rfl, r_var rfl <| p_sm (hs.de _) (hs.de _) hs.eq <| r_nil ⟨by simp, _, rfl, rfl, cz, ⟨[decide (((9 : Nat) : Int) = 9), true], rfl, by simp⟩, fr⟩⟩⟩
  · exact ⟨rfl, t_miss rfl <| t_miss rfl <| t_miss rfl <| t_miss rfl <| t_miss rfl <| t_miss rfl <| t_miss rfl <| t_miss rfl <| t_miss rfl <| t_miss rfl <| t_hit rfl rfl <| s_cons <| s_ret <| r_newL <| c_lst <| r_cons <| r_cmp <| r_var rfl <| r_int <| p_eq <| r_cons <| r_cmp <| r_fld <| r_var rfl ⟨_, _, .int m, rfl, ⟨rfl, rfl, rfl, rfl⟩, rfl, r_var rfl <| p_eq <| r_nil ⟨by simp, _, rfl, rfl, cz, ⟨[decide (((10 : Nat) : Int) = 10), decide (m = m)], rfl, by simp⟩, fr⟩⟩⟩
  · exact ⟨rfl, t_miss rfl <| t_miss rfl <| t_miss rfl <| t_miss rfl <| t_miss rfl <| t_miss rfl <| t_miss rfl <| t_miss rfl <| t_miss rfl <| t_miss rfl <| t_miss rfl <| t_hit rfl rfl <| s_cons <| s_ret <| r_newL <| c_lst <| r_cons <| r_cmp <| r_var rfl <| r_int <| p_eq <| r_cons <| r_cmp <| r_fld <| r_var rfl ⟨_, _, pair, rfl, ⟨rfl, rfl, rfl, rfl⟩, rfl, r_var rfl <| p_sm (hp.de _) (hp.de _) hp.eq <| r_nil ⟨by simp, _, rfl, rfl, cz, ⟨[decide (((11 : Nat) : Int) = 11), true], rfl, by simp⟩, fr⟩⟩⟩
  · exact ⟨rfl, t_miss rfl <| t_miss rfl <| t_miss rfl <| t_miss rfl <| t_miss rfl <| t_miss rfl <| t_miss rfl <| t_miss rfl <| t_miss rfl <| t_miss rfl <| t_miss rfl <| t_miss rfl <| t_hit rfl rfl <| s_cons <| s_ret <| r_newL <| c_lst <| r_cons <| r_cmp <| r_var rfl <| r_int <| p_eq <| r_cons <| r_cmp <| r_fld <| r_var rfl ⟨_, _, .int mo, rfl, ⟨rfl, rfl, rfl, rfl⟩, rfl, r_var rfl <| p_eq <| r_cons <| r_cmp <| r_fld <| r_var rfl ⟨_, _, .int m, rfl, ⟨rfl, rfl, rfl, rfl⟩, rfl, r_var rfl <| p_eq <| r_nil ⟨by simp, _, rfl, rfl, cz, ⟨[decide (((12 : Nat) : Int) = 12), decide (mo = mo), decide (m = m)], rfl, by simp⟩, fr⟩⟩⟩⟩
end K15
namespace PK
open PySem PySem.Spec PyProof.Rows L2 SX
/-! ### lists of words, joined, cut and put together -/
theorem cutL_to {α : Type} (xs : List α) (g : Nat) : cutL xs none (some (g : Int)) = xs.take g := by
  unfold cutL
  rw [HT.sIx_none, HT.sIx_nat, List.drop_zero, Nat.sub_zero]
  by_cases h : g ≤ xs.length
  · rw [Nat.min_eq_left h]
  · rw [Nat.min_eq_right (by omega), List.take_of_length_le (Nat.le_refl _), List.take_of_length_le (by omega)]
theorem cutL_from {α : Type} (xs : List α) (g : Nat) : cutL xs (some (g : Int)) none = xs.drop g := by
  unfold cutL
  rw [HT.sIx_none, HT.sIx_nat]
  by_cases h : g ≤ xs.length
  · rw [Nat.min_eq_left h, List.take_of_length_le (by rw [List.length_drop]; omega)]
  · rw [Nat.min_eq_right (by omega), List.drop_eq_nil_of_le (Nat.le_refl _), List.drop_eq_nil_of_le (by omega)]
    simp
theorem map_dT (ws : List (List Nat)) : ws.map dT = (ws.map S).map D.str := by rw [List.map_map]; rfl
theorem sum_len {b : Nat} : ∀ {ws : List (List Nat)}, (∀ w ∈ ws, w.length ≤ b) → (ws.map (·.length)).sum ≤ ws.length * b
  | [], _ => Nat.zero_le _
  | w :: r, h => by
    have h1 := h w (List.mem_cons_self ..)
    have h2 := sum_len (ws := r) fun y hy => h y (List.mem_cons_of_mem _ hy)
    rw [List.map_cons, List.sum_cons, List.length_cons, Nat.succ_mul]
    omega
section
variable {v : Ev} {U : List DO} {E : PK.Env} {X : XP} {Q : D → List DO → Prop}
/-- sep.join(words) -/
theorem r_joinW {sep : List Nat} {e : IE} (q : wE (evE v e E) U (fun y U => ∃ ws : List (List Nat), viewS U y = some (ws.map dT) ∧ (ws.map (·.length)).sum + ws.length * sep.length ≤ 16777216 ∧ Q (dT (TL.joinL sep ws)) U) X) {z : Str} (hz : z = S sep) : wE (evE v (.join (.str z) e .nil) E) U Q X := by
  subst hz
  refine r_join (r_str ⟨_, rfl, q.mono (fun y U ⟨ws, h1, h2, h3⟩ => ⟨_, ws.map S, h1, by rw [map_dT, strsO_map], ?_, ?_⟩) fun _ _ _ z => z⟩)
  · rw [lens, List.length_map, S_len]; exact h2
  · rw [join_S]; exact h3
theorem p_addT {a b : List Nat} (h : a.length + b.length ≤ 16777216) (q : Q (dT (a ++ b)) U) : wE (bopM .add (dT a) (dT b)) U Q X := by
  show wE (EM.ofO (addO (.str (S a)) (.str (S b)))) U Q X
  unfold addO
  dsimp only
  rw [if_pos (by rw [S_len, S_len]; exact h), S_cat]
  exact ⟨q⟩
/-- xs[:g] + es + xs[k:] -/
theorem r_ins {i : Nat} {d : D} {ws mid : List (List Nat)} {lo hi : IE} {es : IEs} {g k : Nat} (hE : E[i]? = some (some d)) (hv : viewL U d = some (ws.map dT)) (hl : ws.length ≤ 100000) (hm : mid.length ≤ 1000)
    (h1 : ∀ {Q : D → List DO → Prop}, Q (.int (g : Int)) U → wE (evE v lo E) U Q X) (h2 : ∀ {Q : List D → List DO → Prop}, Q (mid.map dT) U → wE (evEs v es E) U Q X) (h3 : ∀ {Q : D → List DO → Prop}, Q (.int (k : Int)) U → wE (evE v hi E) U Q X)
    {QC : DO → List DO → Prop} (q : QC (.lst ((ws.take g ++ mid ++ ws.drop k).map dT)) U) : wE (evC v (.cat (.new (.cat (.new (.cut (.var i) .none (.some lo))) (.new (.lst es)))) (.new (.cut (.var i) (.some hi) .none))) E) U QC X := by
  have hd1 : (ws.take g).length ≤ 100000 := by rw [List.length_take]; omega
  have hd2 : (ws.drop k).length ≤ 100000 := by rw [List.length_drop]; omega
  refine c_cat (r_newL (c_cat (r_newL (c_cut (r_var hE (r_o0 (r_o1 (h1 ⟨_, rfl, ws.map dT, hv, _, rfl, ?_⟩)))))))) 
  rw [cutL_to, ← List.map_take]
  refine r_newL (c_lst (h2 ⟨by simpa using hm, _, rfl, _, _, rfl, rfl, by simp only [List.length_map]; omega, _, rfl, ?_⟩))
  refine r_newL (c_cut (r_var hE (r_o1 (h3 ⟨_, rfl, r_o0 ⟨ws.map dT, hv, _, rfl, _, _, rfl, rfl, ?_, ?_⟩⟩))))
  · rw [cutL_from, ← List.map_drop]; simp only [List.length_append, List.length_map]; omega
  · rw [cutL_from, ← List.map_drop]
    rw [List.map_append, List.map_append] at q
    exact q
end
theorem joinL_cons2 (s w w2 : List Nat) (r : List (List Nat)) : TL.joinL s (w :: w2 :: r) = w ++ (s ++ TL.joinL s (w2 :: r)) := rfl
/-- signs of a joined text -/
theorem asc_join {s : List Nat} {ws : List (List Nat)} {b : Nat} (hs : ∀ c ∈ s, c < 128) (h : ∀ w ∈ ws, (∀ c ∈ w, c < 128) ∧ w.length ≤ b) (hb : ws.length * (b + s.length) ≤ 16000000) : Asc (TL.joinL s ws) := by
  refine ⟨fun c hc => ?_, Nat.le_trans (len_join fun p hp => (h p hp).2) hb⟩
  rcases mem_join hc with z | ⟨p, hp, hcp⟩
  · exact hs c z
  · exact (h p hp).1 c hcp
end PK
namespace K15
open PySem PySem.Spec PyProof.Rows L2 PK SX
theorem sp_tape (n k : Nat) {ns : List Int} {S : List DO} (hk : k ≤ 63) : wE (pr.call (n + 1) 1 [.scr ns, .int k]) S (fun d S' => ∃ a b : Int, d = .ref S.length ∧ S' = S ++ [.lst [.int a, .int b]] ∧ 0 ≤ a ∧ 0 ≤ b ∧ b < 2147483648) XF := e__law_tape_b (lib_tape hk)
theorem pickOk (n : Nat) : PickOk (pr.ev (n + 1)) 2 := ⟨rfl, rfl, fun t hm => e__law_pick (lib_pick t hm)⟩
theorem Sx.of {S S' : List DO} {r : Nat} (t : Tq r S S') (h : Sx S) : Sx S' := by
  have key : ∀ o ∈ S', o ∈ S ∨ ∃ a b : Int, o = .lst [.int a, .int b] := fun o ho => by
    obtain ⟨j, hj⟩ := List.getElem?_of_mem ho
    by_cases e : j = r
    · subst e
      obtain ⟨a, b, hS, _⟩ := t.tp
      rw [hj] at hS
      exact .inr ⟨a, b, Option.some.inj hS⟩
    · rw [t.oth j e] at hj
      exact .inl (List.mem_of_getElem? hj)
  refine ⟨List.all_eq_true.mpr fun o ho => ?_, List.all_eq_true.mpr fun o ho => ?_⟩
  · rcases key o ho with z | ⟨a, b, rfl⟩
    · exact List.all_eq_true.mp h.x o z
    · rfl
  · rcases key o ho with z | ⟨a, b, rfl⟩
    · exact List.all_eq_true.mp h.l o z
    · rfl
theorem dat_str {x : List Nat} (h : ∀ c ∈ x, c < 128) (hl : x.length ≤ 100) : Dat (dT x) := by
  have k : PyData.strOk (S x) = true := Asc.ok ⟨h, by omega⟩
  have p : (dT x).plain = true := k
  exact ⟨fun _ => rfl, eqOk_of p p (by simp [dT, D.depth]) (by simp [dT, D.depth]), rfl, rfl⟩
theorem dat_tup {xs : List D} (hp : D.plains xs = true) (hd : D.depths xs ≤ 10) (hx : D.noXs xs = true) (hl : D.noLs true xs = true) : Dat (.tup xs) := by
  have p : D.plain (.tup xs) = true := hp
  have d : D.depth (.tup xs) ≤ 11 := by unfold D.depth; omega
  exact ⟨fun _ => rfl, eqOk_of p p (by omega) (by omega), hx, hl⟩
theorem dep_bl : ∀ bs : List Bool, D.depths (bs.map D.bl) = 0
  | [] => rfl
  | b :: bs => by
    show max (D.depth (.bl b)) (D.depths (bs.map D.bl)) = 0
    rw [dep_bl bs]; rfl
theorem pl_bl : ∀ bs : List Bool, D.plains (bs.map D.bl) = true
  | [] => rfl
  | b :: bs => by
    show (D.plain (.bl b) && D.plains (bs.map D.bl)) = true
    rw [pl_bl bs]; rfl
theorem eq_bl (bs : List Bool) : eqOk (.lst (bs.map D.bl)) (.lst (bs.map D.bl)) = true := by
  have p : D.plain (.lst (bs.map D.bl)) = true := pl_bl bs
  have d : D.depth (.lst (bs.map D.bl)) ≤ 5 := by unfold D.depth; rw [dep_bl]; omega
  exact eqOk_of p p (by omega) (by omega)
theorem eq_strs : ∀ k ≤ 3, eqOk (.lst (([S [115], S [116, 49], S [115, 50]].take k).map D.str)) (.lst (([S [115], S [116, 49], S [115, 50]].take k).map D.str)) = true := by
  have k0 : PyData.strOk (S [115]) = true := Asc.ok ⟨by decide, by decide⟩
  have k1 : PyData.strOk (S [116, 49]) = true := Asc.ok ⟨by decide, by decide⟩
  have k2 : PyData.strOk (S [115, 50]) = true := Asc.ok ⟨by decide, by decide⟩
  intro k hk
  rcases (by omega : k = 0 ∨ k = 1 ∨ k = 2 ∨ k = 3) with rfl | rfl | rfl | rfl
  all_goals
    refine eqOk_of ?_ ?_ (by simp [D.depth, D.depths]) (by simp [D.depth, D.depths])
    all_goals simp [D.plain, D.plains, k0, k1, k2]
theorem p_neSame {d : D} {U : List DO} {Q : D → List DO → Prop} {X : XP} (hd : derefL U d = d) (h : eqOk d d = true) (q : Q (.bl false) U) : wE (copM .ne d d) U Q X := by
  refine p_neG (by rw [hd]; exact h) ?_
  rw [hd]
  have : PyData.eqv (toPy d) (toPy d) = true := PK.eqv_refl d (by unfold eqOk at h; simp only [Bool.and_eq_true] at h; exact h.1.1.1)
  rw [this]
  exact q
def three : List Str := [S [115], S [116, 49], S [115, 50]]
def isI (k : Nat) : D → D
  | .int j => .bl (decide (j = (k : Int)))
  | d => d
theorem kinds_eq (k : Nat) : [D.bl true] ++ (rangeD 0 13).map (isI k) = (kinds k).map D.bl := by
  unfold rangeD kinds
  rw [List.map_map, List.map_cons, List.map_map]
  show D.bl true :: _ = D.bl true :: _
  congr 1
  refine List.map_congr_left fun i _ => ?_
  show D.bl (decide (0 + (i : Int) = (k : Int))) = D.bl (decide (i = k))
  congr 1
  exact decide_eq_decide.mpr ⟨fun z => by omega, fun z => by omega⟩
theorem law_ok (ns : List Int) : wE (pr.call 12 0 [.scr ns]) [] (fun d _ => d = .bl true) XF := by
  refine e_law ?_
  unfold ir_law
  have p := pickOk 10
  refine s_cons <| s_set <| r_call <| r_cons <| r_var rfl <| r_cons <| r_int <| r_nil ?_
  refine k_of rfl rfl rfl ((sp_tape 10 0 (by decide)).to fun d S0 ⟨a, b, e1, e2, ha, hb, hb2⟩ => ?_)
  subst e1 e2
  have t0 : Tp ([] ++ [DO.lst [.int a, .int b]]) 0 := ⟨a, b, rfl, ha, hb, hb2⟩
  have x0 : Sx ([] ++ [DO.lst [.int a, .int b]]) := ⟨rfl, rfl⟩
  generalize ([] ++ [DO.lst [.int a, .int b]]) = S0 at t0 x0
  refine s_cons <| s_set <| r_cmp <| r_call <| r_cons <| r_var rfl <| r_cons <| r_int <| r_nil ?_
  refine p.use t0 (by decide) fun c1 S1 _ _ q1 => r_int <| p_eq ?_
  generalize decide (c1 = 1) = nmd
  refine s_cons <| s_set <| r_call <| r_cons <| r_var rfl <| r_cons <| r_int <| r_nil ?_
  refine p.use q1.tp (by decide) fun m S2 _ _ q2 => ?_
  refine s_cons <| s_set <| r_bin <| r_call <| r_cons <| r_var rfl <| r_cons <| r_int <| r_nil ?_
  refine p.use q2.tp (by decide) fun mo S3 _ _ q3 => r_int <| p_sub ?_
  generalize mo - 500 = mo
  refine s_cons <| s_set <| r_idx <| r_newL <| c_lst <| r_cons <| r_str <| r_cons <| r_str <| r_cons <| r_str <| r_cons <| r_str <| r_nil ⟨by simp, _, rfl, r_call <| r_cons <| r_var rfl <| r_cons <| r_int <| r_nil ?_⟩
  refine p.use q3.tp (by decide) fun wi S4 w0 w1 q4 => ?_
  obtain ⟨w, hwi, hw⟩ : ∃ w, L2.atI [D.str "a", D.str "x[b]", D.str "zz9", D.str ""] wi = some w ∧ Dat w := by
    rcases (by omega : wi = 0 ∨ wi = 1 ∨ wi = 2 ∨ wi = 3) with z | z | z | z <;> subst z
    · exact ⟨_, rfl, dat_str (x := [97]) (by decide) (by decide)⟩
    · exact ⟨_, rfl, dat_str (x := [120, 91, 98, 93]) (by decide) (by decide)⟩
    · exact ⟨_, rfl, dat_str (x := [122, 122, 57]) (by decide) (by decide)⟩
    · exact ⟨_, rfl, dat_str (x := []) (by decide) (by decide)⟩
  refine p_idxL hwi ?_
  refine s_cons <| s_set <| r_box <| c_cut <| r_newL <| c_lst <| r_cons <| r_str <| r_cons <| r_str <| r_cons <| r_str <| r_nil ⟨by simp, _, rfl, r_o0 <| r_o1 <| r_bin <| r_int <| r_call <| r_cons <| r_var rfl <| r_cons <| r_int <| r_nil ?_⟩
  refine p.use q4.tp (by decide) fun ki S5 k0 k1 q5 => p_add ⟨_, rfl, _, rfl, ?_⟩
  obtain ⟨kn, rfl⟩ := Int.eq_ofNat_of_zero_le k0
  rw [show (1 + (kn : Int)) = ((1 + kn : Nat) : Int) by omega, cutL_to]
  have q15 := (((q1.trans q2).trans q3).trans q4).trans q5
  have ht : ([D.str "s", D.str "t1", D.str "s2"].take (1 + kn)) = (three.take (1 + kn)).map D.str := (List.map_take (f := D.str) (l := three) (i := 1 + kn)).symm
  rw [ht]
  have hnm := eq_strs (1 + kn) (by omega)
  have hl3 : (three.take (1 + kn)).length ≤ 3 := by rw [List.length_take]; show min _ 3 ≤ 3; omega
  change eqOk (.lst ((three.take (1 + kn)).map D.str)) (.lst ((three.take (1 + kn)).map D.str)) = true at hnm
  generalize three.take (1 + kn) = nm at hnm hl3
  have x6 : Sx (S5 ++ [DO.lst (nm.map D.str)]) := (Sx.of q15 x0).app (noX_lst _) (noL_strs _)
  have t6 : Tp (S5 ++ [DO.lst (nm.map D.str)]) 0 := q15.tp.app _
  have r6 : (S5 ++ [DO.lst (nm.map D.str)])[S5.length]? = some (.lst (nm.map D.str)) := app_at
  have n0 : 0 ≠ S5.length := by have := q15.tp.lt; omega
  generalize S5.length = r at r6 n0
  generalize S5 ++ [DO.lst (nm.map D.str)] = U6 at x6 t6 r6
  refine s_cons <| s_set <| r_idx <| r_newL <| c_lst <| r_cons <| r_tup <| r_cons <| r_str <| r_nil ⟨by simp, r_cons <| r_tup <| r_cons <| r_str <| r_cons <| r_int <| r_nil ⟨by simp, r_cons <| r_tup <| r_cons <| r_str <| r_cons <| r_int <| r_cons <| r_int <| r_nil ⟨by simp, r_cons <| r_tup <| r_cons <| r_str <| r_nil ⟨by simp, r_nil ⟨by simp, _, rfl, r_call <| r_cons <| r_var rfl <| r_cons <| r_int <| r_nil ?_⟩⟩⟩⟩⟩
  refine p.use t6 (by decide) fun pi S7 p0 p1 q7 => ?_
  have s1 : PyData.strOk (S [116, 117, 114, 110]) = true := Asc.ok ⟨by decide, by decide⟩
  have s2 : PyData.strOk (S [114, 97, 105, 115, 101]) = true := Asc.ok ⟨by decide, by decide⟩
  have s3 : PyData.strOk (S [109, 105, 120]) = true := Asc.ok ⟨by decide, by decide⟩
  have s4 : PyData.strOk (S [106, 117, 109, 112]) = true := Asc.ok ⟨by decide, by decide⟩
  obtain ⟨pair, hpi, hp⟩ : ∃ w, L2.atI [D.tup [.str "turn"], D.tup [.str "raise", .int 1], D.tup [.str "mix", .int 0, .int 2], D.tup [.str "jump"]] pi = some w ∧ Dat w := by
    rcases (by omega : pi = 0 ∨ pi = 1 ∨ pi = 2 ∨ pi = 3) with z | z | z | z <;> subst z
    · exact ⟨_, rfl, dat_tup (by show (PyData.strOk (S [116, 117, 114, 110]) && true) = true; rw [s1]; rfl) (by simp [D.depth, D.depths]) rfl rfl⟩
    · exact ⟨_, rfl, dat_tup (by show (PyData.strOk (S [114, 97, 105, 115, 101]) && (true && true)) = true; rw [s2]; rfl) (by simp [D.depth, D.depths]) rfl rfl⟩
    · exact ⟨_, rfl, dat_tup (by show (PyData.strOk (S [109, 105, 120]) && (true && (true && true))) = true; rw [s3]; rfl) (by simp [D.depth, D.depths]) rfl rfl⟩
    · exact ⟨_, rfl, dat_tup (by show (PyData.strOk (S [106, 117, 109, 112]) && true) = true; rw [s4]; rfl) (by simp [D.depth, D.depths]) rfl rfl⟩
  refine p_idxL hpi ?_
  refine s_cons <| s_set <| r_idx <| r_newL <| c_lst <| r_cons <| r_str <| r_cons <| r_str <| r_nil ⟨by simp, _, rfl, r_call <| r_cons <| r_var rfl <| r_cons <| r_int <| r_nil ?_⟩
  refine p.use q7.tp (by decide) fun si S8 i0 i1 q8 => ?_
  obtain ⟨side, hsi, hs⟩ : ∃ w, L2.atI [D.str "back", D.str "front"] si = some w ∧ Dat w := by
    rcases (by omega : si = 0 ∨ si = 1) with z | z <;> subst z
    · exact ⟨_, rfl, dat_str (x := [98, 97, 99, 107]) (by decide) (by decide)⟩
    · exact ⟨_, rfl, dat_str (x := [102, 114, 111, 110, 116]) (by decide) (by decide)⟩
  refine p_idxL hsi ?_
  have q78 := q7.trans q8
  have x8 := Sx.of q78 x6
  have r8 : S8[r]? = some (.lst (nm.map D.str)) := by rw [q78.oth r (Ne.symm n0)]; exact r6
  clear q1 q2 q3 q4 q5 q7 q8 q78 q15 x6 t6 r6 x0 t0 hpi hsi hwi s1 s2 s3 s4
  show wS _ [some (.scr ns), some (.ref 0), some (.bl nmd), some (.int m), some (.int mo), some w, some (.ref r), some pair, some side, none, none, none, none] S8 _
  refine s_cons <| s_for <| i_rng1 <| r_int ⟨_, rfl, by decide, ?_⟩
  refine wS_loop (fun k E U => ∃ (e9 e10 e11 : Option D), E = [some (.scr ns), some (.ref 0), some (.bl nmd), some (.int m), some (.int mo), some w, some (.ref r), some pair, some side, e9, e10, e11, none] ∧ U[r]? = some (.lst (nm.map D.str)) ∧ Sx U) _ 0 ⟨none, none, none, rfl, r8, x8⟩ ?_ ?_
  · rintro k d E U hd ⟨e9, e10, e11, rfl, rU, xU⟩
    obtain ⟨hk2, rfl⟩ := rangeD_get hd
    have hk : k ≤ 12 := by have : k < 13 := hk2; omega
    rw [Int.zero_add]
    refine put_1 ?_
    show wS _ [some (.scr ns), some (.ref 0), some (.bl nmd), some (.int m), some (.int mo), some w, some (.ref r), some pair, some side, some (.int (k : Nat)), e10, e11, none] U _
    refine s_cons <| s_for <| i_seq <| r_call <| r_cons <| r_var rfl <| r_cons <| r_var rfl <| r_cons <| r_var rfl <| r_cons <| r_var rfl <| r_cons <| r_var rfl <| r_cons <| r_var rfl <| r_cons <| r_var rfl <| r_cons <| r_var rfl <| r_nil ?_
    refine k_of rfl rfl rfl ?_
    rw [ev_call]
    refine (sp_first 7 hk hw hp hs hnm hl3 rU xU).to fun d U2 hd => ?_
    obtain ⟨⟨bs, rfl, hbs⟩, g, rfl, xU2⟩ := hd
    have rU2 : (U ++ g)[r]? = some (.lst (nm.map D.str)) := app_old rU
    generalize U ++ g = U2 at xU2 rU2
    refine ⟨bs.map D.bl, rfl, ?_⟩
    refine wS_loop (fun j E V => ∃ (e10 : Option D), E = [some (.scr ns), some (.ref 0), some (.bl nmd), some (.int m), some (.int mo), some w, some (.ref r), some pair, some side, some (.int (k : Nat)), e10, e11, none] ∧ V = U2) _ 0 ⟨e10, rfl, rfl⟩ ?_ ?_
    · rintro j d E V hd ⟨e10, rfl, rfl⟩
      rw [List.getElem?_map, Option.map_eq_some_iff] at hd
      obtain ⟨b, hb, rfl⟩ := hd
      have hbt : b = true := List.all_eq_true.mp hbs b (List.mem_of_getElem? hb)
      subst hbt
      refine put_1 ?_
      exact s_cons <| s_if <| t_not <| t_val <| r_var rfl ⟨true, rfl, (fun h => by cases h), fun _ => s_nil <| s_nil ⟨_, rfl, rfl⟩⟩
    rintro E V ⟨e10, rfl, rfl⟩
    refine s_cons <| s_set <| r_newL <| c_cat <| r_newL <| c_lst <| r_cons <| r_bl <| r_nil ⟨by simp, _, rfl, r_newL <| c_lc <| i_rng1 <| r_int ⟨_, rfl, by decide, by rw [rangeD_len]; decide, ?_⟩⟩
    rw [evTo_none]
    refine w_clMapW (isI k) _ (fun d hd => ?_) ?_
    · obtain ⟨j, hj⟩ := List.getElem?_of_mem hd
      obtain ⟨_, rfl⟩ := rangeD_get hj
      exact ⟨_, rfl, r_cmp <| r_var rfl <| r_var rfl <| p_eq ⟨rfl, rfl⟩⟩
    refine ⟨_, rfl, _, _, rfl, rfl, ?_, _, rfl, ?_⟩
    · rw [List.length_map, rangeD_len]; decide
    rw [show ((13 : Int).toNat) = 13 from rfl, kinds_eq]
    refine s_cons <| s_if <| t_cmp <| r_call <| r_cons <| r_var rfl <| r_cons <| r_var rfl <| r_cons <| r_var rfl <| r_cons <| r_var rfl <| r_cons <| r_var rfl <| r_cons <| r_var rfl <| r_cons <| r_var rfl <| r_cons <| r_var rfl <| r_nil ?_
    refine k_of rfl rfl rfl ?_
    rw [ev_call]
    refine (sp_kinds 7 hk rU2 xU2.x).to fun d V hd => ?_
    obtain ⟨rfl, rfl⟩ := hd
    exact r_var rfl <| p_neSame rfl (eq_bl _) ⟨_, rfl, (fun z => by cases z), fun _ => s_nil <| s_nil ⟨_, _, _, rfl, rU2, xU2⟩⟩
  · rintro E U ⟨e9, e10, e11, rfl, rU, xU⟩
    exact s_cons <| s_ret <| r_bl rfl
theorem sem : ∀ ns : List Int, ns.length ≤ 63 → ∃ S, pr.call 12 0 [.scr ns] [] = .ok (.bl true) S := fun ns _ => by
  obtain ⟨d, S, e, rfl⟩ := (law_ok ns).ok
  exact ⟨S, e⟩
end K15
namespace K15
open PySem PySem.Spec PyProof.Rows L2 PK
abbrev R : PySem.W.OpenRow := PySem.W.OpenLaw.row PySem.Challenge.rw_keptnumbers_k15_errors_and_their_attribu
abbrev hk : PySem.W.Hook := pr.hook 6
def ob (s : PySem.W.SharedT) : AlP := pr.obs 6 (HandSHeadRun.getT s)
theorem ob_eq (s : PySem.W.SharedT) : ob s = hk.obs s.abs := Pr.obs_eq (HandSHeadRun.getT_eq s)
abbrev loose : List Str := ["__name__", "KeptError", "BadLine", "UnknownName", "TooDeep", "TooHigh", "RingFound", "NotExact", "EmptyRow", "BadKind", "NoEnd", "SetBarred", "TooMany", "NotKept", "BadStretch", "_law_tape", "_law_pick", "_law_raise", "_law_raise_named", "_law_called", "_law_first", "_law_kinds"]
theorem run (w : World) : HandSHeadRun.RunEq R (PySem.W.view R.prog [23]) hk ob 12000 loose w := by
  intro os
  kernel_rfl
theorem all_bd : ∀ F ∈ pr.fds, F.Bd := by
  intro F hF
  simp only [pr, List.mem_cons, List.mem_nil_iff, or_false] at hF
  rcases hF with rfl | rfl | rfl | rfl | rfl | rfl | rfl | rfl
  · exact PK.FD.BdN.bd bd_f_law
  · exact PK.FD.BdN.bd bd_f__law_tape_b
  · exact PK.FD.BdN.bd bd_f__law_pick
  · exact PK.FD.BdN.bd bd_f__law_first
  · exact PK.FD.BdN.bd bd_f__law_kinds
  · exact PK.FD.BdN.bd bd_f__law_called
  · exact PK.FD.BdN.bd bd_f__law_raise_named
  · exact PK.FD.BdN.bd bd_f__law_raise
theorem all_ck : ∀ F ∈ pr.fds, F.chk pr = true := by
  intro F hF
  simp only [pr, List.mem_cons, List.mem_nil_iff, or_false] at hF
  rcases hF with rfl | rfl | rfl | rfl | rfl | rfl | rfl | rfl
  · exact ck_f_law
  · exact ck_f__law_tape_b
  · exact ck_f__law_pick
  · exact ck_f__law_first
  · exact ck_f__law_kinds
  · exact ck_f__law_called
  · exact ck_f__law_raise_named
  · exact ck_f__law_raise
theorem all_kw : pr.Kw := fun z hz => by cases hz
theorem all_ini : pr.Ini := by
  intro x hx
  simp only [pr, List.mem_cons, List.mem_nil_iff, or_false] at hx
  rcases hx with rfl | rfl | rfl | rfl | rfl | rfl | rfl | rfl | rfl | rfl | rfl | rfl | rfl
  · exact fun _ => bi_BadLine
  · exact fun _ => bi_UnknownName
  · exact fun _ => bi_TooDeep
  · exact fun _ => bi_TooHigh
  · exact fun _ => bi_RingFound
  · exact fun _ => bi_NotExact
  · exact fun hk => absurd rfl hk
  · exact fun _ => bi_BadKind
  · exact fun hk => absurd rfl hk
  · exact fun _ => bi_SetBarred
  · exact fun _ => bi_TooMany
  · exact fun _ => bi_NotKept
  · exact fun _ => bi_BadStretch
theorem all_ink : pr.Ink := by
  intro z hz x hx hk ks hks
  simp only [pr, List.mem_cons, List.mem_nil_iff, or_false] at hz
  rcases hz with rfl | rfl | rfl | rfl | rfl | rfl | rfl | rfl | rfl | rfl | rfl | rfl | rfl | rfl
  · obtain rfl : x_BadLine = x := Option.some.inj hx
    cases hks; exact ik_0
  · obtain rfl : x_UnknownName = x := Option.some.inj hx
    cases hks; exact ik_1
  · obtain rfl : x_TooDeep = x := Option.some.inj hx
    cases hks; exact ik_2
  · obtain rfl : x_TooHigh = x := Option.some.inj hx
    cases hks; exact ik_3
  · obtain rfl : x_RingFound = x := Option.some.inj hx
    cases hks; exact ik_4
  · obtain rfl : x_NotExact = x := Option.some.inj hx
    cases hks; exact ik_5
  · obtain rfl : x_BadKind = x := Option.some.inj hx
    cases hks; exact ik_6
  · obtain rfl : x_SetBarred = x := Option.some.inj hx
    cases hks; exact ik_7
  · obtain rfl : x_TooMany = x := Option.some.inj hx
    cases hks; exact ik_8
  · obtain rfl : x_NotKept = x := Option.some.inj hx
    cases hks; exact ik_9
  · obtain rfl : x_BadStretch = x := Option.some.inj hx
    cases hks; exact ik_10
  · cases hks
  · obtain rfl : x_EmptyRow = x := Option.some.inj hx
    exact absurd rfl hk
  · obtain rfl : x_NoEnd = x := Option.some.inj hx
    exact absurd rfl hk
end K15
open PySem PySem.W PySem.Calls PyProof.Rows
theorem PySem.Challenge.cw_keptnumbers_k15_errors_and_their_attribu_holds : PySem.Challenge.rw_keptnumbers_k15_errors_and_their_attribu.Holds := by
  w_on; o_law
  refine HandSHeadRun.head_any (r := K15.R) (q := view K15.R.prog [23]) (H := K15.hk) (ob := K15.ob) (M := 12000) (loose := K15.loose) (d := HandSHeadRun.topDef K15.R.prog 23) (kwd := []) K15.ob_eq
    (by kernel_rfl) (fun s => by kernel_rfl) K15.run (by kernel_rfl) (by kernel_rfl) (by kernel_rfl) (by rfl) (by first | assumption | decide +kernel) (by decide +kernel) ⟨rfl, rfl, rfl, rfl, rfl, by decide +kernel⟩ ?hw ?hc
  case hw => w_witness2
  case hc => exact PK.walk_law (L := K15.f_law) (n := 12) (x := "_law_script") rfl (by decide) ⟨rfl, by decide, by decide⟩ (by kernel_rfl) rfl rfl rfl K15.bd_f_law rfl K15.all_bd rfl K15.all_ck K15.all_kw K15.cls_ok K15.all_ini K15.all_ink K15.sem
