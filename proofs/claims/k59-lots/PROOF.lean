import PyProof.Rows.All
import Wide.All
import OpenK.AllK
import Wide.FinOn
import HandS.ForMost
import HandS.ForExc
import HandS.Evl
import HandS.Flow
import HandS.CallSlots
import HandS.HeadHook1
import KE.DataEq
import HandS.TupAny
import HandS.SortInts
import HandS.TupLe
import HandS.IsInst
import HandS.More
import HandS.Defaults
import HandS.ExcInit
import PyProof.EnumMake
import HandS.Zip0
import KE.KExcIs
import HandS.ExcField
import HandS.ExcIs
import KE.KStateDown
import Lean
import HandS.Head0
import HandS.Head1
import HandS.Head2
import HandS.HeadEnd
import HandS.HeadHook2
import PySem.Challenge.RW_porterlodge_k59_lots
set_option Elab.async false
set_option linter.all false
set_option maxRecDepth 100000
set_option maxHeartbeats 0
/-! Cl1: values without addresses, a store by handles, and what relates them to the abstract heap. -/
namespace Cl
abbrev St := L2.St
open PySem PySem.Spec PyProof.Rows L2

/-- values: tuples are structural; hnd n is the n-th object of the store; rol a list that is only read; glo x what the global x holds (a def, a class); exn a caught exception with its attributes -/
inductive CV where
  | non | bl (b : Bool) | int (i : Int) | str (x : Str) | tup (l : List CV) | rol (l : List CV) | glo (x : Str) | ty (n : String) | hnd (n : Nat) | exn (a : Addr) (d : Option Addr) (cls : Nat) (fs : List (Str × CV))
/-- objects of the store -/
inductive CO where
  | lst (xs : List CV) | ins (c : Nat) (fs : List (Str × CV)) | dK (kvs : List (Key × CV)) | dT (kvs : List (List Key × CV))
/-- an exception in the air: its class, its own attributes -/
structure Exn where
  cls : Nat
  fs : List (Str × CV)
abbrev Mu := List CO
/-- the classes of the package, by number -/
def clsNames : List Str := (["LodgeError", "BadText", "BadName", "BadLine", "BadLetter", "BadFit", "TooMany", "Refused", "NothingBack",
  "Scene", "Porter", "Lodge", "Doing", "Machine", "Walker", "Watcher", "Step", "Arena", "ArenaSearch", "Distances", "Planner", "WinSearch", "Rounds", "Made", "Maker", "Prompter", "Found", "TreeSearch", "PartialLodge"] : List Str) ++ (["Reading", "Joint", "ClassSearch", "RankSearch", "Paper", "Run", "Verdict", "TableMachine", "Reader", "PorterReader", "Half", "Pairs", "Layers", "Outlook", "Monitor", "Shelf", "Trial", "Desk"] : List Str)
/-- where the class number n stands -/
def kA (K : PySem.W.Frag) (n : Nat) : Addr := He.ga K (clsNames.getD n Str.empty)
abbrev Ga := List (Option CV)

def Fixed : HO → Prop
  | .tup _ => True
  | .frz _ _ => True
  | .xd _ => True
  | _ => False
/-- what never changes stays -/
def TExt (H H' : Hp) : Prop := ∀ a u, H a = some u → Fixed u → H' a = some u
theorem TExt.refl (H : Hp) : TExt H H := fun _ _ h _ => h
theorem TExt.trans {H H1 H2 : Hp} (a : TExt H H1) (b : TExt H1 H2) : TExt H H2 := fun c u h f => b c u (a c u h f) f
theorem TExt.new {H : Hp} {p : Addr} {o : HO} (h : H p = none) : TExt H (upd H p o) := fun a u e _ => by
  rw [upd_ne (ne_of_none e h)]
  exact e
theorem TExt.at {H : Hp} {p : Addr} {o o' : HO} (h : H p = some o) (nf : ¬ Fixed o) : TExt H (upd H p o') := fun a u e f => by
  by_cases q : a = p
  · subst q
    rw [h] at e
    cases e
    exact absurd f nf
  · rw [upd_ne q]
    exact e
/-- a list that is only read -/
def RoL (K : PySem.W.Frag) (H : Hp) (a : Addr) (xs : List V) : Prop :=
  (∃ o, H a = some (.frz o (.lst xs))) ∨
    ∃ (o : Obj) (its : Array Value) (n : Nat), K.lookup a = some o ∧ o.cls = .type "list" ∧ o.dict = none ∧ o.data = .seq its n ∧ its.size ≤ sizeLine ∧ Vals xs its.toList
theorem RoL.sq {K : PySem.W.Frag} {H : Hp} {a : Addr} {xs : List V} (h : RoL K H a xs) : SqL K H a xs := by
  rcases h with ⟨o, h⟩ | h
  · exact .inl (.inr ⟨o, h⟩)
  · exact .inr h
theorem RoL.ext {K : PySem.W.Frag} {H H' : Hp} {a : Addr} {xs : List V} (e : TExt H H') (h : RoL K H a xs) : RoL K H' a xs := by
  rcases h with ⟨o, h⟩ | h
  · exact .inl ⟨o, e _ _ h trivial⟩
  · exact .inr h
theorem sqT_ext {K : PySem.W.Frag} {H H' : Hp} {a : Addr} {xs : List V} (e : TExt H H') (h : SqT K H a xs) : SqT K H' a xs := by
  rcases h with (h | ⟨o, h⟩) | h
  · exact .inl (.inl (e _ _ h trivial))
  · exact .inl (.inr ⟨o, e _ _ h trivial⟩)
  · exact .inr h

mutual
/-- v is x, over the heap H and the handles' addresses ρ -/
inductive Den (K : PySem.W.Frag) (ρ : List Addr) (H : Hp) : V → CV → Prop
  | non : Den K ρ H .non .non
  | bl (b : Bool) : Den K ρ H (.bl b) (.bl b)
  | int (i : Int) : Den K ρ H (.int i) (.int i)
  | str (x : Str) : Den K ρ H (.str x) (.str x)
  | tup {a : Addr} {xs : List V} {l : List CV} (h : SqT K H a xs) (r : DenL K ρ H xs l) : Den K ρ H (.ref a) (.tup l)
  | rol {a : Addr} {xs : List V} {l : List CV} (h : RoL K H a xs) (r : DenL K ρ H xs l) : Den K ρ H (.ref a) (.rol l)
  | glo (x : Str) : Den K ρ H (.ref (He.ga K x)) (.glo x)
  | ty (n : String) : Den K ρ H (.ty n) (.ty n)
  | hnd {a : Addr} {n : Nat} (h : ρ[n]? = some a) : Den K ρ H (.ref a) (.hnd n)
  | exn0 (a : Addr) (d : Option Addr) (cls : Nat) : Den K ρ H (.ref a) (.exn a d cls [])
  | exn {a dd : Addr} {cls : Nat} {ws : List (Str × V)} {fs : List (Str × CV)} (h : H dd = some (.xd ws)) (k : ws.map (·.1) = fs.map (·.1)) (r : DenL K ρ H (ws.map (·.2)) (fs.map (·.2))) : Den K ρ H (.ref a) (.exn a (some dd) cls fs)
inductive DenL (K : PySem.W.Frag) (ρ : List Addr) (H : Hp) : List V → List CV → Prop
  | nil : DenL K ρ H [] []
  | cons {v : V} {x : CV} {vs : List V} {xs : List CV} (h : Den K ρ H v x) (r : DenL K ρ H vs xs) : DenL K ρ H (v :: vs) (x :: xs)
end

section
variable {K : PySem.W.Frag} {ρ ρ' : List Addr} {H H' : Hp}
mutual
theorem Den.ext (e : TExt H H') (p : ∀ (n : Nat) a, ρ[n]? = some a → ρ'[n]? = some a) : ∀ {v : V} {x : CV}, Den K ρ H v x → Den K ρ' H' v x
  | _, _, .non => .non
  | _, _, .bl b => .bl b
  | _, _, .int i => .int i
  | _, _, .str x => .str x
  | _, _, .tup h r => .tup (sqT_ext e h) (DenL.ext e p r)
  | _, _, .rol h r => .rol (h.ext e) (DenL.ext e p r)
  | _, _, .glo a => .glo a
  | _, _, .ty n => .ty n
  | _, _, .hnd h => .hnd (p _ _ h)
  | _, _, .exn0 a d c => .exn0 a d c
  | _, _, .exn h k r => .exn (e _ _ h trivial) k (DenL.ext e p r)
theorem DenL.ext (e : TExt H H') (p : ∀ (n : Nat) a, ρ[n]? = some a → ρ'[n]? = some a) : ∀ {vs : List V} {xs : List CV}, DenL K ρ H vs xs → DenL K ρ' H' vs xs
  | _, _, .nil => .nil
  | _, _, .cons h r => .cons (Den.ext e p h) (DenL.ext e p r)
end
theorem DenL.length : ∀ {vs : List V} {xs : List CV}, DenL K ρ H vs xs → vs.length = xs.length
  | _, _, .nil => rfl
  | _, _, .cons _ r => by simp [DenL.length r]
theorem DenL.get : ∀ {vs : List V} {xs : List CV} {i : Nat} {x : CV}, DenL K ρ H vs xs → xs[i]? = some x → ∃ v, vs[i]? = some v ∧ Den K ρ H v x
  | _, _, _, _, .nil, e => by simp at e
  | _, _, 0, _, .cons h _, e => by simp at e; subst e; exact ⟨_, rfl, h⟩
  | _, _, i + 1, x, .cons _ r, e => by
    obtain ⟨v, h1, h2⟩ := DenL.get (i := i) (x := x) r (by simpa using e)
    exact ⟨v, by simpa using h1, h2⟩
theorem DenL.append : ∀ {vs ws : List V} {xs ys : List CV}, DenL K ρ H vs xs → DenL K ρ H ws ys → DenL K ρ H (vs ++ ws) (xs ++ ys)
  | _, _, _, _, .nil, s => s
  | _, _, _, _, .cons h r, s => .cons h (DenL.append r s)
theorem DenL.take : ∀ {vs : List V} {xs : List CV} (n : Nat), DenL K ρ H vs xs → DenL K ρ H (vs.take n) (xs.take n)
  | _, _, 0, _ => by simp; exact .nil
  | _, _, _ + 1, .nil => .nil
  | _, _, n + 1, .cons h r => .cons h (DenL.take n r)
theorem DenL.drop : ∀ {vs : List V} {xs : List CV} (n : Nat), DenL K ρ H vs xs → DenL K ρ H (vs.drop n) (xs.drop n)
  | _, _, 0, r => r
  | _, _, _ + 1, .nil => .nil
  | _, _, n + 1, .cons _ r => DenL.drop n r
theorem DenL.set {v : V} {x : CV} (h : Den K ρ H v x) : ∀ {vs : List V} {xs : List CV} (i : Nat), DenL K ρ H vs xs → DenL K ρ H (vs.set i v) (xs.set i x)
  | _, _, _, .nil => .nil
  | _, _, 0, .cons _ r => .cons h r
  | _, _, i + 1, .cons q r => .cons q (DenL.set h i r)
theorem DenL.eraseIdx : ∀ {vs : List V} {xs : List CV} (i : Nat), DenL K ρ H vs xs → DenL K ρ H (vs.eraseIdx i) (xs.eraseIdx i)
  | _, _, _, .nil => .nil
  | _, _, 0, .cons _ r => r
  | _, _, i + 1, .cons q r => .cons q (DenL.eraseIdx i r)
theorem DenL.dropLast {vs : List V} {xs : List CV} (h : DenL K ρ H vs xs) : DenL K ρ H vs.dropLast xs.dropLast := by
  rw [List.dropLast_eq_take, List.dropLast_eq_take, h.length]
  exact h.take _

/-- an object of the store stands at a -/
def ORel (K : PySem.W.Frag) (ρ : List Addr) (H : Hp) (a : Addr) : CO → Prop
  | .lst xs => ∃ vs, H a = some (.lst vs) ∧ DenL K ρ H vs xs
  | .ins c fs => ∃ dx ws, H a = some (.ins (kA K c) dx ws) ∧ ws.map (·.1) = fs.map (·.1) ∧ DenL K ρ H (ws.map (·.2)) (fs.map (·.2))
  | .dK kvs => ∃ ws, H a = some (.dK ws) ∧ ws.map (·.1) = kvs.map (·.1) ∧ DenL K ρ H (ws.map (·.2)) (kvs.map (·.2))
  | .dT kvs => ∃ ws, H a = some (.dT ws) ∧ ws.map (·.1) = kvs.map (·.1) ∧ DenL K ρ H (ws.map (·.2)) (kvs.map (·.2))
/-- the store stands in the heap -/
structure RS (K : PySem.W.Frag) (ρ : List Addr) (H : Hp) (μ : Mu) : Prop where
  len : ρ.length = μ.length
  nd : ρ.Nodup
  ob : ∀ (n : Nat) a o, ρ[n]? = some a → μ[n]? = some o → ORel K ρ H a o
/-- the slots -/
structure SR (K : PySem.W.Frag) (ρ : List Addr) (H : Hp) (σ : St) (Γ : Ga) : Prop where
  len : σ.length = Γ.length
  at_ : ∀ (i : Nat) x, Γ[i]? = some (some x) → ∃ v, σ[i]? = some (some v) ∧ Den K ρ H v x
/-- the later state knows all of the earlier -/
structure Ext (ρ : List Addr) (H : Hp) (ρ' : List Addr) (H' : Hp) : Prop where
  r : ∀ (n : Nat) a, ρ[n]? = some a → ρ'[n]? = some a
  t : TExt H H'
theorem Ext.refl : Ext ρ H ρ H := ⟨fun _ _ h => h, TExt.refl H⟩
theorem Ext.trans {ρ2 : List Addr} {H2 : Hp} (a : Ext ρ H ρ' H') (b : Ext ρ' H' ρ2 H2) : Ext ρ H ρ2 H2 := ⟨fun n c h => b.r n c (a.r n c h), a.t.trans b.t⟩
theorem Ext.den {v : V} {x : CV} (e : Ext ρ H ρ' H') (h : Den K ρ H v x) : Den K ρ' H' v x := h.ext e.t e.r
theorem Ext.denL {v : List V} {x : List CV} (e : Ext ρ H ρ' H') (h : DenL K ρ H v x) : DenL K ρ' H' v x := h.ext e.t e.r
theorem Ext.sr {σ : St} {Γ : Ga} (e : Ext ρ H ρ' H') (h : SR K ρ H σ Γ) : SR K ρ' H' σ Γ := ⟨h.len, fun i x q => by
  obtain ⟨v, h1, h2⟩ := h.at_ i x q
  exact ⟨v, h1, e.den h2⟩⟩
theorem ORel.some {a : Addr} {o : CO} (h : ORel K ρ H a o) : ∃ u, H a = some u ∧ ¬ Fixed u := by
  cases o with
  | lst xs => obtain ⟨vs, h, _⟩ := h; exact ⟨_, h, fun z => z⟩
  | ins C fs => obtain ⟨dx, ws, h, _⟩ := h; exact ⟨_, h, fun z => z⟩
  | dK kvs => obtain ⟨ws, h, _⟩ := h; exact ⟨_, h, fun z => z⟩
  | dT kvs => obtain ⟨ws, h, _⟩ := h; exact ⟨_, h, fun z => z⟩
theorem ORel.ext {a : Addr} {o : CO} (e : Ext ρ H ρ' H') (q : H' a = H a) (h : ORel K ρ H a o) : ORel K ρ' H' a o := by
  cases o with
  | lst xs => obtain ⟨vs, h, d⟩ := h; exact ⟨vs, q.trans h, e.denL d⟩
  | ins C fs => obtain ⟨dx, ws, h, k, d⟩ := h; exact ⟨dx, ws, q.trans h, k, e.denL d⟩
  | dK kvs => obtain ⟨ws, h, k, d⟩ := h; exact ⟨ws, q.trans h, k, e.denL d⟩
  | dT kvs => obtain ⟨ws, h, k, d⟩ := h; exact ⟨ws, q.trans h, k, e.denL d⟩
theorem RS.has {μ : Mu} (R : RS K ρ H μ) {n : Nat} {a : Addr} (h : ρ[n]? = some a) : ∃ o, μ[n]? = some o ∧ ORel K ρ H a o := by
  have l : n < ρ.length := (List.getElem?_eq_some_iff.mp h).1
  have l2 : n < μ.length := by rw [← R.len]; exact l
  exact ⟨μ[n], List.getElem?_eq_getElem l2, R.ob n a _ h (List.getElem?_eq_getElem l2)⟩
theorem RS.adr {μ : Mu} (R : RS K ρ H μ) {n : Nat} {o : CO} (h : μ[n]? = some o) : ∃ a, ρ[n]? = some a ∧ ORel K ρ H a o := by
  have l : n < μ.length := (List.getElem?_eq_some_iff.mp h).1
  have l2 : n < ρ.length := by rw [R.len]; exact l
  exact ⟨ρ[n], List.getElem?_eq_getElem l2, R.ob n _ o (List.getElem?_eq_getElem l2) h⟩
theorem RS.fresh {μ : Mu} (R : RS K ρ H μ) {p : Addr} (h : H p = none) : p ∉ ρ := fun hm => by
  obtain ⟨n, l, e⟩ := List.getElem_of_mem hm
  obtain ⟨o, _, r⟩ := R.has (n := n) (a := p) (by rw [List.getElem?_eq_getElem l, e])
  obtain ⟨u, hu, _⟩ := r.some
  rw [h] at hu
  cases hu
theorem Ext.new {p : Addr} {o : HO} (h : H p = none) : Ext ρ H ρ (upd H p o) := ⟨fun _ _ q => q, TExt.new h⟩
theorem Ext.push {p : Addr} {o : HO} (h : H p = none) : Ext ρ H (ρ ++ [p]) (upd H p o) := ⟨fun n a q => by
  have l : n < ρ.length := (List.getElem?_eq_some_iff.mp q).1
  rw [List.getElem?_append_left l]
  exact q, TExt.new h⟩
/-- something new that the store does not name -/
theorem RS.new {μ : Mu} (R : RS K ρ H μ) {p : Addr} {o : HO} (h : H p = none) : RS K ρ (upd H p o) μ := ⟨R.len, R.nd, fun n a c h1 h2 => by
  have r := R.ob n a c h1 h2
  refine r.ext (Ext.new h) (upd_ne ?_)
  obtain ⟨u, hu, _⟩ := r.some
  exact ne_of_none hu h⟩
/-- a new object of the store -/
theorem RS.push {μ : Mu} (R : RS K ρ H μ) {p : Addr} {o : HO} {c : CO} (h : H p = none) (r : ORel K (ρ ++ [p]) (upd H p o) p c) : RS K (ρ ++ [p]) (upd H p o) (μ ++ [c]) := by
  refine ⟨by simp [R.len], ?_, fun n a d h1 h2 => ?_⟩
  · rw [List.nodup_append]
    refine ⟨R.nd, by simp, fun a ha b hb => ?_⟩
    have e : b = p := by simpa using hb
    subst e
    intro z
    subst z
    exact R.fresh h ha
  · by_cases hn : n < ρ.length
    · rw [List.getElem?_append_left hn] at h1
      rw [List.getElem?_append_left (by rw [← R.len]; exact hn)] at h2
      have r' := R.ob n a d h1 h2
      refine r'.ext (Ext.push h) (upd_ne ?_)
      obtain ⟨u, hu, _⟩ := r'.some
      exact ne_of_none hu h
    · have hn' : ρ.length ≤ n := Nat.le_of_not_lt hn
      rw [List.getElem?_append_right hn'] at h1
      rw [List.getElem?_append_right (by rw [← R.len]; exact hn'), ← R.len] at h2
      have e0 : n - ρ.length = 0 := by
        have := (List.getElem?_eq_some_iff.mp h1).1
        simpa using this
      rw [e0] at h1 h2
      have e1 : p = a := by simpa using h1
      have e2 : c = d := by simpa using h2
      subst e1 e2
      exact r
/-- an object of the store changes -/
theorem RS.set {μ : Mu} (R : RS K ρ H μ) {n : Nat} {p : Addr} {o : HO} {c : CO} (h : ρ[n]? = some p) (r : ORel K ρ (upd H p o) p c) : RS K ρ (upd H p o) (μ.set n c) ∧ Ext ρ H ρ (upd H p o) := by
  obtain ⟨c0, h0, r0⟩ := R.has h
  obtain ⟨u, hu, nf⟩ := r0.some
  have E : Ext ρ H ρ (upd H p o) := ⟨fun _ _ q => q, TExt.at hu nf⟩
  refine ⟨⟨by simp [R.len], R.nd, fun m a d h1 h2 => ?_⟩, E⟩
  by_cases e : m = n
  · subst e
    rw [h] at h1
    cases h1
    have l : m < μ.length := by rw [← R.len]; exact (List.getElem?_eq_some_iff.mp h).1
    rw [List.getElem?_set_self l] at h2
    cases h2
    exact r
  · rw [List.getElem?_set_ne (Ne.symm e)] at h2
    refine (R.ob m a d h1 h2).ext E (upd_ne ?_)
    intro z
    subst z
    exact e (nd_ix R.nd h1 h)
end

/-! ### the clean transformers -/
abbrev PV := CV → Mu → Prop
abbrev PX := Exn → Mu → Prop
/-- an expression: slots, store, what is wanted of the value, of an exception -/
abbrev CE := Ga → Mu → PV → PX → Prop
abbrev CA := Ga → Mu → (List CV → Mu → Prop) → PX → Prop
abbrev CT := Ga → Mu → (Bool → Mu → Prop) → PX → Prop
structure CEnds where
  nx : Ga → Mu → Prop
  rt : PV
  bk : Ga → Mu → Prop := fun _ _ => False
  ct : Ga → Mu → Prop := fun _ _ => False
  ex : Exn → Ga → Mu → Prop := fun _ _ _ => False
abbrev CS := Ga → Mu → CEnds → Prop

/-- the exception's dict holds its attributes -/
def XRel (K : PySem.W.Frag) (ρ : List Addr) (H : Hp) (cls : Value) (d : Option Addr) (e : Exn) : Prop :=
  cls = .ref (kA K e.cls) ∧ (e.fs = [] ∨ ∃ dd ws, d = some dd ∧ H dd = some (.xd ws) ∧ ws.map (·.1) = e.fs.map (·.1) ∧ DenL K ρ H (ws.map (·.2)) (e.fs.map (·.2)))

section
variable (K : PySem.W.Frag) (W : WX)
/-- what is wanted of exceptions, met by W -/
def LX (ρ : List Addr) (H : Hp) (σ : St) (P : PX) : Prop := ∀ e μ' ρ' H' cls d, P e μ' → Ext ρ H ρ' H' → RS K ρ' H' μ' → XRel K ρ' H' cls d e → W cls d σ H'
def lE (c : CE) : TE := fun σ H Q => ∃ ρ Γ μ, ∃ (P : PV) (E : PX), RS K ρ H μ ∧ SR K ρ H σ Γ ∧ c Γ μ P E ∧
  (∀ x μ' ρ' v H', P x μ' → Ext ρ H ρ' H' → RS K ρ' H' μ' → Den K ρ' H' v x → Q v H') ∧ LX K W ρ H σ E
def lA (c : CA) : TA := fun σ H Q => ∃ ρ Γ μ, ∃ (P : List CV → Mu → Prop) (E : PX), RS K ρ H μ ∧ SR K ρ H σ Γ ∧ c Γ μ P E ∧
  (∀ x μ' ρ' v H', P x μ' → Ext ρ H ρ' H' → RS K ρ' H' μ' → DenL K ρ' H' v x → Q v H') ∧ LX K W ρ H σ E
def lT (c : CT) : TT := fun σ H Q => ∃ ρ Γ μ, ∃ (P : Bool → Mu → Prop) (E : PX), RS K ρ H μ ∧ SR K ρ H σ Γ ∧ c Γ μ P E ∧
  (∀ b μ' ρ' H', P b μ' → Ext ρ H ρ' H' → RS K ρ' H' μ' → Q b H') ∧ LX K W ρ H σ E
/-- where a statement ends -/
structure LD (ρ : List Addr) (H : Hp) (D : Ends) (C : CEnds) : Prop where
  nx : ∀ Γ' μ' ρ' σ' H', C.nx Γ' μ' → Ext ρ H ρ' H' → RS K ρ' H' μ' → SR K ρ' H' σ' Γ' → D.nx σ' H'
  rt : ∀ x μ' ρ' v H', C.rt x μ' → Ext ρ H ρ' H' → RS K ρ' H' μ' → Den K ρ' H' v x → D.rt v H'
  bk : ∀ Γ' μ' ρ' σ' H', C.bk Γ' μ' → Ext ρ H ρ' H' → RS K ρ' H' μ' → SR K ρ' H' σ' Γ' → D.bk σ' H'
  ct : ∀ Γ' μ' ρ' σ' H', C.ct Γ' μ' → Ext ρ H ρ' H' → RS K ρ' H' μ' → SR K ρ' H' σ' Γ' → D.ct σ' H'
  ex : ∀ e Γ' μ' ρ' σ' H' cls d, C.ex e Γ' μ' → Ext ρ H ρ' H' → RS K ρ' H' μ' → SR K ρ' H' σ' Γ' → XRel K ρ' H' cls d e → W cls d σ' H'
def lS (c : CS) : TS := fun D σ H => ∃ ρ Γ μ C, RS K ρ H μ ∧ SR K ρ H σ Γ ∧ c Γ μ C ∧ LD K W ρ H D C
end
section
variable {K : PySem.W.Frag} {W : WX} {ρ ρ' : List Addr} {H H' : Hp} {σ : St} {Γ : Ga} {μ : Mu}
theorem LX.ext {P : PX} (e : Ext ρ H ρ' H') (h : LX K W ρ H σ P) : LX K W ρ' H' σ P := fun x μ' ρ2 H2 cls d p e2 r q => h x μ' ρ2 H2 cls d p (e.trans e2) r q
theorem LD.ext {D : Ends} {C : CEnds} (e : Ext ρ H ρ' H') (h : LD K W ρ H D C) : LD K W ρ' H' D C :=
  ⟨fun a b c d f p e2 r q => h.nx a b c d f p (e.trans e2) r q, fun a b c d f p e2 r q => h.rt a b c d f p (e.trans e2) r q, fun a b c d f p e2 r q => h.bk a b c d f p (e.trans e2) r q,
    fun a b c d f p e2 r q => h.ct a b c d f p (e.trans e2) r q, fun a b c d f g i j p e2 r q s => h.ex a b c d f g i j p (e.trans e2) r q s⟩
theorem LD.lx {D : Ends} {C : CEnds} (h : LD K W ρ H D C) (S : SR K ρ H σ Γ) : LX K W ρ H σ (fun e μ' => C.ex e Γ μ') := fun e μ' ρ2 H2 cls d p e2 r q => h.ex e Γ μ' ρ2 σ H2 cls d p e2 r (e2.sr S) q
end
end Cl
/-! Cl2: the clean transformers of expressions, and that they are met. -/
namespace Cl
open PySem PySem.Spec PyProof.Rows L2
section
variable {X : Cx} {e a b : Expr} {W : WX}
theorem PE.imp {t t' : TE} (h : PE X e t) (i : ∀ σ H Q, t' σ H Q → t σ H Q) : PE X e t' := ⟨fun pins s σ H Q I w => h.run pins s σ H Q I (i σ H Q w)⟩
theorem PT.imp {t t' : TT} (h : PT X e t) (i : ∀ σ H Q, t' σ H Q → t σ H Q) : PT X e t' := ⟨fun pins s σ H Q I w => h.run pins s σ H Q I (i σ H Q w)⟩
theorem PW.imp {t t' : TT} (h : PW X e t) (i : ∀ σ H Q, t' σ H Q → t σ H Q) : PW X e t' := ⟨fun wh pins s σ H Q I w => h.run wh pins s σ H Q I (i σ H Q w)⟩
theorem PA.imp {es : List Expr} {t t' : TA} (h : PA X es t) (i : ∀ σ H Q, t' σ H Q → t σ H Q) : PA X es t' := ⟨fun pos pins s σ H Q I w => h.run pos pins s σ H Q I (i σ H Q w)⟩
theorem PS.imp {st : Stmt} {t t' : TS} (h : PS X st t) (i : ∀ D σ H, t' D σ H → t D σ H) : PS X st t' := ⟨fun pins s σ H D I w => h.run pins s σ H D I (i D σ H w)⟩
theorem PSs.imp {st : List Stmt} {t t' : TS} (h : PSs X st t) (i : ∀ D σ H, t' D σ H → t D σ H) : PSs X st t' := ⟨fun pins s σ H D I w => h.run pins s σ H D I (i D σ H w)⟩

/-! ### names, constants -/
def cVar (i : Nat) : CE := fun Γ μ P _ => match Γ[i]? with
  | some (some x) => P x μ
  | _ => False
def cCon (x : CV) : CE := fun _ μ P _ => P x μ
theorem ce_var {i : Nat} (h : PE X e (tVar i)) : PE X e (lE X.K W (cVar i)) := PE.imp h fun σ H Q ⟨ρ, Γ, μ, P, E, R, S, c, k, _⟩ => by
  unfold cVar at c
  split at c
  · rename_i x hx
    obtain ⟨v, hv, d⟩ := S.at_ i x hx
    exact ⟨v, hv, k x μ ρ v H c Ext.refl R d⟩
  · exact c.elim
/-- a value that is the same everywhere -/
theorem ce_con {v : V} {x : CV} (h : PE X e (tC v)) (d : ∀ ρ H, Den X.K ρ H v x) : PE X e (lE X.K W (cCon x)) := PE.imp h fun σ H Q ⟨ρ, Γ, μ, P, E, R, S, c, k, _⟩ => k x μ ρ v H c Ext.refl R (d ρ H)
theorem ce_int {i j pos} : PE X (.Constant (.int i) j pos) (lE X.K W (cCon (.int i))) := ce_con pe_int fun _ _ => .int i
theorem ce_bl {b j pos} : PE X (.Constant (.bool b) j pos) (lE X.K W (cCon (.bl b))) := ce_con pe_bl fun _ _ => .bl b
theorem ce_non {j pos} : PE X (.Constant .none j pos) (lE X.K W (cCon .non)) := ce_con pe_non fun _ _ => .non
theorem ce_str {x j pos} : PE X (.Constant (.str x) j pos) (lE X.K W (cCon (.str x))) := ce_con pe_str fun _ _ => .str x
/-- a global: by the value that it holds -/
theorem ce_glob {x : Str} {v : V} {c : CV} {u : Value} {pos : Pos} (hm : X.mg x = some u) (r : RelV v u) (d : ∀ ρ H, Den X.K ρ H v c) (hg : Gl X x := by rfl) (hd : (x == ("__debug__" : Str)) = false := by decide) : PE X (.Name x pos) (lE X.K W (cCon c)) :=
  ce_con (pe_glob hg hm r hd) d

/-! ### arguments, displays -/
def cNil : CA := fun _ μ P _ => P [] μ
def cCons (c : CE) (r : CA) : CA := fun Γ μ P E => c Γ μ (fun x μ1 => r Γ μ1 (fun xs μ2 => P (x :: xs) μ2) E) E
theorem ca_nil : PA X [] (lA X.K W cNil) := PA.imp pa_nil fun σ H Q ⟨ρ, Γ, μ, P, E, R, S, c, k, _⟩ => k [] μ ρ [] H c Ext.refl R .nil
theorem ca_cons {es : List Expr} {c : CE} {r : CA} (h1 : PE X e (lE X.K W c)) (h2 : PA X es (lA X.K W r)) (hs : starEach (e :: es) X.env = (false, eval e X.env) :: starEach es X.env := by rfl) : PA X (e :: es) (lA X.K W (cCons c r)) :=
  PA.imp (pa_cons h1 h2 hs) fun σ H Q ⟨ρ, Γ, μ, P, E, R, S, c, k, x⟩ =>
    ⟨ρ, Γ, μ, _, E, R, S, c, fun y μ1 ρ1 v H1 p1 e1 R1 d1 => ⟨ρ1, Γ, μ1, _, E, R1, e1.sr S, p1, fun ys μ2 ρ2 vs H2 p2 e2 R2 d2 => k _ _ _ _ _ p2 (e1.trans e2) R2 (.cons (e2.den d1) d2), x.ext e1⟩, x⟩
/-- (a, b, ..) -/
def cTup (r : CA) : CE := fun Γ μ P E => r Γ μ (fun xs μ1 => xs.length ≤ sizeLine ∧ P (.tup xs) μ1) E
theorem ce_tup {es : List Expr} {r : CA} {x1 pos} (h : PA X es (lA X.K W r)) : PE X (.Tuple es x1 pos) (lE X.K W (cTup r)) := PE.imp (pe_tup h) fun σ H Q ⟨ρ, Γ, μ, P, E, R, S, c, k, x⟩ =>
  ⟨ρ, Γ, μ, _, E, R, S, c, fun xs μ1 ρ1 vs H1 ⟨hl, p1⟩ e1 R1 d1 => ⟨by rw [d1.length]; exact hl, fun p hp => k _ _ ρ1 _ _ p1 (e1.trans (Ext.new hp)) (R1.new hp) (.tup (SqT.of upd_same) ((Ext.new hp).denL d1))⟩, x⟩
/-- [a, b, ..] -/
def cLst (r : CA) : CE := fun Γ μ P E => r Γ μ (fun xs μ1 => xs.length ≤ sizeLine ∧ P (.hnd μ1.length) (μ1 ++ [.lst xs])) E
theorem push_lst {K : PySem.W.Frag} {ρ : List Addr} {H : Hp} {μ : Mu} {p : Addr} {vs : List V} {xs : List CV} (R : RS K ρ H μ) (hp : H p = none) (d : DenL K ρ H vs xs) :
    RS K (ρ ++ [p]) (upd H p (.lst vs)) (μ ++ [.lst xs]) ∧ Den K (ρ ++ [p]) (upd H p (.lst vs)) (.ref p) (.hnd μ.length) :=
  ⟨R.push hp ⟨vs, upd_same, (Ext.push hp).denL d⟩, .hnd (by rw [← R.len]; simp)⟩
theorem ce_lst {es : List Expr} {r : CA} {pos} (h : PA X es (lA X.K W r)) : PE X (.List es pos) (lE X.K W (cLst r)) := PE.imp (pe_lst h) fun σ H Q ⟨ρ, Γ, μ, P, E, R, S, c, k, x⟩ =>
  ⟨ρ, Γ, μ, _, E, R, S, c, fun xs μ1 ρ1 vs H1 ⟨hl, p1⟩ e1 R1 d1 => ⟨by rw [d1.length]; exact hl, fun p hp => by
    obtain ⟨R2, d2⟩ := push_lst R1 hp d1
    exact k _ _ _ _ _ p1 (e1.trans (Ext.push hp)) R2 d2⟩, x⟩

/-! ### operators by values -/
abbrev COp := CV → CV → Mu → PV → Prop
def OpS (K : PySem.W.Frag) (r : R2) (f : COp) : Prop := ∀ (ρ : List Addr) (H : Hp) (μ : Mu) (x y : CV) (v w : V) (P : PV) (Q : VK), RS K ρ H μ → Den K ρ H v x → Den K ρ H w y → f x y μ P →
  (∀ z μ' ρ' u H', P z μ' → Ext ρ H ρ' H' → RS K ρ' H' μ' → Den K ρ' H' u z → Q u H') → r v w H Q
def cOp (f : COp) (ca cb : CE) : CE := fun Γ μ P E => ca Γ μ (fun x μ1 => cb Γ μ1 (fun y μ2 => f x y μ2 P) E) E
theorem op_l {K : PySem.W.Frag} {r : R2} {f : COp} {ca cb : CE} (hs : OpS K r f) (σ : St) (H : Hp) (Q : VK) (h : lE K W (cOp f ca cb) σ H Q) : tOp r (lE K W ca) (lE K W cb) σ H Q := by
  obtain ⟨ρ, Γ, μ, P, E, R, S, c, k, x⟩ := h
  exact ⟨ρ, Γ, μ, _, E, R, S, c, fun y μ1 ρ1 v H1 p1 e1 R1 d1 => ⟨ρ1, Γ, μ1, _, E, R1, e1.sr S, p1, fun z μ2 ρ2 w H2 p2 e2 R2 d2 =>
    hs ρ2 H2 μ2 y z v w _ _ R2 (e2.den d1) d2 p2 fun u μ3 ρ3 u' H3 p3 e3 R3 d3 => k _ _ _ _ _ p3 ((e1.trans e2).trans e3) R3 d3, x.ext e1⟩, x⟩
theorem ce_op {op : Operator} {r : R2} {f : COp} {ca cb : CE} {pos : Pos} (ho : OpR X (binaryOp op) r) (hs : OpS X.K r f) (ha : PE X a (lE X.K W ca)) (hb : PE X b (lE X.K W cb)) : PE X (.BinOp a op b pos) (lE X.K W (cOp f ca cb)) :=
  PE.imp (pe_op ho ha hb) fun σ H Q h => op_l hs σ H Q h
theorem ce_cmp {op : CmpOp} {r : R2} {f : COp} {ca cb : CE} {pos : Pos} (ho : OpR X (compareOp op) r) (hs : OpS X.K r f) (ha : PE X a (lE X.K W ca)) (hb : PE X b (lE X.K W cb)) (hm : behindInMarks op b = false) : PE X (.Compare a [op] [b] pos) (lE X.K W (cOp f ca cb)) :=
  PE.imp (pe_cmpR ho ha hb hm) fun σ H Q h => op_l hs σ H Q h
/-- a value that is True or False, as a test -/
def cTest (c : CE) : CT := fun Γ μ P E => c Γ μ (fun x μ1 => match x with
  | .bl b => P b μ1
  | _ => False) E
theorem test_l {K : PySem.W.Frag} {c : CE} (σ : St) (H : Hp) (Q : Bool → Hp → Prop) (h : lT K W (cTest c) σ H Q) : lE K W c σ H fun x H' => ∃ k, x = .bl k ∧ Q k H' := by
  obtain ⟨ρ, Γ, μ, P, E, R, S, c, k, x⟩ := h
  refine ⟨ρ, Γ, μ, _, E, R, S, c, fun y μ1 ρ1 v H1 p1 e1 R1 d1 => ?_, x⟩
  split at p1
  · rename_i b
    cases d1
    exact ⟨b, rfl, k _ _ _ _ p1 e1 R1⟩
  · exact p1.elim
theorem ct_cmp {op : CmpOp} {r : R2} {f : COp} {ca cb : CE} {pos : Pos} (ho : OpR X (compareOp op) r) (hs : OpS X.K r f) (ha : PE X a (lE X.K W ca)) (hb : PE X b (lE X.K W cb)) (hm : behindInMarks op b = false) : PT X (.Compare a [op] [b] pos) (lT X.K W (cTest (cOp f ca cb))) :=
  PT.imp (pt_cmpR ho ha hb hm) fun σ H Q h => by
    obtain ⟨ρ, Γ, μ, P, E, R, S, c, k, x⟩ := test_l σ H Q h
    exact op_l (W := W) hs σ H _ ⟨ρ, Γ, μ, P, E, R, S, c, k, x⟩
/-- a < b < c -/
def cChain (f g : COp) (ca cb cc : CE) : CE := fun Γ μ P E => ca Γ μ (fun x μ1 => cb Γ μ1 (fun y μ2 => f x y μ2 (fun z μ3 => match z with
  | .bl true => cc Γ μ3 (fun w μ4 => g y w μ4 P) E
  | .bl false => P (.bl false) μ3
  | _ => False)) E) E
theorem chain_l {K : PySem.W.Frag} {r r' : R2} {f g : COp} {ca cb cc : CE} (hs : OpS K r f) (hs' : OpS K r' g) (σ : St) (H : Hp) (Q : VK) (h : lE K W (cChain f g ca cb cc) σ H Q) : tChain r r' (lE K W ca) (lE K W cb) (lE K W cc) σ H Q := by
  obtain ⟨ρ, Γ, μ, P, E, R, S, c, k, x⟩ := h
  refine ⟨ρ, Γ, μ, _, E, R, S, c, fun y μ1 ρ1 v H1 p1 e1 R1 d1 => ⟨ρ1, Γ, μ1, _, E, R1, e1.sr S, p1, fun z μ2 ρ2 w H2 p2 e2 R2 d2 =>
    hs ρ2 H2 μ2 y z v w _ _ R2 (e2.den d1) d2 p2 fun u μ3 ρ3 u' H3 p3 e3 R3 d3 => ?_, x.ext e1⟩, x⟩
  split at p3
  · cases d3
    refine ⟨true, rfl, ?_⟩
    rw [if_pos rfl]
    exact ⟨ρ3, Γ, μ3, _, E, R3, ((e1.trans e2).trans e3).sr S, p3, fun t μ4 ρ4 t' H4 p4 e4 R4 d4 => hs' ρ4 H4 μ4 z t w t' _ _ R4 ((e3.trans e4).den d2) d4 p4 fun u μ5 ρ5 u' H5 p5 e5 R5 d5 =>
      k _ _ _ _ _ p5 ((((e1.trans e2).trans e3).trans e4).trans e5) R5 d5, x.ext ((e1.trans e2).trans e3)⟩
  · cases d3
    refine ⟨false, rfl, ?_⟩
    rw [if_neg Bool.false_ne_true]
    exact k _ _ _ _ _ p3 ((e1.trans e2).trans e3) R3 (.bl false)
  · exact p3.elim
theorem ce_chain {op op' : CmpOp} {r r' : R2} {f g : COp} {ca cb cc : CE} {c : Expr} {pos : Pos} (ho : OpR X (compareOp op) r) (hs : OpS X.K r f) (ho' : OpR X (compareOp op') r') (hs' : OpS X.K r' g) (ha : PE X a (lE X.K W ca)) (hb : PE X b (lE X.K W cb)) (hc : PE X c (lE X.K W cc))
    (h : PE X (.Compare a [op, op'] [b, c] pos) (tChain r r' (lE X.K W ca) (lE X.K W cb) (lE X.K W cc))) : PE X (.Compare a [op, op'] [b, c] pos) (lE X.K W (cChain f g ca cb cc)) := PE.imp h fun σ H Q q => chain_l hs hs' σ H Q q
theorem ct_chain {r r' : R2} {f g : COp} {ca cb cc : CE} (hs : OpS X.K r f) (hs' : OpS X.K r' g)
    (h : PT X e (tTest (tChain r r' (lE X.K W ca) (lE X.K W cb) (lE X.K W cc)))) : PT X e (lT X.K W (cTest (cChain f g ca cb cc))) := PT.imp h fun σ H Q q => by
  obtain ⟨ρ, Γ, μ, P, E, R, S, c, k, x⟩ := test_l σ H Q q
  exact chain_l (W := W) hs hs' σ H _ ⟨ρ, Γ, μ, P, E, R, S, c, k, x⟩
theorem OpS.or1 {K : PySem.W.Frag} {r r' : R2} {f : COp} (h : OpS K r f) : OpS K (fun x y H Q => r x y H Q ∨ r' x y H Q) f := fun ρ H μ x y v w P Q R d1 d2 p k => .inl (h ρ H μ x y v w P Q R d1 d2 p k)
theorem OpS.or2 {K : PySem.W.Frag} {r r' : R2} {f : COp} (h : OpS K r' f) : OpS K (fun x y H Q => r x y H Q ∨ r' x y H Q) f := fun ρ H μ x y v w P Q R d1 d2 p k => .inr (h ρ H μ x y v w P Q R d1 d2 p k)

/-! ### the ints' operators -/
def fI (C : Int → Int → Prop) (g : Int → Int → CV) : COp := fun x y μ P => match x, y with
  | .int i, .int j => C i j ∧ P (g i j) μ
  | _, _ => False
def fI0 (g : Int → Int → CV) : COp := fun x y μ P => match x, y with
  | .int i, .int j => P (g i j) μ
  | _, _ => False
theorem os_I {K : PySem.W.Frag} {C : Int → Int → Prop} {g : Int → Int → V} {g' : Int → Int → CV} (d : ∀ ρ H i j, Den K ρ H (g i j) (g' i j)) : OpS K (rI C g) (fI C g') := fun ρ H μ x y v w P Q R d1 d2 p k => by
  unfold fI at p
  split at p
  · cases d1; cases d2
    exact ⟨_, _, rfl, rfl, p.1, k _ _ _ _ _ p.2 Ext.refl R (d _ _ _ _)⟩
  · exact p.elim
theorem os_I0 {K : PySem.W.Frag} {g : Int → Int → V} {g' : Int → Int → CV} (d : ∀ ρ H i j, Den K ρ H (g i j) (g' i j)) : OpS K (rI0 g) (fI0 g') := fun ρ H μ x y v w P Q R d1 d2 p k => by
  unfold fI0 at p
  split at p
  · cases d1; cases d2
    exact ⟨_, _, rfl, rfl, k _ _ _ _ _ p Ext.refl R (d _ _ _ _)⟩
  · exact p.elim
section
variable {ca cb : CE} {pos : Pos}
theorem ce_sub (ha : PE X a (lE X.K W ca)) (hb : PE X b (lE X.K W cb)) : PE X (.BinOp a .Sub b pos) (lE X.K W (cOp (fI0 fun i j => .int (i - j)) ca cb)) := ce_op op_sub (os_I0 fun _ _ _ _ => .int _) ha hb
theorem ce_mod (ha : PE X a (lE X.K W ca)) (hb : PE X b (lE X.K W cb)) : PE X (.BinOp a .Mod b pos) (lE X.K W (cOp (fI (fun _ j => 0 < j) fun i j => .int (i % j)) ca cb)) := ce_op op_mod (os_I fun _ _ _ _ => .int _) ha hb
theorem ce_fdiv (ha : PE X a (lE X.K W ca)) (hb : PE X b (lE X.K W cb)) : PE X (.BinOp a .FloorDiv b pos) (lE X.K W (cOp (fI CDiv fun i j => .int (i / j)) ca cb)) := ce_op op_fdiv (os_I fun _ _ _ _ => .int _) ha hb
theorem ce_pow (ha : PE X a (lE X.K W ca)) (hb : PE X b (lE X.K W cb)) : PE X (.BinOp a .Pow b pos) (lE X.K W (cOp (fI CPow fun i j => .int (i ^ j.toNat)) ca cb)) := ce_op op_pow (os_I fun _ _ _ _ => .int _) ha hb
theorem ce_shl (ha : PE X a (lE X.K W ca)) (hb : PE X b (lE X.K W cb)) : PE X (.BinOp a .LShift b pos) (lE X.K W (cOp (fI CPow fun i j => .int (i * 2 ^ j.toNat)) ca cb)) := ce_op op_shl (os_I fun _ _ _ _ => .int _) ha hb
theorem ce_shr (ha : PE X a (lE X.K W ca)) (hb : PE X b (lE X.K W cb)) : PE X (.BinOp a .RShift b pos) (lE X.K W (cOp (fI (fun _ j => 0 ≤ j) fun i j => .int (i / 2 ^ j.toNat)) ca cb)) := ce_op op_shr (os_I fun _ _ _ _ => .int _) ha hb
theorem ce_and (ha : PE X a (lE X.K W ca)) (hb : PE X b (lE X.K W cb)) : PE X (.BinOp a .BitAnd b pos) (lE X.K W (cOp (fI0 fun i j => .int (Builtin.bitAnd i j)) ca cb)) := ce_op op_and (os_I0 fun _ _ _ _ => .int _) ha hb
theorem ce_or (ha : PE X a (lE X.K W ca)) (hb : PE X b (lE X.K W cb)) : PE X (.BinOp a .BitOr b pos) (lE X.K W (cOp (fI0 fun i j => .int (Builtin.bitOr i j)) ca cb)) := ce_op op_or (os_I0 fun _ _ _ _ => .int _) ha hb
theorem ce_xor (ha : PE X a (lE X.K W ca)) (hb : PE X b (lE X.K W cb)) : PE X (.BinOp a .BitXor b pos) (lE X.K W (cOp (fI0 fun i j => .int (Builtin.bitXor i j)) ca cb)) := ce_op op_xor (os_I0 fun _ _ _ _ => .int _) ha hb
end
abbrev fLt : COp := fI0 fun i j => .bl (decide (i < j))
abbrev fLe : COp := fI0 fun i j => .bl (decide (i ≤ j))
abbrev fGt : COp := fI0 fun i j => .bl (decide (j < i))
abbrev fGe : COp := fI0 fun i j => .bl (decide (j ≤ i))
theorem os_lt {K : PySem.W.Frag} : OpS K (rI0 fun i j => .bl (decide (i < j))) fLt := os_I0 fun _ _ _ _ => .bl _
theorem os_le {K : PySem.W.Frag} : OpS K (rI0 fun i j => .bl (decide (i ≤ j))) fLe := os_I0 fun _ _ _ _ => .bl _
theorem os_gt {K : PySem.W.Frag} : OpS K (rI0 fun i j => .bl (decide (j < i))) fGt := os_I0 fun _ _ _ _ => .bl _
theorem os_ge {K : PySem.W.Frag} : OpS K (rI0 fun i j => .bl (decide (j ≤ i))) fGe := os_I0 fun _ _ _ _ => .bl _
/-! ### a * b: one factor below 2^64 -/
theorem ce_mul {ca cb : CE} {pos : Pos} (ha : PE X a (lE X.K W ca)) (hb : PE X b (lE X.K W cb)) : PE X (.BinOp a .Mult b pos) (lE X.K W (cOp (fI CMul fun i j => .int (i * j)) ca cb)) := ce_op op_mul (os_I fun _ _ _ _ => .int _) ha hb
end
end Cl
/-! Cl3: equality, in, sums, subscripts, slices, truth. -/
namespace Cl
open PySem PySem.Spec PyProof.Rows L2

theorem beq_dec {α : Type} [BEq α] [LawfulBEq α] [DecidableEq α] (a b : α) : (a == b) = decide (a = b) := by
  rw [Bool.eq_iff_iff, beq_iff_eq, decide_eq_true_eq]
/-! ### data -/
def pdAllW (f : CV → Option PyData) : List CV → Option (List PyData)
  | [] => some []
  | x :: xs => match f x, pdAllW f xs with
    | some d, some ds => some (d :: ds)
    | _, _ => none
/-- a value as data, at most so deep -/
def pdF : Nat → Mu → CV → Option PyData
  | _, _, .non => some .none
  | _, _, .bl b => some (.bool b)
  | _, _, .int i => some (.int i)
  | _, _, .str x => some (.str x)
  | k + 1, μ, .tup l => (pdAllW (pdF k μ) l).map .tuple
  | k + 1, μ, .rol l => (pdAllW (pdF k μ) l).map .list
  | k + 1, μ, .hnd n => match μ[n]? with
    | some (.lst xs) => (pdAllW (pdF k μ) xs).map .list
    | _ => none
  | _, _, _ => none
section
variable {K : PySem.W.Frag} {ρ : List Addr} {H : Hp} {μ : Mu}
theorem pdAllW_ok {f : CV → Option PyData} {n : Nat} (hf : ∀ v x d, Den K ρ H v x → f x = some d → Dp K H v d ∧ d.plain = true ∧ d.depth ≤ n) : ∀ {xs : List CV} {vs : List V} {ds : List PyData}, DenL K ρ H vs xs → pdAllW f xs = some ds →
    DpAll K H vs ds ∧ PyData.plainAll ds = true ∧ PyData.depthAll ds ≤ n
  | [], _, _, .nil, e => by
    cases e
    exact ⟨.nil, rfl, Nat.zero_le _⟩
  | x :: xs, _, _, .cons h r, e => by
    unfold pdAllW at e
    split at e
    · rename_i d ds h1 h2
      cases e
      obtain ⟨a1, a2, a3⟩ := hf _ _ _ h h1
      obtain ⟨b1, b2, b3⟩ := pdAllW_ok hf r h2
      exact ⟨.cons a1 b1, by simp [PyData.plainAll, a2, b2], Nat.max_le.mpr ⟨a3, b3⟩⟩
    · cases e
theorem pdF_ok (R : RS K ρ H μ) : ∀ (n : Nat) (v : V) (x : CV) (d : PyData), Den K ρ H v x → pdF n μ x = some d → Dp K H v d ∧ d.plain = true ∧ d.depth ≤ n
  | n, v, x, d, h, e => by
    cases h with
    | non => unfold pdF at e; cases e; exact ⟨.non, rfl, Nat.zero_le _⟩
    | bl b => unfold pdF at e; cases e; exact ⟨.bl b, rfl, Nat.zero_le _⟩
    | int i => unfold pdF at e; cases e; exact ⟨.int i, rfl, Nat.zero_le _⟩
    | str x => unfold pdF at e; cases e; exact ⟨.str x, rfl, Nat.zero_le _⟩
    | glo a => cases n <;> (unfold pdF at e; cases e)
    | ty a => cases n <;> (unfold pdF at e; cases e)
    | exn0 => cases n <;> (unfold pdF at e; cases e)
    | exn => cases n <;> (unfold pdF at e; cases e)
    | tup h r =>
      cases n with
      | zero => unfold pdF at e; cases e
      | succ k =>
        unfold pdF at e
        obtain ⟨ds, h1, h2⟩ := Option.map_eq_some_iff.mp e
        subst h2
        obtain ⟨b1, b2, b3⟩ := pdAllW_ok (n := k) (fun v x d => pdF_ok R k v x d) r h1
        exact ⟨.tup h b1, by simpa [PyData.plain] using b2, by simp [PyData.depth]; exact b3⟩
    | rol h r =>
      cases n with
      | zero => unfold pdF at e; cases e
      | succ k =>
        unfold pdF at e
        obtain ⟨ds, h1, h2⟩ := Option.map_eq_some_iff.mp e
        subst h2
        obtain ⟨b1, b2, b3⟩ := pdAllW_ok (n := k) (fun v x d => pdF_ok R k v x d) r h1
        exact ⟨.lst h.sq b1, by simpa [PyData.plain] using b2, by simp [PyData.depth]; exact b3⟩
    | hnd h =>
      cases n with
      | zero => unfold pdF at e; cases e
      | succ k =>
        unfold pdF at e
        split at e
        · rename_i xs hx
          obtain ⟨vs, hv, r⟩ := R.ob _ _ _ h hx
          obtain ⟨ds, h1, h2⟩ := Option.map_eq_some_iff.mp e
          subst h2
          obtain ⟨b1, b2, b3⟩ := pdAllW_ok (n := k) (fun v x d => pdF_ok R k v x d) r h1
          exact ⟨.lst (SqL.of hv) b1, by simpa [PyData.plain] using b2, by simp [PyData.depth]; exact b3⟩
        · cases e
end
/-- x == y -/
def ceq (μ : Mu) (x y : CV) : Option Bool := match x, y with
  | .int i, .int j => some (decide (i = j))
  | .str i, .str j => some (decide (i = j))
  | .bl i, .bl j => some (decide (i = j))
  | .non, .non => some true
  | x, y => match pdF 40 μ x, pdF 40 μ y with
    | some d, some e => some (PyData.eqv d e)
    | _, _ => none
theorem ceq_ok {μ : Mu} {x y : CV} {b : Bool} (h : ceq μ x y = some b) : ∃ d e, pdF 40 μ x = some d ∧ pdF 40 μ y = some e ∧ PyData.eqv d e = b := by
  unfold ceq at h
  split at h
  · rename_i i j
    cases h
    exact ⟨_, _, rfl, rfl, by simp only [PyData.eqv]; exact beq_dec i j⟩
  · rename_i i j
    cases h
    exact ⟨_, _, rfl, rfl, by simp only [PyData.eqv]; exact beq_dec i j⟩
  · rename_i i j
    cases h
    exact ⟨_, _, rfl, rfl, by simp only [PyData.eqv]; exact beq_dec i j⟩
  · cases h
    exact ⟨_, _, rfl, rfl, by simp only [PyData.eqv]⟩
  · split at h
    · rename_i d e h1 h2
      cases h
      exact ⟨d, e, h1, h2, rfl⟩
    · cases h
def fEq : COp := fun x y μ P => match ceq μ x y with
  | some b => P (.bl b) μ
  | none => False
def fNe : COp := fun x y μ P => match ceq μ x y with
  | some b => P (.bl (!b)) μ
  | none => False
def rEqP (K : PySem.W.Frag) : R2 := fun x y H Q => ∃ d e, Dp K H x d ∧ Dp K H y e ∧ d.plain = true ∧ e.plain = true ∧ d.depth ≤ 60 ∧ Q (.bl (PyData.eqv d e)) H
def rNeP (K : PySem.W.Frag) : R2 := fun x y H Q => ∃ d e, Dp K H x d ∧ Dp K H y e ∧ d.plain = true ∧ e.plain = true ∧ d.depth ≤ 60 ∧ Q (.bl (!PyData.eqv d e)) H
section
variable {X : Cx}
theorem op_eqP (hu : X.A.units + 64 < cLine) : OpR X (compareOp .Eq) (rEqP X.K) := by
  intro pins s σ H x y v u Q I rx ry h
  obtain ⟨d, e, hd, he, sd, se, hl, q⟩ := h
  obtain ⟨as, r1⟩ := Dp.reads I d x v hd rx
  obtain ⟨bs, r2⟩ := Dp.reads I e y u he ry
  exact SeqAt.eq_plain r1 r2 sd se (by have := Nat.min_le_left d.depth e.depth; omega) ⟨.bl _, H, I, rfl, q⟩
theorem op_neP (hu : X.A.units + 64 < cLine) : OpR X (compareOp .NotEq) (rNeP X.K) := by
  intro pins s σ H x y v u Q I rx ry h
  obtain ⟨d, e, hd, he, sd, se, hl, q⟩ := h
  obtain ⟨as, r1⟩ := Dp.reads I d x v hd rx
  obtain ⟨bs, r2⟩ := Dp.reads I e y u he ry
  exact SeqAt.ne_plain r1 r2 sd se (by have := Nat.min_le_left d.depth e.depth; omega) ⟨.bl _, H, I, rfl, q⟩
end
theorem os_eq {K : PySem.W.Frag} : OpS K (rEqP K) fEq := fun ρ H μ x y v w P Q R d1 d2 p k => by
  unfold fEq at p
  split at p
  · rename_i b hb
    obtain ⟨d, e, h1, h2, h3⟩ := ceq_ok hb
    obtain ⟨a1, a2, a3⟩ := pdF_ok R _ _ _ _ d1 h1
    obtain ⟨b1, b2, b3⟩ := pdF_ok R _ _ _ _ d2 h2
    exact ⟨d, e, a1, b1, a2, b2, by omega, by rw [h3]; exact k _ _ _ _ _ p Ext.refl R (.bl b)⟩
  · exact p.elim
theorem os_ne {K : PySem.W.Frag} : OpS K (rNeP K) fNe := fun ρ H μ x y v w P Q R d1 d2 p k => by
  unfold fNe at p
  split at p
  · rename_i b hb
    obtain ⟨d, e, h1, h2, h3⟩ := ceq_ok hb
    obtain ⟨a1, a2, a3⟩ := pdF_ok R _ _ _ _ d1 h1
    obtain ⟨b1, b2, b3⟩ := pdF_ok R _ _ _ _ d2 h2
    exact ⟨d, e, a1, b1, a2, b2, by omega, by rw [h3]; exact k _ _ _ _ _ p Ext.refl R (.bl (!b))⟩
  · exact p.elim

/-! ### x in l -/
def cinL (μ : Mu) (x : CV) (l : List CV) : Option Bool := match pdF 40 μ x, pdAllW (pdF 40 μ) l with
  | some d, some ds => some (ds.any fun e => PyData.eqv e d)
  | _, _ => none
def citems (μ : Mu) : CV → Option (List CV)
  | .tup l => some l
  | .rol l => some l
  | .hnd n => match μ[n]? with
    | some (.lst xs) => some xs
    | _ => none
  | _ => none
def cin (μ : Mu) (x y : CV) : Option Bool := match citems μ y with
  | some l => cinL μ x l
  | none => none
def fIn : COp := fun x y μ P => match cin μ x y with
  | some b => P (.bl b) μ
  | none => False
def fNotIn : COp := fun x y μ P => match cin μ x y with
  | some b => P (.bl (!b)) μ
  | none => False
def rInP (K : PySem.W.Frag) (neg : Bool) : R2 := fun x y H Q => ∃ (d : PyData) (ds : List PyData), Dp K H x d ∧ (Dp K H y (.list ds) ∨ Dp K H y (.tuple ds)) ∧ d.plain = true ∧ PyData.plainAll ds = true ∧ d.depth ≤ 60 ∧
  Q (.bl (if neg then !ds.any fun z => PyData.eqv z d else ds.any fun z => PyData.eqv z d)) H
section
variable {X : Cx}
theorem op_inP (hu : X.A.units + 64 < cLine) : OpR X (compareOp .In) (rInP X.K false) := by
  intro pins s σ H x y v u Q I rx ry h
  obtain ⟨d, ds, hd, he, sd, se, hl, q⟩ := h
  obtain ⟨as, r1⟩ := Dp.reads I d x v hd rx
  have hm : X.A.units + 1 + min (PyData.depthAll ds) d.depth < cLine := by have := Nat.min_le_right (PyData.depthAll ds) d.depth; omega
  rcases he with he | he
  · obtain ⟨bs, r2⟩ := Dp.reads I _ y u he ry
    exact SeqAt.in_list_data r2 r1 se sd hm ⟨.bl _, H, I, rfl, q⟩
  · obtain ⟨bs, r2⟩ := Dp.reads I _ y u he ry
    exact SeqAt.in_tuple_data r2 r1 se sd hm ⟨.bl _, H, I, rfl, q⟩
theorem op_notInP (hu : X.A.units + 64 < cLine) : OpR X (compareOp .NotIn) (rInP X.K true) := by
  intro pins s σ H x y v u Q I rx ry h
  obtain ⟨d, ds, hd, he, sd, se, hl, q⟩ := h
  obtain ⟨as, r1⟩ := Dp.reads I d x v hd rx
  have hm : X.A.units + 1 + min (PyData.depthAll ds) d.depth < cLine := by have := Nat.min_le_right (PyData.depthAll ds) d.depth; omega
  rcases he with he | he
  · obtain ⟨bs, r2⟩ := Dp.reads I _ y u he ry
    exact SeqAt.notIn_list_data r2 r1 se sd hm ⟨.bl _, H, I, rfl, q⟩
  · obtain ⟨bs, r2⟩ := Dp.reads I _ y u he ry
    exact SeqAt.notIn_tuple_data r2 r1 se sd hm ⟨.bl _, H, I, rfl, q⟩
end
/-- where the items of a list or a tuple stand -/
theorem citems_ok {K : PySem.W.Frag} {ρ : List Addr} {H : Hp} {μ : Mu} {v : V} {y : CV} {l : List CV} (R : RS K ρ H μ) (d : Den K ρ H v y) (h : citems μ y = some l) : ∃ a vs, v = .ref a ∧ (SqL K H a vs ∨ SqT K H a vs) ∧ DenL K ρ H vs l := by
  unfold citems at h
  split at h
  · cases h
    cases d with
    | tup h r => exact ⟨_, _, rfl, .inr h, r⟩
  · cases h
    cases d with
    | rol h r => exact ⟨_, _, rfl, .inl h.sq, r⟩
  · split at h
    · rename_i n xs hx
      cases h
      cases d with
      | hnd hn =>
        obtain ⟨vs, hv, r⟩ := R.ob _ _ _ hn hx
        exact ⟨_, _, rfl, .inl (SqL.of hv), r⟩
    · cases h
  · cases h
theorem cin_ok {K : PySem.W.Frag} {ρ : List Addr} {H : Hp} {μ : Mu} {v w : V} {x y : CV} {b : Bool} (R : RS K ρ H μ) (d1 : Den K ρ H v x) (d2 : Den K ρ H w y) (h : cin μ x y = some b) :
    ∃ (d : PyData) (ds : List PyData), Dp K H v d ∧ (Dp K H w (.list ds) ∨ Dp K H w (.tuple ds)) ∧ d.plain = true ∧ PyData.plainAll ds = true ∧ d.depth ≤ 60 ∧ (ds.any fun z => PyData.eqv z d) = b := by
  unfold cin at h
  split at h
  · rename_i l hl
    unfold cinL at h
    split at h
    · rename_i d ds h1 h2
      cases h
      obtain ⟨a1, a2, a3⟩ := pdF_ok R _ _ _ _ d1 h1
      obtain ⟨a, vs, rfl, hs, r⟩ := citems_ok R d2 hl
      obtain ⟨b1, b2, b3⟩ := pdAllW_ok (n := 40) (fun v x d => pdF_ok R 40 v x d) r h2
      refine ⟨d, ds, a1, ?_, a2, b2, by omega, rfl⟩
      rcases hs with hs | hs
      · exact .inl (.lst hs b1)
      · exact .inr (.tup hs b1)
    · cases h
  · cases h
theorem os_in {K : PySem.W.Frag} : OpS K (rInP K false) fIn := fun ρ H μ x y v w P Q R d1 d2 p k => by
  unfold fIn at p
  split at p
  · rename_i b hb
    obtain ⟨d, ds, h1, h2, h3, h4, h5, h6⟩ := cin_ok R d1 d2 hb
    refine ⟨d, ds, h1, h2, h3, h4, h5, ?_⟩
    rw [h6]
    exact k _ _ _ _ _ p Ext.refl R (.bl b)
  · exact p.elim
theorem os_notIn {K : PySem.W.Frag} : OpS K (rInP K true) fNotIn := fun ρ H μ x y v w P Q R d1 d2 p k => by
  unfold fNotIn at p
  split at p
  · rename_i b hb
    obtain ⟨d, ds, h1, h2, h3, h4, h5, h6⟩ := cin_ok R d1 d2 hb
    refine ⟨d, ds, h1, h2, h3, h4, h5, ?_⟩
    rw [h6]
    exact k _ _ _ _ _ p Ext.refl R (.bl (!b))
  · exact p.elim

/-! ### is -/
def fIs : COp := fun x y μ P => match y with
  | .non => (match x with
    | .non => P (.bl true) μ
    | _ => P (.bl false) μ)
  | .bl b => (match x with
    | .bl a => P (.bl (decide (a = b))) μ
    | _ => False)
  | _ => False
def fIsNot : COp := fun x y μ P => match y with
  | .non => (match x with
    | .non => P (.bl false) μ
    | _ => P (.bl true) μ)
  | .bl b => (match x with
    | .bl a => P (.bl (!decide (a = b))) μ
    | _ => False)
  | _ => False
theorem os_is {K : PySem.W.Frag} : OpS K (fun x y H Q => (y = .non ∧ Q (.bl (decide (x = .non))) H) ∨ (∃ a b, x = .bl a ∧ y = .bl b ∧ Q (.bl (decide (a = b))) H)) fIs := fun ρ H μ x y v w P Q R d1 d2 p k => by
  unfold fIs at p
  split at p
  · cases d2
    refine .inl ⟨rfl, ?_⟩
    split at p
    · cases d1
      exact k _ _ _ _ _ p Ext.refl R (.bl true)
    · rename_i hx
      have e : decide (v = V.non) = false := by
        cases d1 <;> first | rfl | exact absurd rfl hx
      rw [e]
      exact k _ _ _ _ _ p Ext.refl R (.bl false)
  · split at p
    · cases d1
      cases d2
      exact .inr ⟨_, _, rfl, rfl, k _ _ _ _ _ p Ext.refl R (.bl _)⟩
    · exact p.elim
  · exact p.elim
theorem os_isNot {K : PySem.W.Frag} : OpS K (fun x y H Q => (y = .non ∧ Q (.bl (!decide (x = .non))) H) ∨ (∃ a b, x = .bl a ∧ y = .bl b ∧ Q (.bl (!decide (a = b))) H)) fIsNot := fun ρ H μ x y v w P Q R d1 d2 p k => by
  unfold fIsNot at p
  split at p
  · cases d2
    refine .inl ⟨rfl, ?_⟩
    split at p
    · cases d1
      exact k _ _ _ _ _ p Ext.refl R (.bl false)
    · rename_i hx
      have e : decide (v = V.non) = false := by
        cases d1 <;> first | rfl | exact absurd rfl hx
      rw [e]
      exact k _ _ _ _ _ p Ext.refl R (.bl true)
  · split at p
    · cases d1
      cases d2
      exact .inr ⟨_, _, rfl, rfl, k _ _ _ _ _ p Ext.refl R (.bl _)⟩
    · exact p.elim
  · exact p.elim
section
variable {X : Cx}
theorem op_isA : OpR X (compareOp .Is) (fun x y H Q => (y = .non ∧ Q (.bl (decide (x = .non))) H) ∨ (∃ a b, x = .bl a ∧ y = .bl b ∧ Q (.bl (decide (a = b))) H)) := OpR.or op_isN op_is_bl
theorem op_isNotA : OpR X (compareOp .IsNot) (fun x y H Q => (y = .non ∧ Q (.bl (!decide (x = .non))) H) ∨ (∃ a b, x = .bl a ∧ y = .bl b ∧ Q (.bl (!decide (a = b))) H)) := OpR.or op_notN op_isnot_bl
end

/-! ### + -/
def fAdd : COp := fun x y μ P => match x, y with
  | .int i, .int j => P (.int (i + j)) μ
  | .str i, .str j => i.length + j.length ≤ sizeLine ∧ P (.str (i ++ j)) μ
  | .tup i, .tup j => i.length + j.length ≤ sizeLine ∧ P (.tup (i ++ j)) μ
  | .hnd n, .hnd m => (match μ[n]?, μ[m]? with
    | some (.lst xs), some (.lst ys) => xs.length + ys.length ≤ sizeLine ∧ P (.hnd μ.length) (μ ++ [.lst (xs ++ ys)])
    | _, _ => False)
  | _, _ => False
def rAddA (K : PySem.W.Frag) : R2 := fun x y H Q => (rI0 (fun i j => .int (i + j)) x y H Q ∨ (∃ i j, x = .str i ∧ y = .str j ∧ i.length + j.length ≤ sizeLine ∧ Q (.str (i ++ j)) H)) ∨ (rCatA K x y H Q ∨ rCat x y H Q)
theorem op_addA {X : Cx} : OpR X (binaryOp .Add) (rAddA X.K) := OpR.or (OpR.or op_add op_add_str) (OpR.or op_catA op_cat)
theorem os_add {K : PySem.W.Frag} : OpS K (rAddA K) fAdd := fun ρ H μ x y v w P Q R d1 d2 p k => by
  unfold fAdd at p
  split at p
  · cases d1; cases d2
    exact .inl (.inl ⟨_, _, rfl, rfl, k _ _ _ _ _ p Ext.refl R (.int _)⟩)
  · cases d1; cases d2
    exact .inl (.inr ⟨_, _, rfl, rfl, p.1, k _ _ _ _ _ p.2 Ext.refl R (.str _)⟩)
  · obtain ⟨hl, p⟩ := p
    cases d1 with
    | @tup a xs l h1 r1 =>
      cases d2 with
      | @tup b ys l2 h2 r2 =>
        refine .inr (.inl ⟨a, b, xs, ys, rfl, rfl, h1, h2, by rw [r1.length, r2.length]; exact hl, fun e => ?_, fun _ e => ?_, fun _ _ q hq => ?_⟩)
        · subst e
          cases r1
          exact k _ _ _ _ _ p Ext.refl R (.tup h2 r2)
        · subst e
          cases r2
          rw [List.append_nil] at p
          exact k _ _ _ _ _ p Ext.refl R (.tup h1 r1)
        · exact k _ _ _ _ _ p (Ext.new hq) (R.new hq) (.tup (SqT.of upd_same) ((Ext.new hq).denL (r1.append r2)))
  · split at p
    · rename_i n m xs ys hx hy
      obtain ⟨hl, p⟩ := p
      cases d1 with
      | hnd h1 =>
        cases d2 with
        | hnd h2 =>
          obtain ⟨vs, hv, r1⟩ := R.ob _ _ _ h1 hx
          obtain ⟨ws, hw, r2⟩ := R.ob _ _ _ h2 hy
          refine .inr (.inr ⟨_, _, vs, ws, rfl, rfl, hv, hw, by rw [r1.length, r2.length]; exact hl, fun q hq => ?_⟩)
          obtain ⟨R2, d2⟩ := push_lst R hq (r1.append r2)
          exact k _ _ _ _ _ p (Ext.push hq) R2 d2
    · exact p.elim
  · exact p.elim
section
variable {X : Cx} {a b : Expr} {W : WX} {ca cb : CE} {pos : Pos}
theorem ce_add (ha : PE X a (lE X.K W ca)) (hb : PE X b (lE X.K W cb)) : PE X (.BinOp a .Add b pos) (lE X.K W (cOp fAdd ca cb)) := ce_op op_addA os_add ha hb
end

/-! ### truth -/
def ctru (μ : Mu) : CV → Option Bool
  | .non => some false
  | .bl b => some b
  | .int i => some (i != 0)
  | .str y => if y.length ≤ sizeLine then some ((y.length : Int) != 0) else none
  | .tup l => some (!l.isEmpty)
  | .rol l => some (!l.isEmpty)
  | .hnd n => match μ[n]? with
    | some (.lst xs) => some (!xs.isEmpty)
    | some (.dK kvs) => some (!kvs.isEmpty)
    | _ => none
  | _ => none
theorem emptyL {K : PySem.W.Frag} {ρ : List Addr} {H : Hp} {vs : List V} {xs : List CV} (r : DenL K ρ H vs xs) : (!xs.isEmpty) = !vs.isEmpty := by
  cases r <;> rfl
theorem ctru_ok {K : PySem.W.Frag} {ρ : List Addr} {H : Hp} {μ : Mu} {v : V} {x : CV} {b : Bool} (R : RS K ρ H μ) (d : Den K ρ H v x) (h : ctru μ x = some b) : TruV K v H b := by
  cases d with
  | non => cases h; rfl
  | bl b => cases h; rfl
  | int i => cases h; rfl
  | str y =>
    simp only [ctru] at h
    split at h
    · rename_i hl
      cases h
      exact ⟨hl, rfl⟩
    · cases h
  | tup h1 r => cases h; exact .inr (.inl ⟨_, h1, emptyL r⟩)
  | rol h1 r => cases h; exact .inl ⟨_, h1.sq, emptyL r⟩
  | glo a => cases h
  | ty a => cases h
  | exn0 => cases h
  | exn => cases h
  | hnd h1 =>
    simp only [ctru] at h
    split at h
    · rename_i xs hx
      cases h
      obtain ⟨vs, hv, r⟩ := R.ob _ _ _ h1 hx
      exact .inl ⟨vs, SqL.of hv, emptyL r⟩
    · rename_i kvs hx
      cases h
      obtain ⟨ws, hw, hk, r⟩ := R.ob _ _ _ h1 hx
      refine .inr (.inr ⟨ws, hw, ?_⟩)
      cases kvs <;> cases ws <;> first | rfl | simp at hk
    · cases h
/-- any expression as a test -/
def cTru (c : CE) : CT := fun Γ μ P E => c Γ μ (fun x μ1 => match ctru μ1 x with
  | some b => P b μ1
  | none => False) E
section
variable {X : Cx} {a b e : Expr} {W : WX} {c : CE} {pos : Pos}
theorem ct_tru (ha : PE X a (lE X.K W c)) (he : ∀ whole, isTrue a X.env whole = (do let v ← whole; standAt a.pos; holding [v] (truthy v)) := by intro _; rfl) : PT X a (lT X.K W (cTru c)) :=
  PT.imp (pt_truth ha he) fun σ H Q ⟨ρ, Γ, μ, P, E, R, S, c, k, x⟩ => ⟨ρ, Γ, μ, _, E, R, S, c, fun y μ1 ρ1 v H1 p1 e1 R1 d1 => by
    split at p1
    · rename_i b hb
      exact ⟨b, ctru_ok R1 d1 hb, k _ _ _ _ p1 e1 R1⟩
    · exact p1.elim, x⟩
def ctAnd (t u : CT) : CT := fun Γ μ P E => t Γ μ (fun b μ1 => if b = true then u Γ μ1 P E else P false μ1) E
def ctOr (t u : CT) : CT := fun Γ μ P E => t Γ μ (fun b μ1 => if b = true then P true μ1 else u Γ μ1 P E) E
def ctNot (t : CT) : CT := fun Γ μ P E => t Γ μ (fun b μ1 => P (!b) μ1) E
theorem cw_and1 {t : CT} (ha : PT X a (lT X.K W t)) : PW X (.BoolOp .And [a] pos) (lT X.K W t) := pw_and1 ha
theorem cw_or1 {t : CT} (ha : PT X a (lT X.K W t)) : PW X (.BoolOp .Or [a] pos) (lT X.K W t) := pw_or1 ha
theorem cw_and {t u : CT} {rest : List Expr} (ha : PT X a (lT X.K W t)) (hb : PW X (.BoolOp .And (b :: rest) pos) (lT X.K W u)) : PW X (.BoolOp .And (a :: b :: rest) pos) (lT X.K W (ctAnd t u)) :=
  PW.imp (pw_and ha hb) fun σ H Q ⟨ρ, Γ, μ, P, E, R, S, c, k, x⟩ => ⟨ρ, Γ, μ, _, E, R, S, c, fun y μ1 ρ1 H1 p1 e1 R1 => by
    cases y with
    | true => exact ⟨ρ1, Γ, μ1, _, E, R1, e1.sr S, p1, fun y2 μ2 ρ2 H2 p2 e2 R2 => k _ _ _ _ p2 (e1.trans e2) R2, x.ext e1⟩
    | false => exact k _ _ _ _ p1 e1 R1, x⟩
theorem cw_or {t u : CT} {rest : List Expr} (ha : PT X a (lT X.K W t)) (hb : PW X (.BoolOp .Or (b :: rest) pos) (lT X.K W u)) : PW X (.BoolOp .Or (a :: b :: rest) pos) (lT X.K W (ctOr t u)) :=
  PW.imp (pw_or ha hb) fun σ H Q ⟨ρ, Γ, μ, P, E, R, S, c, k, x⟩ => ⟨ρ, Γ, μ, _, E, R, S, c, fun y μ1 ρ1 H1 p1 e1 R1 => by
    cases y with
    | false => exact ⟨ρ1, Γ, μ1, _, E, R1, e1.sr S, p1, fun y2 μ2 ρ2 H2 p2 e2 R2 => k _ _ _ _ p2 (e1.trans e2) R2, x.ext e1⟩
    | true => exact k _ _ _ _ p1 e1 R1, x⟩
theorem ct_not {t : CT} (ha : PT X a (lT X.K W t)) : PT X (.UnaryOp .Not a pos) (lT X.K W (ctNot t)) :=
  PT.imp (pt_not ha) fun σ H Q ⟨ρ, Γ, μ, P, E, R, S, c, k, x⟩ => ⟨ρ, Γ, μ, _, E, R, S, c, fun y μ1 ρ1 H1 p1 e1 R1 => k _ _ _ _ p1 e1 R1, x⟩
/-! ### x and y, x or y, not x as values; x if t else y -/
def cAnd (ca cb : CE) : CE := fun Γ μ P E => ca Γ μ (fun x μ1 => match ctru μ1 x with
  | some true => cb Γ μ1 P E
  | some false => P x μ1
  | none => False) E
def cOr (ca cb : CE) : CE := fun Γ μ P E => ca Γ μ (fun x μ1 => match ctru μ1 x with
  | some true => P x μ1
  | some false => cb Γ μ1 P E
  | none => False) E
def cNot (ca : CE) : CE := fun Γ μ P E => ca Γ μ (fun x μ1 => match ctru μ1 x with
  | some b => P (.bl (!b)) μ1
  | none => False) E
theorem ce_one {op} (ha : PE X a (lE X.K W c)) : PE X (.BoolOp op [a] pos) (lE X.K W c) := pe_one ha
theorem ce_andV {ca cb : CE} {rest : List Expr} (ha : PE X a (lE X.K W ca)) (hb : PE X (.BoolOp .And (b :: rest) pos) (lE X.K W cb)) : PE X (.BoolOp .And (a :: b :: rest) pos) (lE X.K W (cAnd ca cb)) :=
  PE.imp (pe_andT ha hb) fun σ H Q ⟨ρ, Γ, μ, P, E, R, S, c, k, x⟩ => ⟨ρ, Γ, μ, _, E, R, S, c, fun y μ1 ρ1 v H1 p1 e1 R1 d1 => by
    split at p1
    · rename_i hb
      refine ⟨true, ctru_ok R1 d1 hb, ?_⟩
      rw [if_pos rfl]
      exact ⟨ρ1, Γ, μ1, _, E, R1, e1.sr S, p1, fun y2 μ2 ρ2 v2 H2 p2 e2 R2 d2 => k _ _ _ _ _ p2 (e1.trans e2) R2 d2, x.ext e1⟩
    · rename_i hb
      refine ⟨false, ctru_ok R1 d1 hb, ?_⟩
      rw [if_neg Bool.false_ne_true]
      exact k _ _ _ _ _ p1 e1 R1 d1
    · exact p1.elim, x⟩
theorem ce_orV {ca cb : CE} {rest : List Expr} (ha : PE X a (lE X.K W ca)) (hb : PE X (.BoolOp .Or (b :: rest) pos) (lE X.K W cb)) : PE X (.BoolOp .Or (a :: b :: rest) pos) (lE X.K W (cOr ca cb)) :=
  PE.imp (pe_orT ha hb) fun σ H Q ⟨ρ, Γ, μ, P, E, R, S, c, k, x⟩ => ⟨ρ, Γ, μ, _, E, R, S, c, fun y μ1 ρ1 v H1 p1 e1 R1 d1 => by
    split at p1
    · rename_i hb
      refine ⟨true, ctru_ok R1 d1 hb, ?_⟩
      rw [if_pos rfl]
      exact k _ _ _ _ _ p1 e1 R1 d1
    · rename_i hb
      refine ⟨false, ctru_ok R1 d1 hb, ?_⟩
      rw [if_neg Bool.false_ne_true]
      exact ⟨ρ1, Γ, μ1, _, E, R1, e1.sr S, p1, fun y2 μ2 ρ2 v2 H2 p2 e2 R2 d2 => k _ _ _ _ _ p2 (e1.trans e2) R2 d2, x.ext e1⟩
    · exact p1.elim, x⟩
theorem ce_notV {ca : CE} (ha : PE X a (lE X.K W ca)) : PE X (.UnaryOp .Not a pos) (lE X.K W (cNot ca)) :=
  PE.imp (pe_notT ha) fun σ H Q ⟨ρ, Γ, μ, P, E, R, S, c, k, x⟩ => ⟨ρ, Γ, μ, _, E, R, S, c, fun y μ1 ρ1 v H1 p1 e1 R1 d1 => by
    split at p1
    · rename_i b hb
      exact ⟨b, ctru_ok R1 d1 hb, k _ _ _ _ _ p1 e1 R1 (.bl _)⟩
    · exact p1.elim, x⟩
def cIf (t : CT) (ca cb : CE) : CE := fun Γ μ P E => t Γ μ (fun b μ1 => if b = true then ca Γ μ1 P E else cb Γ μ1 P E) E
theorem ce_if {t : CT} {ca cb : CE} {i : Expr} (ht : PT X i (lT X.K W t)) (ha : PE X a (lE X.K W ca)) (hb : PE X b (lE X.K W cb)) : PE X (.IfExp i a b pos) (lE X.K W (cIf t ca cb)) :=
  PE.imp (pe_ifExp ht ha hb) fun σ H Q ⟨ρ, Γ, μ, P, E, R, S, c, k, x⟩ => ⟨ρ, Γ, μ, _, E, R, S, c, fun y μ1 ρ1 H1 p1 e1 R1 => by
    cases y with
    | true => exact ⟨ρ1, Γ, μ1, _, E, R1, e1.sr S, p1, fun y2 μ2 ρ2 v2 H2 p2 e2 R2 d2 => k _ _ _ _ _ p2 (e1.trans e2) R2 d2, x.ext e1⟩
    | false => exact ⟨ρ1, Γ, μ1, _, E, R1, e1.sr S, p1, fun y2 μ2 ρ2 v2 H2 p2 e2 R2 d2 => k _ _ _ _ _ p2 (e1.trans e2) R2 d2, x.ext e1⟩, x⟩
end
end Cl
/-! Cl4: subscripts, slices, calls of built-ins, methods of lists. -/
namespace Cl
open PySem PySem.Spec PyProof.Rows L2
section
variable {X : Cx} {a b e : Expr} {W : WX} {pos : Pos}
theorem atI_den {K : PySem.W.Frag} {ρ : List Addr} {H : Hp} {vs : List V} {l : List CV} {i : Int} {x : CV} (r : DenL K ρ H vs l) (h : atI l i = some x) : ∃ v, atI vs i = some v ∧ Den K ρ H v x := by
  unfold atI at *
  obtain ⟨j, h1, h2⟩ := Option.bind_eq_some_iff.mp h
  obtain ⟨v, h3, h4⟩ := r.get h2
  exact ⟨v, by rw [r.length, h1]; exact h3, h4⟩
/-! ### x[i] -/
def fIx : COp := fun x y μ P => match y with
  | .int i => (match x with
    | .str z => z.length ≤ sizeLine ∧ (match atI z.cps.toList i with
      | some c => P (.str ⟨#[c]⟩) μ
      | none => False)
    | x => (match citems μ x with
      | some l => (match atI l i with
        | some v => P v μ
        | none => False)
      | none => False))
  | _ => False
theorem os_ix {K : PySem.W.Frag} : OpS K (rIx K) fIx := fun ρ H μ x y v w P Q R d1 d2 p k => by
  unfold fIx at p
  split at p
  · cases d2
    split at p
    · cases d1
      obtain ⟨hl, p⟩ := p
      split at p
      · rename_i c hc
        exact .inr (.inr ⟨_, _, c, rfl, rfl, hl, hc, k _ _ _ _ _ p Ext.refl R (.str _)⟩)
      · exact p.elim
    · split at p
      · rename_i l hl
        split at p
        · rename_i z hz
          obtain ⟨a, vs, rfl, hs, r⟩ := citems_ok R d1 hl
          obtain ⟨u, hu, du⟩ := atI_den r hz
          have q := k _ _ _ _ _ p Ext.refl R du
          rcases hs with hs | hs
          · exact .inl ⟨a, vs, _, u, rfl, rfl, hs, hu, q⟩
          · exact .inr (.inl ⟨a, vs, _, u, rfl, rfl, hs, hu, q⟩)
        · exact p.elim
      · exact p.elim
  · exact p.elim
theorem ce_ix {ca cb : CE} (ha : PE X a (lE X.K W ca)) (hb : PE X b (lE X.K W cb)) (hs : PlainIx b := by exact fun _ _ => rfl) : PE X (.Subscript a b pos) (lE X.K W (cOp fIx ca cb)) :=
  PE.imp (pe_ix ix_seq ha hb hs) fun σ H Q h => op_l os_ix σ H Q h

/-! ### x[i:j] -/
abbrev COI := Ga → Mu → (Option Int → Mu → Prop) → PX → Prop
def lO (K : PySem.W.Frag) (W : WX) (c : COI) : TO := fun σ H Q => ∃ ρ Γ μ, ∃ (P : Option Int → Mu → Prop) (E : PX), RS K ρ H μ ∧ SR K ρ H σ Γ ∧ c Γ μ P E ∧
  (∀ b μ' ρ' H', P b μ' → Ext ρ H ρ' H' → RS K ρ' H' μ' → Q b H') ∧ LX K W ρ H σ E
def coNone : COI := fun _ μ P _ => P none μ
def coSome (c : CE) : COI := fun Γ μ P E => c Γ μ (fun x μ1 => match x with
  | .int i => P (some i) μ1
  | _ => False) E
theorem co_none : PO X none (lO X.K W coNone) := by
  refine ⟨fun pins s σ H Q I ⟨ρ, Γ, μ, P, E, R, S, c, k, _⟩ => ?_⟩
  exact po_none.run pins s σ H Q I (k none μ ρ H c Ext.refl R)
theorem co_some {c : CE} (h : PE X e (lE X.K W c)) : PO X (some e) (lO X.K W (coSome c)) := by
  refine ⟨fun pins s σ H Q I ⟨ρ, Γ, μ, P, E, R, S, c, k, x⟩ => ?_⟩
  refine (po_some h).run pins s σ H Q I ⟨ρ, Γ, μ, _, E, R, S, c, fun y μ1 ρ1 v H1 p1 e1 R1 d1 => ?_, x⟩
  split at p1
  · cases d1
    exact ⟨_, rfl, k _ _ _ _ p1 e1 R1⟩
  · exact p1.elim
def cutC (xs : List CV) (lo hi : Option Int) : List CV := (xs.drop (HT.sIx xs.length 0 lo)).take (HT.sIx xs.length xs.length hi - HT.sIx xs.length 0 lo)
theorem cut_den {K : PySem.W.Frag} {ρ : List Addr} {H : Hp} {vs : List V} {l : List CV} {lo hi : Option Int} (r : DenL K ρ H vs l) : DenL K ρ H (cutV vs lo hi) (cutC l lo hi) := by
  unfold cutV cutC
  rw [r.length]
  exact (r.drop _).take _
abbrev CSl := CV → Option Int → Option Int → Mu → PV → Prop
def fSl : CSl := fun x lo hi μ P => match x with
  | .str z => z.length ≤ sizeLine ∧ P (.str (cutS z lo hi)) μ
  | .tup l => P (.tup (cutC l lo hi)) μ
  | .rol l => P (.hnd μ.length) (μ ++ [.lst (cutC l lo hi)])
  | .hnd n => (match μ[n]? with
    | some (.lst l) => P (.hnd μ.length) (μ ++ [.lst (cutC l lo hi)])
    | _ => False)
  | _ => False
def rSlAny (K : PySem.W.Frag) : V → Option Int → Option Int → Hp → VK → Prop := fun x lo hi H Q => rSlL K x lo hi H Q ∨ rSlA K x lo hi H Q ∨ rSlS x lo hi H Q
theorem sl_any : SlR X (rSlAny X.K) := SlR.or sl_list (SlR.or sl_tupA sl_str)
theorem ss_any {K : PySem.W.Frag} {ρ : List Addr} {H : Hp} {μ : Mu} {x : CV} {v : V} {lo hi : Option Int} {P : PV} {Q : VK} (R : RS K ρ H μ) (d : Den K ρ H v x) (p : fSl x lo hi μ P)
    (k : ∀ z μ' ρ' u H', P z μ' → Ext ρ H ρ' H' → RS K ρ' H' μ' → Den K ρ' H' u z → Q u H') : rSlAny K v lo hi H Q := by
  have lst : ∀ {a vs l}, SqL K H a vs → DenL K ρ H vs l → P (.hnd μ.length) (μ ++ [.lst (cutC l lo hi)]) → rSlAny K (.ref a) lo hi H Q := fun {a vs l} h r p =>
    .inl ⟨a, vs, rfl, h, fun q hq => by
      obtain ⟨R2, d2⟩ := push_lst R hq (cut_den (lo := lo) (hi := hi) r)
      exact k _ _ _ _ _ p (Ext.push hq) R2 d2⟩
  unfold fSl at p
  split at p
  · cases d
    exact .inr (.inr ⟨_, rfl, p.1, k _ _ _ _ _ p.2 Ext.refl R (.str _)⟩)
  · cases d with
    | @tup a xs l h r =>
      refine .inr (.inl ⟨a, xs, rfl, h, fun hw => ?_, fun _ q hq => ?_⟩)
      · have e : cutV xs lo hi = xs := by
          unfold cutV
          rw [hw.1, hw.2]
          simp
        have r2 := cut_den (lo := lo) (hi := hi) r
        rw [e] at r2
        exact k _ _ _ _ _ p Ext.refl R (.tup h r2)
      · exact k _ _ _ _ _ p (Ext.new hq) (R.new hq) (.tup (SqT.of upd_same) ((Ext.new hq).denL (cut_den r)))
  · cases d with
    | rol h r => exact lst h.sq r p
  · split at p
    · rename_i l hl
      cases d with
      | hnd hn =>
        obtain ⟨vs, hv, r⟩ := R.ob _ _ _ hn hl
        exact lst (SqL.of hv) r p
    · exact p.elim
  · exact p.elim
def cSl (c : CE) (lo hi : COI) : CE := fun Γ μ P E => c Γ μ (fun x μ1 => lo Γ μ1 (fun l μ2 => hi Γ μ2 (fun h μ3 => fSl x l h μ3 P) E) E) E
theorem ce_sl {c : CE} {lo hi : Option Expr} {cl ch : COI} {p2 : Pos} (he : PE X e (lE X.K W c)) (hl : PO X lo (lO X.K W cl)) (hh : PO X hi (lO X.K W ch)) : PE X (.Subscript e (.Slice lo hi none p2) pos) (lE X.K W (cSl c cl ch)) :=
  PE.imp (pe_slice sl_any he hl hh) fun σ H Q ⟨ρ, Γ, μ, P, E, R, S, c, k, x⟩ =>
    ⟨ρ, Γ, μ, _, E, R, S, c, fun y μ1 ρ1 v H1 p1 e1 R1 d1 => ⟨ρ1, Γ, μ1, _, E, R1, e1.sr S, p1, fun l μ2 ρ2 H2 p2 e2 R2 => ⟨ρ2, Γ, μ2, _, E, R2, (e1.trans e2).sr S, p2, fun h μ3 ρ3 H3 p3 e3 R3 =>
      ss_any R3 ((e2.trans e3).den d1) p3 fun z μ4 ρ4 u H4 p4 e4 R4 d4 => k _ _ _ _ _ p4 (((e1.trans e2).trans e3).trans e4) R4 d4, x.ext (e1.trans e2)⟩, x.ext e1⟩, x⟩

/-! ### built-ins by values -/
abbrev CCa := List CV → Mu → PV → Prop
def CaS (K : PySem.W.Frag) (r : List V → Hp → VK → Prop) (f : CCa) : Prop := ∀ (ρ : List Addr) (H : Hp) (μ : Mu) (xs : List CV) (vs : List V) (P : PV) (Q : VK), RS K ρ H μ → DenL K ρ H vs xs → f xs μ P →
  (∀ z μ' ρ' u H', P z μ' → Ext ρ H ρ' H' → RS K ρ' H' μ' → Den K ρ' H' u z → Q u H') → r vs H Q
def cCB (f : CCa) (ca : CA) : CE := fun Γ μ P E => ca Γ μ (fun xs μ1 => f xs μ1 P) E
theorem cb_l {K : PySem.W.Frag} {r : List V → Hp → VK → Prop} {f : CCa} {ca : CA} (hs : CaS K r f) (σ : St) (H : Hp) (Q : VK) (h : lE K W (cCB f ca) σ H Q) : tCB r (lA K W ca) σ H Q := by
  obtain ⟨ρ, Γ, μ, P, E, R, S, c, k, x⟩ := h
  exact ⟨ρ, Γ, μ, _, E, R, S, c, fun xs μ1 ρ1 vs H1 p1 e1 R1 d1 => hs _ _ _ _ _ _ _ R1 d1 p1 fun z μ2 ρ2 u H2 p2 e2 R2 d2 => k _ _ _ _ _ p2 (e1.trans e2) R2 d2, x⟩
theorem ce_callB {x : Str} {p : Pos} {es : List Expr} {ca : CA} {id : String} {r : List V → Hp → VK → Prop} {f : CCa} (hc : CallR X (.builtin id) r) (hs : CaS X.K r f) (hm : X.mg x = none) (ha : PA X (e :: es) (lA X.K W ca)) (hv : bootBuiltins x = some (.builtin id)) (hg : Gl X x := by rfl)
    (hn : x ≠ "__name__" := by decide) (hdb : (x == ("__debug__" : Str)) = false := by decide) (he : starEach (e :: es) X.env = (false, eval e X.env) :: starEach es X.env := by rfl) (hpl : (backTo pos (starEach es X.env)).any (·.1) = false := by rfl) :
    PE X (.Call (.Name x p) (e :: es) [] pos) (lE X.K W (cCB f ca)) := PE.imp (pe_callB hc hg hm hv ha hn hdb he hpl) fun σ H Q h => cb_l hs σ H Q h
theorem ce_callTy {x : Str} {p : Pos} {es : List Expr} {ca : CA} {T : String} {r : List V → Hp → VK → Prop} {f : CCa} (hc : CallR X (.type T) r) (hs : CaS X.K r f) (hm : X.mg x = none) (ha : PA X (e :: es) (lA X.K W ca)) (hv : bootBuiltins x = some (.type T)) (hg : Gl X x := by rfl)
    (hn : x ≠ "__name__" := by decide) (hdb : (x == ("__debug__" : Str)) = false := by decide) (he : starEach (e :: es) X.env = (false, eval e X.env) :: starEach es X.env := by rfl) (hpl : (backTo pos (starEach es X.env)).any (·.1) = false := by rfl) :
    PE X (.Call (.Name x p) (e :: es) [] pos) (lE X.K W (cCB f ca)) := PE.imp (pe_callTy hc hg hm hv ha hn hdb he hpl) fun σ H Q h => cb_l hs σ H Q h
/-- len -/
def clen (μ : Mu) : CV → Option Nat
  | .str z => if z.length ≤ sizeLine then some z.length else none
  | .tup l => some l.length
  | .rol l => some l.length
  | .hnd n => match μ[n]? with
    | some (.lst xs) => some xs.length
    | some (.dK kvs) => some kvs.length
    | _ => none
  | _ => none
def fLen : CCa := fun xs μ P => match xs with
  | [x] => (match clen μ x with
    | some n => P (.int n) μ
    | none => False)
  | _ => False
def rLenA (K : PySem.W.Frag) : List V → Hp → VK → Prop := fun xs H Q => (∃ x n, xs = [x] ∧ LenV K x H n ∧ Q (.int n) H) ∨ (∃ d kvs, xs = [.ref d] ∧ H d = some (.dK kvs) ∧ Q (.int kvs.length) H)
theorem cr_len : CallR X (.builtin "len") (rLenA X.K) := CallR.or call_len call_lenD
theorem cs_len {K : PySem.W.Frag} : CaS K (rLenA K) fLen := fun ρ H μ xs vs P Q R d p k => by
  unfold fLen at p
  split at p
  · split at p
    · rename_i x n hn
      cases d with
      | cons d dr =>
        cases dr
        cases d with
        | str z =>
          simp only [clen] at hn
          split at hn
          · rename_i hl
            cases hn
            exact .inl ⟨_, _, rfl, ⟨hl, rfl⟩, k _ _ _ _ _ p Ext.refl R (.int _)⟩
          · cases hn
        | tup h r =>
          cases hn
          exact .inl ⟨_, _, rfl, .inr ⟨_, h, r.length.symm⟩, k _ _ _ _ _ p Ext.refl R (.int _)⟩
        | rol h r =>
          cases hn
          exact .inl ⟨_, _, rfl, .inl ⟨_, h.sq, r.length.symm⟩, k _ _ _ _ _ p Ext.refl R (.int _)⟩
        | hnd h =>
          simp only [clen] at hn
          split at hn
          · rename_i ys hx
            cases hn
            obtain ⟨vs, hv, r⟩ := R.ob _ _ _ h hx
            exact .inl ⟨_, _, rfl, .inl ⟨_, SqL.of hv, r.length.symm⟩, k _ _ _ _ _ p Ext.refl R (.int _)⟩
          · rename_i kvs hx
            cases hn
            obtain ⟨ws, hw, hk, r⟩ := R.ob _ _ _ h hx
            have e : ws.length = kvs.length := by
              have := congrArg List.length hk
              simpa using this
            refine .inr ⟨_, ws, rfl, hw, ?_⟩
            rw [e]
            exact k _ _ _ _ _ p Ext.refl R (.int _)
          · cases hn
        | non => cases hn
        | bl => cases hn
        | int => cases hn
        | glo => cases hn
        | ty => cases hn
        | exn0 => cases hn
        | exn => cases hn
    · exact p.elim
  · exact p.elim
/-- tuple(l), tuple(t) -/
def fTuple : CCa := fun xs μ P => match xs with
  | [x] => (match citems μ x with
    | some l => P (.tup l) μ
    | none => False)
  | _ => False
theorem cs_tuple {K : PySem.W.Frag} : CaS K (fun xs H Q => ∃ p ys, xs = [.ref p] ∧ ((SqL K H p ys ∧ ∀ l, H l = none → Q (.ref l) (upd H l (.tup ys))) ∨ (SqT K H p ys ∧ Q (.ref p) H))) fTuple := fun ρ H μ xs vs P Q R d p k => by
  unfold fTuple at p
  split at p
  · split at p
    · rename_i x l hl
      cases d with
      | cons d dr =>
        cases dr
        obtain ⟨a, vs, rfl, hs, r⟩ := citems_ok R d hl
        refine ⟨a, vs, rfl, ?_⟩
        rcases hs with hs | hs
        · exact .inl ⟨hs, fun q hq => k _ _ _ _ _ p (Ext.new hq) (R.new hq) (.tup (SqT.of upd_same) ((Ext.new hq).denL r))⟩
        · exact .inr ⟨hs, k _ _ _ _ _ p Ext.refl R (.tup hs r)⟩
    · exact p.elim
  · exact p.elim
/-- list(l), list(t) -/
def fList : CCa := fun xs μ P => match xs with
  | [x] => (match citems μ x with
    | some l => P (.hnd μ.length) (μ ++ [.lst l])
    | none => False)
  | _ => False
theorem cs_list {K : PySem.W.Frag} : CaS K (fun xs H Q => ∃ p ys, xs = [.ref p] ∧ (SqL K H p ys ∨ SqT K H p ys) ∧ ∀ l, H l = none → Q (.ref l) (upd H l (.lst ys))) fList := fun ρ H μ xs vs P Q R d p k => by
  unfold fList at p
  split at p
  · split at p
    · rename_i x l hl
      cases d with
      | cons d dr =>
        cases dr
        obtain ⟨a, vs, rfl, hs, r⟩ := citems_ok R d hl
        refine ⟨a, vs, rfl, hs, fun q hq => ?_⟩
        obtain ⟨R2, d2⟩ := push_lst R hq r
        exact k _ _ _ _ _ p (Ext.push hq) R2 d2
    · exact p.elim
  · exact p.elim
/-- int(n), int(b) -/
def fInt : CCa := fun xs μ P => match xs with
  | [.int i] => P (.int i) μ
  | [.bl b] => P (.int (if b then 1 else 0)) μ
  | _ => False
theorem cs_int {K : PySem.W.Frag} : CaS K (fun xs H Q => (∃ i, xs = [.int i] ∧ Q (.int i) H) ∨ ∃ k, xs = [.bl k] ∧ Q (.int (if k then 1 else 0)) H) fInt := fun ρ H μ xs vs P Q R d p k => by
  unfold fInt at p
  split at p
  · cases d with
    | cons d dr =>
      cases dr
      cases d
      exact .inl ⟨_, rfl, k _ _ _ _ _ p Ext.refl R (.int _)⟩
  · cases d with
    | cons d dr =>
      cases dr
      cases d
      exact .inr ⟨_, rfl, k _ _ _ _ _ p Ext.refl R (.int _)⟩
  · exact p.elim
def fMax2 : CCa := fun xs μ P => match xs with
  | [.int i, .int j] => P (.int (if j > i then j else i)) μ
  | _ => False
def fMin2 : CCa := fun xs μ P => match xs with
  | [.int i, .int j] => P (.int (if j < i then j else i)) μ
  | _ => False
theorem cs_max2 {K : PySem.W.Frag} : CaS K (fun xs H Q => ∃ i j, xs = [.int i, .int j] ∧ Q (.int (if j > i then j else i)) H) fMax2 := fun ρ H μ xs vs P Q R d p k => by
  unfold fMax2 at p
  split at p
  · cases d with
    | cons d dr =>
      cases dr with
      | cons d2 dr =>
        cases dr; cases d; cases d2
        exact ⟨_, _, rfl, k _ _ _ _ _ p Ext.refl R (.int _)⟩
  · exact p.elim
theorem cs_min2 {K : PySem.W.Frag} : CaS K (fun xs H Q => ∃ i j, xs = [.int i, .int j] ∧ Q (.int (if j < i then j else i)) H) fMin2 := fun ρ H μ xs vs P Q R d p k => by
  unfold fMin2 at p
  split at p
  · cases d with
    | cons d dr =>
      cases dr with
      | cons d2 dr =>
        cases dr; cases d; cases d2
        exact ⟨_, _, rfl, k _ _ _ _ _ p Ext.refl R (.int _)⟩
  · exact p.elim
/-! lists of truth values, of ints -/
def asBls : List CV → Option (List Bool)
  | [] => some []
  | .bl b :: r => (asBls r).map (b :: ·)
  | _ :: _ => none
def asInts : List CV → Option (List Int)
  | [] => some []
  | .int b :: r => (asInts r).map (b :: ·)
  | _ :: _ => none
theorem asBls_ok {K : PySem.W.Frag} {ρ : List Addr} {H : Hp} : ∀ {l : List CV} {vs : List V} {bs : List Bool}, DenL K ρ H vs l → asBls l = some bs → vs = bs.map V.bl
  | [], _, _, .nil, e => by cases e; rfl
  | .bl b :: r, _, _, .cons d dr, e => by
    cases d
    simp only [asBls] at e
    obtain ⟨bs, h1, rfl⟩ := Option.map_eq_some_iff.mp e
    rw [asBls_ok dr h1]; rfl
  | .non :: _, _, _, _, e => by cases e
  | .int _ :: _, _, _, _, e => by cases e
  | .str _ :: _, _, _, _, e => by cases e
  | .tup _ :: _, _, _, _, e => by cases e
  | .rol _ :: _, _, _, _, e => by cases e
  | .glo _ :: _, _, _, _, e => by cases e
  | .ty _ :: _, _, _, _, e => by cases e
  | .hnd _ :: _, _, _, _, e => by cases e
  | .exn _ _ _ _ :: _, _, _, _, e => by cases e
theorem asInts_ok {K : PySem.W.Frag} {ρ : List Addr} {H : Hp} : ∀ {l : List CV} {vs : List V} {bs : List Int}, DenL K ρ H vs l → asInts l = some bs → vs = bs.map V.int
  | [], _, _, .nil, e => by cases e; rfl
  | .int b :: r, _, _, .cons d dr, e => by
    cases d
    simp only [asInts] at e
    obtain ⟨bs, h1, rfl⟩ := Option.map_eq_some_iff.mp e
    rw [asInts_ok dr h1]; rfl
  | .non :: _, _, _, _, e => by cases e
  | .bl _ :: _, _, _, _, e => by cases e
  | .str _ :: _, _, _, _, e => by cases e
  | .tup _ :: _, _, _, _, e => by cases e
  | .rol _ :: _, _, _, _, e => by cases e
  | .glo _ :: _, _, _, _, e => by cases e
  | .ty _ :: _, _, _, _, e => by cases e
  | .hnd _ :: _, _, _, _, e => by cases e
  | .exn _ _ _ _ :: _, _, _, _, e => by cases e
theorem asBls_map (bs : List Bool) : asBls (bs.map CV.bl) = some bs := by
  induction bs with
  | nil => rfl
  | cons b r ih => simp [asBls, ih]
theorem asInts_map (bs : List Int) : asInts (bs.map CV.int) = some bs := by
  induction bs with
  | nil => rfl
  | cons b r ih => simp [asInts, ih]
theorem den_ints {K : PySem.W.Frag} {ρ : List Addr} {H : Hp} : ∀ ns : List Int, DenL K ρ H (ns.map V.int) (ns.map CV.int)
  | [] => .nil
  | n :: r => .cons (.int n) (den_ints r)
/-- the items of a list (not of a tuple) -/
def clist (μ : Mu) : CV → Option (List CV)
  | .rol l => some l
  | .hnd n => match μ[n]? with
    | some (.lst xs) => some xs
    | _ => none
  | _ => none
theorem clist_ok {K : PySem.W.Frag} {ρ : List Addr} {H : Hp} {μ : Mu} {v : V} {y : CV} {l : List CV} (R : RS K ρ H μ) (d : Den K ρ H v y) (h : clist μ y = some l) : ∃ a vs, v = .ref a ∧ SqL K H a vs ∧ DenL K ρ H vs l := by
  unfold clist at h
  split at h
  · cases h
    cases d with
    | rol h r => exact ⟨_, _, rfl, h.sq, r⟩
  · split at h
    · rename_i n xs hx
      cases h
      cases d with
      | hnd hn =>
        obtain ⟨vs, hv, r⟩ := R.ob _ _ _ hn hx
        exact ⟨_, _, rfl, SqL.of hv, r⟩
    · cases h
  · cases h
def fBls (g : List Bool → CV) : CCa := fun xs μ P => match xs with
  | [x] => (match (clist μ x).bind asBls with
    | some bs => P (g bs) μ
    | none => False)
  | _ => False
theorem cs_bls {K : PySem.W.Frag} {g : List Bool → V} {g' : List Bool → CV} (hg : ∀ ρ H bs, Den K ρ H (g bs) (g' bs)) : CaS K (fun vs H Q => ∃ (a : Addr) (bs : List Bool), vs = [V.ref a] ∧ SqL K H a (bs.map V.bl) ∧ Q (g bs) H) (fBls g') := fun ρ H μ xs vs P Q R d p k => by
  unfold fBls at p
  split at p
  · split at p
    · rename_i x bs hb
      obtain ⟨l, h1, h2⟩ := Option.bind_eq_some_iff.mp hb
      cases d with
      | cons d dr =>
        cases dr
        obtain ⟨a, vs, rfl, hs, r⟩ := clist_ok R d h1
        rw [asBls_ok r h2] at hs
        exact ⟨a, bs, rfl, hs, k _ _ _ _ _ p Ext.refl R (hg _ _ _)⟩
    · exact p.elim
  · exact p.elim
def fAny : CCa := fBls fun bs => .bl (bs.any id)
def fAll : CCa := fBls fun bs => .bl (bs.all id)
theorem cs_any {K : PySem.W.Frag} : CaS K (rAny K) fAny := cs_bls fun _ _ _ => .bl _
theorem cs_all {K : PySem.W.Frag} : CaS K (rAll K) fAll := cs_bls fun _ _ _ => .bl _
def fInts (C : List Int → Prop) (g : List Int → CV → Prop) : CCa := fun xs μ P => match xs with
  | [x] => (match (clist μ x).bind asInts with
    | some ns => C ns ∧ ∀ z, g ns z → P z μ
    | none => False)
  | _ => False
def fSum : CCa := fInts (fun _ => True) fun ns z => z = .int ns.sum
def fMaxL : CCa := fInts (fun ns => 0 < ns.length) fun ns z => ∃ m, z = .int m ∧ m ∈ ns ∧ ∀ y, y ∈ ns → y ≤ m
def fMinL : CCa := fInts (fun ns => 0 < ns.length) fun ns z => ∃ m, z = .int m ∧ m ∈ ns ∧ ∀ y, y ∈ ns → m ≤ y
theorem ints_of {K : PySem.W.Frag} {ρ : List Addr} {H : Hp} {μ : Mu} {v : V} {x : CV} {ns : List Int} (R : RS K ρ H μ) (d : Den K ρ H v x) (h : (clist μ x).bind asInts = some ns) : ∃ a, v = .ref a ∧ SqL K H a (ns.map V.int) := by
  obtain ⟨l, h1, h2⟩ := Option.bind_eq_some_iff.mp h
  obtain ⟨a, vs, rfl, hs, r⟩ := clist_ok R d h1
  rw [asInts_ok r h2] at hs
  exact ⟨a, rfl, hs⟩
theorem cs_sum {K : PySem.W.Frag} : CaS K (rSum K) fSum := fun ρ H μ xs vs P Q R d p k => by
  unfold fSum fInts at p
  split at p
  · split at p
    · rename_i x ns hb
      cases d with
      | cons d dr =>
        cases dr
        obtain ⟨a, rfl, hs⟩ := ints_of R d hb
        exact ⟨a, ns, rfl, hs, k _ _ _ _ _ (p.2 _ rfl) Ext.refl R (.int _)⟩
    · exact p.elim
  · exact p.elim
theorem cs_maxL {K : PySem.W.Frag} : CaS K (rMax K) fMaxL := fun ρ H μ xs vs P Q R d p k => by
  unfold fMaxL fInts at p
  split at p
  · split at p
    · rename_i x ns hb
      cases d with
      | cons d dr =>
        cases dr
        obtain ⟨a, rfl, hs⟩ := ints_of R d hb
        exact ⟨a, ns, rfl, hs, p.1, fun m h1 h2 => k _ _ _ _ _ (p.2 _ ⟨m, rfl, h1, h2⟩) Ext.refl R (.int _)⟩
    · exact p.elim
  · exact p.elim
theorem cs_minL {K : PySem.W.Frag} : CaS K (rMin K) fMinL := fun ρ H μ xs vs P Q R d p k => by
  unfold fMinL fInts at p
  split at p
  · split at p
    · rename_i x ns hb
      cases d with
      | cons d dr =>
        cases dr
        obtain ⟨a, rfl, hs⟩ := ints_of R d hb
        exact ⟨a, ns, rfl, hs, p.1, fun m h1 h2 => k _ _ _ _ _ (p.2 _ ⟨m, rfl, h1, h2⟩) Ext.refl R (.int _)⟩
    · exact p.elim
  · exact p.elim
/-- sorted(ints) -/
def fSortedI : CCa := fun xs μ P => match xs with
  | [x] => (match (clist μ x).bind asInts with
    | some ns => ∀ ns' : List Int, ns'.Perm ns → ns'.Pairwise (· ≤ ·) → P (.hnd μ.length) (μ ++ [.lst (ns'.map .int)])
    | none => False)
  | _ => False
theorem cs_sortedI {K : PySem.W.Frag} : CaS K (rSortedI K) fSortedI := fun ρ H μ xs vs P Q R d p k => by
  unfold fSortedI at p
  split at p
  · split at p
    · rename_i x ns hb
      cases d with
      | cons d dr =>
        cases dr
        obtain ⟨a, rfl, hs⟩ := ints_of R d hb
        refine ⟨a, ns, rfl, hs, fun ns' q h1 h2 hq => ?_⟩
        obtain ⟨R2, d2⟩ := push_lst R hq (den_ints ns')
        exact k _ _ _ _ _ (p ns' h1 h2) (Ext.push hq) R2 d2
    · exact p.elim
  · exact p.elim

/-! ### methods of lists -/
def MeS (K : PySem.W.Frag) (r : V → List V → Hp → VK → Prop) (f : CV → List CV → Mu → PV → Prop) : Prop := ∀ (ρ : List Addr) (H : Hp) (μ : Mu) (x : CV) (v : V) (xs : List CV) (vs : List V) (P : PV) (Q : VK), RS K ρ H μ → Den K ρ H v x → DenL K ρ H vs xs → f x xs μ P →
  (∀ z μ' ρ' u H', P z μ' → Ext ρ H ρ' H' → RS K ρ' H' μ' → Den K ρ' H' u z → Q u H') → r v vs H Q
/-- x is a list of the store -/
def isL (μ : Mu) (x : CV) : Prop := ∃ l, clist μ x = some l
def cM (f : CV → List CV → Mu → PV → Prop) (co : CE) (ca : CA) : CE := fun Γ μ P E => co Γ μ (fun x μ1 => isL μ1 x ∧ ca Γ μ1 (fun xs μ2 => f x xs μ2 P) E) E
def cM0 (f : CV → List CV → Mu → PV → Prop) (co : CE) : CE := fun Γ μ P E => co Γ μ (fun x μ1 => isL μ1 x ∧ f x [] μ1 P) E
theorem isL_ty {K : PySem.W.Frag} {ρ : List Addr} {H : Hp} {μ : Mu} {x : CV} {v : V} (R : RS K ρ H μ) (d : Den K ρ H v x) (h : isL μ x) : tyV K "list" v H := by
  obtain ⟨l, hl⟩ := h
  obtain ⟨a, vs, rfl, hs, r⟩ := clist_ok R d hl
  exact .inl ⟨rfl, vs, hs⟩
theorem ce_m {o : Expr} {es : List Expr} {co : CE} {ca : CA} {name : Str} {apos cpos : Pos} {id : String} {r : V → List V → Hp → VK → Prop} {f : CV → List CV → Mu → PV → Prop} (h : PE X (.Call (.Attribute o name apos) (e :: es) [] cpos) (tBM X.K "list" r (lE X.K W co) (lA X.K W ca)))
    (hs : MeS X.K r f) : PE X (.Call (.Attribute o name apos) (e :: es) [] cpos) (lE X.K W (cM f co ca)) :=
  PE.imp h fun σ H Q ⟨ρ, Γ, μ, P, E, R, S, c, k, x⟩ => ⟨ρ, Γ, μ, _, E, R, S, c, fun y μ1 ρ1 v H1 ⟨hl, p1⟩ e1 R1 d1 => ⟨isL_ty R1 d1 hl, ρ1, Γ, μ1, _, E, R1, e1.sr S, p1, fun xs μ2 ρ2 vs H2 p2 e2 R2 d2 =>
    hs _ _ _ _ _ _ _ _ _ R2 (e2.den d1) d2 p2 fun z μ3 ρ3 u H3 p3 e3 R3 d3 => k _ _ _ _ _ p3 ((e1.trans e2).trans e3) R3 d3, x.ext e1⟩, x⟩
theorem ce_m0 {o : Expr} {co : CE} {name : Str} {apos cpos : Pos} {r : V → List V → Hp → VK → Prop} {f : CV → List CV → Mu → PV → Prop} (h : PE X (.Call (.Attribute o name apos) [] [] cpos) (tBM0 X.K "list" r (lE X.K W co)))
    (hs : MeS X.K r f) : PE X (.Call (.Attribute o name apos) [] [] cpos) (lE X.K W (cM0 f co)) :=
  PE.imp h fun σ H Q ⟨ρ, Γ, μ, P, E, R, S, c, k, x⟩ => ⟨ρ, Γ, μ, _, E, R, S, c, fun y μ1 ρ1 v H1 ⟨hl, p1⟩ e1 R1 d1 => ⟨isL_ty R1 d1 hl,
    hs _ _ _ _ _ [] [] _ _ R1 d1 .nil p1 fun z μ3 ρ3 u H3 p3 e3 R3 d3 => k _ _ _ _ _ p3 (e1.trans e3) R3 d3⟩, x⟩
/-- a list of the store changes -/
theorem set_lst {K : PySem.W.Frag} {ρ : List Addr} {H : Hp} {μ : Mu} {n : Nat} {a : Addr} {vs : List V} {xs : List CV} (R : RS K ρ H μ) (h : ρ[n]? = some a) (d : DenL K ρ H vs xs) : RS K ρ (upd H a (.lst vs)) (μ.set n (.lst xs)) ∧ Ext ρ H ρ (upd H a (.lst vs)) := by
  obtain ⟨c0, h0, r0⟩ := R.has h
  obtain ⟨u, hu, nf⟩ := r0.some
  have E : Ext ρ H ρ (upd H a (.lst vs)) := ⟨fun _ _ q => q, TExt.at hu nf⟩
  exact R.set h ⟨vs, upd_same, E.denL d⟩
def fApp : CV → List CV → Mu → PV → Prop := fun x xs μ P => match x, xs with
  | .hnd n, [y] => (match μ[n]? with
    | some (.lst l) => l.length < sizeLine ∧ P .non (μ.set n (.lst (l ++ [y])))
    | _ => False)
  | _, _ => False
theorem ms_app {K : PySem.W.Frag} : MeS K rAppend fApp := fun ρ H μ x v xs vs P Q R d1 d2 p k => by
  unfold fApp at p
  split at p
  · split at p
    · rename_i n y l hl
      obtain ⟨hz, p⟩ := p
      cases d1 with
      | hnd hn =>
        cases d2 with
        | cons dy dr =>
          cases dr
          obtain ⟨ws, hw, r⟩ := R.ob _ _ _ hn hl
          obtain ⟨R2, e2⟩ := set_lst R hn (r.append (.cons dy .nil))
          exact ⟨_, ws, _, rfl, rfl, hw, by rw [r.length]; exact hz, k _ _ _ _ _ p e2 R2 .non⟩
    · exact p.elim
  · exact p.elim
def fPop : CV → List CV → Mu → PV → Prop := fun x xs μ P => match x, xs with
  | .hnd n, [] => (match μ[n]? with
    | some (.lst l) => (match l[l.length - 1]? with
      | some y => P y (μ.set n (.lst l.dropLast))
      | none => False)
    | _ => False)
  | _, _ => False
theorem ms_pop {K : PySem.W.Frag} : MeS K rPop fPop := fun ρ H μ x v xs vs P Q R d1 d2 p k => by
  unfold fPop at p
  split at p
  · split at p
    · rename_i n l hl
      split at p
      · rename_i y hy
        cases d1 with
        | hnd hn =>
          cases d2
          obtain ⟨ws, hw, r⟩ := R.ob _ _ _ hn hl
          obtain ⟨u, hu, du⟩ := r.get hy
          obtain ⟨R2, e2⟩ := set_lst R hn r.dropLast
          exact ⟨_, ws, u, rfl, rfl, hw, by rw [r.length]; exact hu, k _ _ _ _ _ p e2 R2 (e2.den du)⟩
      · exact p.elim
    · exact p.elim
  · exact p.elim
/-- l.pop(i), 0 ≤ i -/
def fPopAt : CV → List CV → Mu → PV → Prop := fun x xs μ P => match x, xs with
  | .hnd n, [.int i] => (match μ[n]? with
    | some (.lst l) => (0 ≤ i ∧ i < 2 ^ 63) ∧ (match l[i.toNat]? with
      | some y => P y (μ.set n (.lst (l.eraseIdx i.toNat)))
      | none => False)
    | _ => False)
  | _, _ => False
theorem ms_popAt {K : PySem.W.Frag} : MeS K rPopAt fPopAt := fun ρ H μ x v xs vs P Q R d1 d2 p k => by
  unfold fPopAt at p
  split at p
  · split at p
    · rename_i n i _ l hl
      obtain ⟨⟨h0, hb⟩, p⟩ := p
      split at p
      · rename_i y hy
        cases d1 with
        | hnd hn =>
          cases d2 with
          | cons di dr =>
            cases dr
            cases di
            obtain ⟨ws, hw, r⟩ := R.ob _ _ _ hn hl
            obtain ⟨u, hu, du⟩ := r.get hy
            obtain ⟨R2, e2⟩ := set_lst R hn (r.eraseIdx i.toNat)
            have hlt : i.toNat < ws.length := (List.getElem?_eq_some_iff.mp hu).1
            refine ⟨_, ws, i, i.toNat, u, rfl, rfl, hw, by omega, hb, ?_, hu, k _ _ _ _ _ p e2 R2 (e2.den du)⟩
            have e : (if i < 0 then i + (ws.length : Int) else i) = i := if_neg (by omega)
            have c : (decide (0 ≤ i) && decide (i < (ws.length : Int))) = true := by
              rw [Bool.and_eq_true, decide_eq_true_eq, decide_eq_true_eq]
              exact ⟨h0, by omega⟩
            simp only [seqIndex?, e, c, if_true]
      · exact p.elim
    · exact p.elim
  · exact p.elim
end
end Cl
/-! Cl5: statements, targets, loops, calls of defs. -/
namespace Cl
open PySem PySem.Spec PyProof.Rows L2
section
variable {X : Cx} {a b e : Expr} {st : Stmt} {rest : List Stmt} {W : WX} {pos : Pos}
def noX : PX := fun _ _ => False
theorem lx_no {K : PySem.W.Frag} {ρ : List Addr} {H : Hp} {σ : St} : LX K W ρ H σ noX := fun _ _ _ _ _ _ p => p.elim
theorem SR.set {K : PySem.W.Frag} {ρ : List Addr} {H : Hp} {σ : St} {Γ : Ga} {v : V} {x : CV} (S : SR K ρ H σ Γ) (d : Den K ρ H v x) (i : Nat) : SR K ρ H (σ.set i (some v)) (Γ.set i (some x)) := by
  refine ⟨by simp [S.len], fun j y h => ?_⟩
  by_cases q : i = j
  · subst q
    have hl : i < Γ.length := by
      have := (List.getElem?_eq_some_iff.mp h).1
      simpa using this
    rw [List.getElem?_set_self hl] at h
    cases h
    exact ⟨v, by rw [List.getElem?_set_self (by rw [S.len]; exact hl)], d⟩
  · rw [List.getElem?_set_ne q] at h
    obtain ⟨u, h1, h2⟩ := S.at_ j y h
    exact ⟨u, by rw [List.getElem?_set_ne q]; exact h1, h2⟩

/-! ### blocks -/
def csNil : CS := fun Γ μ D => D.nx Γ μ
def csSeq (c d : CS) : CS := fun Γ μ D => c Γ μ { D with nx := fun Γ' μ' => d Γ' μ' D }
theorem cs_nil : PSs X [] (lS X.K W csNil) := PSs.imp pss_nil fun D σ H ⟨ρ, Γ, μ, C, R, S, c, L⟩ => L.nx _ _ _ _ _ c Ext.refl R S
theorem seq_l {K : PySem.W.Frag} {c d : CS} (D : Ends) (σ : St) (H : Hp) (h : lS K W (csSeq c d) D σ H) : tSeq (lS K W c) (lS K W d) D σ H := by
  obtain ⟨ρ, Γ, μ, C, R, S, c, L⟩ := h
  exact ⟨ρ, Γ, μ, _, R, S, c, ⟨fun Γ' μ' ρ' σ' H' p e R' S' => ⟨ρ', Γ', μ', C, R', S', p, L.ext e⟩, L.rt, L.bk, L.ct, L.ex⟩⟩
theorem cs_cons {c d : CS} (h1 : PS X st (lS X.K W c)) (h2 : PSs X rest (lS X.K W d)) : PSs X (st :: rest) (lS X.K W (csSeq c d)) := PSs.imp (pss_cons h1 h2) seq_l
theorem cs_one {c : CS} (h1 : PS X st (lS X.K W c)) : PSs X [st] (lS X.K W c) := pss_one h1
theorem cs_pass : PS X (.Pass pos) (lS X.K W csNil) := PS.imp ps_pass fun D σ H ⟨ρ, Γ, μ, C, R, S, c, L⟩ => L.nx _ _ _ _ _ c Ext.refl R S
def csBreak : CS := fun Γ μ D => D.bk Γ μ
def csCont : CS := fun Γ μ D => D.ct Γ μ
theorem cs_break : PS X (.Break pos) (lS X.K W csBreak) := PS.imp ps_break fun D σ H ⟨ρ, Γ, μ, C, R, S, c, L⟩ => L.bk _ _ _ _ _ c Ext.refl R S
theorem cs_continue : PS X (.Continue pos) (lS X.K W csCont) := PS.imp ps_continue fun D σ H ⟨ρ, Γ, μ, C, R, S, c, L⟩ => L.ct _ _ _ _ _ c Ext.refl R S
theorem cs_doc {x j pos pos'} : PS X (.Expr (.Constant (.str x) j pos) pos') (lS X.K W csNil) := PS.imp ps_doc fun D σ H ⟨ρ, Γ, μ, C, R, S, c, L⟩ => L.nx _ _ _ _ _ c Ext.refl R S
def csExpr (c : CE) : CS := fun Γ μ D => c Γ μ (fun _ μ1 => D.nx Γ μ1) fun x μ1 => D.ex x Γ μ1
theorem cs_expr {c : CE} (h : PS X st (tDrop (lE X.K W c))) : PS X st (lS X.K W (csExpr c)) := PS.imp h fun D σ H ⟨ρ, Γ, μ, C, R, S, c, L⟩ =>
  ⟨ρ, Γ, μ, _, _, R, S, c, fun x μ1 ρ1 v H1 p1 e1 R1 d1 => L.nx _ _ _ _ _ p1 e1 R1 (e1.sr S), L.lx S⟩
def csRet (c : CE) : CS := fun Γ μ D => c Γ μ D.rt fun x μ1 => D.ex x Γ μ1
theorem cs_ret {c : CE} (h : PE X e (lE X.K W c)) : PS X (.Return (some e) pos) (lS X.K W (csRet c)) := PS.imp (ps_ret h) fun D σ H ⟨ρ, Γ, μ, C, R, S, c, L⟩ =>
  ⟨ρ, Γ, μ, _, _, R, S, c, fun x μ1 ρ1 v H1 p1 e1 R1 d1 => L.rt _ _ _ _ _ p1 e1 R1 d1, L.lx S⟩
def csRetN : CS := fun _ μ D => D.rt .non μ
theorem cs_retN : PS X (.Return none pos) (lS X.K W csRetN) := PS.imp ps_retN fun D σ H ⟨ρ, Γ, μ, C, R, S, c, L⟩ => L.rt _ _ _ _ _ c Ext.refl R .non
def csIf (t : CT) (c d : CS) : CS := fun Γ μ D => t Γ μ (fun b μ1 => if b = true then c Γ μ1 D else d Γ μ1 D) fun x μ1 => D.ex x Γ μ1
theorem cs_if {i : Expr} {x y : List Stmt} {t : CT} {c d : CS} (ht : PT X i (lT X.K W t)) (h1 : PSs X x (lS X.K W c)) (h2 : PSs X y (lS X.K W d)) : PS X (.If i x y pos) (lS X.K W (csIf t c d)) := PS.imp (ps_if ht h1 h2) fun D σ H ⟨ρ, Γ, μ, C, R, S, c, L⟩ =>
  ⟨ρ, Γ, μ, _, _, R, S, c, fun b μ1 ρ1 H1 p1 e1 R1 => by
    cases b with
    | true => exact ⟨ρ1, Γ, μ1, C, R1, e1.sr S, p1, L.ext e1⟩
    | false => exact ⟨ρ1, Γ, μ1, C, R1, e1.sr S, p1, L.ext e1⟩, L.lx S⟩

/-! ### targets: those of the slots vs -/
abbrev CG := CV → Ga → Mu → (Ga → Mu → Prop) → Prop
abbrev CGs := List CV → Ga → Mu → (Ga → Mu → Prop) → Prop
/-- outside vs the slots are as they were -/
def Off (vs : List Nat) (σ σ' : St) : Prop := σ'.length = σ.length ∧ ∀ j, j ∉ vs → σ'[j]? = σ[j]?
theorem Off.refl {vs : List Nat} {σ : St} : Off vs σ σ := ⟨rfl, fun _ _ => rfl⟩
theorem Off.trans {vs : List Nat} {σ σ1 σ2 : St} (a : Off vs σ σ1) (b : Off vs σ1 σ2) : Off vs σ σ2 := ⟨b.1.trans a.1, fun j h => (b.2 j h).trans (a.2 j h)⟩
theorem Off.set {vs : List Nat} {σ : St} {i : Nat} {x : Option V} (h : i ∈ vs) : Off vs σ (σ.set i x) := ⟨by simp, fun j hj => by
  rw [List.getElem?_set_ne]
  intro z
  subst z
  exact hj h⟩
def lG (K : PySem.W.Frag) (vs : List Nat) (g : CG) : TG := fun v σ H Q => ∃ ρ Γ μ x, ∃ P : Ga → Mu → Prop, RS K ρ H μ ∧ SR K ρ H σ Γ ∧ Den K ρ H v x ∧ g x Γ μ P ∧
  ∀ Γ' μ' ρ' σ' H', P Γ' μ' → Ext ρ H ρ' H' → RS K ρ' H' μ' → SR K ρ' H' σ' Γ' → Off vs σ σ' → Q σ' H'
def lGs (K : PySem.W.Frag) (vs : List Nat) (g : CGs) : TGs := fun v σ H Q => ∃ ρ Γ μ x, ∃ P : Ga → Mu → Prop, RS K ρ H μ ∧ SR K ρ H σ Γ ∧ DenL K ρ H v x ∧ g x Γ μ P ∧
  ∀ Γ' μ' ρ' σ' H', P Γ' μ' → Ext ρ H ρ' H' → RS K ρ' H' μ' → SR K ρ' H' σ' Γ' → Off vs σ σ' → Q σ' H'
theorem PG.imp {t t' : TG} (h : PG X e t) (i : ∀ v σ H Q, t' v σ H Q → t v σ H Q) : PG X e t' := ⟨fun pins s σ H v u Q I r w => h.run pins s σ H v u Q I r (i v σ H Q w)⟩
theorem PGs.imp {es : List Expr} {t t' : TGs} (h : PGs X es t) (i : ∀ v σ H Q, t' v σ H Q → t v σ H Q) : PGs X es t' := ⟨fun pins s σ H v u Q I r w => h.run pins s σ H v u Q I r (i v σ H Q w)⟩
def cgName (i : Nat) : CG := fun x Γ μ P => P (Γ.set i (some x)) μ
theorem cg_name {i : Nat} {vs : List Nat} (h : PG X e (gName i)) (hi : i ∈ vs := by decide) : PG X e (lG X.K vs (cgName i)) := PG.imp h fun v σ H Q ⟨ρ, Γ, μ, x, P, R, S, d, g, k⟩ => k _ _ _ _ _ g Ext.refl R (S.set d i) (Off.set hi)
def cgNil : CGs := fun xs Γ μ P => match xs with
  | [] => P Γ μ
  | _ => False
def cgCons (g : CG) (gs : CGs) : CGs := fun xs Γ μ P => match xs with
  | x :: r => g x Γ μ fun Γ' μ' => gs r Γ' μ' P
  | _ => False
theorem cg_nil {vs : List Nat} : PGs X [] (lGs X.K vs cgNil) := PGs.imp pgs_nil fun v σ H Q ⟨ρ, Γ, μ, x, P, R, S, d, g, k⟩ => by
  unfold cgNil at g
  split at g
  · cases d
    exact ⟨rfl, k _ _ _ _ _ g Ext.refl R S Off.refl⟩
  · exact g.elim
theorem cg_cons {es : List Expr} {vs : List Nat} {g : CG} {gs : CGs} (h1 : PG X e (lG X.K vs g)) (h2 : PGs X es (lGs X.K vs gs)) (hs : (assignEach (e :: es) X.env).map (·.2) = assign e X.env :: (assignEach es X.env).map (·.2) := by rfl) : PGs X (e :: es) (lGs X.K vs (cgCons g gs)) :=
  PGs.imp (pgs_cons h1 h2 hs) fun v σ H Q ⟨ρ, Γ, μ, x, P, R, S, d, g, k⟩ => by
    unfold cgCons at g
    split at g
    · cases d with
      | cons d dr =>
        exact ⟨_, _, rfl, ρ, Γ, μ, _, _, R, S, d, g, fun Γ' μ' ρ' σ' H' p e R' S' o => ⟨ρ', Γ', μ', _, P, R', S', e.denL dr, p, fun Γ2 μ2 ρ2 σ2 H2 p2 e2 R2 S2 o2 => k _ _ _ _ _ p2 (e.trans e2) R2 S2 (o.trans o2)⟩⟩
    · exact g.elim
/-- (a, b, ..) = a tuple -/
def cgTup (n : Nat) (gs : CGs) : CG := fun x Γ μ P => match x with
  | .tup l => l.length = n ∧ gs l Γ μ P
  | _ => False
theorem cg_tup {es : List Expr} {vs : List Nat} {gs : CGs} {n k : Nat} (hc : X.calm = true) (h : PGs X es (lGs X.K vs gs)) (hn : (assignEach es X.env).length = n := by rfl) (hst : (assignEach es X.env).findIdx? (·.1) = none := by rfl) : PG X (.Tuple es k pos) (lG X.K vs (cgTup n gs)) :=
  PG.imp (pg_tup hc h hn hst) fun v σ H Q ⟨ρ, Γ, μ, x, P, R, S, d, g, k⟩ => by
    unfold cgTup at g
    split at g
    · cases d with
      | tup ht r => exact ⟨_, _, rfl, ht, r.length.trans g.1, ρ, Γ, μ, _, P, R, S, r, g.2, k⟩
    · exact g.elim
/-- o[i] = x -/
def PSetS (K : PySem.W.Frag) (r : TSet) (f : CV → CV → CV → Mu → (Mu → Prop) → Prop) : Prop := ∀ (ρ : List Addr) (H : Hp) (μ : Mu) (x y z : CV) (u v w : V) (P : Mu → Prop) (Q : Hp → Prop), RS K ρ H μ → Den K ρ H u x → Den K ρ H v y → Den K ρ H w z → f x y z μ P →
  (∀ μ' ρ' H', P μ' → Ext ρ H ρ' H' → RS K ρ' H' μ' → Q H') → r u v w H Q
def cgSub (co ci : CE) (f : CV → CV → CV → Mu → (Mu → Prop) → Prop) : CG := fun z Γ μ P => co Γ μ (fun x μ1 => ci Γ μ1 (fun y μ2 => f x y z μ2 (fun μ3 => P Γ μ3)) noX) noX
theorem cg_sub {co ci : CE} {vs : List Nat} {r : TSet} {f : CV → CV → CV → Mu → (Mu → Prop) → Prop} (h : PG X e (gSub (lE X.K W co) (lE X.K W ci) r)) (hs : PSetS X.K r f) : PG X e (lG X.K vs (cgSub co ci f)) :=
  PG.imp h fun v σ H Q ⟨ρ, Γ, μ, x, P, R, S, d, g, k⟩ => ⟨ρ, Γ, μ, _, _, R, S, g, fun x1 μ1 ρ1 v1 H1 p1 e1 R1 d1 => ⟨ρ1, Γ, μ1, _, _, R1, e1.sr S, p1, fun x2 μ2 ρ2 v2 H2 p2 e2 R2 d2 =>
    hs _ _ _ _ _ _ _ _ _ _ _ R2 (e2.den d1) d2 ((e1.trans e2).den d) p2 fun μ3 ρ3 H3 p3 e3 R3 => k _ _ _ _ _ p3 ((e1.trans e2).trans e3) R3 (((e1.trans e2).trans e3).sr S) Off.refl, lx_no⟩, lx_no⟩
def fSetL : CV → CV → CV → Mu → (Mu → Prop) → Prop := fun x y z μ P => match x, y with
  | .hnd n, .int i => (match μ[n]? with
    | some (.lst l) => (match ixN l.length i with
      | some j => P (μ.set n (.lst (l.set j z)))
      | none => False)
    | _ => False)
  | _, _ => False
theorem ss_setL {K : PySem.W.Frag} : PSetS K rSetL fSetL := fun ρ H μ x y z u v w P Q R d1 d2 d3 p k => by
  unfold fSetL at p
  split at p
  · split at p
    · rename_i n i _ l hl
      split at p
      · rename_i j hj
        cases d1 with
        | hnd hn =>
          cases d2
          obtain ⟨ws, hw, r⟩ := R.ob _ _ _ hn hl
          obtain ⟨R2, e2⟩ := set_lst R hn (r.set d3 j)
          exact ⟨_, ws, _, j, rfl, rfl, hw, by rw [r.length]; exact hj, k _ _ _ p e2 R2⟩
      · exact p.elim
    · exact p.elim
  · exact p.elim

/-! ### assignments -/
def csAsg (c : CE) (g : CG) : CS := fun Γ μ D => c Γ μ (fun x μ1 => g x Γ μ1 D.nx) fun x μ1 => D.ex x Γ μ1
theorem asg_l {K : PySem.W.Frag} {c : CE} {g : CG} {vs : List Nat} (D : Ends) (σ : St) (H : Hp) (h : lS K W (csAsg c g) D σ H) : tAsg (lE K W c) (lG K vs g) D σ H := by
  obtain ⟨ρ, Γ, μ, C, R, S, c, L⟩ := h
  exact ⟨ρ, Γ, μ, _, _, R, S, c, fun x μ1 ρ1 v H1 p1 e1 R1 d1 => ⟨ρ1, Γ, μ1, x, _, R1, e1.sr S, d1, p1, fun Γ' μ' ρ' σ' H' p e R' S' _ => L.nx _ _ _ _ _ p (e1.trans e) R' S'⟩, L.lx S⟩
theorem cs_asg {c : CE} {g : CG} {vs : List Nat} (h : PS X st (tAsg (lE X.K W c) (lG X.K vs g))) : PS X st (lS X.K W (csAsg c g)) := PS.imp h asg_l
/-- name = e -/
def csSet (i : Nat) (c : CE) : CS := fun Γ μ D => c Γ μ (fun x μ1 => D.nx (Γ.set i (some x)) μ1) fun x μ1 => D.ex x Γ μ1
theorem set_l {K : PySem.W.Frag} {c : CE} {i : Nat} (D : Ends) (σ : St) (H : Hp) (h : lS K W (csSet i c) D σ H) : tAsg (lE K W c) (gName i) D σ H := by
  obtain ⟨ρ, Γ, μ, C, R, S, c, L⟩ := h
  exact ⟨ρ, Γ, μ, _, _, R, S, c, fun x μ1 ρ1 v H1 p1 e1 R1 d1 => L.nx _ _ _ _ _ p1 e1 R1 ((e1.sr S).set d1 i), L.lx S⟩
theorem cs_set {c : CE} {i : Nat} (h : PS X st (tAsg (lE X.K W c) (gName i))) : PS X st (lS X.K W (csSet i c)) := PS.imp h set_l
/-- name op= e -/
def csAug (i : Nat) (f : COp) (c : CE) : CS := fun Γ μ D => match Γ[i]? with
  | some (some x) => c Γ μ (fun y μ1 => f x y μ1 fun z μ2 => D.nx (Γ.set i (some z)) μ2) fun x μ1 => D.ex x Γ μ1
  | _ => False
theorem cs_aug {c : CE} {i : Nat} {ti : TIp} {f : COp} (h : PS X st (tAug i (lE X.K W c) ti)) (hs : OpS X.K ti f) : PS X st (lS X.K W (csAug i f c)) := PS.imp h fun D σ H ⟨ρ, Γ, μ, C, R, S, c, L⟩ => by
  unfold csAug at c
  split at c
  · rename_i x hx
    obtain ⟨v, hv, dv⟩ := S.at_ i x hx
    exact ⟨v, hv, ρ, Γ, μ, _, _, R, S, c, fun y μ1 ρ1 w H1 p1 e1 R1 d1 => hs _ _ _ _ _ _ _ _ _ R1 (e1.den dv) d1 p1 fun z μ2 ρ2 u H2 p2 e2 R2 d2 => L.nx _ _ _ _ _ p2 (e1.trans e2) R2 (((e1.trans e2).sr S).set d2 i), L.lx S⟩
  · exact c.elim
theorem os_ipI {K : PySem.W.Frag} {f : Int → Int → Int} : OpS K (ipI f) (fI0 fun i j => .int (f i j)) := fun ρ H μ x y v w P Q R d1 d2 p k => by
  unfold fI0 at p
  split at p
  · cases d1; cases d2
    exact ⟨_, _, rfl, rfl, k _ _ _ _ _ p Ext.refl R (.int _)⟩
  · exact p.elim

/-! ### what is walked -/
/-- J yields the items, while ok holds of the store -/
structure Walks (K : PySem.W.Frag) (ρ : List Addr) (H : Hp) (items : List CV) (ok : Mu → Prop) (J : It) : Prop where
  stop : ∀ ρ' H' μ', Ext ρ H ρ' H' → RS K ρ' H' μ' → ok μ' → J.stop items.length H'
  go : ∀ i ρ' H' μ', i < items.length → Ext ρ H ρ' H' → RS K ρ' H' μ' → ok μ' → J.go i H'
  yld : ∀ i x ρ' H' μ' v H2, items[i]? = some x → Ext ρ H ρ' H' → RS K ρ' H' μ' → ok μ' → J.yld i H' v H2 → Ext ρ' H' ρ' H2 ∧ RS K ρ' H2 μ' ∧ Den K ρ' H2 v x
abbrev CI := Ga → Mu → (List CV → (Mu → Prop) → Mu → Prop) → PX → Prop
def lI (K : PySem.W.Frag) (W : WX) (c : CI) : TI := fun σ H R => ∃ ρ Γ μ, ∃ (P : List CV → (Mu → Prop) → Mu → Prop) (E : PX), RS K ρ H μ ∧ SR K ρ H σ Γ ∧ c Γ μ P E ∧
  (∀ items ok μ' ρ' H' J, P items ok μ' → Ext ρ H ρ' H' → RS K ρ' H' μ' → Walks K ρ' H' items ok J → R J H') ∧ LX K W ρ H σ E
theorem PI.imp {tg : Expr} {t t' : TI} (h : PI X tg e t) (i : ∀ σ H R, t' σ H R → t σ H R) : PI X tg e t' := ⟨fun pins s σ H R I w => h.run pins s σ H R I (i σ H R w)⟩
/-- a tuple or a list -/
def ciSeq (c : CE) : CI := fun Γ μ P E => c Γ μ (fun x μ1 => match x with
  | .tup l => P l (fun _ => True) μ1
  | .rol l => P l (fun _ => True) μ1
  | .hnd n => (match μ1[n]? with
    | some (.lst l) => P l (fun μ' => μ'[n]? = some (.lst l)) μ1
    | _ => False)
  | _ => False) E
theorem walks_tup {K : PySem.W.Frag} {ρ : List Addr} {H : Hp} {a : Addr} {vs : List V} {l : List CV} (h : SqT K H a vs) (r : DenL K ρ H vs l) (inj : ∀ H' ys zs, SqT K H' a ys → SqT K H' a zs → ys = zs) : Walks K ρ H l (fun _ => True) (Itt K a) where
  stop := fun ρ' H' μ' e R _ => ⟨vs, sqT_ext e.t h, by rw [r.length]; exact Nat.le_refl _⟩
  go := fun i ρ' H' μ' hi e R _ => ⟨vs, vs[i]'(by rw [r.length]; exact hi), sqT_ext e.t h, List.getElem?_eq_getElem _⟩
  yld := fun i x ρ' H' μ' v H2 hx e R _ ⟨e2, hy⟩ => by
    subst e2
    obtain ⟨u, hu, du⟩ := r.get hx
    have q := hy vs (sqT_ext e.t h)
    rw [hu] at q
    cases q
    exact ⟨Ext.refl, R, e.den du⟩
theorem walks_tup' {K : PySem.W.Frag} {ρ : List Addr} {H : Hp} {a : Addr} {vs : List V} {l : List CV} (h : SqT K H a vs) (r : DenL K ρ H vs l) : Walks K ρ H l (fun _ => True) (Itt K a) where
  stop := fun ρ' H' μ' e R _ => ⟨vs, sqT_ext e.t h, by rw [r.length]; exact Nat.le_refl _⟩
  go := fun i ρ' H' μ' hi e R _ => ⟨vs, vs[i]'(by rw [r.length]; exact hi), sqT_ext e.t h, List.getElem?_eq_getElem _⟩
  yld := fun i x ρ' H' μ' v H2 hx e R _ ⟨e2, hy⟩ => by
    subst e2
    obtain ⟨u, hu, du⟩ := r.get hx
    have q := hy vs (sqT_ext e.t h)
    rw [hu] at q
    cases q
    exact ⟨Ext.refl, R, e.den du⟩
theorem walks_rol {K : PySem.W.Frag} {ρ : List Addr} {H : Hp} {a : Addr} {vs : List V} {l : List CV} (h : RoL K H a vs) (r : DenL K ρ H vs l) : Walks K ρ H l (fun _ => True) (Itl K a) where
  stop := fun ρ' H' μ' e R _ => ⟨vs, (h.ext e.t).sq, by rw [r.length]; exact Nat.le_refl _⟩
  go := fun i ρ' H' μ' hi e R _ => ⟨vs, vs[i]'(by rw [r.length]; exact hi), (h.ext e.t).sq, List.getElem?_eq_getElem _⟩
  yld := fun i x ρ' H' μ' v H2 hx e R _ ⟨e2, hy⟩ => by
    subst e2
    obtain ⟨u, hu, du⟩ := r.get hx
    have q := hy vs (h.ext e.t).sq
    rw [hu] at q
    cases q
    exact ⟨Ext.refl, R, e.den du⟩
theorem walks_lst {K : PySem.W.Frag} {ρ : List Addr} {H : Hp} {n : Nat} {a : Addr} {l : List CV} (hn : ρ[n]? = some a) : Walks K ρ H l (fun μ' => μ'[n]? = some (.lst l)) (Itl K a) where
  stop := fun ρ' H' μ' e R ok => by
    obtain ⟨vs, hv, r⟩ := R.ob _ _ _ (e.r _ _ hn) ok
    exact ⟨vs, SqL.of hv, by rw [r.length]; exact Nat.le_refl _⟩
  go := fun i ρ' H' μ' hi e R ok => by
    obtain ⟨vs, hv, r⟩ := R.ob _ _ _ (e.r _ _ hn) ok
    exact ⟨vs, vs[i]'(by rw [r.length]; exact hi), SqL.of hv, List.getElem?_eq_getElem _⟩
  yld := fun i x ρ' H' μ' v H2 hx e R ok ⟨e2, hy⟩ => by
    subst e2
    obtain ⟨vs, hv, r⟩ := R.ob _ _ _ (e.r _ _ hn) ok
    obtain ⟨u, hu, du⟩ := r.get hx
    have q := hy vs (SqL.of hv)
    rw [hu] at q
    cases q
    exact ⟨Ext.refl, R, du⟩
/-- list or tuple: whichever it is -/
def iAny (K : PySem.W.Frag) (te : TE) : TI := fun σ H R => te σ H fun x H1 => ∃ a, x = .ref a ∧ (((∃ xs, SqL K H1 a xs) ∧ R (Itl K a) H1) ∨ ((∃ xs, SqT K H1 a xs) ∧ R (Itt K a) H1))
theorem pi_any {tg : Expr} {te : TE} (h : PE X e te) : PI X tg e (iAny X.K te) := by
  refine ⟨fun pins s σ H R I hw => ?_⟩
  refine thn (h.run pins s σ H _ I hw) fun v s1 ⟨x, H1, I1, r1, q1⟩ => ?_
  obtain ⟨a, e, q⟩ := q1
  subst e
  cases r1
  have base : ∀ (J : It) (tn : Nat → Heap → Prop), Turn X.prog X.w X.K tg J [s1.heap.objs.size] s1.heap.objs.size tn → True := fun _ _ _ => trivial
  rcases q with ⟨⟨xs, hq⟩, q⟩ | ⟨⟨xs, hq⟩, q⟩
  · obtain ⟨its, rv, p, hz⟩ := I1.list hq
    refine wpAny_pyIter_list p.isList ?_
    refine ⟨s1.heap.objs.size, [s1.heap.objs.size], _, _, H1, rfl, I1.kept (t' := s1.toks) fun b o e => Heap.get?_push_of_some _ e, turn_list a _, ⟨_, Heap.get?_push_size _ rfl, rfl, rfl⟩, fun b hb => ?_, q⟩
    have e : b = s1.heap.objs.size := by simpa using hb
    subst e
    exact I1.fpOk (Nat.le_refl _) (I1.hok.fresh (Nat.le_refl _))
  · obtain ⟨its, rv, p, hz⟩ := I1.tuple hq
    refine wpAny_pyIter_tuple (show s1.heap.IsTuple a its.toArray from p) ?_
    refine ⟨s1.heap.objs.size, [s1.heap.objs.size], _, _, H1, rfl, I1.kept (t' := s1.toks) fun b o e => Heap.get?_push_of_some _ e, turn_tuple a _, ⟨_, Heap.get?_push_size _ rfl, rfl, rfl⟩, fun b hb => ?_, q⟩
    have e : b = s1.heap.objs.size := by simpa using hb
    subst e
    exact I1.fpOk (Nat.le_refl _) (I1.hok.fresh (Nat.le_refl _))
theorem ci_seq {tg : Expr} {c : CE} (h : PE X e (lE X.K W c)) : PI X tg e (lI X.K W (ciSeq c)) := PI.imp (pi_any h) fun σ H R0 ⟨ρ, Γ, μ, P, E, R, S, c, k, x⟩ =>
  ⟨ρ, Γ, μ, _, E, R, S, c, fun y μ1 ρ1 v H1 p1 e1 R1 d1 => by
    split at p1
    · cases d1 with
      | tup ht r => exact ⟨_, rfl, .inr ⟨⟨_, ht⟩, k _ _ _ _ _ _ p1 e1 R1 (walks_tup' ht r)⟩⟩
    · cases d1 with
      | rol ht r => exact ⟨_, rfl, .inl ⟨⟨_, ht.sq⟩, k _ _ _ _ _ _ p1 e1 R1 (walks_rol ht r)⟩⟩
    · split at p1
      · rename_i n _ l hl
        cases d1 with
        | hnd hn =>
          obtain ⟨vs, hv, r⟩ := R1.ob _ _ _ hn hl
          exact ⟨_, rfl, .inl ⟨⟨vs, SqL.of hv⟩, k _ _ _ _ _ _ p1 e1 R1 (walks_lst hn)⟩⟩
      · exact p1.elim
    · exact p1.elim, x⟩
/-- range -/
def rangeC (lo hi : Int) : List CV := (List.range (hi - lo).toNat).map fun i : Nat => .int (lo + (i : Int))
theorem rangeC_len (lo hi : Int) : (rangeC lo hi).length = (hi - lo).toNat := by simp [rangeC]
theorem walks_rng {K : PySem.W.Frag} {ρ : List Addr} {H : Hp} {lo hi : Int} : Walks K ρ H (rangeC lo hi) (fun _ => True) (Itr lo (hi - lo).toNat) where
  stop := fun ρ' H' μ' e R _ => by
    show (hi - lo).toNat ≤ (rangeC lo hi).length
    rw [rangeC_len]
    exact Nat.le_refl _
  go := fun i ρ' H' μ' hi' e R _ => by
    rw [rangeC_len] at hi'
    exact hi'
  yld := fun i x ρ' H' μ' v H2 hx e R _ ⟨e2, hy⟩ => by
    subst e2
    subst hy
    unfold rangeC at hx
    rw [List.getElem?_map] at hx
    obtain ⟨j, h1, h2⟩ := Option.map_eq_some_iff.mp hx
    have hj : j = i := by
      obtain ⟨_, q⟩ := List.getElem?_eq_some_iff.mp h1
      simpa using q.symm
    subst hj
    subst h2
    exact ⟨Ext.refl, R, .int _⟩
def ciRange1 (c : CA) : CI := fun Γ μ P E => c Γ μ (fun xs μ1 => match xs with
  | [.int j] => (-(2 ^ 62) ≤ j ∧ j < 2 ^ 62) ∧ P (rangeC 0 j) (fun _ => True) μ1
  | _ => False) E
def ciRange2 (c : CA) : CI := fun Γ μ P E => c Γ μ (fun xs μ1 => match xs with
  | [.int i, .int j] => (-(2 ^ 62) ≤ i ∧ i < 2 ^ 62 ∧ -(2 ^ 62) ≤ j ∧ j < 2 ^ 62) ∧ P (rangeC i j) (fun _ => True) μ1
  | _ => False) E
theorem ci_range1 {tg : Expr} {c : CA} (h : PI X tg e (iRng1 (lA X.K W c))) : PI X tg e (lI X.K W (ciRange1 c)) := PI.imp h fun σ H R0 ⟨ρ, Γ, μ, P, E, R, S, c, k, x⟩ =>
  ⟨ρ, Γ, μ, _, E, R, S, c, fun y μ1 ρ1 v H1 p1 e1 R1 d1 => by
    split at p1
    · rename_i j
      cases d1 with
      | cons d dr =>
        cases dr; cases d
        have q := k _ _ _ _ _ _ p1.2 e1 R1 walks_rng
        have e0 : (j - 0).toNat = j.toNat := by rw [Int.sub_zero]
        rw [e0] at q
        exact ⟨j, rfl, p1.1.1, p1.1.2, q⟩
    · exact p1.elim, x⟩
theorem ci_range2 {tg : Expr} {c : CA} (h : PI X tg e (iRng2 (lA X.K W c))) : PI X tg e (lI X.K W (ciRange2 c)) := PI.imp h fun σ H R0 ⟨ρ, Γ, μ, P, E, R, S, c, k, x⟩ =>
  ⟨ρ, Γ, μ, _, E, R, S, c, fun y μ1 ρ1 v H1 p1 e1 R1 d1 => by
    split at p1
    · cases d1 with
      | cons d dr =>
        cases dr with
        | cons d2 dr =>
          cases dr; cases d; cases d2
          exact ⟨_, _, rfl, p1.1, k _ _ _ _ _ _ p1.2 e1 R1 walks_rng⟩
    · exact p1.elim, x⟩

/-! ### for -/
def cForGo (ok : Mu → Prop) (g : CG) (body : CS) : List CV → Ga → Mu → CEnds → Prop
  | [], Γ, μ, D => ok μ ∧ D.nx Γ μ
  | x :: xs, Γ, μ, D => ok μ ∧ g x Γ μ fun Γ' μ' => body Γ' μ' { D with nx := fun Γ2 μ2 => cForGo ok g body xs Γ2 μ2 D, ct := fun Γ2 μ2 => cForGo ok g body xs Γ2 μ2 D, bk := D.nx }
def csFor (ci : CI) (g : CG) (body : CS) : CS := fun Γ μ D => ci Γ μ (fun items ok μ1 => cForGo ok g body items Γ μ1 D) fun x μ1 => D.ex x Γ μ1
theorem for_l {K : PySem.W.Frag} {ci : CI} {g : CG} {vs : List Nat} {body : CS} (D : Ends) (σ : St) (H : Hp) (h : lS K W (csFor ci g body) D σ H) : tFor (lI K W ci) (lG K vs g) (lS K W body) D σ H := by
  obtain ⟨ρ, Γ, μ, C, R, S, c, L⟩ := h
  refine ⟨ρ, Γ, μ, _, _, R, S, c, fun items ok μ1 ρ1 H1 J p1 e1 R1 w => ?_, L.lx S⟩
  refine ⟨fun i m σ' H' => m = items.length - i ∧ i ≤ items.length ∧ ∃ ρ' Γ' μ', Ext ρ1 H1 ρ' H' ∧ RS K ρ' H' μ' ∧ SR K ρ' H' σ' Γ' ∧ cForGo ok g body (items.drop i) Γ' μ' C,
    ⟨items.length, by simp, Nat.zero_le _, ρ1, Γ, μ1, Ext.refl, R1, e1.sr S, by simpa using p1⟩, ?_⟩
  rintro i m σ' H' ⟨rfl, hi, ρ', Γ', μ', e', R', S', q⟩
  by_cases hlt : i < items.length
  · have ed : items.drop i = items[i] :: items.drop (i + 1) := List.drop_eq_getElem_cons hlt
    rw [ed] at q
    obtain ⟨hok, q⟩ := q
    refine .inr ⟨w.go i ρ' H' μ' hlt e' R' hok, fun σ2 H2 => (fun i m σ' H' => m = items.length - i ∧ i ≤ items.length ∧ ∃ ρ' Γ' μ', Ext ρ1 H1 ρ' H' ∧ RS K ρ' H' μ' ∧ SR K ρ' H' σ' Γ' ∧ cForGo ok g body (items.drop i) Γ' μ' C) (i + 1) (items.length - (i + 1)) σ2 H2, fun σ2 H2 h2 => ⟨_, by omega, h2⟩, fun x H2 hy => ?_⟩
    obtain ⟨e2, R2, d2⟩ := w.yld i items[i] ρ' H' μ' x H2 (List.getElem?_eq_getElem hlt) e' R' hok hy
    refine ⟨ρ', Γ', μ', items[i], _, R2, e2.sr S', d2, q, fun Γ3 μ3 ρ3 σ3 H3 p3 e3 R3 S3 _ => ?_⟩
    have e03 : Ext ρ1 H1 ρ3 H3 := (e'.trans e2).trans e3
    refine ⟨ρ3, Γ3, μ3, _, R3, S3, p3, ⟨fun Γ4 μ4 ρ4 σ4 H4 p4 e4 R4 S4 => ⟨rfl, hlt, ρ4, Γ4, μ4, e03.trans e4, R4, S4, p4⟩, fun x4 μ4 ρ4 v4 H4 p4 e4 R4 d4 => L.rt _ _ _ _ _ p4 ((e1.trans e03).trans e4) R4 d4,
      fun Γ4 μ4 ρ4 σ4 H4 p4 e4 R4 S4 => L.nx _ _ _ _ _ p4 ((e1.trans e03).trans e4) R4 S4, fun Γ4 μ4 ρ4 σ4 H4 p4 e4 R4 S4 => ⟨rfl, hlt, ρ4, Γ4, μ4, e03.trans e4, R4, S4, p4⟩,
      fun x4 Γ4 μ4 ρ4 σ4 H4 cls d p4 e4 R4 S4 xr => L.ex _ _ _ _ _ _ _ _ p4 ((e1.trans e03).trans e4) R4 S4 xr⟩⟩
  · have e : i = items.length := by omega
    subst e
    rw [List.drop_length] at q
    exact .inl ⟨w.stop ρ' H' μ' e' R' q.1, L.nx _ _ _ _ _ q.2 (e1.trans e') R' S'⟩
theorem cs_for {iter tg : Expr} {body : List Stmt} {ci : CI} {g : CG} {vs : List Nat} {cb : CS} (hp : PassesOwn (model X.prog X.w) X.A X.env X.xe) (hc : X.calm = true) (hi : PI X tg iter (lI X.K W ci)) (hg : PG X tg (lG X.K vs g)) (hb : PSs X body (lS X.K W cb))
    (hs : ∀ x, foldedSetIterable iter X.env x = pure x := by intro _; rfl) : PS X (.For tg iter body [] pos) (lS X.K W (csFor ci g cb)) := PS.imp (ps_for hp hc hi hg hb hs) for_l

/-! ### while: by a word that falls -/
def csWhile (t : CT) (body : CS) : CS := fun Γ μ D => ∃ V : Nat → Ga → Mu → Prop, (∃ m, V m Γ μ) ∧ ∀ m Γ' μ', V m Γ' μ' →
  t Γ' μ' (fun b μ1 => if b = true then body Γ' μ1 { D with nx := fun Γ2 μ2 => ∃ m', m' < m ∧ V m' Γ2 μ2, ct := fun Γ2 μ2 => ∃ m', m' < m ∧ V m' Γ2 μ2, bk := D.nx } else D.nx Γ' μ1) fun x μ1 => D.ex x Γ' μ1
theorem while_l {K : PySem.W.Frag} {t : CT} {body : CS} (D : Ends) (σ : St) (H : Hp) (h : lS K W (csWhile t body) D σ H) : tWhile (lT K W t) (lS K W body) D σ H := by
  obtain ⟨ρ, Γ, μ, C, R, S, ⟨U, ⟨m0, u0⟩, turn⟩, L⟩ := h
  refine ⟨fun m σ' H' => ∃ ρ' Γ' μ', Ext ρ H ρ' H' ∧ RS K ρ' H' μ' ∧ SR K ρ' H' σ' Γ' ∧ U m Γ' μ', ⟨m0, ρ, Γ, μ, Ext.refl, R, S, u0⟩, ?_⟩
  rintro m σ' H' ⟨ρ', Γ', μ', e', R', S', u'⟩
  refine ⟨ρ', Γ', μ', _, _, R', S', turn m Γ' μ' u', fun b μ1 ρ1 H1 p1 e1 R1 => ?_, (L.ext e').lx S'⟩
  cases b with
  | true =>
    rw [if_pos rfl] at p1 ⊢
    refine ⟨fun σ2 H2 => ∃ m', m' < m ∧ ∃ ρ' Γ' μ', Ext ρ H ρ' H2 ∧ RS K ρ' H2 μ' ∧ SR K ρ' H2 σ2 Γ' ∧ U m' Γ' μ', fun σ2 H2 h2 => h2, ρ1, Γ', μ1, _, R1, e1.sr S', p1, ?_⟩
    exact ⟨fun Γ4 μ4 ρ4 σ4 H4 ⟨m', hm, p4⟩ e4 R4 S4 => ⟨m', hm, ρ4, Γ4, μ4, (e'.trans e1).trans e4, R4, S4, p4⟩, fun x4 μ4 ρ4 v4 H4 p4 e4 R4 d4 => L.rt _ _ _ _ _ p4 ((e'.trans e1).trans e4) R4 d4,
      fun Γ4 μ4 ρ4 σ4 H4 p4 e4 R4 S4 => L.nx _ _ _ _ _ p4 ((e'.trans e1).trans e4) R4 S4, fun Γ4 μ4 ρ4 σ4 H4 ⟨m', hm, p4⟩ e4 R4 S4 => ⟨m', hm, ρ4, Γ4, μ4, (e'.trans e1).trans e4, R4, S4, p4⟩,
      fun x4 Γ4 μ4 ρ4 σ4 H4 cls d p4 e4 R4 S4 xr => L.ex _ _ _ _ _ _ _ _ p4 ((e'.trans e1).trans e4) R4 S4 xr⟩
  | false =>
    rw [if_neg Bool.false_ne_true] at p1 ⊢
    exact L.nx _ _ _ _ _ p1 (e'.trans e1) R1 (e1.sr S')
theorem cs_while {c : Expr} {body : List Stmt} {t : CT} {cb : CS} (hp : PassesOwn (model X.prog X.w) X.A X.env X.xe) (hc : PT X c (lT X.K W t)) (hb : PSs X body (lS X.K W cb)) : PS X (.While c body [] pos) (lS X.K W (csWhile t cb)) := PS.imp (ps_while hp hc hb) while_l
end
end Cl
/-! Cl6: comprehensions, calls, defs, raise, fields of instances. -/
namespace Cl
open PySem PySem.Spec PyProof.Rows L2

/-! ### list comprehensions -/
def wipeG (Γ : Ga) : List Nat → Ga
  | [] => Γ
  | v :: vs => (wipeG Γ vs).set v none
theorem SR.wipe {K : PySem.W.Frag} {ρ : List Addr} {H : Hp} {σ : St} {Γ : Ga} (S : SR K ρ H σ Γ) : ∀ vs : List Nat, SR K ρ H (wipe σ vs) (wipeG Γ vs)
  | [] => S
  | v :: vs => by
    have ih := SR.wipe S vs
    refine ⟨by unfold L2.wipe wipeG; rw [List.length_set, List.length_set]; exact ih.len, fun i x h => ?_⟩
    unfold wipeG at h
    unfold L2.wipe
    by_cases q : v = i
    · subst q
      have hl : v < (wipeG Γ vs).length := by
        have := (List.getElem?_eq_some_iff.mp h).1
        simpa using this
      rw [List.getElem?_set_self hl] at h
      cases h
    · rw [List.getElem?_set_ne q] at h
      obtain ⟨u, h1, h2⟩ := ih.at_ i x h
      exact ⟨u, by rw [List.getElem?_set_ne q]; exact h1, h2⟩
theorem wipe_at {σ : St} {i : Nat} : ∀ {vs : List Nat}, (wipe σ vs)[i]? = if i ∈ vs then (if i < σ.length then some none else none) else σ[i]?
  | [] => by simp [L2.wipe]
  | v :: vs => by
    unfold L2.wipe
    by_cases q : v = i
    · subst q
      rw [if_pos List.mem_cons_self]
      by_cases hl : v < σ.length
      · rw [if_pos hl, List.getElem?_set_self (by rw [wipe_length]; exact hl)]
      · rw [if_neg hl, List.getElem?_eq_none (by rw [List.length_set, wipe_length]; omega)]
    · rw [List.getElem?_set_ne q, wipe_at]
      by_cases m : i ∈ vs
      · rw [if_pos m, if_pos (List.mem_cons_of_mem _ m)]
      · rw [if_neg m, if_neg (by
          intro z
          rcases List.mem_cons.mp z with z | z
          · exact q z.symm
          · exact m z)]
theorem wipe_off {σ σ' : St} {vs : List Nat} (o : Off vs (wipe σ vs) σ') : wipe σ' vs = wipe σ vs := by
  apply List.ext_getElem?
  intro i
  rw [wipe_at, wipe_at]
  have hl : σ'.length = σ.length := o.1.trans (wipe_length _ _)
  by_cases m : i ∈ vs
  · rw [if_pos m, if_pos m, hl]
  · rw [if_neg m, if_neg m, o.2 i m, wipe_out m]
def cLcGo (ok : Mu → Prop) (g : CG) (tt : CT) (te : CE) (n : Nat) (Γ : Ga) : List CV → Mu → (Mu → Prop) → Prop
  | [], μ, P => ok μ ∧ P μ
  | x :: xs, μ, P => ok μ ∧ g x Γ μ fun Γ' μ1 => tt Γ' μ1 (fun b μ2 => if b = true then te Γ' μ2 (fun y μ3 => match μ3[n]? with
      | some (.lst acc) => acc.length < sizeLine ∧ cLcGo ok g tt te n Γ xs (μ3.set n (.lst (acc ++ [y]))) P
      | _ => False) noX else cLcGo ok g tt te n Γ xs μ2 P) noX
def cLc (ci : CI) (g : CG) (tt : CT) (te : CE) (vs : List Nat) : CE := fun Γ μ P E => ci Γ μ (fun items ok μ1 => cLcGo ok g tt te μ1.length (wipeG Γ vs) items (μ1 ++ [.lst []]) fun μ2 => P (.hnd μ1.length) μ2) E
/-- no wish -/
abbrev W0 : WX := fun _ _ _ _ => False
theorem lc_l {K : PySem.W.Frag} {W : WX} {ci : CI} {g : CG} {tt : CT} {te : CE} {vs : List Nat} (σ : St) (H : Hp) (Q : VK) (h : lE K W (cLc ci g tt te vs) σ H Q) : tLc (lI K W ci) (lG K vs g) (lT K W0 tt) (lE K W0 te) vs σ H Q := by
  obtain ⟨ρ, Γ, μ, P, E, R, S, c, k, x⟩ := h
  refine ⟨ρ, Γ, μ, _, E, R, S, c, fun items ok μ1 ρ1 H1 J p1 e1 R1 w => fun D hD => ?_, x⟩
  have e0 : Ext ρ1 H1 (ρ1 ++ [D]) (upd H1 D (.lst [])) := Ext.push hD
  obtain ⟨R0, d0⟩ := push_lst (xs := []) R1 hD .nil
  refine ⟨fun i m H' => m = items.length - i ∧ i ≤ items.length ∧ ∃ ρ' μ', Ext (ρ1 ++ [D]) (upd H1 D (.lst [])) ρ' H' ∧ RS K ρ' H' μ' ∧ cLcGo ok g tt te μ1.length (wipeG Γ vs) (items.drop i) μ' fun μ2 => P (.hnd μ1.length) μ2,
    ⟨items.length, by simp, Nat.zero_le _, _, _, Ext.refl, R0, by simpa using p1⟩, ?_⟩
  have hDn : (ρ1 ++ [D])[μ1.length]? = some D := by rw [← R1.len]; simp
  rintro i m H' ⟨rfl, hi, ρ', μ', e', R', q⟩
  by_cases hlt : i < items.length
  · have ed : items.drop i = items[i] :: items.drop (i + 1) := List.drop_eq_getElem_cons hlt
    rw [ed] at q
    obtain ⟨hok, q⟩ := q
    refine .inr ⟨w.go i ρ' H' μ' hlt (e0.trans e') R' hok, fun H2 => (fun i m H' => m = items.length - i ∧ i ≤ items.length ∧ ∃ ρ' μ', Ext (ρ1 ++ [D]) (upd H1 D (.lst [])) ρ' H' ∧ RS K ρ' H' μ' ∧ cLcGo ok g tt te μ1.length (wipeG Γ vs) (items.drop i) μ' fun μ2 => P (.hnd μ1.length) μ2) (i + 1) (items.length - (i + 1)) H2,
      fun H2 h2 => ⟨_, by omega, h2⟩, fun y H2 hy => ?_⟩
    obtain ⟨e2, R2, d2⟩ := w.yld i items[i] ρ' H' μ' y H2 (List.getElem?_eq_getElem hlt) (e0.trans e') R' hok hy
    have e02 := e'.trans e2
    refine ⟨ρ', wipeG Γ vs, μ', items[i], _, R2, ((e1.trans e0).trans e02).sr (S.wipe vs), d2, q, fun Γ3 μ3 ρ3 σ3 H3 p3 e3 R3 S3 off => ⟨wipe_off off, ρ3, Γ3, μ3, _, noX, R3, S3, p3, fun b μ4 ρ4 H4 p4 e4 R4 => ?_, lx_no⟩⟩
    cases b with
    | true =>
      rw [if_pos rfl] at p4 ⊢
      refine ⟨ρ4, Γ3, μ4, _, noX, R4, e4.sr S3, p4, fun z μ5 ρ5 v H5 p5 e5 R5 d5 => ?_, lx_no⟩
      split at p5
      · rename_i acc hacc
        have e05 := ((e02.trans e3).trans e4).trans e5
        have hD5 := e05.r _ _ hDn
        obtain ⟨ws, hw, r⟩ := R5.ob _ _ _ hD5 hacc
        obtain ⟨R6, e6⟩ := set_lst R5 hD5 (r.append (.cons d5 .nil))
        exact ⟨ws, hw, by rw [r.length]; exact p5.1, rfl, hlt, _, _, e05.trans e6, R6, p5.2⟩
      · exact p5.elim
    | false =>
      rw [if_neg Bool.false_ne_true] at p4 ⊢
      exact ⟨rfl, hlt, _, _, (e02.trans e3).trans e4, R4, p4⟩
  · have e : i = items.length := by omega
    subst e
    rw [List.drop_length] at q
    exact .inl ⟨w.stop ρ' H' μ' (e0.trans e') R' q.1, k _ _ _ _ _ q.2 (e1.trans (e0.trans e')) R' (.hnd (e'.r _ _ hDn))⟩
def ctYes : CT := fun _ μ P _ => P true μ
section
variable {X : Cx} {W : WX} {e a : Expr} {pos : Pos} {st : Stmt}
theorem ct_yes {K : PySem.W.Frag} (σ : St) (H : Hp) (Q : Bool → Hp → Prop) (h : lT K W ctYes σ H Q) : tYes σ H Q := by
  obtain ⟨ρ, Γ, μ, P, E, R, S, c, k, _⟩ := h
  exact k _ _ _ _ c Ext.refl R
theorem PTs.imp {ifs : List Expr} {t t' : TT} (h : PTs X ifs t) (i : ∀ σ H Q, t' σ H Q → t σ H Q) : PTs X ifs t' := ⟨fun pins s σ H Q I w => h.run pins s σ H Q I (i σ H Q w)⟩
theorem cts_nil : PTs X [] (lT X.K W ctYes) := PTs.imp pts_nil ct_yes
theorem cts_one {t : CT} (h : PT X e (lT X.K W t)) : PTs X [e] (lT X.K W t) := pts_one h
theorem ce_lc {ci : CI} {g : CG} {tt : CT} {te : CE} {vs : List Nat} (h : PE X e (tLc (lI X.K W ci) (lG X.K vs g) (lT X.K W0 tt) (lE X.K W0 te) vs)) : PE X e (lE X.K W (cLc ci g tt te vs)) := PE.imp h lc_l
/-- name = [..] -/
theorem cs_setLc {ci : CI} {g : CG} {tt : CT} {te : CE} {vs : List Nat} {i : Nat} (h : PS X st (tAsg (tLc (lI X.K W ci) (lG X.K vs g) (lT X.K W0 tt) (lE X.K W0 te) vs) (gName i))) : PS X st (lS X.K W (csSet i (cLc ci g tt te vs))) :=
  PS.imp h fun D σ H h => lc_l σ H _ (set_l D σ H h)

/-! ### calls -/
abbrev CSpec := List CV → Mu → PV → PX → Prop
/-- a clean promise as one of the layer's -/
def spC (K : PySem.W.Frag) (S : CSpec) : Sp := fun vs H Q E => ∃ ρ μ xs, ∃ (P : PV) (F : PX), RS K ρ H μ ∧ DenL K ρ H vs xs ∧ S xs μ P F ∧
  (∀ x μ' ρ' v H', P x μ' → Ext ρ H ρ' H' → RS K ρ' H' μ' → Den K ρ' H' v x → Q v H') ∧ (∀ e μ' ρ' H' cls d, F e μ' → Ext ρ H ρ' H' → RS K ρ' H' μ' → XRel K ρ' H' cls d e → E cls d H')
def cCall (S : CSpec) (dxs : List CV) (ca : CA) : CE := fun Γ μ P E => ca Γ μ (fun xs μ1 => S (xs ++ dxs) μ1 P E) E
abbrev FnC (X : Cx) (k : Nat) (f : Addr) (fd : FuncData) (ps : List Str) (S : CSpec) : Prop := FnOk X.prog X.w X.K X.mg X.base (L2.CX X.prog X.w) k f fd ps (spC X.K S)
theorem ce_call {k : Nat} {f : Addr} {fd : FuncData} {ps : List Str} {S : CSpec} {dvs : List V} {ds : List Value} {dxs : List CV} {x : Str} {p : Pos} {es : List Expr} {ca : CA} (F : FnC X k f fd ps S) (hr : Room k X.A) (hm : X.mg x = some (.ref f)) (hk : PySem.W.keepIn X.K (.ref f) = true)
    (hb : Binds X.K fd ps ds) (hd : Vals dvs ds) (dx : ∀ ρ H, DenL X.K ρ H dvs dxs) (tk : Takes X W) (ha : PA X (e :: es) (lA X.K W ca)) (hg : Gl X x := by rfl)
    (hdb : (x == ("__debug__" : Str)) = false := by decide) (he : starEach (e :: es) X.env = (false, eval e X.env) :: starEach es X.env := by rfl) (hpl : (backTo pos (starEach es X.env)).any (·.1) = false := by rfl) : PE X (.Call (.Name x p) (e :: es) [] pos) (lE X.K W (cCall S dxs ca)) :=
  PE.imp (pe_callSD (E := WE W) F hr hg hm hk hb hd (fun σ => passAt tk σ) ha hdb he hpl) fun σ H Q ⟨ρ, Γ, μ, P, E, R, Sr, c, k, xx⟩ =>
    ⟨ρ, Γ, μ, _, E, R, Sr, c, fun xs μ1 ρ1 vs H1 p1 e1 R1 d1 => ⟨ρ1, μ1, _, P, E, R1, d1.append (dx _ _), p1, fun x μ2 ρ2 v H2 p2 e2 R2 d2 => k _ _ _ _ _ p2 (e1.trans e2) R2 d2, fun y μ2 ρ2 H2 cls d p2 e2 R2 xr => xx _ _ _ _ _ _ p2 (e1.trans e2) R2 xr⟩, xx⟩
theorem ce_call0 {k : Nat} {f : Addr} {fd : FuncData} {ps : List Str} {S : CSpec} {dvs : List V} {ds : List Value} {dxs : List CV} {x : Str} {p : Pos} (F : FnC X k f fd ps S) (hr : Room k X.A) (hm : X.mg x = some (.ref f)) (hk : PySem.W.keepIn X.K (.ref f) = true)
    (hb : Binds X.K fd ps ds) (hd : Vals dvs ds) (dx : ∀ ρ H, DenL X.K ρ H dvs dxs) (tk : Takes X W) (hg : Gl X x := by rfl) (hdb : (x == ("__debug__" : Str)) = false := by decide) : PE X (.Call (.Name x p) [] [] pos) (lE X.K W (cCall S dxs cNil)) := by
  refine ⟨fun pins s σ H Q I ⟨ρ, Γ, μ, P, E, R, Sr, c, k, xx⟩ => ?_⟩
  refine wpAny_Call_Name_kw (ld_glob I hg hm ?_ hdb)
  exact PySem.W.callWith_K0 I.kIn hk (run_fnSD (us := []) (vs := []) (E := WE W) F hr hb hd (passAt tk σ) I .nil ⟨ρ, μ, _, P, E, R, dx _ _, c, fun x μ2 ρ2 v H2 p2 e2 R2 d2 => k _ _ _ _ _ p2 e2 R2 d2, fun y μ2 ρ2 H2 cls d p2 e2 R2 xr => xx _ _ _ _ _ _ p2 e2 R2 xr⟩)

/-! ### a def -/
def startG (N : List Str) (xs : List CV) : Ga := xs.map some ++ List.replicate (N.length - xs.length) none
theorem sr_start {K : PySem.W.Frag} {ρ : List Addr} {H : Hp} {N : List Str} {vs : List V} {xs : List CV} (d : DenL K ρ H vs xs) : SR K ρ H (L2.start N vs) (startG N xs) := by
  have hl := d.length
  refine ⟨by simp [L2.start, startG, hl], fun i x h => ?_⟩
  unfold startG at h
  unfold L2.start
  by_cases hi : i < xs.length
  · rw [List.getElem?_append_left (by simpa using hi), List.getElem?_map] at h
    obtain ⟨y, h1, h2⟩ := Option.map_eq_some_iff.mp h
    cases h2
    obtain ⟨v, h3, h4⟩ := d.get h1
    refine ⟨v, ?_, h4⟩
    rw [List.getElem?_append_left (by simpa [hl] using hi), List.getElem?_map, h3]
    rfl
  · rw [List.getElem?_append_right (by simpa using Nat.le_of_not_lt hi)] at h
    have := List.getElem?_eq_some_iff.mp h
    obtain ⟨_, q⟩ := this
    rw [List.getElem_replicate] at q
    cases q
/-- the wish of a def's body -/
abbrev WD (E : XK) : WX := fun cls d _ H => E cls d H
theorem ok_clean {P : Program} {w : World} {K : PySem.W.Frag} {mg : Str → Option Value} {base : Heap} {x qual : Str} {params : Arguments} {body : List Stmt} {scope : Scope} {dvs : List V} {kws : List (Str × V)} {f : Addr} {fd : FuncData} {N ps : List Str} {k : Nat} {S : CSpec} {c : CS}
    (F : FunD K x qual params body scope dvs kws f fd) (Sc : FnScope N ps scope) (len : ∀ xs μ P E, S xs μ P E → xs.length = ps.length)
    (hbody : ∀ (cdv : Value) (A : Around) (outer : List Env) (s : Shared) (H : Hp) (E : XK), Room k (A.deeper (envOfC qual scope s.heap.objs.size f cdv)) →
      PSs (cxOf (L2.CX P w) P w K mg base N qual scope f cdv A outer s H E) body (lS K (WD E) c))
    (pure : ∀ xs μ P E, S xs μ P E → c (startG N xs) μ { nx := fun _ μ' => P .non μ', rt := P, ex := fun e _ μ' => E e μ' }) : FnOk P w K mg base (L2.CX P w) (k + 1) f fd ps (spC K S) := by
  refine F.ok Sc (fun vs H Q E ⟨ρ, μ, xs, P, G, R, d, h, _⟩ => d.length.trans (len _ _ _ _ h)) fun cdv A outer s H vs Q E hr ⟨ρ, μ, xs, P, G, R, d, h, k1, k2⟩ => ⟨_, hbody cdv A outer s H E hr, ?_⟩
  exact ⟨ρ, startG N xs, μ, _, R, sr_start d, pure xs μ P G h, ⟨fun Γ' μ' ρ' σ' H' p e R' S' => k1 _ _ _ _ _ p e R' .non, fun x μ' ρ' v H' p e R' d' => k1 _ _ _ _ _ p e R' d', fun _ _ _ _ _ p => p.elim, fun _ _ _ _ _ p => p.elim,
    fun y Γ' μ' ρ' σ' H' cls d p e R' S' xr => k2 _ _ _ _ _ _ p e R' xr⟩⟩

/-! ### raise C(e), C an own exception whose __init__ stores its one argument as f -/
/-- __init__(self, f): self.f = f -/
def spIni (C : Addr) (f : Str) : Sp := fun vs H Q _ => ∃ (a : Addr) (y : V), vs = [.ref a, y] ∧ H a = some (exo a C none) ∧ ∀ dx, H dx = none → dx ≠ a → Q .non (upd (upd H dx (exd dx [(f, y)])) a (exo a C (some dx)))
def csRaise (n : Nat) (f : Str) (c : CE) : CS := fun Γ μ D => c Γ μ (fun x μ1 => D.ex ⟨n, [(f, x)]⟩ Γ μ1) fun x μ1 => D.ex x Γ μ1
theorem cs_raise {x : Str} {C fI : Addr} {n k : Nat} {fd : FuncData} {ps : List Str} {p : Pos} {ce : CE} {f : Str} (T : OexC X.K C) (iC : PySem.W.findIn X.K (.ref C) "__init__" = some (some (.ref fI))) (tI : PySem.W.typeIn X.K (.ref fI) = some (.type "function"))
    (F1 : FnOk X.prog X.w X.K X.mg X.base (L2.CX X.prog X.w) k fI fd ps (spIni C f)) (hr : Room (k + 1) X.A) (hb : Binds X.K fd ps []) (hm : X.mg x = some (.ref C)) (hC : C = kA X.K n) (hc : X.calm = true) (tk : Takes X W) (ha : PE X e (lE X.K W ce)) (hg : Gl X x := by rfl) {pos2 : Pos}
    (hdb : (x == ("__debug__" : Str)) = false := by decide) (he : starEach (e :: []) X.env = (false, eval e X.env) :: starEach [] X.env := by rfl) (hpl : (backTo pos (starEach [] X.env)).any (·.1) = false := by rfl) :
    PS X (.Raise (some (.Call (.Name x p) [e] [] pos)) none pos2) (lS X.K W (csRaise n f ce)) := by
  refine PS.imp (ps_raise hc tk (pmk_oex (dvs := []) T iC tI F1 hr hb .nil passL hg hm (pa_cons ha pa_nil he) hdb he hpl)) fun D σ H ⟨ρ, Γ, μ, C', R, S, c, L⟩ => ?_
  refine ⟨ρ, Γ, μ, _, _, R, S, c, fun y μ1 ρ1 v H1 p1 e1 R1 d1 => ⟨by show 1 ≤ 1000; decide, fun a ha => ?_⟩, L.lx S⟩
  refine ⟨a, v, rfl, upd_same, fun dx hdx hne => ⟨rfl, dx, [(f, v)], upd_same, ?_, ?_, ?_⟩⟩
  · rw [upd_ne hne, upd_same]
  · rw [upd_ne hne] at hdx
    exact hdx
  · rw [upd_ne hne] at hdx
    have eq : upd (L2.del (upd (upd (upd H1 a (exo a C none)) dx (exd dx [(f, v)])) a (exo a C (some dx))) a) dx (.xd [(f, v)]) = upd H1 dx (.xd [(f, v)]) := by
      funext b
      by_cases h1 : b = dx
      · subst h1
        rw [upd_same, upd_same]
      · rw [upd_ne h1, upd_ne h1]
        by_cases h2 : b = a
        · subst h2
          rw [L2.del_same, ha]
        · rw [L2.del_ne h2, upd_ne h2, upd_ne h1, upd_ne h2]
    show W (.ref C) (some dx) σ _
    rw [eq]
    exact L.ex _ _ _ _ _ _ _ _ p1 (e1.trans (Ext.new hdx)) (R1.new hdx) ((e1.trans (Ext.new hdx)).sr S) ⟨congrArg Value.ref hC, .inr ⟨dx, [(f, v)], rfl, upd_same, rfl, .cons ((Ext.new hdx).den d1) .nil⟩⟩
end
end Cl
/-! Cl7: enumerate of a tuple, of a list; zip. -/
namespace Cl
open PySem PySem.Spec PyProof.Rows L2
open AutoSeq1 (wpAny_loadPart')
section
variable {prog : Program} {w : World} {A : Around} {E : Value → Shared → Prop} {s : Shared}

theorem enumT_next {e it l : Addr} {i : Nat} {items : Array Value} {x old : Value} {Q : Value → Shared → Prop}
    (he : IsEnum s.heap e it i old) (hit : s.heap.IsTupleIter it l i) (hl : s.heap.IsTuple l items) (hx : items[i]? = some x) (hne : e ≠ it)
    (hQ : ∀ h', IsEnumOut h' e it ((i : Int) + 1) x s.heap.objs.size → h'.IsTupleIter it l (i + 1) →
      h'.get? s.heap.objs.size = some { cls := .type "tuple", data := .seq #[.int i s.toks, x] } → h'.objs.size = s.heap.objs.size + 1 →
      (∀ b o, b ≠ e → b ≠ it → s.heap.get? b = some o → h'.get? b = some o) → Q (.ref s.heap.objs.size) { s with heap := h', toks := s.toks + 1 }) :
    wpAny (model prog w) A (Builtin.«enumerate.__next__» ⟨[.ref e], []⟩) (fun fin s' => ∃ v, fin = .done (.ret v) ∧ Q v s') E s := by
  obtain ⟨hp, g, d, tk, os⟩ := s
  show wpAny _ _ (field (.ref e) 2 >>= _) _ _ _
  refine wpAny_bind (wpAny_field he rfl (x := .ref it) rfl ?_)
  refine wpAny_bind (RZ.nextOf_tuple_item hit hl hx fun h₁ hit₁ hs₁ => ?_)
  replace hs₁ : Heap.SameBut it hp h₁ := hs₁
  have he₁ : IsEnum h₁ e it i old := (hs₁.2 e hne).trans he
  show wpAny _ _ (field (.ref e) 3 >>= _) _ _ ⟨h₁, g, d, tk, os⟩
  refine wpAny_bind (wpAny_field he₁ rfl (x := rawInt i) rfl ?_)
  show wpAny _ _ (field (.ref e) 4 >>= _) _ _ ⟨h₁, g, d, tk, os⟩
  refine wpAny_bind (wpAny_field he₁ rfl (x := .none) rfl ?_)
  show wpAny _ _ (mkInt i >>= _) _ _ ⟨h₁, g, d, tk, os⟩
  refine wpAny_bind (wpAny_mkInt ?_)
  show wpAny _ _ (setField (.ref e) 3 (rawInt ((i : Int) + 1)) >>= _) _ _ ⟨h₁, g, d, tk + 1, os⟩
  refine wpAny_bind (wpAny_setField_rec he₁ (by simp) fun h₂ he₂ hs₂ => ?_)
  replace hs₂ : Heap.SameBut e h₁ h₂ := hs₂
  replace he₂ : IsEnum h₂ e it ((i : Int) + 1) old := he₂
  show wpAny _ _ (setField (.ref e) 4 .none >>= _) _ _ ⟨h₂, g, d, tk + 1, os⟩
  refine wpAny_bind (wpAny_setField_rec he₂ (by simp) fun h₃ he₃ hs₃ => ?_)
  replace hs₃ : Heap.SameBut e h₂ h₃ := hs₃
  replace he₃ : IsEnum h₃ e it ((i : Int) + 1) old := he₃
  show wpAny _ _ (newTuple [.int i tk, x] >>= _) _ _ ⟨h₃, g, d, tk + 1, os⟩
  refine wpAny_bind (wpAny_newTuple ?_)
  have he₄ : IsEnum (h₃.push { cls := .type "tuple", data := .seq #[.int i tk, x] }) e it ((i : Int) + 1) old := Heap.get?_push_of_some _ he₃
  generalize hh₄ : h₃.push { cls := .type "tuple", data := .seq #[.int i tk, x] } = h₄ at he₄
  have hsz : h₃.objs.size = hp.objs.size := by rw [hs₃.1, hs₂.1, hs₁.1]
  have hel : e < hp.objs.size := Heap.lt_size he
  have ht₄ : h₄.get? hp.objs.size = some { cls := .type "tuple", data := .seq #[.int i tk, x] } := by rw [← hh₄, ← hsz]; exact Heap.get?_push_size _ rfl
  have hz₄ : h₄.objs.size = hp.objs.size + 1 := by rw [← hh₄, Heap.size_push, hsz]
  have hk₄ : ∀ b o, b ≠ e → b ≠ it → hp.get? b = some o → h₄.get? b = some o := fun b o hbe hbi hb => by
    rw [← hh₄]; exact Heap.get?_push_of_some _ (hs₃.extBut b o hbe (hs₂.extBut b o hbe (hs₁.extBut b o hbi hb)))
  have hit₄ : h₄.IsTupleIter it l (i + 1) := by
    rw [← hh₄]; obtain ⟨o, ho, r⟩ := (hit₁.extBut hs₂.extBut (Ne.symm hne)).extBut hs₃.extBut (Ne.symm hne); exact ⟨o, Heap.get?_push_of_some _ ho, r⟩
  show wpAny _ _ (Builtin.SmallTypes.ownedTupleIsFree (.ref e) >>= _) _ _ ⟨h₄, g, d, tk + 1, os⟩
  rw [hsz]
  clear hh₄ he₃ hs₃ he₂ hs₂ he₁ hs₁ hit₁ hsz h₃ h₂ h₁
  refine wpAny_bind ?_
  · unfold Builtin.SmallTypes.ownedTupleIsFree
    refine wpAny_bind (wpAny_field he₄ rfl (x := .none) rfl (wpAny_pure ?_))
    simp only [if_true]
    refine wpAny_bind (wpAny_rule ?_)
    refine wpAny_bind (wpAny_field he₄ rfl (x := old) rfl ?_)
    refine wpAny_bind (wpAny_setField_rec he₄ (by simp) fun h₅ he₅ hs₅ => ?_)
    replace hs₅ : Heap.SameBut e h₄ h₅ := hs₅
    replace he₅ : IsEnum h₅ e it ((i : Int) + 1) x := he₅
    show wpAny _ _ (Builtin.SmallTypes.ownedTupleHandOut (.ref e) (.ref hp.objs.size) >>= _) _ _ ⟨h₅, g, d, tk + 1, os⟩
    refine wpAny_bind ?_
    · unfold Builtin.SmallTypes.ownedTupleHandOut
      refine wpAny_bind (wpAny_setField_rec he₅ (by simp) fun h₆ he₆ hs₆ => ?_)
      replace hs₆ : Heap.SameBut e h₅ h₆ := hs₆
      replace he₆ : IsEnumOut h₆ e it ((i : Int) + 1) x hp.objs.size := he₆
      refine wpAny_setField_rec he₆ (by simp) fun h₇ he₇ hs₇ => ?_
      replace hs₇ : Heap.SameBut e h₆ h₇ := hs₇
      replace he₇ : IsEnumOut h₇ e it ((i : Int) + 1) x hp.objs.size := he₇
      refine wpAny_bind (wpAny_letGo (wpAny_pure ⟨_, rfl, hQ h₇ he₇ ?_ ?_ ?_ ?_⟩))
      · exact ((hit₄.extBut hs₅.extBut (Ne.symm hne)).extBut hs₆.extBut (Ne.symm hne)).extBut hs₇.extBut (Ne.symm hne)
      · exact hs₇.extBut _ _ (Nat.ne_of_gt hel) (hs₆.extBut _ _ (Nat.ne_of_gt hel) (hs₅.extBut _ _ (Nat.ne_of_gt hel) ht₄))
      · rw [hs₇.1, hs₆.1, hs₅.1, hz₄]
      · exact fun b o hbe hbi hb => hs₇.extBut b o hbe (hs₆.extBut b o hbe (hs₅.extBut b o hbe (hk₄ b o hbe hbi hb)))
theorem pyNext_enumT_item {e it l : Addr} {i : Nat} {items : Array Value} {x old : Value} {Q : Option Value → Shared → Prop}
    (he : IsEnum s.heap e it i old) (hit : s.heap.IsTupleIter it l i) (hl : s.heap.IsTuple l items) (hx : items[i]? = some x) (hne : e ≠ it)
    (hQ : ∀ h', IsEnumOut h' e it ((i : Int) + 1) x s.heap.objs.size → h'.IsTupleIter it l (i + 1) →
      h'.get? s.heap.objs.size = some { cls := .type "tuple", data := .seq #[.int i s.toks, x] } → h'.objs.size = s.heap.objs.size + 1 →
      (∀ b o, b ≠ e → b ≠ it → s.heap.get? b = some o → h'.get? b = some o) → Q (some (.ref s.heap.objs.size)) { s with heap := h', toks := s.toks + 1 }) :
    wpAny (model prog w) A (pyNext (.ref e)) Q E s := by
  have hT : s.TypeIs (.ref e) "enumerate" := ⟨_, he, rfl⟩
  unfold pyNext
  exact wpAny_bind (wpAny_attempt (wpAny_callSpecial?_slot (name := Str.ofString "__next__") hT F.slot_enumerate_next
    (wpAny_call_entry F.slot_enumerate_next hT F.entry_enumerate_next
      (enumT_next he hit hl hx hne fun h' a b c d k => wpAny_pure (hQ h' a b c d k)) (F.args_enumerate_next_1 _))))
theorem pyNext_enumT_end {e it l : Addr} {i : Nat} {items : Array Value} {old : Value} {Q : Option Value → Shared → Prop} (hh : A.handled = none)
    (he : IsEnum s.heap e it i old) (hit : s.heap.IsTupleIter it l i) (hl : s.heap.IsTuple l items) (hx : items[i]? = none)
    (hQ : ∀ h', Heap.ExtBut it s.heap h' → Q none { s with heap := h' }) : wpAny (model prog w) A (pyNext (.ref e)) Q E s := by
  have hT : s.TypeIs (.ref e) "enumerate" := ⟨_, he, rfl⟩
  unfold pyNext
  refine wpAny_bind (wpAny_attempt (wpAny_callSpecial?_slot (name := Str.ofString "__next__") hT F.slot_enumerate_next
    (wpAny_call_entry F.slot_enumerate_next hT F.entry_enumerate_next ?_ (F.args_enumerate_next_1 _))))
  show wpAny _ _ (field (.ref e) 2 >>= _) _ _ _
  refine wpAny_bind (wpAny_field he rfl (x := .ref it) rfl ?_)
  refine wpAny_bind (RZ.nextOf_tuple_end hh hit hl hx fun h' x he' hx' => ?_)
  obtain ⟨o, ho, hc⟩ := hx'
  refine wpAny_bind (wpAny_isInstance (T := "StopIteration") (b := true) ⟨o, ho, hc⟩ isSubtype_stop ?_)
  exact wpAny_pure (hQ _ he')
end
theorem meets_enumT (l : Addr) (items : Array Value) (n : Nat) (dct : Option Addr) (sl : Array (Option Value)) :
    Meets (Builtin.«enumerate.__new__» ⟨[.type "enumerate", .ref l], []⟩) (fun _ R s => s.heap.get? l = some { cls := .type "tuple", dict := dct, data := .seq items n, slots := sl } ∧
      R (.ok (.ret (.ref (s.heap.push { cls := .type "tuple_iterator", data := .fields #[.ref l, .int 0 0] }).objs.size)))
        { s with heap := (s.heap.push { cls := .type "tuple_iterator", data := .fields #[.ref l, .int 0 0] }).push { cls := .type "enumerate", data := .fields #[.none, .bool false, .ref s.heap.objs.size, rawInt 0, .none, .none] } }) :=
  .of_wp fun prog w A R s h => by
    obtain ⟨hp, g, d, tk, os⟩ := s; obtain ⟨hl, h⟩ := h
    have hsub := sub_enumerate
    have hL : Heap.IsTuple (Shared.heap ⟨hp, g, d, tk, os⟩) l items := ⟨_, hl, rfl, n, rfl⟩
    wp_walk using wpAny_loadPart' hl
    refine wpAny_stack_any fun st => wpAny_pure ?_
    split
    · rename_i c _ _ _ _ _
      cases (c == Value.type "enumerate")
      · wp_walk using wpAny_loadPart' hl, wpAny_pyIter_tuple hL
        exact ⟨_, rfl, h⟩
      · wp_walk using wpAny_loadPart' hl, wpAny_pyIter_tuple hL
        exact ⟨_, rfl, h⟩
    · wp_walk using wpAny_loadPart' hl, wpAny_pyIter_tuple hL
      exact ⟨_, rfl, h⟩
section
variable {prog : Program} {w : World} {A : Around} {E : Value → Shared → Prop} {s : Shared}
theorem call_enumT {l : Addr} {items : Array Value} {Q : Value → Shared → Prop} (hL : s.heap.IsTuple l items)
    (h : ∀ h', IsEnum h' (s.heap.objs.size + 1) s.heap.objs.size 0 .none → h'.IsTupleIter s.heap.objs.size l 0 → h'.objs.size = s.heap.objs.size + 2 →
      (∀ b o, s.heap.get? b = some o → h'.get? b = some o) → Q (.ref (s.heap.objs.size + 1)) { s with heap := h' }) :
    wpAny (model prog w) A (call (.type "enumerate") [.ref l]) Q E s := by
  obtain ⟨⟨c, dct, dt, sl⟩, hl, hc, n, hd⟩ := hL
  replace hc : c = .type "tuple" := hc
  replace hd : dt = .seq items n := hd
  subst hc hd
  refine callType_new F.called_enumerate (by decide) (F.typeCall_enumerate_1 _) (F.newCall_enumerate_1 _) (fun obj => F.args_object_init_2 obj _) F.entry_enumerate_new
    (meets_enumT l items n dct sl) ⟨hl, ?_⟩
  have hz : (s.heap.push { cls := .type "tuple_iterator", data := .fields #[.ref l, .int 0 0] }).objs.size = s.heap.objs.size + 1 := Heap.size_push ..
  show _ ∧ _
  rw [hz]
  have he : IsEnum ((s.heap.push { cls := .type "tuple_iterator", data := .fields #[.ref l, .int 0 0] }).push
      { cls := .type "enumerate", data := .fields #[.none, .bool false, .ref s.heap.objs.size, rawInt 0, .none, .none] }) (s.heap.objs.size + 1) s.heap.objs.size 0 .none := by
    have := Heap.get?_push_size (s.heap.push { cls := .type "tuple_iterator", data := .fields #[.ref l, .int 0 0] })
      (o := { cls := .type "enumerate", data := .fields #[.none, .bool false, .ref s.heap.objs.size, rawInt 0, .none, .none] }) rfl
    rw [hz] at this; exact this
  refine ⟨⟨_, he, rfl⟩, h _ he ⟨_, Heap.get?_push_of_some _ (Heap.get?_push_size _ rfl), rfl, rfl⟩ (by rw [Heap.size_push, hz]) fun b o x => Heap.get?_push_of_some _ (Heap.get?_push_of_some _ x)⟩
end
/-- the tuple at a, each item in a new pair -/
def IteT (K : PySem.W.Frag) (a : Addr) : It :=
  ⟨fun i H => ∃ (xs : List V) (x : V), SqT K H a xs ∧ xs[i]? = some x, fun i H v H' => ∃ T x, v = .ref T ∧ H T = none ∧ H' = upd H T (.tup [.int (i : Nat), x]) ∧ ∀ xs, SqT K H a xs → xs[i]? = some x, fun i H => ∃ xs : List V, SqT K H a xs ∧ xs.length ≤ i⟩
theorem turn_enumT {P : Program} {w : World} {K : PySem.W.Frag} {elts : List Expr} {kk : Nat} {tpos : Pos} (a e it : Addr) :
    Turn P w K (.Tuple elts kk tpos) (IteT K a) [e, it] e (fun i h => (∃ old, IsEnum h e it ((i : Nat) : Int) old) ∧ h.IsTupleIter it a i ∧ e ≠ it) where
  mem := by simp
  obj := fun i h st b hb => by
    obtain ⟨⟨old, he⟩, ⟨o, ho, hc, hd⟩, _⟩ := st
    have e' : b = e ∨ b = it := by simpa using hb
    rcases e' with z | z
    · rw [z]; exact ⟨_, he, fun v q => nomatch q⟩
    · rw [z]; exact ⟨o, ho, fun v q => by rw [hd] at q; cases q⟩
  keep := fun i h h' st k => let ⟨⟨old, he⟩, hi, hne⟩ := st; ⟨⟨old, k e (by simp) _ he⟩, hi.at fun o q => k it (by simp) o q, hne⟩
  item := by
    intro X hP hw hK hc i pins s σ H E I hf st hg
    subst hP hw hK
    obtain ⟨⟨old, he⟩, hit, hne⟩ := st
    obtain ⟨xs, x, hq, hx⟩ := hg
    obtain ⟨its, rv, p, hz⟩ := I.tuple hq
    obtain ⟨u, hu, ru⟩ := rv.get hx
    have hel : e < s.heap.objs.size := Heap.lt_size he
    have hil : it < s.heap.objs.size := by obtain ⟨_, q, _⟩ := hit; exact Heap.lt_size q
    refine pyNext_enumT_item he hit (show s.heap.IsTuple a its.toArray from p) (x := u) (by simpa using hu) hne fun h' ho hit' hT hsz hk => ?_
    refine ⟨_, rfl, wpAny_letOwnedTupleGo_enum (s := { s with heap := h', toks := s.toks + 1 }) ho fun h'' he' sb => ?_⟩
    have hT2 : h''.get? s.heap.objs.size = some { cls := .type "tuple", data := .seq #[.int i s.toks, u] } := (sb.2 _ (Nat.ne_of_gt hel)).trans hT
    have new : ObjOk X.prog X.w (upd H s.heap.objs.size (.tup [.int (i : Nat), x])) h'' s.heap.objs.size (.tup [.int (i : Nat), x]) :=
      ⟨by show 2 ≤ sizeLine; decide, [.int i s.toks, u], .cons ⟨_, rfl⟩ (.cons ru .nil), ⟨_, hT2, rfl, _, rfl⟩⟩
    have I1 : Inv X pins σ (upd H s.heap.objs.size (.tup [.int (i : Nat), x])) { s with heap := h'', toks := s.toks + 1 } :=
      I.turnedNew (ch := [e, it]) (fun b ob hb q => (sb.2 b (fun z => hb (by simp [z]))).trans (hk b ob (fun z => hb (by simp [z])) (fun z => hb (by simp [z])) q)) hf (Nat.le_refl _) new
    refine ⟨.ref s.heap.objs.size, _, I1, rfl, ⟨_, x, rfl, I.hok.fresh (Nat.le_refl _), rfl, fun ys hy => by rw [I.tuple_inj hy hq]; exact hx⟩, ⟨⟨u, ?_⟩, hit'.at fun o q => (sb.2 it (Ne.symm hne)).trans q, hne⟩, fun b hb => ?_⟩
    · have e1 : ((i + 1 : Nat) : Int) = (i : Int) + 1 := by omega
      rw [e1]; exact he'
    · have hb' : b < s.heap.objs.size := by
        have e' : b = e ∨ b = it := by simpa using hb
        rcases e' with z | z
        · rw [z]; exact hel
        · rw [z]; exact hil
      rw [upd_ne (Nat.ne_of_lt hb')]
      exact (hf b hb).1
  done := by
    intro X hP hw hK hc i pins s σ H E I hf st hg
    subst hP hw hK
    obtain ⟨⟨old, he⟩, hit, hne⟩ := st
    obtain ⟨xs, hq, hx⟩ := hg
    obtain ⟨its, rv, p, hz⟩ := I.tuple hq
    obtain ⟨f0, f1, f2, f3, f4, f5⟩ := hf it (by simp)
    have hl := rv.length
    exact pyNext_enumT_end (I.ok.hd hc) he hit (show s.heap.IsTuple a its.toArray from p) (by simp; omega) fun h' eb => ⟨rfl, I.turned (t' := s.toks) (fun b o hb q => eb b o hb q) f0 f1 f3 f4 f5⟩
  self := fun A i s Q E st h => let ⟨⟨_, he⟩, _⟩ := st; wpAny_pyIter_enum he h
def iEnumA (K : PySem.W.Frag) (ta : TA) : TI := fun σ H R => ta σ H fun vs H1 => ∃ a, vs = [.ref a] ∧ (((∃ xs, SqL K H1 a xs) ∧ R (Ite K a) H1) ∨ ((∃ xs, SqT K H1 a xs) ∧ R (IteT K a) H1))
theorem pi_enumA {X : Cx} {e : Expr} {ta : TA} {p pos tpos : Pos} {elts : List Expr} {kk : Nat} (hg : Gl X "enumerate") (hm : X.mg "enumerate" = none) (ha : PA X [e] ta) (hs : starEach [e] X.env = [(false, eval e X.env)] := by rfl) :
    PI X (.Tuple elts kk tpos) (.Call (.Name "enumerate" p) [e] [] pos) (iEnumA X.K ta) := by
  refine ⟨fun pins s σ H R I h => ?_⟩
  refine Call_ (ld_blt I hg hm boot_enumerate (PyProof.Rows.callWith_type1 (thn (ha.run pos pins s σ H _ I h) fun us s1 ⟨vs, H1, I1, r1, q1⟩ => ?_) hs rfl))
  obtain ⟨a, ex, q⟩ := q1
  subst ex
  cases r1 with
  | cons r rr =>
    cases rr
    cases r
    have fp : ∀ b ∈ [s1.heap.objs.size + 1, s1.heap.objs.size], FpOk X pins H1 b := fun b hb => by
      have e' : b = s1.heap.objs.size + 1 ∨ b = s1.heap.objs.size := by simpa using hb
      have hle : s1.heap.objs.size ≤ b := by
        rcases e' with z | z
        · rw [z]; exact Nat.le_add_right _ _
        · rw [z]; exact Nat.le_refl _
      exact I1.fpOk hle (I1.hok.fresh hle)
    rcases q with ⟨⟨xs, hq⟩, q⟩ | ⟨⟨xs, hq⟩, q⟩
    · obtain ⟨its, rv, p', hz⟩ := I1.list hq
      refine call_enumerate_list p'.isList fun h' he hit hsz hk => wpAny_pyIter_enum he ?_
      have I2 : Inv X pins σ H1 { s1 with heap := h' } := I1.kept (t' := s1.toks) hk
      exact ⟨s1.heap.objs.size + 1, [s1.heap.objs.size + 1, s1.heap.objs.size], _, _, H1, rfl, I2, turn_enum a (s1.heap.objs.size + 1) s1.heap.objs.size, ⟨⟨.none, he⟩, hit, Nat.succ_ne_self _⟩, fp, q⟩
    · obtain ⟨its, rv, p', hz⟩ := I1.tuple hq
      refine call_enumT (show s1.heap.IsTuple a its.toArray from p') fun h' he hit hsz hk => wpAny_pyIter_enum he ?_
      have I2 : Inv X pins σ H1 { s1 with heap := h' } := I1.kept (t' := s1.toks) hk
      exact ⟨s1.heap.objs.size + 1, [s1.heap.objs.size + 1, s1.heap.objs.size], _, _, H1, rfl, I2, turn_enumT a (s1.heap.objs.size + 1) s1.heap.objs.size, ⟨⟨.none, he⟩, hit, Nat.succ_ne_self _⟩, fp, q⟩
/-! ### clean -/
def enumC (l : List CV) : List CV := (List.range l.length).zipWith (fun (i : Nat) x => .tup [.int (i : Int), x]) l
theorem enumC_len (l : List CV) : (enumC l).length = l.length := by simp [enumC]
theorem enumC_at {l : List CV} {i : Nat} {y : CV} (h : (enumC l)[i]? = some y) : ∃ x, l[i]? = some x ∧ y = .tup [.int (i : Int), x] := by
  unfold enumC at h
  rw [List.getElem?_zipWith] at h
  cases h1 : (List.range l.length)[i]? with
  | none => rw [h1] at h; cases h
  | some j =>
    rw [h1] at h
    cases h2 : l[i]? with
    | none => rw [h2] at h; cases h
    | some x =>
      rw [h2] at h
      obtain ⟨_, q⟩ := List.getElem?_eq_some_iff.mp h1
      have q' : i = j := by simpa using q
      subst q'
      exact ⟨x, rfl, (Option.some.inj h).symm⟩
def ciEnum (c : CA) : CI := fun Γ μ P E => c Γ μ (fun xs μ1 => match xs with
  | [.tup l] => P (enumC l) (fun _ => True) μ1
  | [.rol l] => P (enumC l) (fun _ => True) μ1
  | [.hnd n] => (match μ1[n]? with
    | some (.lst l) => P (enumC l) (fun μ' => μ'[n]? = some (.lst l)) μ1
    | _ => False)
  | _ => False) E
section
variable {K : PySem.W.Frag} {ρ : List Addr} {H : Hp} {a : Addr} {vs : List V} {l : List CV}
theorem pair_new {μ : Mu} {T : Addr} {i : Nat} {u : V} {x : CV} (R : RS K ρ H μ) (hT : H T = none) (d : Den K ρ H u x) : Ext ρ H ρ (upd H T (.tup [.int (i : Nat), u])) ∧ RS K ρ (upd H T (.tup [.int (i : Nat), u])) μ ∧ Den K ρ (upd H T (.tup [.int (i : Nat), u])) (.ref T) (.tup [.int (i : Int), x]) :=
  ⟨Ext.new hT, R.new hT, .tup (SqT.of upd_same) (.cons (.int _) (.cons ((Ext.new hT).den d) .nil))⟩
theorem walks_enumT (h : SqT K H a vs) (r : DenL K ρ H vs l) : Walks K ρ H (enumC l) (fun _ => True) (IteT K a) where
  stop := fun ρ' H' μ' e R _ => ⟨vs, sqT_ext e.t h, by rw [r.length, enumC_len]; exact Nat.le_refl _⟩
  go := fun i ρ' H' μ' hi e R _ => by
    rw [enumC_len, ← r.length] at hi
    exact ⟨vs, vs[i], sqT_ext e.t h, List.getElem?_eq_getElem hi⟩
  yld := fun i y ρ' H' μ' v H2 hy e R _ ⟨T, u, hv, hT, e2, hu⟩ => by
    obtain ⟨x, hx, rfl⟩ := enumC_at hy
    obtain ⟨u', h1, d⟩ := r.get hx
    have q := hu vs (sqT_ext e.t h)
    rw [h1] at q
    cases q
    subst hv e2
    exact pair_new R hT (e.den d)
theorem walks_enumR (h : RoL K H a vs) (r : DenL K ρ H vs l) : Walks K ρ H (enumC l) (fun _ => True) (Ite K a) where
  stop := fun ρ' H' μ' e R _ => ⟨vs, (h.ext e.t).sq, by rw [r.length, enumC_len]; exact Nat.le_refl _⟩
  go := fun i ρ' H' μ' hi e R _ => by
    rw [enumC_len, ← r.length] at hi
    exact ⟨vs, vs[i], (h.ext e.t).sq, List.getElem?_eq_getElem hi⟩
  yld := fun i y ρ' H' μ' v H2 hy e R _ ⟨T, u, hv, hT, e2, hu⟩ => by
    obtain ⟨x, hx, rfl⟩ := enumC_at hy
    obtain ⟨u', h1, d⟩ := r.get hx
    have q := hu vs (h.ext e.t).sq
    rw [h1] at q
    cases q
    subst hv e2
    exact pair_new R hT (e.den d)
theorem walks_enumL {n : Nat} (hn : ρ[n]? = some a) : Walks K ρ H (enumC l) (fun μ' => μ'[n]? = some (.lst l)) (Ite K a) where
  stop := fun ρ' H' μ' e R ok => by
    obtain ⟨vs, hv, r⟩ := R.ob _ _ _ (e.r _ _ hn) ok
    exact ⟨vs, SqL.of hv, by rw [r.length, enumC_len]; exact Nat.le_refl _⟩
  go := fun i ρ' H' μ' hi e R ok => by
    obtain ⟨vs, hv, r⟩ := R.ob _ _ _ (e.r _ _ hn) ok
    rw [enumC_len, ← r.length] at hi
    exact ⟨vs, vs[i], SqL.of hv, List.getElem?_eq_getElem hi⟩
  yld := fun i y ρ' H' μ' v H2 hy e R ok ⟨T, u, hv, hT, e2, hu⟩ => by
    obtain ⟨vs, hvs, r⟩ := R.ob _ _ _ (e.r _ _ hn) ok
    obtain ⟨x, hx, rfl⟩ := enumC_at hy
    obtain ⟨u', h1, d⟩ := r.get hx
    have q := hu vs (SqL.of hvs)
    rw [h1] at q
    cases q
    subst hv e2
    exact pair_new R hT d
end
theorem ci_enum {X : Cx} {W : WX} {e : Expr} {c : CA} {p pos tpos : Pos} {elts : List Expr} {kk : Nat} (hm : X.mg "enumerate" = none) (ha : PA X [e] (lA X.K W c)) (hg : Gl X "enumerate" := by rfl) (hs : starEach [e] X.env = [(false, eval e X.env)] := by rfl) :
    PI X (.Tuple elts kk tpos) (.Call (.Name "enumerate" p) [e] [] pos) (lI X.K W (ciEnum c)) := PI.imp (pi_enumA hg hm ha hs) fun σ H R0 ⟨ρ, Γ, μ, P, E, R, S, c, k, x⟩ =>
  ⟨ρ, Γ, μ, _, E, R, S, c, fun y μ1 ρ1 v H1 p1 e1 R1 d1 => by
    split at p1
    · cases d1 with
      | cons d dr =>
        cases dr
        cases d with
        | tup ht r => exact ⟨_, rfl, .inr ⟨⟨_, ht⟩, k _ _ _ _ _ _ p1 e1 R1 (walks_enumT ht r)⟩⟩
    · cases d1 with
      | cons d dr =>
        cases dr
        cases d with
        | rol ht r => exact ⟨_, rfl, .inl ⟨⟨_, ht.sq⟩, k _ _ _ _ _ _ p1 e1 R1 (walks_enumR ht r)⟩⟩
    · split at p1
      · rename_i n _ l hl
        cases d1 with
        | cons d dr =>
          cases dr
          cases d with
          | hnd hn =>
            obtain ⟨vs, hv, r⟩ := R1.ob _ _ _ hn hl
            exact ⟨_, rfl, .inl ⟨⟨vs, SqL.of hv⟩, k _ _ _ _ _ _ p1 e1 R1 (walks_enumL hn)⟩⟩
      · exact p1.elim
    · exact p1.elim, x⟩
end Cl
/-! Cl8: isinstance, try .. except, what is read of an exception, instances. -/
namespace Cl
open PySem PySem.Spec PyProof.Rows L2

/-! ### isinstance(x, a built-in type) -/
def tyOf (μ : Mu) : CV → Option String
  | .non => some "NoneType"
  | .bl _ => some "bool"
  | .int _ => some "int"
  | .str _ => some "str"
  | .tup _ => some "tuple"
  | .rol _ => some "list"
  | .hnd n => match μ[n]? with
    | some (.lst _) => some "list"
    | some (.dK _) => some "dict"
    | some (.dT _) => some "dict"
    | _ => none
  | _ => none
def isB (t T : String) : Bool := decide (t = T) || (decide (t = "bool") && decide (T = "int"))
def tyL : List String := ["NoneType", "bool", "int", "str", "tuple", "list", "dict"]
def tyR : List String := ["bool", "int", "str", "tuple", "list", "dict"]
theorem kit_tab : ∀ a ∈ tyL, ∀ b ∈ tyR, kitB a b = some (isB a b) := by decide +kernel
theorem tyOf_in {μ : Mu} {x : CV} {t : String} (h : tyOf μ x = some t) : t ∈ tyL := by
  unfold tyOf at h
  split at h <;> first | (cases h; decide) | skip
  split at h <;> first | (cases h; decide) | skip
  all_goals cases h
theorem tyOf_ok {K : PySem.W.Frag} {ρ : List Addr} {H : Hp} {μ : Mu} {v : V} {x : CV} {t : String} (R : RS K ρ H μ) (d : Den K ρ H v x) (h : tyOf μ x = some t) : TyX K H v (.type t) := by
  cases d with
  | non => cases h; exact .base .non
  | bl b => cases h; exact .base (.bl b)
  | int i => cases h; exact .base (.int i)
  | str x => cases h; exact .base (.str x)
  | tup h1 r =>
    cases h
    rcases h1 with (h1 | ⟨o, h1⟩) | ⟨o, its, n, h1, h2, _⟩
    · exact .base (.tup h1)
    · exact .fTuple h1
    · exact .kTuple h1 h2
  | rol h1 r =>
    cases h
    rcases h1 with ⟨o, h1⟩ | ⟨o, its, n, h1, h2, _⟩
    · exact .base (.frz h1)
    · exact .kList h1 h2
  | hnd h1 =>
    simp only [tyOf] at h
    split at h
    · rename_i xs hx
      cases h
      obtain ⟨vs, hv, _⟩ := R.ob _ _ _ h1 hx
      exact .base (.lst hv)
    · rename_i xs hx
      cases h
      obtain ⟨vs, hv, _⟩ := R.ob _ _ _ h1 hx
      exact .base (.dK hv)
    · rename_i xs hx
      cases h
      obtain ⟨vs, hv, _⟩ := R.ob _ _ _ h1 hx
      exact .base (.dT hv)
    · cases h
  | glo => cases h
  | ty => cases h
  | exn0 => cases h
  | exn => cases h
def fIsi : CCa := fun xs μ P => match xs with
  | [x, .ty T] => (match tyOf μ x with
    | some t => tyR.contains T = true ∧ P (.bl (isB t T)) μ
    | none => False)
  | _ => False
theorem cs_isi {K : PySem.W.Frag} : CaS K (rIsi K) fIsi := fun ρ H μ xs vs P Q R d p k => by
  unfold fIsi at p
  split at p
  · split at p
    · rename_i x T _ t ht
      cases d with
      | cons d dr =>
        cases dr with
        | cons d2 dr =>
          cases dr
          cases d2
          have hT : T ∈ tyR := by simpa using p.1
          exact ⟨_, _, .type t, .type T, isB t T, rfl, .ty T, tyOf_ok R d ht, kit_ty (kit_tab t (tyOf_in ht) T hT), k _ _ _ _ _ p.2 Ext.refl R (.bl _)⟩
    · exact p.elim
  · exact p.elim

/-! ### try: body; except X [as n]: suite -/
theorem SR.gone {K : PySem.W.Frag} {ρ : List Addr} {H : Hp} {σ : St} {Γ : Ga} (S : SR K ρ H σ Γ) (i : Nat) : SR K ρ H (σ.set i none) (Γ.set i none) := by
  refine ⟨by simp [S.len], fun j y h => ?_⟩
  by_cases q : i = j
  · subst q
    have hl : i < Γ.length := by
      have := (List.getElem?_eq_some_iff.mp h).1
      simpa using this
    rw [List.getElem?_set_self hl] at h
    cases h
  · rw [List.getElem?_set_ne q] at h
    obtain ⟨u, h1, h2⟩ := S.at_ j y h
    exact ⟨u, by rw [List.getElem?_set_ne q]; exact h1, h2⟩
theorem XRel.den {K : PySem.W.Frag} {ρ : List Addr} {H : Hp} {cls : Value} {d : Option Addr} {e : Exn} (x : XRel K ρ H cls d e) (a : Addr) : Den K ρ H (.ref a) (.exn a d e.cls e.fs) := by
  obtain ⟨n, fs⟩ := e
  obtain ⟨_, h | ⟨dd, ws, rfl, h, k, r⟩⟩ := x
  · have h' : fs = [] := h
    subst h'
    exact .exn0 a d n
  · exact .exn h k r
section
variable {X : Cx} {x n : Str} {c : Value} {i : Nat} {body suite : List Stmt} {b₀ : Stmt} {np pos pos' : Pos} {W : WX}
/-- what the clause makes of an exception -/
def exAs (mt : Nat → Option Bool) (i : Nat) (su : Addr → Option Addr → Nat → CS) (D : CEnds) : Exn → Ga → Mu → Prop := fun e Γ μ => match mt e.cls with
  | some true => ∀ a d, su a d e.cls (Γ.set i (some (.exn a d e.cls e.fs))) μ { nx := fun Γ2 μ2 => D.nx (Γ2.set i none) μ2, rt := D.rt, bk := fun Γ2 μ2 => D.bk (Γ2.set i none) μ2, ct := fun Γ2 μ2 => D.ct (Γ2.set i none) μ2 }
  | some false => D.ex e Γ μ
  | none => False
def csTryAs (mt : Nat → Option Bool) (i : Nat) (b : CS) (su : Addr → Option Addr → Nat → CS) : CS := fun Γ μ D => b Γ μ { D with ex := exAs mt i su D }
/-- a suite's reading -/
def lSu (K : PySem.W.Frag) (mt : Nat → Option Bool) (su : Addr → Option Addr → Nat → CS) (a : Addr) (cls : Value) (d : Option Addr) : TS := fun D σ H => ∃ n, mt n = some true ∧ cls = .ref (kA K n) ∧ lS K W0 (su a d n) D σ H
theorem exAs_w {K : PySem.W.Frag} {mt : Nat → Option Bool} {su : Addr → Option Addr → Nat → CS} {D : Ends} {C : CEnds} {ρ : List Addr} {H : Hp} {cv : Value} (hm : ∀ n b, mt n = some b → PySem.W.exmOne K (.ref (kA K n)) cv = some b) (L : LD K W ρ H D C) :
    ∀ e Γ' μ' ρ' σ' H' cls d, exAs mt i su C e Γ' μ' → Ext ρ H ρ' H' → RS K ρ' H' μ' → SR K ρ' H' σ' Γ' → XRel K ρ' H' cls d e → wAs K cv i (lSu K mt su) W D cls d σ' H' := by
  intro e Γ' μ' ρ' σ' H' cls d p e1 R S xr
  unfold exAs at p
  split at p
  · rename_i hmt
    refine ⟨true, by rw [xr.1]; exact hm _ _ hmt, fun _ a ha => ⟨e.cls, hmt, xr.1, ?_⟩, fun q => Bool.noConfusion q⟩
    refine ⟨ρ', _, μ', _, R, S.set (xr.den a) i, p a d, ⟨fun Γ2 μ2 ρ2 σ2 H2 p2 e2 R2 S2 => L.nx _ _ _ _ _ p2 (e1.trans e2) R2 (S2.gone i), fun x2 μ2 ρ2 v2 H2 p2 e2 R2 d2 => L.rt _ _ _ _ _ p2 (e1.trans e2) R2 d2,
      fun Γ2 μ2 ρ2 σ2 H2 p2 e2 R2 S2 => L.bk _ _ _ _ _ p2 (e1.trans e2) R2 (S2.gone i), fun Γ2 μ2 ρ2 σ2 H2 p2 e2 R2 S2 => L.ct _ _ _ _ _ p2 (e1.trans e2) R2 (S2.gone i), fun _ _ _ _ _ _ _ _ p2 => p2.elim⟩⟩
  · rename_i hmt
    exact ⟨false, by rw [xr.1]; exact hm _ _ hmt, (fun q => Bool.noConfusion q), fun _ => L.ex _ _ _ _ _ _ _ _ p e1 R S xr⟩
  · exact p.elim
theorem lSu_ps {Y : Cx} {sts : List Stmt} {mt : Nat → Option Bool} {su : Addr → Option Addr → Nat → CS} {a : Addr} {cls : Value} {d : Option Addr} (h : ∀ n, mt n = some true → cls = .ref (kA Y.K n) → PSs Y sts (lS Y.K W0 (su a d n))) : PSs Y sts (lSu Y.K mt su a cls d) :=
  ⟨fun pins s σ H D I ⟨n, h1, h2, q⟩ => (h n h1 h2).run pins s σ H D I q⟩
theorem cs_try_as {mt : Nat → Option Bool} {b : CS} {su : Addr → Option Addr → Nat → CS} (hs : X.stack = X.env :: X.outer) (hf : X.env.frame = some X.env.locals) (hN : X.N.Nodup) (hi : X.N[i]? = some n) (hln : X.env.kindOf n = some .local) (hc : Names X x c) (tk : Takes X W)
    (hm : ∀ k b, mt k = some b → PySem.W.exmOne X.K (.ref (kA X.K k)) c = some b)
    (hb : ∀ (W' : WX) (pn : List (Addr × Obj)) (xe : Value → Shared → Prop), Takes (X.tr pn xe) W' → PassesOwn (model X.prog X.w) X.A X.env xe → PSs (X.tr pn xe) body (lS X.K W' b))
    (hsu : ∀ (a : Addr) (oe : Obj) (k : Nat) (d : Option Addr) (pn : List (Addr × Obj)), mt k = some true → Zc (.ref (kA X.K k)) d oe → (∃ vs, oe.data = .fields vs) → PSs (X.suite a ((a, oe) :: pn)) (b₀ :: suite) (lS X.K W0 (su a d k))) :
    PS X (.Try body [.ExceptHandler (some (.Name x np)) (some n) (b₀ :: suite) pos'] [] [] pos) (lS X.K W (csTryAs mt i b su)) := by
  refine PS.imp (ps_try_as (tb := fun W' => lS X.K W' b) (ts := lSu X.K mt su) hs hf hN hi hln hc tk hb fun a oe cls d pn hz hf' => ?_) fun D σ H ⟨ρ, Γ, μ, C, R, S, h, L⟩ => ?_
  · refine lSu_ps (Y := X.suite a ((a, oe) :: pn)) fun k h1 h2 => ?_
    subst h2
    exact hsu a oe k d pn h1 hz hf'
  · exact ⟨ρ, Γ, μ, _, R, S, h, ⟨L.nx, L.rt, L.bk, L.ct, exAs_w hm L⟩⟩
/-- without a name -/
def exOnly (mt : Nat → Option Bool) (su : Addr → Option Addr → Nat → CS) (D : CEnds) : Exn → Ga → Mu → Prop := fun e Γ μ => match mt e.cls with
  | some true => ∀ a d, su a d e.cls Γ μ { D with ex := fun _ _ _ => False }
  | some false => D.ex e Γ μ
  | none => False
def csTryOnly (mt : Nat → Option Bool) (b : CS) (su : Addr → Option Addr → Nat → CS) : CS := fun Γ μ D => b Γ μ { D with ex := exOnly mt su D }
theorem cs_try_only {mt : Nat → Option Bool} {b : CS} {su : Addr → Option Addr → Nat → CS} (hs : X.stack = X.env :: X.outer) (hf : X.env.frame = some X.env.locals) (hc : Names X x c) (tk : Takes X W)
    (hm : ∀ k b, mt k = some b → PySem.W.exmOne X.K (.ref (kA X.K k)) c = some b)
    (hb : ∀ (W' : WX) (pn : List (Addr × Obj)) (xe : Value → Shared → Prop), Takes (X.tr pn xe) W' → PassesOwn (model X.prog X.w) X.A X.env xe → PSs (X.tr pn xe) body (lS X.K W' b))
    (hsu : ∀ (a : Addr) (oe : Obj) (k : Nat) (d : Option Addr) (pn : List (Addr × Obj)), mt k = some true → Zc (.ref (kA X.K k)) d oe → (∃ vs, oe.data = .fields vs) → PSs (X.suite a ((a, oe) :: pn)) (b₀ :: suite) (lS X.K W0 (su a d k))) :
    PS X (.Try body [.ExceptHandler (some (.Name x np)) none (b₀ :: suite) pos'] [] [] pos) (lS X.K W (csTryOnly mt b su)) := by
  refine PS.imp (ps_try_only (tb := fun W' => lS X.K W' b) (ts := lSu X.K mt su) hs hf hc tk hb fun a oe cls d pn hz hf' => ?_) fun D σ H ⟨ρ, Γ, μ, C, R, S, h, L⟩ => ?_
  · refine lSu_ps (Y := X.suite a ((a, oe) :: pn)) fun k h1 h2 => ?_
    subst h2
    exact hsu a oe k d pn h1 hz hf'
  · refine ⟨ρ, Γ, μ, _, R, S, h, ⟨L.nx, L.rt, L.bk, L.ct, fun e Γ' μ' ρ' σ' H' cls d p e1 R' S' xr => ?_⟩⟩
    have p : exOnly mt su C e Γ' μ' := p
    unfold exOnly at p
    split at p
    · rename_i hmt
      refine ⟨true, by rw [xr.1]; exact hm _ _ hmt, fun _ a ha => ⟨e.cls, hmt, xr.1, ?_⟩, fun q => Bool.noConfusion q⟩
      exact ⟨ρ', _, μ', _, R', S', p a d, ⟨fun Γ2 μ2 ρ2 σ2 H2 p2 e2 R2 S2 => L.nx _ _ _ _ _ p2 (e1.trans e2) R2 S2, fun x2 μ2 ρ2 v2 H2 p2 e2 R2 d2 => L.rt _ _ _ _ _ p2 (e1.trans e2) R2 d2,
        fun Γ2 μ2 ρ2 σ2 H2 p2 e2 R2 S2 => L.bk _ _ _ _ _ p2 (e1.trans e2) R2 S2, fun Γ2 μ2 ρ2 σ2 H2 p2 e2 R2 S2 => L.ct _ _ _ _ _ p2 (e1.trans e2) R2 S2, fun _ _ _ _ _ _ _ _ p2 => p2.elim⟩⟩
    · rename_i hmt
      exact ⟨false, by rw [xr.1]; exact hm _ _ hmt, (fun q => Bool.noConfusion q), fun _ => L.ex _ _ _ _ _ _ _ _ p e1 R' S' xr⟩
    · exact p.elim
end

/-! ### attributes by name, in two lists side by side -/
section
variable {K : PySem.W.Frag} {ρ : List Addr} {H : Hp}
theorem look_den {f : Str} {x : CV} : ∀ {ws : List (Str × V)} {fs : List (Str × CV)}, ws.map (·.1) = fs.map (·.1) → DenL K ρ H (ws.map (·.2)) (fs.map (·.2)) → fs.lookup f = some x → ∃ v, ws.lookup f = some v ∧ Den K ρ H v x
  | [], [], _, _, h => by cases h
  | [], _ :: _, h, _, _ => by cases h
  | _ :: _, [], h, _, _ => by cases h
  | (g, v) :: ws, (g', y) :: fs, hk, hr, h => by
    have e1 : g = g' := (List.cons.inj hk).1
    have e2 := (List.cons.inj hk).2
    subst e1
    cases hr with
    | cons d r =>
      by_cases q : (f == g) = true
      · simp only [List.lookup, q] at h ⊢
        cases h
        exact ⟨v, rfl, d⟩
      · have q' : (f == g) = false := by simpa using q
        simp only [List.lookup, q'] at h ⊢
        exact look_den e2 r h
theorem look_none {f : Str} : ∀ {ws : List (Str × V)} {fs : List (Str × CV)}, ws.map (·.1) = fs.map (·.1) → fs.lookup f = none → ws.lookup f = none
  | [], [], _, _ => rfl
  | [], _ :: _, h, _ => by cases h
  | _ :: _, [], h, _ => by cases h
  | (g, v) :: ws, (g', y) :: fs, hk, h => by
    have e1 : g = g' := (List.cons.inj hk).1
    have e2 := (List.cons.inj hk).2
    subst e1
    by_cases q : (f == g) = true
    · simp only [List.lookup, q] at h
      cases h
    · have q' : (f == g) = false := by simpa using q
      simp only [List.lookup, q'] at h ⊢
      exact look_none e2 h
def putC (f : Str) (v : CV) : List (Str × CV) → List (Str × CV)
  | [] => [(f, v)]
  | (g, x) :: r => if g = f then (g, v) :: r else (g, x) :: putC f v r
theorem put_den {f : Str} {v : V} {x : CV} (d : Den K ρ H v x) : ∀ {ws : List (Str × V)} {fs : List (Str × CV)}, ws.map (·.1) = fs.map (·.1) → DenL K ρ H (ws.map (·.2)) (fs.map (·.2)) →
    (putF f v ws).map (·.1) = (putC f x fs).map (·.1) ∧ DenL K ρ H ((putF f v ws).map (·.2)) ((putC f x fs).map (·.2))
  | [], [], _, _ => ⟨rfl, .cons d .nil⟩
  | [], _ :: _, h, _ => by cases h
  | _ :: _, [], h, _ => by cases h
  | (g, u) :: ws, (g', y) :: fs, hk, hr => by
    have e1 : g = g' := (List.cons.inj hk).1
    have e2 := (List.cons.inj hk).2
    subst e1
    cases hr with
    | cons d1 r =>
      unfold putF putC
      by_cases q : g = f
      · rw [if_pos q, if_pos q]
        exact ⟨by simp [e2], .cons d r⟩
      · rw [if_neg q, if_neg q]
        obtain ⟨a1, a2⟩ := put_den d e2 r
        exact ⟨by simp [a1], .cons d1 a2⟩
end

/-! ### in a suite: e.f, isinstance(e, C) -/
section
variable {X : Cx} {a : Addr} {oe : Obj} {d : Option Addr} {n : Nat} {pn : List (Addr × Obj)} {e : Expr} {pos : Pos} {W : WX} {f : Str}
def cXf (a : Addr) (d : Option Addr) (n : Nat) (f : Str) (c : CE) : CE := fun Γ μ P E => c Γ μ (fun x μ1 => match x with
  | .exn a' d' n' fs => (a' = a ∧ d' = d ∧ n' = n) ∧ (match fs.lookup f with
    | some v => P v μ1
    | none => False)
  | _ => False) E
theorem ce_xf {c : CE} (T : XfC X.K (kA X.K n)) (hno : PySem.W.findIn X.K (.ref (kA X.K n)) f = some none) (hz : Zc (.ref (kA X.K n)) d oe) (hf : ∃ vs, oe.data = .fields vs) (he : PE (X.suite a ((a, oe) :: pn)) e (lE X.K W c)) (hb : attributeBase e f X.env (eval e X.env) = eval e X.env := by rfl) :
    PE (X.suite a ((a, oe) :: pn)) (.Attribute e f pos) (lE X.K W (cXf a d n f c)) := PE.imp (pe_xf T hno hz hf he hb) fun σ H Q ⟨ρ, Γ, μ, P, E, R, S, c, k, xx⟩ =>
  ⟨ρ, Γ, μ, _, E, R, S, c, fun x μ1 ρ1 v H1 p1 e1 R1 d1 => by
    split at p1
    · obtain ⟨⟨rfl, rfl, rfl⟩, p1⟩ := p1
      split at p1
      · rename_i y hy
        cases d1 with
        | exn0 => cases hy
        | exn h hk r =>
          obtain ⟨v, h1, h2⟩ := look_den hk r hy
          exact ⟨rfl, rfl, _, _, v, rfl, h, h1, k _ _ _ _ _ p1 e1 R1 h2⟩
      · exact p1.elim
    · exact p1.elim, xx⟩
/-- what the class must say for isinstance -/
structure ExI (K : PySem.W.Frag) (D : Addr) : Prop where
  hcl : (PySem.W.clsIn K D).isSome = true
  hga : PySem.W.findIn K (.ref D) "__getattribute__" = some (some (.builtin "BaseException.__getattribute__"))
  hgt : PySem.W.findIn K (.ref D) "__getattr__" = some none
  hsub : PySem.W.subIn K (.ref D) (.type "BaseException") = some true
  ha : PySem.W.findIn K (.ref D) "__class__" = some (some (.builtin "object.__class__"))
  hn : PySem.W.specialIn K (.builtin "object.__class__") "__get__" = some (some (.builtin "getset_descriptor.__get__"))
  ht : PySem.W.takesIn K (.builtin "object.__class__") = some true
  hm : PySem.W.mroIn K D (.type "object") = some true
def rIsX (K : PySem.W.Frag) (D a : Addr) (d : Option Addr) : List V → Hp → VK → Prop := fun xs H Q => ∃ (c : Addr) (b : Bool) (dd : Addr) (fs : List (Str × V)), xs = [.ref a, .ref c] ∧ d = some dd ∧ H dd = some (.xd fs) ∧ PySem.W.kitOne K (.ref D) (.ref c) = some b ∧ Q (.bl b) H
theorem call_isX {D : Addr} (C : ExI X.K D) (hz : Zc (.ref D) d oe) (hf : ∃ vs, oe.data = .fields vs) : CallR (X.suite a ((a, oe) :: pn)) (.builtin "isinstance") (rIsX X.K D a d) := by
  intro pins s σ H xs us Q I r h
  obtain ⟨c, b, dd, fs, rfl, rfl, hx, e, q⟩ := h
  cases r with
  | cons rx rr =>
    cases rr with
    | cons rt rr =>
      cases rr
      cases rx
      cases rt
      obtain ⟨hget, _⟩ := I.pin (a, oe) (List.mem_append.mpr (.inl List.mem_cons_self))
      obtain ⟨vs, hv⟩ := hf
      obtain ⟨mA, hns, _⟩ := (show ObjOk X.prog X.w H s.heap dd (.xd fs) from I.hok dd _ hx)
      obtain ⟨od, ho, _⟩ := lookIn_ns hns
      have J : PySem.W.InstAt s.heap a oe D (some od) := ⟨hget, hz.1, by unfold PySem.W.notCls; rw [hv] <;> rfl, by rw [hz.2]; exact ho⟩
      exact PySem.W.kia_one (PySem.W.kitx_exc C.hcl C.hga C.hgt C.hsub C.ha C.hn C.ht C.hm) I.kIn J e (fun z => nomatch z) fun tk => ⟨.bl b, H, I.kept (t' := tk) fun _ _ z => z, rfl, q⟩
def fIsX (a : Addr) (d : Option Addr) (n : Nat) (m : Str) (b : Bool) : CCa := fun xs μ P => match xs with
  | [.exn a' d' n' fs, .glo c] => (a' = a ∧ d' = d ∧ n' = n ∧ c = m ∧ fs ≠ []) ∧ P (.bl b) μ
  | _ => False
theorem cs_isX {K : PySem.W.Frag} {m : Str} {b : Bool} (h : PySem.W.kitOne K (.ref (kA K n)) (.ref (He.ga K m)) = some b) : CaS K (rIsX K (kA K n) a d) (fIsX a d n m b) := fun ρ H μ xs vs P Q R dd p k => by
  unfold fIsX at p
  split at p
  · obtain ⟨⟨rfl, rfl, rfl, rfl, hne⟩, p⟩ := p
    cases dd with
    | cons d1 dr =>
      cases dr with
      | cons d2 dr =>
        cases dr
        cases d2
        cases d1 with
        | exn0 => exact absurd rfl hne
        | exn h1 hk r => exact ⟨_, b, _, _, rfl, rfl, h1, h, k _ _ _ _ _ p Ext.refl R (.bl b)⟩
  · exact p.elim
end

/-! ### an exception's __init__ -/
theorem ok_ini {P : Program} {w : World} {K : PySem.W.Frag} {mg : Str → Option Value} {base : Heap} {x qual : Str} {params : Arguments} {body : List Stmt} {scope : Scope} {dvs : List V} {kws : List (Str × V)} {f : Addr} {fd : FuncData} {C : Addr} {fl : Str}
    (F : FunD K x qual params body scope dvs kws f fd) (Sc : FnScope ["self", fl] ["self", fl] scope) (T : OexC K C) (hno : PySem.W.findIn K (.ref C) fl = some none)
    (hbody : ∀ (cdv : Value) (A : Around) (outer : List Env) (s : Shared) (H : Hp) (E : XK), PSs (cxOf (L2.CX P w) P w K mg base ["self", fl] qual scope f cdv A outer s H E) body (tOst K fl (tVar 0) (tVar 1))) :
    FnOk P w K mg base (L2.CX P w) 1 f fd ["self", fl] (spIni C fl) :=
  F.ok Sc (fun vs H Q E ⟨a, y, e, _⟩ => by rw [e]; rfl) fun cdv A outer s H vs Q E hr ⟨a, y, e, h, k⟩ => ⟨_, hbody cdv A outer s H E, by
    subst e
    exact ⟨y, rfl, _, rfl, a, C, rfl, T, hno, .inl ⟨h, fun dx h1 h2 => k dx h1 h2⟩⟩⟩

/-! ### instances -/
section
variable {X : Cx} {e o value : Expr} {es : List Expr} {W : WX} {pos pos' : Pos} {f : Str}
/-- e.f -/
def cFld (ns : List Nat) (f : Str) (c : CE) : CE := fun Γ μ P E => c Γ μ (fun x μ1 => match x with
  | .hnd h => (match μ1[h]? with
    | some (.ins n fs) => n ∈ ns ∧ (match fs.lookup f with
      | some v => P v μ1
      | none => False)
    | _ => False)
  | _ => False) E
/-- the classes' facts of an attribute -/
def AtOk (K : PySem.W.Frag) (ns : List Nat) (f : Str) : Prop := ∀ n ∈ ns, Cls K (kA K n) ∧ NoAttr K (kA K n) f
theorem ce_fld {ns : List Nat} {c : CE} (T : AtOk X.K ns f) (he : PE X e (lE X.K W c)) (hb : attributeBase e f X.env (eval e X.env) = eval e X.env := by rfl) : PE X (.Attribute e f pos) (lE X.K W (cFld ns f c)) :=
  PE.imp (pe_fld he hb) fun σ H Q ⟨ρ, Γ, μ, P, E, R, S, c, k, xx⟩ => ⟨ρ, Γ, μ, _, E, R, S, c, fun x μ1 ρ1 v H1 p1 e1 R1 d1 => by
    split at p1
    · split at p1
      · rename_i h _ n fs hh
        obtain ⟨hn, p1⟩ := p1
        split at p1
        · rename_i y hy
          cases d1 with
          | hnd ha =>
            obtain ⟨dx, ws, hw, hk, r⟩ := R1.ob _ _ _ ha hh
            obtain ⟨v, h1, h2⟩ := look_den hk r hy
            exact ⟨_, _, dx, ws, v, rfl, hw, (T n hn).1, (T n hn).2, h1, k _ _ _ _ _ p1 e1 R1 h2⟩
        · exact p1.elim
      · exact p1.elim
    · exact p1.elim, xx⟩
/-- o.f = e -/
def csFld (ns : List Nat) (f : Str) (co cv : CE) : CS := fun Γ μ D => cv Γ μ (fun y μ1 => co Γ μ1 (fun x μ2 => match x with
  | .hnd h => (match μ2[h]? with
    | some (.ins n fs) => (n ∈ ns ∧ fs.length < 1000) ∧ D.nx Γ (μ2.set h (.ins n (putC f y fs)))
    | _ => False)
  | _ => False) fun x μ2 => D.ex x Γ μ2) fun x μ1 => D.ex x Γ μ1
theorem cs_fld {ns : List Nat} {co cv : CE} (T : AtOk X.K ns f) (ho : PE X o (lE X.K W co)) (hv : PE X value (lE X.K W cv)) (hs : swapsWith value (some (.Attribute o f pos')) pos.line X.env = pure false := by rfl) :
    PS X (.Assign [.Attribute o f pos'] value pos) (lS X.K W (csFld ns f co cv)) := PS.imp (ps_fld ho hv hs) fun D σ H ⟨ρ, Γ, μ, C, R, S, c, L⟩ =>
  ⟨ρ, Γ, μ, _, _, R, S, c, fun y μ1 ρ1 w H1 p1 e1 R1 d1 => ⟨ρ1, Γ, μ1, _, _, R1, e1.sr S, p1, fun x μ2 ρ2 v H2 p2 e2 R2 d2 => by
    split at p2
    · split at p2
      · rename_i h _ n fs hh
        obtain ⟨⟨hn, hl⟩, p2⟩ := p2
        cases d2 with
        | hnd ha =>
          obtain ⟨dx, ws, hw, hk, r⟩ := R2.ob _ _ _ ha hh
          obtain ⟨a1, a2⟩ := put_den (f := f) (e2.den d1) hk r
          have hl' : ws.length < 1000 := by
            have := congrArg List.length hk
            simp at this
            omega
          have E3 : Ext ρ2 H2 ρ2 (upd H2 _ (.ins (kA X.K n) dx (putF f w ws))) := ⟨fun _ _ q => q, TExt.at hw (fun z => z)⟩
          obtain ⟨R3, e3⟩ := R2.set (o := .ins (kA X.K n) dx (putF f w ws)) (c := .ins n (putC f y fs)) ha ⟨dx, putF f w ws, upd_same, a1, E3.denL a2⟩
          exact ⟨_, _, dx, ws, rfl, hw, (T n hn).1, (T n hn).2, hl', L.nx _ _ _ _ _ p2 ((e1.trans e2).trans e3) R3 (((e1.trans e2).trans e3).sr S)⟩
      · exact p2.elim
    · exact p2.elim, (L.ext e1).lx (e1.sr S)⟩, L.lx S⟩
/-- o.m(e, ..), what is raised met at the caller's slots -/
def cMeth (n : Nat) (m : Str) (S : CSpec) (dxs : List CV) (co : CE) (ca : CA) : CE := fun Γ μ P E => co Γ μ (fun x μ1 => match x with
  | .hnd h => (match μ1[h]? with
    | some (.ins n' fs) => (n' = n ∧ fs.lookup m = none) ∧ ca Γ μ1 (fun xs μ2 => S (x :: (xs ++ dxs)) μ2 P E) E
    | _ => False)
  | _ => False) E
section
variable {k : Nat} {g : Addr} {fd : FuncData} {ps : List Str} {S : CSpec} {dvs : List V} {ds : List Value} {dxs : List CV} {m : Str} {n : Nat} {apos : Pos}
theorem ce_meth {co : CE} {ca : CA} {pl : Sem Bool} (c : Cls X.K (kA X.K n)) (hm : Meth X.K (kA X.K n) m g) (F : FnC X k g fd ps S) (hr : Room k X.A) (hb : Binds X.K fd ps ds) (hd : Vals dvs ds) (dx : ∀ ρ H, DenL X.K ρ H dvs dxs) (tk : Takes X W)
    (he : PE X o (lE X.K W co)) (ha : PA X (e :: es) (lA X.K W ca))
    (hst : starEach (e :: es) X.env = (false, eval e X.env) :: starEach es X.env := by rfl) (hpl : (backTo pos (starEach es X.env)).any (·.1) = false := by rfl)
    (ht : eval (.Call (.Attribute o m apos) (e :: es) [] pos) X.env = (do
      let ov ← eval o X.env
      standAt apos.atName
      let (f, first) ← holding [ov] (getMethod ov m pl)
      callWith pos f first (backTo pos (starEach (e :: es) X.env)) (backToKw pos (keywordEach [] X.env))) := by rfl) :
    PE X (.Call (.Attribute o m apos) (e :: es) [] pos) (lE X.K W (cMeth n m S dxs co ca)) := by
  refine ⟨fun pins s σ H Q I ⟨ρ, Γ, μ, P, E, R, Sr, cc, kk, xx⟩ => ?_⟩
  refine PySem.W.methodCall_KW (pl := pl) (thn (he.run pins s σ H (fun x H1 => ∃ a dx fs, x = .ref a ∧ H1 a = some (.ins (kA X.K n) dx fs) ∧ fs.lookup m = none ∧ lA X.K W ca σ H1 fun vs H2 => spC X.K S (x :: (vs ++ dvs)) H2 Q (WE W σ)) I ?_) fun u s1 ⟨x, H1, I1, rx, a, dx, fs, ex, ea, l, q⟩ => ?_) ht
  · refine ⟨ρ, Γ, μ, _, E, R, Sr, cc, fun x μ1 ρ1 v H1 p1 e1 R1 d1 => ?_, xx⟩
    split at p1
    · split at p1
      · rename_i h _ n' fs hh
        obtain ⟨⟨rfl, hl⟩, p1⟩ := p1
        have d1' := d1
        cases d1 with
        | hnd ha =>
          obtain ⟨dx', ws, hw, hk, r⟩ := R1.ob _ _ _ ha hh
          refine ⟨_, dx', ws, rfl, hw, look_none hk hl, ρ1, Γ, μ1, _, E, R1, e1.sr Sr, p1, fun xs μ2 ρ2 vs H2 p2 e2 R2 d2 => ?_, xx.ext e1⟩
          exact ⟨ρ2, μ2, _, P, E, R2, .cons (e2.den d1') (d2.append (dx _ _)), p2, fun x μ3 ρ3 v H3 p3 e3 R3 d3 => kk _ _ _ _ _ p3 ((e1.trans e2).trans e3) R3 d3, fun y μ3 ρ3 H3 cls d p3 e3 R3 xr => xx _ _ _ _ _ _ p3 ((e1.trans e2).trans e3) R3 xr⟩
      · exact p1.elim
    · exact p1.elim
  · subst ex
    obtain rfl : u = Value.ref a := rx
    refine getmeth_ok I1 ea c hm l ?_
    refine PySem.W.callWith_K (first := [.ref a]) (h₀ := X.base) I.ok.mod.kin hm.kp (thn (ha.run pos pins s1 σ H1 _ I1 q) fun us s2 ⟨vs, H2, I2, r, q2⟩ => ⟨I2.kIn, ?_⟩) hst hpl
    exact run_fnSD (us := .ref a :: us) (vs := .ref a :: vs) (E := WE W) F hr hb hd (passAt tk σ) I2 (.cons rfl r) q2
theorem ce_meth0 {co : CE} {pl : Sem Bool} (c : Cls X.K (kA X.K n)) (hm : Meth X.K (kA X.K n) m g) (F : FnC X k g fd ps S) (hr : Room k X.A) (hb : Binds X.K fd ps ds) (hd : Vals dvs ds) (dx : ∀ ρ H, DenL X.K ρ H dvs dxs) (tk : Takes X W)
    (he : PE X o (lE X.K W co))
    (ht : eval (.Call (.Attribute o m apos) [] [] pos) X.env = (do
      let ov ← eval o X.env
      standAt apos.atName
      let (f, first) ← holding [ov] (getMethod ov m pl)
      callWith pos f first (backTo pos (starEach [] X.env)) (backToKw pos (keywordEach [] X.env))) := by rfl) :
    PE X (.Call (.Attribute o m apos) [] [] pos) (lE X.K W (cMeth n m S dxs co cNil)) := by
  refine ⟨fun pins s σ H Q I ⟨ρ, Γ, μ, P, E, R, Sr, cc, kk, xx⟩ => ?_⟩
  refine PySem.W.methodCall_KW (pl := pl) (thn (he.run pins s σ H (fun x H1 => ∃ a dx fs, x = .ref a ∧ H1 a = some (.ins (kA X.K n) dx fs) ∧ fs.lookup m = none ∧ spC X.K S (x :: ([] ++ dvs)) H1 Q (WE W σ)) I ?_) fun u s1 ⟨x, H1, I1, rx, a, dx, fs, ex, ea, l, q⟩ => ?_) ht
  · refine ⟨ρ, Γ, μ, _, E, R, Sr, cc, fun x μ1 ρ1 v H1 p1 e1 R1 d1 => ?_, xx⟩
    split at p1
    · split at p1
      · rename_i h _ n' fs hh
        obtain ⟨⟨rfl, hl⟩, p1⟩ := p1
        have d1' := d1
        cases d1 with
        | hnd ha =>
          obtain ⟨dx', ws, hw, hk, r⟩ := R1.ob _ _ _ ha hh
          exact ⟨_, dx', ws, rfl, hw, look_none hk hl, ρ1, μ1, _, P, E, R1, .cons d1' (dx _ _), p1, fun x μ3 ρ3 v H3 p3 e3 R3 d3 => kk _ _ _ _ _ p3 (e1.trans e3) R3 d3, fun y μ3 ρ3 H3 cls d p3 e3 R3 xr => xx _ _ _ _ _ _ p3 (e1.trans e3) R3 xr⟩
      · exact p1.elim
    · exact p1.elim
  · subst ex
    obtain rfl : u = Value.ref a := rx
    refine getmeth_ok I1 ea c hm l ?_
    exact PySem.W.callWith_K0 (first := [.ref a]) I1.kIn hm.kp (run_fnSD (us := [.ref a]) (vs := [.ref a]) (E := WE W) F hr hb hd (passAt tk σ) I1 (.cons rfl .nil) q)
/-- C(e, ..): a new instance, then its __init__ -/
def cMake (n : Nat) (S : CSpec) (dxs : List CV) (ca : CA) : CE := fun Γ μ P E => ca Γ μ (fun xs μ1 => S (.hnd μ1.length :: (xs ++ dxs)) (μ1 ++ [.ins n []]) (fun v μ2 => v = .non ∧ P (.hnd μ1.length) μ2) E) E
theorem run_makeSD {fI : Addr} {pins : List (Addr × Obj)} {s : Shared} {σ : St} {H : Hp} {C : Addr} {us : List Value} {vs : List V} {Q : VK} {sp : Sp} (M : Mk X.K C fI) (F : FnOk X.prog X.w X.K X.mg X.base (L2.CX X.prog X.w) k fI fd ps sp) (hr : Room (k + 1) X.A) (hb : Binds X.K fd ps ds) (hd : Vals dvs ds)
    (tk : Takes X W) (I : Inv X pins σ H s) (r : Vals vs us)
    (h : ∀ x dx, H x = none → H dx = none → dx ≠ x → sp (.ref x :: (vs ++ dvs)) (upd (upd H dx (.own x)) x (.ins C dx [])) (fun v H2 => v = .non ∧ Q (.ref x) H2) (WE W σ)) :
    wpAny (model X.prog X.w) X.A (call (.ref C) us) (EP X pins σ Q) X.xe s := by
  have hq := h (s.heap.objs.size + 1) s.heap.objs.size (I.hok.fresh (Nat.le_succ _)) (I.hok.fresh (Nat.le_refl _)) (Nat.ne_of_lt (Nat.lt_succ_self _))
  have I2 := Inv.made (C := C) I
  have r2 : Vals (V.ref (s.heap.objs.size + 1) :: (vs ++ dvs)) (Value.ref (s.heap.objs.size + 1) :: (us ++ ds)) := .cons rfl (r.append hd)
  have hl : (Value.ref (s.heap.objs.size + 1) :: us ++ ds).length = ps.length := by
    have e := r2.length
    rw [F.len _ _ _ _ hq] at e
    exact e.symm
  refine wpAny_call (make_map (f := fI) I.kIn M.makes M.init (beq_iff_eq.mp M.fn) (codeAny_mono (F.run _ X.stack _ _ ⟨Value.ref (s.heap.objs.size + 1) :: us, []⟩ (Value.ref (s.heap.objs.size + 1) :: (us ++ ds)) _ _ (WE W σ) (hr.make C us [])
    (I2.env0.make C us []) (hb _ (Value.ref (s.heap.objs.size + 1) :: us) I2.kIn hl) r2 hq) fun r s' hq' => ?_))
  cases r with
  | error e => exact (passAt tk σ) pins _ _ e s' I2 hq'
  | ok fl =>
    cases fl with
    | ret u =>
      obtain ⟨v, H', I3, rv, ev, q3⟩ := I2.after hq'
      subst ev
      exact ⟨rv, ⟨V.ref (s.heap.objs.size + 1), H', I3, rfl, q3⟩⟩
    | next => exact False.elim hq'
    | brk => exact False.elim hq'
    | cont => exact False.elim hq'
theorem make_h {σ : St} {H1 : Hp} {ρ : List Addr} {μ : Mu} {xs : List CV} {vs : List V} {P : PV} {E : PX} {Q : VK} (R : RS X.K ρ H1 μ) (d : DenL X.K ρ H1 vs xs) (dx : ∀ ρ H, DenL X.K ρ H dvs dxs)
    (p : S (.hnd μ.length :: (xs ++ dxs)) (μ ++ [.ins n []]) (fun v μ2 => v = .non ∧ P (.hnd μ.length) μ2) E) (kk : ∀ x μ' ρ' v H', P x μ' → Ext ρ H1 ρ' H' → RS X.K ρ' H' μ' → Den X.K ρ' H' v x → Q v H') (xx : LX X.K W ρ H1 σ E) :
    ∀ x dx', H1 x = none → H1 dx' = none → dx' ≠ x → spC X.K S (.ref x :: (vs ++ dvs)) (upd (upd H1 dx' (.own x)) x (.ins (kA X.K n) dx' [])) (fun v H2 => v = .non ∧ Q (.ref x) H2) (WE W σ) := by
  intro x dx' hx hdx hne
  have e1 : Ext ρ H1 ρ (upd H1 dx' (.own x)) := Ext.new hdx
  have R1 := R.new (o := .own x) hdx
  have hx1 : (upd H1 dx' (.own x)) x = none := by rw [upd_ne (Ne.symm hne)]; exact hx
  have e2 := e1.trans (Ext.push (ρ := ρ) (o := .ins (kA X.K n) dx' []) hx1)
  have R2 := R1.push (o := .ins (kA X.K n) dx' []) (c := .ins n []) hx1 ⟨dx', [], upd_same, rfl, .nil⟩
  have dn : Den X.K (ρ ++ [x]) (upd (upd H1 dx' (.own x)) x (.ins (kA X.K n) dx' [])) (.ref x) (.hnd μ.length) := .hnd (by rw [← R.len]; simp)
  refine ⟨ρ ++ [x], μ ++ [.ins n []], _, _, E, R2, .cons dn ((e2.denL d).append (dx _ _)), p, fun y μ3 ρ3 v H3 p3 e3 R3 d3 => ?_, fun y μ3 ρ3 H3 cls d p3 e3 R3 xr => xx _ _ _ _ _ _ p3 (e2.trans e3) R3 xr⟩
  obtain ⟨rfl, p3⟩ := p3
  cases d3
  exact ⟨rfl, kk _ _ _ _ _ p3 (e2.trans e3) R3 (e3.den dn)⟩
theorem ce_make {fI : Addr} {x : Str} {p : Pos} {ca : CA} (M : Mk X.K (kA X.K n) fI) (F : FnC X k fI fd ps S) (hr : Room (k + 1) X.A) (hm : X.mg x = some (.ref (kA X.K n))) (hb : Binds X.K fd ps ds) (hd : Vals dvs ds) (dx : ∀ ρ H, DenL X.K ρ H dvs dxs) (tk : Takes X W)
    (ha : PA X (e :: es) (lA X.K W ca)) (hg : Gl X x := by rfl) (hdb : (x == ("__debug__" : Str)) = false := by decide) (he : starEach (e :: es) X.env = (false, eval e X.env) :: starEach es X.env := by rfl) (hpl : (backTo pos (starEach es X.env)).any (·.1) = false := by rfl) :
    PE X (.Call (.Name x p) (e :: es) [] pos) (lE X.K W (cMake n S dxs ca)) := by
  refine ⟨fun pins s σ H Q I ⟨ρ, Γ, μ, P, E, R, Sr, cc, kk, xx⟩ => ?_⟩
  refine wpAny_Call_Name_kw (ld_glob I hg hm ?_ hdb)
  refine PySem.W.callWith_K (h₀ := X.base) I.ok.mod.kin M.kp (thn (ha.run pos pins s σ H (fun vs H1 => ∀ x dx, H1 x = none → H1 dx = none → dx ≠ x → spC X.K S (.ref x :: (vs ++ dvs)) (upd (upd H1 dx (.own x)) x (.ins (kA X.K n) dx [])) (fun v H2 => v = .non ∧ Q (.ref x) H2) (WE W σ)) I
    ⟨ρ, Γ, μ, _, E, R, Sr, cc, fun xs μ1 ρ1 vs H1 p1 e1 R1 d1 => make_h R1 d1 dx p1 (fun y μ3 ρ3 v H3 p3 e3 R3 d3 => kk _ _ _ _ _ p3 (e1.trans e3) R3 d3) (xx.ext e1), xx⟩) fun us s1 ⟨vs, H1, I1, r, q⟩ => ⟨I1.kIn, ?_⟩) he hpl
  exact run_makeSD M F hr hb hd tk I1 r q
end
end
end Cl
/-! Cl9: defs by name, the head. -/
namespace Cl
open PySem PySem.Spec PyProof.Rows L2
/-- the function at f keeps S; dxs: what the defaults give -/
structure OkG (P : Program) (w : World) (K : PySem.W.Frag) (mg : Str → Option Value) (base : Heap) (k : Nat) (f : Addr) (S : CSpec) (dxs : List CV) : Prop where
  ex : ∃ (fd : FuncData) (ps : List Str) (dvs : List V) (ds : List Value), FnOk P w K mg base (L2.CX P w) k f fd ps (spC K S) ∧ Binds K fd ps ds ∧ Vals dvs ds ∧ (∀ ρ H, DenL K ρ H dvs dxs)
  kp : PySem.W.keepIn K (.ref f) = true
/-- the names: free ones, those of defs and classes -/
structure GF (fr gl : List Str) (K : PySem.W.Frag) (mg : Str → Option Value) : Prop where
  fr : ∀ (i : Nat) {x : Str}, fr[i]? = some x → mg x = none
  gl : ∀ (i : Nat) {x : Str}, gl[i]? = some x → mg x = some (.ref (He.ga K x))
section
variable {X : Cx} {W : WX} {e : Expr} {es : List Expr} {pos : Pos}
theorem ce_callG {k : Nat} {f : Addr} {S : CSpec} {dxs : List CV} {x : Str} {p : Pos} {ca : CA} (F : OkG X.prog X.w X.K X.mg X.base k f S dxs) (hr : Room k X.A) (hm : X.mg x = some (.ref f)) (tk : Takes X W) (ha : PA X (e :: es) (lA X.K W ca)) (hg : Gl X x := by rfl)
    (hdb : (x == ("__debug__" : Str)) = false := by decide) (he : starEach (e :: es) X.env = (false, eval e X.env) :: starEach es X.env := by rfl) (hpl : (backTo pos (starEach es X.env)).any (·.1) = false := by rfl) : PE X (.Call (.Name x p) (e :: es) [] pos) (lE X.K W (cCall S dxs ca)) := by
  obtain ⟨fd, ps, dvs, ds, h1, h2, h3, h4⟩ := F.ex
  exact ce_call h1 hr hm F.kp h2 h3 h4 tk ha hg hdb he hpl
theorem ce_callG0 {k : Nat} {f : Addr} {S : CSpec} {dxs : List CV} {x : Str} {p : Pos} (F : OkG X.prog X.w X.K X.mg X.base k f S dxs) (hr : Room k X.A) (hm : X.mg x = some (.ref f)) (tk : Takes X W) (hg : Gl X x := by rfl) (hdb : (x == ("__debug__" : Str)) = false := by decide) :
    PE X (.Call (.Name x p) [] [] pos) (lE X.K W (cCall S dxs cNil)) := by
  obtain ⟨fd, ps, dvs, ds, h1, h2, h3, h4⟩ := F.ex
  exact ce_call0 h1 hr hm F.kp h2 h3 h4 tk hg hdb
end
/-- a def without defaults -/
theorem okG {P : Program} {w : World} {K : PySem.W.Frag} {mg : Str → Option Value} {base : Heap} {x qual : Str} {params : Arguments} {body : List Stmt} {scope : Scope} {kws : List (Str × V)} {f : Addr} {fd : FuncData} {N ps : List Str} {k : Nat} {S : CSpec} {c : CS}
    (F : FunD K x qual params body scope [] kws f fd)
    (hb : ∀ (kV doc pm : Value) (an : Option Addr) (cdv ct : Value) (us : List Value), us.length = ps.length → bindArgs (PySem.W.fnOf x qual params body scope .none kV doc pm an cdv ct) ⟨us, []⟩ = pure (ps.zip us))
    (Sc : FnScope N ps scope) (len : ∀ xs μ P E, S xs μ P E → xs.length = ps.length)
    (hbody : ∀ (cdv : Value) (A : Around) (outer : List Env) (s : Shared) (H : Hp) (E : XK), Room k (A.deeper (envOfC qual scope s.heap.objs.size f cdv)) →
      PSs (cxOf (L2.CX P w) P w K mg base N qual scope f cdv A outer s H E) body (lS K (WD E) c))
    (pure : ∀ xs μ P E, S xs μ P E → c (startG N xs) μ { nx := fun _ μ' => P .non μ', rt := P, ex := fun e _ μ' => E e μ' }) : OkG P w K mg base (k + 1) f S [] :=
  ⟨⟨fd, ps, [], [], ok_clean F Sc len hbody pure, F.bindsN hb, .nil, fun _ _ => .nil⟩, F.kp⟩

/-! ### exceptions' classes -/
def oexB (K : PySem.W.Frag) (C : Addr) : Bool := match K.lookup C with
  | some ⟨.type "type", _, .cls cd, sl⟩ => (match cd.mro, sl.toList with
    | .ref C' :: bm, [_, _, _, _, some (.builtin n), _] => C' == C && n == "ValueError.__new__" && !cd.hasDel && cd.hasDict && PySem.HandSPX.refsVE bm
    | _, _ => false)
  | _ => false
def oexBB (K : PySem.W.Frag) (C : Addr) : Bool := oexB K C && (He.eqO (PySem.W.findIn K (.ref C) "__setattr__") (some (some (.builtin "object.__setattr__"))) && (decide (PySem.W.subIn K (.ref C) (.type "BaseException") = some true) && (decide (PySem.W.typeIn K (.ref C) = some (.type "type")) && PySem.W.keepIn K (.ref C))))
theorem oexBB_ok {K : PySem.W.Frag} {C : Addr} (h : oexBB K C = true) : OexC K C := by
  obtain ⟨q, h⟩ := He.ba h
  obtain ⟨h1, h⟩ := He.ba h
  obtain ⟨h2, h⟩ := He.ba h
  obtain ⟨h3, h4⟩ := He.ba h
  refine ⟨?_, He.eqO_ok h1, of_decide_eq_true h2, of_decide_eq_true h3, h4⟩
  unfold oexB at q
  split at q
  · rename_i dd cd sl ho
    split at q
    · rename_i C' bm k0 k1 k2 k3 n k5 hm hs
      simp only [Bool.and_eq_true, beq_iff_eq, Bool.not_eq_true'] at q
      obtain ⟨⟨⟨⟨rfl, rfl⟩, hdel⟩, hd⟩, hr⟩ := q
      obtain ⟨nm, bs, mro, ns, qn, hdd, sn, sub, ab, col, del⟩ := cd
      dsimp only at hm hdel hd
      subst hm hdel hd
      have hsl : sl = #[k0, k1, k2, k3, some (.builtin "ValueError.__new__"), k5] := by
        obtain ⟨l⟩ := sl
        simp only at hs
        rw [hs]
      subst hsl
      exact ⟨nm, qn, ns, bs, bm, sn, sub, ab, col, dd, k0, k1, k2, k3, k5, ho, hr⟩
    · cases q
  · cases q
def exiB (K : PySem.W.Frag) (D : Addr) : Bool := (PySem.W.clsIn K D).isSome && (He.eqO (PySem.W.findIn K (.ref D) "__getattribute__") (some (some (.builtin "BaseException.__getattribute__"))) && (He.eqO (PySem.W.findIn K (.ref D) "__getattr__") (some none) &&
  (decide (PySem.W.subIn K (.ref D) (.type "BaseException") = some true) && (He.eqO (PySem.W.findIn K (.ref D) "__class__") (some (some (.builtin "object.__class__"))) && (He.eqO (PySem.W.specialIn K (.builtin "object.__class__") "__get__") (some (some (.builtin "getset_descriptor.__get__"))) &&
    (decide (PySem.W.takesIn K (.builtin "object.__class__") = some true) && decide (PySem.W.mroIn K D (.type "object") = some true)))))))
theorem exiB_ok {K : PySem.W.Frag} {D : Addr} (h : exiB K D = true) : ExI K D := by
  obtain ⟨h1, h⟩ := He.ba h
  obtain ⟨h2, h⟩ := He.ba h
  obtain ⟨h3, h⟩ := He.ba h
  obtain ⟨h4, h⟩ := He.ba h
  obtain ⟨h5, h⟩ := He.ba h
  obtain ⟨h6, h⟩ := He.ba h
  obtain ⟨h7, h8⟩ := He.ba h
  exact ⟨h1, He.eqO_ok h2, He.eqO_ok h3, of_decide_eq_true h4, He.eqO_ok h5, He.eqO_ok h6, of_decide_eq_true h7, of_decide_eq_true h8⟩
/-- an own exception with one attribute f -/
def xclB (K : PySem.W.Frag) (n : Nat) (f : Str) : Bool := oexBB K (kA K n) && (xfB K (kA K n) && (exiB K (kA K n) && (He.eqO (PySem.W.findIn K (.ref (kA K n)) f) (some none) &&
  (He.eqO (PySem.W.findIn K (.ref (kA K n)) "__init__") (some (some (.ref (He.ma K (kA K n) "__init__")))) && decide (PySem.W.typeIn K (.ref (He.ma K (kA K n) "__init__")) = some (.type "function"))))))
structure XCl (K : PySem.W.Frag) (n : Nat) (f : Str) : Prop where
  o : OexC K (kA K n)
  x : XfC K (kA K n)
  i : ExI K (kA K n)
  no : PySem.W.findIn K (.ref (kA K n)) f = some none
  ini : PySem.W.findIn K (.ref (kA K n)) "__init__" = some (some (.ref (He.ma K (kA K n) "__init__")))
  ty : PySem.W.typeIn K (.ref (He.ma K (kA K n) "__init__")) = some (.type "function")
theorem xclB_ok {K : PySem.W.Frag} {n : Nat} {f : Str} (h : xclB K n f = true) : XCl K n f := by
  obtain ⟨h1, h⟩ := He.ba h
  obtain ⟨h2, h⟩ := He.ba h
  obtain ⟨h3, h⟩ := He.ba h
  obtain ⟨h4, h⟩ := He.ba h
  obtain ⟨h5, h6⟩ := He.ba h
  exact ⟨oexBB_ok h1, xfB_ok h2, exiB_ok h3, He.eqO_ok h4, He.eqO_ok h5, of_decide_eq_true h6⟩
/-- the module's name x is a table of these -/
inductive Dc where
  | non | bl (b : Bool) | int (i : Int) | str (x : Str) | glo (x : Str)
def Dc.d : Dc → He.Dv
  | .non => .non
  | .bl b => .bl b
  | .int i => .int i
  | .str x => .str x
  | .glo x => .glo x
def Dc.c : Dc → CV
  | .non => .non
  | .bl b => .bl b
  | .int i => .int i
  | .str x => .str x
  | .glo x => .glo x
theorem Dc.den {K : PySem.W.Frag} {ρ : List Addr} {H : Hp} : ∀ d : Dc, Den K ρ H (d.d.v K) d.c
  | .non => .non
  | .bl b => .bl b
  | .int i => .int i
  | .str x => .str x
  | .glo x => .glo x
theorem Dc.denL {K : PySem.W.Frag} {ρ : List Addr} {H : Hp} : ∀ ds : List Dc, DenL K ρ H ((ds.map Dc.d).map (He.Dv.v K)) (ds.map Dc.c)
  | [] => .nil
  | d :: r => .cons d.den (Dc.denL r)
theorem den_tupB {K : PySem.W.Frag} {x : Str} {ds : List Dc} (h : He.tupB K x (ds.map Dc.d) = true) (ρ : List Addr) (H : Hp) : Den K ρ H (.ref (He.ga K x)) (.tup (ds.map Dc.c)) := .tup (He.tupB_ok h H) (Dc.denL ds)

/-! ### the head's hook: the library's, with further facts -/
/-- the names', the defs' and the further facts of a part of the heap -/
structure SaysK (fa : List He.Fa) (fn : List He.DefD) (bf : PySem.W.Frag → Bool) (K : PySem.W.Frag) : Prop where
  d : He.SaysD fa fn K
  more : bf K = true
/-- the part of the heap that n steps reach -/
abbrev partK (n : Nat) (g : Addr → Option Obj) : PySem.W.Frag := He.frG g (He.asD g n)
def obsKG (n : Nat) (fa : List He.Fa) (fn : List He.DefD) (bf : PySem.W.Frag → Bool) (g : Addr → Option Obj) : Bool × He.AlD := (bf (partK n g), He.obsD fa fn (partK n g))
def hookK (n : Nat) (fa : List He.Fa) (fn : List He.DefD) (bf : PySem.W.Frag → Bool) : PySem.W.Hook where
  α := Bool × He.AlD
  obs := fun st => obsKG n fa fn bf st.heap.get?
  val := fun _ => (true, He.valD fn)
  says := fun _ hp => ∃ K : PySem.W.Frag, K.In hp ∧ SaysK fa fn bf K
  of := fun _ _ q => ⟨_, He.frG_in, congrArg Prod.snd q, congrArg Prod.fst q⟩
  keeps := fun _ _ _ ⟨K, kin, sy⟩ kp => ⟨K, PySem.W.Frag.In.keeps kin kp, sy⟩
theorem obsKG_eq {n : Nat} {fa : List He.Fa} {fn : List He.DefD} {bf : PySem.W.Frag → Bool} {g : Addr → Option Obj} {st : Shared} (same : ∀ a, g a = st.heap.get? a) : obsKG n fa fn bf g = (hookK n fa fn bf).obs st :=
  congrArg (obsKG n fa fn bf) (funext same)
section
variable {fa : List He.Fa} {fn : List He.DefD} {bf : PySem.W.Frag → Bool} {K : PySem.W.Frag}
theorem SaysK.all (sy : SaysK fa fn bf K) {f : He.Fa} (m : f ∈ fa) : f.ok K = true := by
  obtain ⟨i, hi⟩ := List.mem_iff_getElem?.mp m
  exact sy.d.fact i hi
/-- fa = the free names, then the others -/
theorem gf_of {fr gl : List Str} {h : Heap} {mg : Str → Option Value} (c : SaysK (fr.map He.Fa.free ++ gl.map He.Fa.glo) fn bf K) (X : K.In h) (G : h.Ns mainGlobals mg) : GF fr gl K mg :=
  ⟨fun i x e => He.free_ok X G (c.all (List.mem_append_left _ (List.mem_map.mpr ⟨x, List.mem_of_getElem? e, rfl⟩))),
    fun i x e => He.glo_ok X G (c.all (List.mem_append_right _ (List.mem_map.mpr ⟨x, List.mem_of_getElem? e, rfl⟩)))⟩
end
/-- a law's script -/
theorem script_rol {K : PySem.W.Frag} {H : Hp} {a : Addr} {vs : List V} (o : Only H) (h : SqL K H a vs) : RoL K H a vs := by
  rcases h with (h | ⟨u, h⟩) | h
  · rcases o a with q | ⟨_, _, q⟩
    · rw [q] at h; cases h
    · rw [q] at h; cases h
  · exact .inl ⟨u, h⟩
  · exact .inr h
theorem rs0 {K : PySem.W.Frag} {H : Hp} : RS K [] H [] := ⟨rfl, List.nodup_nil, fun n a o h => by simp at h⟩
/-- the law's promise out of the clean one -/
theorem law_sp {K : PySem.W.Frag} {S : CSpec} {n : Nat} (hS : ∀ (ns : List Int), ns.length ≤ n → S [.rol (ns.map .int)] [] (fun v _ => v = .bl true) (fun _ _ => False)) (H : Hp) (a : Addr) (ns : List Int) (hl : ns.length ≤ n) (o : Only H) (h : SqL K H a (ns.map V.int)) :
    spC K S [.ref a] H (fun v _ => v = .bl true) fun _ _ _ => False :=
  ⟨[], [], [.rol (ns.map .int)], _, _, rs0, .cons (.rol (script_rol o h) (den_ints ns)) .nil, hS ns hl, fun x μ' ρ' v H' p e R d => by
    subst p
    cases d
    rfl, fun _ _ _ _ _ _ p => p.elim⟩
end Cl
namespace Cl
open PySem PySem.Spec PyProof.Rows L2
abbrev fSub : COp := fI0 fun i j => .int (i - j)
abbrev fAddI : COp := fI0 fun i j => .int (i + j)
abbrev fMod : COp := fI (fun _ j => 0 < j) fun i j => .int (i % j)
abbrev fDiv : COp := fI CDiv fun i j => .int (i / j)
abbrev fPow : COp := fI CPow fun i j => .int (i ^ j.toNat)
abbrev fShl : COp := fI CPow fun i j => .int (i * 2 ^ j.toNat)
abbrev fShr : COp := fI (fun _ j => 0 ≤ j) fun i j => .int (i / 2 ^ j.toNat)
abbrev fAnd : COp := fI0 fun i j => .int (Builtin.bitAnd i j)
abbrev fOr : COp := fI0 fun i j => .int (Builtin.bitOr i j)
abbrev fXor : COp := fI0 fun i j => .int (Builtin.bitXor i j)
abbrev fMul : COp := fI CMul fun i j => .int (i * j)
/-- an own exception: its class, its __init__ -/
structure ExD (P : Program) (w : World) (K : PySem.W.Frag) (mg : Str → Option Value) (base : Heap) (n : Nat) (f : Str) : Prop where
  x : XCl K n f
  ex : ∃ (fd : FuncData) (ps : List Str), FnOk P w K mg base (L2.CX P w) 1 (He.ma K (kA K n) "__init__") fd ps (spIni (kA K n) f) ∧ Binds K fd ps []
theorem cs_raiseG {X : Cx} {W : WX} {e : Expr} {pos pos2 : Pos} {x : Str} {n : Nat} {p : Pos} {ce : CE} {f : Str} (D : ExD X.prog X.w X.K X.mg X.base n f) (hr : Room 2 X.A) (hm : X.mg x = some (.ref (kA X.K n))) (hc : X.calm = true) (tk : Takes X W) (ha : PE X e (lE X.K W ce)) (hg : Gl X x := by rfl)
    (hdb : (x == ("__debug__" : Str)) = false := by decide) (he : starEach (e :: []) X.env = (false, eval e X.env) :: starEach [] X.env := by rfl) (hpl : (backTo pos (starEach [] X.env)).any (·.1) = false := by rfl) :
    PS X (.Raise (some (.Call (.Name x p) [e] [] pos)) none pos2) (lS X.K W (csRaise n f ce)) := by
  obtain ⟨fd, ps, h1, h2⟩ := D.ex
  exact cs_raise D.x.o D.x.ini D.x.ty h1 hr h2 hm rfl hc tk ha hg hdb he hpl
/-- its __init__, out of its text: self.f = f -/
theorem exD {P : Program} {w : World} {K : PySem.W.Frag} {mg : Str → Option Value} {base : Heap} {n : Nat} {qual : Str} {params : Arguments} {body : List Stmt} {scope : Scope} {kws : List (Str × V)} {fd : FuncData} {fl : Str} (T : XCl K n fl)
    (F : FunD K "__init__" qual params body scope [] kws (He.ma K (kA K n) "__init__") fd) (Sc : FnScope (["self", fl] : List Str) (["self", fl] : List Str) scope)
    (hb : ∀ (kV doc pm : Value) (an : Option Addr) (cdv ct : Value) (us : List Value), us.length = 2 → bindArgs (PySem.W.fnOf "__init__" qual params body scope .none kV doc pm an cdv ct) ⟨us, []⟩ = pure ((["self", fl] : List Str).zip us))
    (hbody : ∀ (cdv : Value) (A : Around) (outer : List Env) (s : Shared) (H : Hp) (E : XK), PSs (cxOf (L2.CX P w) P w K mg base ["self", fl] qual scope (He.ma K (kA K n) "__init__") cdv A outer s H E) body (tOst K fl (tVar 0) (tVar 1))) : ExD P w K mg base n fl :=
  ⟨T, fd, (["self", fl] : List Str), ok_ini F Sc T.o T.no hbody, F.bindsN hb⟩

/-- what a law's head gives: at each world a part of the heap, the law's function, its promise -/
def HeadGives (l : PySem.W.OpenLaw) (n k : Nat) (x : Str) (nm : Str) (YP : World → Heap → Prop) : Prop :=
  ∀ (w : World) (mg : Str → Option Value) (at_ : Addr) (hp : Heap), YP w hp → hp.Ns mainGlobals mg → mg nm = some (.ref at_) →
    ∃ (K : PySem.W.Frag) (fd : FuncData) (S : CSpec), K.In hp ∧ (∀ (st : Shared) (u : Value), BindsTo st fd ⟨[u], []⟩ [(x, u)]) ∧ (∀ ns : List Int, ns.length ≤ n → S [.rol (ns.map .int)] [] (fun v _ => v = .bl true) fun _ _ => False) ∧
      ∀ base : Heap, K.In base → base.Ns mainGlobals mg → FnOk l.prog w K mg base (L2.CX l.prog w) k at_ fd [x] (spC K S)
theorem cx_none {P : Program} {w : World} {H : Hp} {s : Shared} {e : Value} {s' : Shared} (h : L2.CX P w [] H s (fun _ _ _ => False) e s') : False := by
  obtain ⟨_, _, _, _, _, _, _, _, _, _, _, _, z⟩ := h
  exact z
theorem law_walk {l : PySem.W.OpenLaw} {n k : Nat} {q : Program} {loose : List Str} {XP : (Str → Option Value) → Heap → Prop} {YP : World → Heap → Prop} {d : DefRec} {x : Str} (hm : l.most = some n) (hz : n ≤ sizeLine) (hd : d.params.defaults = []) (room : Room k callerA)
    (F : HeadGives l n k x d.name YP) : PySem.W.WalkO q loose XP YP l.row.toRowW d [] (fun f vs => PySem.call f vs) :=
  Att.attach_call hm hd fun w _ s₁ _ _ _ _ _ _ _ _ _ ns tp here _ _ _ named obj allInts len gs => by
    obtain ⟨K, fd, S, kin, binds, keeps, ok⟩ := F w _ _ _ here tp.T.g named
    exact law_call kin tp.T.g tp.T.b tp.T.builtins tp.T.nolimit gs obj allInts (Nat.le_trans len hz) room ok binds (fun H o sq => law_sp keeps H _ ns len o sq) fun H e s' => cx_none
end Cl
/-! Cl10: rules for the plain side: stores, loops, comprehensions. -/
namespace Cl
open PySem PySem.Spec PyProof.Rows L2
/-- outside S the store's objects are as they were -/
structure Fr (S : List Nat) (μ μ' : Mu) : Prop where
  len : μ.length ≤ μ'.length
  at_ : ∀ n, n < μ.length → n ∉ S → μ'[n]? = μ[n]?
theorem Fr.refl {S : List Nat} {μ : Mu} : Fr S μ μ := ⟨Nat.le_refl _, fun _ _ _ => rfl⟩
theorem Fr.trans {S : List Nat} {μ μ1 μ2 : Mu} (a : Fr S μ μ1) (b : Fr S μ1 μ2) : Fr S μ μ2 := ⟨Nat.le_trans a.len b.len, fun n h k => (b.at_ n (Nat.lt_of_lt_of_le h a.len) k).trans (a.at_ n h k)⟩
theorem Fr.mono {S S' : List Nat} {μ μ' : Mu} (a : Fr S μ μ') (h : ∀ n, n ∈ S → n < μ.length → n ∈ S') : Fr S' μ μ' := ⟨a.len, fun n l k => a.at_ n l fun z => k (h n z l)⟩
theorem Fr.push {S : List Nat} {μ : Mu} {t : Mu} : Fr S μ (μ ++ t) := ⟨by simp, fun n h _ => List.getElem?_append_left h⟩
theorem Fr.set {S : List Nat} {μ : Mu} {n : Nat} {o : CO} (h : n ∈ S) : Fr S μ (μ.set n o) := ⟨by simp, fun m l k => List.getElem?_set_ne fun (z : n = m) => k (z ▸ h)⟩
theorem Fr.get {S : List Nat} {μ μ' : Mu} {n : Nat} {o : CO} (a : Fr S μ μ') (h : μ[n]? = some o) (k : n ∉ S) : μ'[n]? = some o := by
  rw [a.at_ n (List.getElem?_eq_some_iff.mp h).1 k]
  exact h
theorem Fr.get0 {μ μ' : Mu} {n : Nat} {o : CO} (a : Fr [] μ μ') (h : μ[n]? = some o) : μ'[n]? = some o := a.get h (by simp)
theorem Fr.of0 {S : List Nat} {μ μ' : Mu} (a : Fr [] μ μ') : Fr S μ μ' := a.mono fun n h => by simp at h
theorem mlt {μ : Mu} {n : Nat} {o : CO} (h : μ[n]? = some o) : n < μ.length := (List.getElem?_eq_some_iff.mp h).1
theorem mu_top {μ : Mu} {o : CO} : (μ ++ [o])[μ.length]? = some o := by simp
theorem mu_topset {μ : Mu} {o o' : CO} : (μ ++ [o]).set μ.length o' = μ ++ [o'] := by simp
/-- slots -/
theorem gA0 {α : Type} {a : α} {l : List α} : (a :: l)[0]? = some a := rfl
theorem gAs {α : Type} {a : α} {l : List α} {n : Nat} : (a :: l)[n + 1]? = l[n]? := rfl
/-- for -/
theorem for_rule {ok : Mu → Prop} {g : CG} {body : CS} {items : List CV} {Γ : Ga} {μ : Mu} {D : CEnds} (I : Nat → Ga → Mu → Prop) (h0 : I 0 Γ μ)
    (step : ∀ (i : Nat) x Γ μ, items[i]? = some x → I i Γ μ → ok μ ∧ ∀ N : Ga → Mu → Prop, (∀ Γ2 μ2, I (i + 1) Γ2 μ2 → N Γ2 μ2) → g x Γ μ fun Γ' μ' => body Γ' μ' { D with nx := N, ct := N, bk := D.nx })
    (done : ∀ Γ μ, I items.length Γ μ → ok μ ∧ D.nx Γ μ) : cForGo ok g body items Γ μ D := by
  have : ∀ (rest : List CV) (i : Nat) (Γ : Ga) (μ : Mu), items.drop i = rest → i ≤ items.length → I i Γ μ → cForGo ok g body rest Γ μ D := by
    intro rest
    induction rest with
    | nil =>
      intro i Γ μ e hi h
      have : i = items.length := by
        have := congrArg List.length e
        simp at this
        omega
      subst this
      exact done Γ μ h
    | cons x xs ih =>
      intro i Γ μ e hi h
      have hlt : i < items.length := by
        have := congrArg List.length e
        simp at this
        omega
      have hx : items[i]? = some x := by
        have := List.getElem?_drop (xs := items) (i := i) (j := 0)
        rw [e] at this
        simpa using this.symm
      have hr : items.drop (i + 1) = xs := by
        have := congrArg List.tail e
        simpa using this
      obtain ⟨a, b⟩ := step i x Γ μ hx h
      exact ⟨a, b _ fun Γ2 μ2 h2 => ih (i + 1) Γ2 μ2 hr hlt h2⟩
  exact this items 0 Γ μ rfl (Nat.zero_le _) h0
/-- a comprehension, by an invariant of the store -/
theorem lc_rule {ok : Mu → Prop} {g : CG} {tt : CT} {te : CE} {n : Nat} {Γ : Ga} {items : List CV} {μ : Mu} {P : Mu → Prop} (I : Nat → Mu → Prop) (h0 : I 0 μ)
    (step : ∀ (i : Nat) x μ, items[i]? = some x → I i μ → ok μ ∧ ∀ N : Mu → Prop, (∀ μ2, I (i + 1) μ2 → N μ2) → g x Γ μ fun Γ' μ1 => tt Γ' μ1 (fun b μ2 => if b = true then te Γ' μ2 (fun y μ3 => match μ3[n]? with
      | some (.lst acc) => acc.length < sizeLine ∧ N (μ3.set n (.lst (acc ++ [y])))
      | _ => False) noX else N μ2) noX)
    (done : ∀ μ, I items.length μ → ok μ ∧ P μ) : cLcGo ok g tt te n Γ items μ P := by
  have : ∀ (rest : List CV) (i : Nat) (μ : Mu), items.drop i = rest → i ≤ items.length → I i μ → cLcGo ok g tt te n Γ rest μ P := by
    intro rest
    induction rest with
    | nil =>
      intro i μ e hi h
      have : i = items.length := by
        have := congrArg List.length e
        simp at this
        omega
      subst this
      exact done μ h
    | cons x xs ih =>
      intro i μ e hi h
      have hlt : i < items.length := by
        have := congrArg List.length e
        simp at this
        omega
      have hx : items[i]? = some x := by
        have := List.getElem?_drop (xs := items) (i := i) (j := 0)
        rw [e] at this
        simpa using this.symm
      have hr : items.drop (i + 1) = xs := by
        have := congrArg List.tail e
        simpa using this
      obtain ⟨a, b⟩ := step i x μ hx h
      exact ⟨a, b _ fun μ2 h2 => ih (i + 1) μ2 hr hlt h2⟩
  exact this items 0 μ rfl (Nat.zero_le _) h0
/-- .. whose turns leave the store as it is: f tells the item's value, if it is taken -/
theorem lc_pure {ok : Mu → Prop} {g : CG} {tt : CT} {te : CE} {Γ : Ga} {items : List CV} {μ : Mu} {P : Mu → Prop} (f : CV → Option CV) (hok : ∀ acc, ok (μ ++ [.lst acc])) (hl : items.length ≤ sizeLine)
    (step : ∀ (i : Nat) x acc, items[i]? = some x → ∀ (Y : CV → Mu → Prop) (N : Mu → Prop), (∀ y, f x = some y → Y y (μ ++ [.lst acc])) → (f x = none → N (μ ++ [.lst acc])) →
      g x Γ (μ ++ [.lst acc]) fun Γ' μ1 => tt Γ' μ1 (fun b μ2 => if b = true then te Γ' μ2 Y noX else N μ2) noX)
    (done : P (μ ++ [.lst (items.filterMap f)])) : cLcGo ok g tt te μ.length Γ items (μ ++ [.lst []]) P := by
  refine lc_rule (I := fun i μ' => μ' = μ ++ [.lst ((items.take i).filterMap f)] ∧ i ≤ items.length) ⟨by simp, Nat.zero_le _⟩ ?_ ?_
  · rintro i x _ hx ⟨rfl, hi⟩
    have hlt : i < items.length := (List.getElem?_eq_some_iff.mp hx).1
    have et : items.take (i + 1) = items.take i ++ [x] := by rw [List.take_add_one, hx]; rfl
    refine ⟨hok _, fun N hN => step i x _ hx _ _ (fun y hy => ?_) (fun hy => ?_)⟩
    · rw [mu_top]
      refine ⟨?_, hN _ ⟨?_, hlt⟩⟩
      · have := List.length_filterMap_le f (items.take i)
        have := List.length_take_le i items
        have : (items.take i).length = min i items.length := List.length_take
        omega
      · rw [mu_topset, et, List.filterMap_append]
        simp [hy]
    · refine hN _ ⟨?_, hlt⟩
      rw [et, List.filterMap_append]
      simp [hy]
  · rintro _ ⟨rfl, _⟩
    refine ⟨hok _, ?_⟩
    rw [List.take_length]
    exact done

/-! ### single steps -/
theorem clen_of {μ : Mu} {x : CV} {l : List CV} (h : citems μ x = some l) : clen μ x = some l.length := by
  cases x with
  | tup r => cases h; rfl
  | rol r => cases h; rfl
  | hnd n =>
    simp only [citems, clen] at h ⊢
    split at h
    · rename_i xs hx
      cases h
      simp only [hx]
    · cases h
  | _ => cases h
theorem len_of {μ : Mu} {x : CV} {l : List CV} {P : PV} (h : citems μ x = some l) : fLen [x] μ P = P (.int (l.length : Nat)) μ := by
  simp only [fLen, clen_of h]
theorem tuple_of {μ : Mu} {x : CV} {l : List CV} {P : PV} (h : citems μ x = some l) : fTuple [x] μ P = P (.tup l) μ := by
  simp only [fTuple, h]
theorem list_of {μ : Mu} {x : CV} {l : List CV} {P : PV} (h : citems μ x = some l) : fList [x] μ P = P (.hnd μ.length) (μ ++ [.lst l]) := by
  simp only [fList, h]
theorem atI_nat {α : Type} {l : List α} {i : Nat} {y : α} (h : l[i]? = some y) : atI l (i : Int) = some y := by
  have hl : i < l.length := (List.getElem?_eq_some_iff.mp h).1
  unfold atI ixN
  rw [if_pos (by omega), if_pos (by omega)]
  simpa using h
theorem ix_of {μ : Mu} {x y : CV} {l : List CV} {i : Nat} {P : PV} (h : citems μ x = some l) (hi : l[i]? = some y) : fIx x (.int (i : Nat)) μ P = P y μ := by
  cases x with
  | tup r => simp only [fIx, h, atI_nat hi]
  | rol r => simp only [fIx, h, atI_nat hi]
  | hnd n => simp only [fIx, h, atI_nat hi]
  | _ => cases h
theorem ix_of' {μ : Mu} {x y : CV} {l : List CV} {i : Int} {P : PV} (h : citems μ x = some l) (h0 : 0 ≤ i) (hi : l[i.toNat]? = some y) : fIx x (.int i) μ P = P y μ := by
  have e : ((i.toNat : Nat) : Int) = i := by omega
  have := ix_of (P := P) h hi
  rw [e] at this
  exact this
theorem items_hnd {μ : Mu} {n : Nat} {l : List CV} (h : μ[n]? = some (.lst l)) : citems μ (.hnd n) = some l := by
  simp only [citems, h]
theorem items_tup {μ : Mu} {l : List CV} : citems μ (.tup l) = some l := rfl
theorem items_rol {μ : Mu} {l : List CV} : citems μ (.rol l) = some l := rfl
theorem items_fr {μ μ' : Mu} {x : CV} {l : List CV} (a : Fr [] μ μ') (h : citems μ x = some l) : citems μ' x = some l := by
  cases x with
  | tup r => exact h
  | rol r => exact h
  | hnd n =>
    simp only [citems] at h ⊢
    split at h
    · rename_i xs hx
      cases h
      rw [a.get0 hx]
    · cases h
  | _ => cases h
theorem xeq_int {μ : Mu} {i j : Int} {P : PV} : fEq (.int i) (.int j) μ P = P (.bl (decide (i = j))) μ := rfl
theorem xeq_bl {μ : Mu} {i j : Bool} {P : PV} : fEq (.bl i) (.bl j) μ P = P (.bl (decide (i = j))) μ := rfl
theorem xeq_str {μ : Mu} {i j : Str} {P : PV} : fEq (.str i) (.str j) μ P = P (.bl (decide (i = j))) μ := rfl
theorem xne_int {μ : Mu} {i j : Int} {P : PV} : fNe (.int i) (.int j) μ P = P (.bl (!decide (i = j))) μ := rfl
theorem xne_bl {μ : Mu} {i j : Bool} {P : PV} : fNe (.bl i) (.bl j) μ P = P (.bl (!decide (i = j))) μ := rfl
theorem xne_str {μ : Mu} {i j : Str} {P : PV} : fNe (.str i) (.str j) μ P = P (.bl (!decide (i = j))) μ := rfl
theorem xtru_bl {μ : Mu} {b : Bool} : ctru μ (.bl b) = some b := rfl
theorem xtru_int {μ : Mu} {b : Int} : ctru μ (.int b) = some (b != 0) := rfl
theorem xtru_non {μ : Mu} : ctru μ .non = some false := rfl
theorem xtru_tup {μ : Mu} {l : List CV} : ctru μ (.tup l) = some (!l.isEmpty) := rfl
theorem xtru_hnd {μ : Mu} {n : Nat} {l : List CV} (h : μ[n]? = some (.lst l)) : ctru μ (.hnd n) = some (!l.isEmpty) := by simp only [ctru, h]
theorem xadd_int {μ : Mu} {i j : Int} {P : PV} : fAdd (.int i) (.int j) μ P = P (.int (i + j)) μ := rfl
/-! ### loops -/
theorem enumC_get {l : List CV} {i : Nat} {y : CV} (h : (enumC l)[i]? = some y) : ∃ x, l[i]? = some x ∧ y = .tup [.int (i : Nat), x] := enumC_at h
theorem ciEnum_var {c : CE} {x : CV} {l : List CV} {Γ : Ga} {μ0 μ : Mu} {P : List CV → (Mu → Prop) → Mu → Prop} {E : PX} (h : citems μ x = some l) (k : ∀ ok : Mu → Prop, (∀ μ', citems μ' x = some l → ok μ') → P (enumC l) ok μ) (hc : ∀ (Q : PV), Q x μ → c Γ μ0 Q E) :
    ciEnum (cCons c cNil) Γ μ0 P E := by
  refine hc _ ?_
  show (match [x] with
    | [.tup l] => P (enumC l) (fun _ => True) μ
    | [.rol l] => P (enumC l) (fun _ => True) μ
    | [.hnd n] => (match μ[n]? with
      | some (.lst l) => P (enumC l) (fun μ' => μ'[n]? = some (.lst l)) μ
      | _ => False)
    | _ => False)
  cases x with
  | tup r => cases h; exact k _ fun _ _ => trivial
  | rol r => cases h; exact k _ fun _ _ => trivial
  | hnd n =>
    simp only [citems] at h
    split at h
    · rename_i xs hx
      cases h
      simp only [hx]
      refine k _ fun μ' e => ?_
      simp only [citems] at e
      split at e
      · rename_i ys hy
        cases e
        exact hy
      · cases e
    · cases h
  | _ => cases h
theorem ciSeq_var {c : CE} {x : CV} {l : List CV} {Γ : Ga} {μ0 μ : Mu} {P : List CV → (Mu → Prop) → Mu → Prop} {E : PX} (h : citems μ x = some l) (k : ∀ ok : Mu → Prop, (∀ μ', citems μ' x = some l → ok μ') → P l ok μ) (hc : ∀ (Q : PV), Q x μ → c Γ μ0 Q E) :
    ciSeq c Γ μ0 P E := by
  refine hc _ ?_
  cases x with
  | tup r => cases h; exact k _ fun _ _ => trivial
  | rol r => cases h; exact k _ fun _ _ => trivial
  | hnd n =>
    simp only [citems] at h
    split at h
    · rename_i xs hx
      cases h
      simp only [hx]
      refine k _ fun μ' e => ?_
      simp only [citems] at e
      split at e
      · rename_i ys hy
        cases e
        exact hy
      · cases e
    · cases h
  | _ => cases h
/-- for i, y in enumerate(x) -/
theorem for_enum {k : Nat} {x : CV} {l : List CV} {g : CG} {body : CS} {Γ : Ga} {μ : Mu} {D : CEnds} (hΓ : Γ[k]? = some (some x)) (I : Nat → Ga → Mu → Prop) (h0 : I 0 Γ μ) (hx : ∀ i Γ' μ', I i Γ' μ' → citems μ' x = some l)
    (step : ∀ (i : Nat) y Γ μ, l[i]? = some y → I i Γ μ → ∀ N : Ga → Mu → Prop, (∀ Γ2 μ2, I (i + 1) Γ2 μ2 → N Γ2 μ2) → g (.tup [.int (i : Nat), y]) Γ μ fun Γ' μ' => body Γ' μ' { D with nx := N, ct := N, bk := D.nx })
    (done : ∀ Γ μ, I l.length Γ μ → D.nx Γ μ) : csFor (ciEnum (cCons (cVar k) cNil)) g body Γ μ D := by
  refine ciEnum_var (x := x) (hx _ _ _ h0) (fun ok hok => ?_) (fun Q q => ?_)
  · refine for_rule I h0 (fun i y Γ μ hy hI => ⟨hok _ (hx _ _ _ hI), fun N hN => ?_⟩) (fun Γ μ hI => ?_)
    · obtain ⟨z, h1, rfl⟩ := enumC_get hy
      exact step i z Γ μ h1 hI N hN
    · rw [enumC_len] at hI
      exact ⟨hok _ (hx _ _ _ hI), done Γ μ hI⟩
  · simp only [cVar, hΓ]
    exact q
/-- for y in x -/
theorem for_seq {c : CE} {x : CV} {l : List CV} {g : CG} {body : CS} {Γ : Ga} {μ0 μ : Mu} {D : CEnds} (hc : ∀ (Q : PV) E, Q x μ → c Γ μ0 Q E) (I : Nat → Ga → Mu → Prop) (h0 : I 0 Γ μ) (hx : ∀ i Γ' μ', I i Γ' μ' → citems μ' x = some l)
    (step : ∀ (i : Nat) y Γ μ, l[i]? = some y → I i Γ μ → ∀ N : Ga → Mu → Prop, (∀ Γ2 μ2, I (i + 1) Γ2 μ2 → N Γ2 μ2) → g y Γ μ fun Γ' μ' => body Γ' μ' { D with nx := N, ct := N, bk := D.nx })
    (done : ∀ Γ μ, I l.length Γ μ → D.nx Γ μ) : csFor (ciSeq c) g body Γ μ0 D := by
  refine ciSeq_var (x := x) (hx _ _ _ h0) (fun ok hok => ?_) (fun Q q => hc Q _ q)
  exact for_rule I h0 (fun i y Γ μ hy hI => ⟨hok _ (hx _ _ _ hI), fun N hN => step i y Γ μ hy hI N hN⟩) (fun Γ μ hI => ⟨hok _ (hx _ _ _ hI), done Γ μ hI⟩)
theorem rangeC_get {n i : Nat} {y : CV} (h : (rangeC 0 (n : Int))[i]? = some y) : i < n ∧ y = .int (i : Nat) := by
  unfold rangeC at h
  rw [List.getElem?_map] at h
  obtain ⟨j, h1, rfl⟩ := Option.map_eq_some_iff.mp h
  obtain ⟨h2, h3⟩ := List.getElem?_eq_some_iff.mp h1
  have : j = i := by simpa using h3.symm
  subst this
  refine ⟨by simpa using h2, by simp⟩
/-- for i in range(n) -/
theorem for_range {c : CE} {n : Nat} {g : CG} {body : CS} {Γ : Ga} {μ0 μ : Mu} {D : CEnds} (hc : ∀ (Q : PV) E, Q (.int (n : Int)) μ → c Γ μ0 Q E) (hn : (n : Int) < 2 ^ 62) (I : Nat → Ga → Mu → Prop) (h0 : I 0 Γ μ)
    (step : ∀ (i : Nat) Γ μ, i < n → I i Γ μ → ∀ N : Ga → Mu → Prop, (∀ Γ2 μ2, I (i + 1) Γ2 μ2 → N Γ2 μ2) → g (.int (i : Nat)) Γ μ fun Γ' μ' => body Γ' μ' { D with nx := N, ct := N, bk := D.nx })
    (done : ∀ Γ μ, I n Γ μ → D.nx Γ μ) : csFor (ciRange1 (cCons c cNil)) g body Γ μ0 D := by
  refine hc _ _ ?_
  refine ⟨⟨by omega, hn⟩, ?_⟩
  refine for_rule I h0 (fun i y Γ μ hy hI => ⟨trivial, fun N hN => ?_⟩) (fun Γ μ hI => ⟨trivial, ?_⟩)
  · obtain ⟨h1, rfl⟩ := rangeC_get hy
    exact step i Γ μ h1 hI N hN
  · rw [rangeC_len] at hI
    exact done Γ μ (by simpa using hI)
/-- [.. for i in range(n) if ..], the store as it is -/
theorem lc_range {c : CE} {n : Nat} {g : CG} {tt : CT} {te : CE} {vs : List Nat} {Γ : Ga} {μ0 μ : Mu} {P : PV} {E : PX} (f : Nat → Option CV) (hc : ∀ (Q : PV) E, Q (.int (n : Int)) μ → c Γ μ0 Q E) (hn : n ≤ 1000000)
    (step : ∀ (i : Nat) acc, i < n → ∀ (Y : CV → Mu → Prop) (N : Mu → Prop), (∀ y, f i = some y → Y y (μ ++ [.lst acc])) → (f i = none → N (μ ++ [.lst acc])) →
      g (.int (i : Nat)) (wipeG Γ vs) (μ ++ [.lst acc]) fun Γ' μ1 => tt Γ' μ1 (fun b μ2 => if b = true then te Γ' μ2 Y noX else N μ2) noX)
    (done : P (.hnd μ.length) (μ ++ [.lst ((List.range n).filterMap f)])) : cLc (ciRange1 (cCons c cNil)) g tt te vs Γ μ0 P E := by
  have hz : (1000000 : Nat) ≤ sizeLine := by decide
  refine hc _ _ ?_
  refine ⟨⟨by omega, by omega⟩, ?_⟩
  refine lc_pure (fun y => match y with
    | .int i => f i.toNat
    | _ => none) (fun _ => trivial) (by rw [rangeC_len]; omega) (fun i y acc hy Y N h1 h2 => ?_) ?_
  · obtain ⟨h0, rfl⟩ := rangeC_get hy
    exact step i acc h0 Y N (fun y e => h1 y (by simpa using e)) fun e => h2 (by simpa using e)
  · have e : (rangeC 0 (n : Int)).filterMap (fun y => match y with
      | .int i => f i.toNat
      | _ => none) = (List.range n).filterMap f := by
      unfold rangeC
      rw [List.filterMap_map]
      simp only [Int.sub_zero, Int.toNat_natCast]
      congr 1
      funext i
      simp
    rw [e]
    exact done
/-- [.. for y in x if ..], the store as it is -/
theorem lc_seq {c : CE} {x : CV} {l : List CV} {g : CG} {tt : CT} {te : CE} {vs : List Nat} {Γ : Ga} {μ0 μ : Mu} {P : PV} {E : PX} (f : CV → Option CV) (hc : ∀ (Q : PV) E, Q x μ → c Γ μ0 Q E) (h : citems μ x = some l) (hn : l.length ≤ sizeLine)
    (step : ∀ (i : Nat) y acc, l[i]? = some y → ∀ (Y : CV → Mu → Prop) (N : Mu → Prop), (∀ z, f y = some z → Y z (μ ++ [.lst acc])) → (f y = none → N (μ ++ [.lst acc])) →
      g y (wipeG Γ vs) (μ ++ [.lst acc]) fun Γ' μ1 => tt Γ' μ1 (fun b μ2 => if b = true then te Γ' μ2 Y noX else N μ2) noX)
    (done : P (.hnd μ.length) (μ ++ [.lst (l.filterMap f)])) : cLc (ciSeq c) g tt te vs Γ μ0 P E := by
  refine ciSeq_var (x := x) h (fun ok hok => ?_) (fun Q => hc Q _)
  exact lc_pure f (fun acc => hok _ (items_fr Fr.push h)) hn step done

theorem Fr.setTop {S : List Nat} {μ μ2 : Mu} {o : CO} (f : Fr S μ μ2) : Fr S μ (μ2.set μ.length o) := ⟨by simp [f.len], fun n h k => by
  rw [List.getElem?_set_ne (by omega)]
  exact f.at_ n h k⟩
/-- a comprehension whose turns change the store within S, or lay more; J: what is kept of it; A: what is told of the list so far -/
theorem lc_grow {ok : Mu → Prop} {g : CG} {tt : CT} {te : CE} {Γ : Ga} {items : List CV} {μ : Mu} {P : Mu → Prop} (S : List Nat) (J : Mu → Prop) (A : Nat → List CV → Prop)
    (hS : μ.length ∉ S) (hJ0 : J (μ ++ [.lst []])) (hJ : ∀ μ' acc, J μ' → Fr S μ μ' → J (μ'.set μ.length (.lst acc))) (hok : ∀ μ', J μ' → ok μ') (A0 : A 0 []) (hl : items.length ≤ sizeLine)
    (step : ∀ (i : Nat) x acc μ', items[i]? = some x → A i acc → J μ' → Fr S μ μ' → μ'[μ.length]? = some (.lst acc) → ∀ (Y : CV → Mu → Prop) (N : Mu → Prop), (∀ y μ2, A (i + 1) (acc ++ [y]) → J μ2 → Fr S μ' μ2 → Y y μ2) → (∀ μ2, A (i + 1) acc → J μ2 → Fr S μ' μ2 → N μ2) →
      g x Γ μ' fun Γ' μ1 => tt Γ' μ1 (fun b μ2 => if b = true then te Γ' μ2 Y noX else N μ2) noX)
    (done : ∀ acc μ', A items.length acc → acc.length ≤ items.length → J μ' → Fr S μ μ' → μ'[μ.length]? = some (.lst acc) → P μ') : cLcGo ok g tt te μ.length Γ items (μ ++ [.lst []]) P := by
  refine lc_rule (I := fun i μ' => ∃ acc, A i acc ∧ acc.length ≤ i ∧ i ≤ items.length ∧ J μ' ∧ Fr S μ μ' ∧ μ'[μ.length]? = some (.lst acc)) ⟨[], A0, Nat.le_refl _, Nat.zero_le _, hJ0, Fr.push, mu_top⟩ ?_ ?_
  · rintro i x μ' hx ⟨acc, a, hla, hi, j, fr, at0⟩
    have hlt : i < items.length := (List.getElem?_eq_some_iff.mp hx).1
    refine ⟨hok _ j, fun N hN => step i x acc μ' hx a j fr at0 _ _ (fun y μ2 a2 j2 f2 => ?_) (fun μ2 a2 j2 f2 => hN _ ⟨acc, a2, by omega, hlt, j2, fr.trans f2, f2.get at0 hS⟩)⟩
    rw [f2.get at0 hS]
    have hl2 : μ.length < μ2.length := mlt (f2.get at0 hS)
    refine ⟨by omega, hN _ ⟨acc ++ [y], a2, by simp; omega, hlt, hJ _ _ j2 (fr.trans f2), ?_, by simp [hl2]⟩⟩
    exact (fr.trans f2).setTop
  · rintro μ' ⟨acc, a, hla, hi, j, fr, at0⟩
    exact ⟨hok _ j, done acc μ' a hla j fr at0⟩

/-- .. over range(n) -/
theorem lc_rangeG {c : CE} {n : Nat} {g : CG} {tt : CT} {te : CE} {vs : List Nat} {Γ : Ga} {μ0 μ : Mu} {P : PV} {E : PX} (S : List Nat) (J : Mu → Prop) (A : Nat → List CV → Prop) (hc : ∀ (Q : PV) E, Q (.int (n : Int)) μ → c Γ μ0 Q E) (hn : n ≤ 1000000)
    (hS : μ.length ∉ S) (hJ0 : J (μ ++ [.lst []])) (hJ : ∀ μ' acc, J μ' → Fr S μ μ' → J (μ'.set μ.length (.lst acc))) (A0 : A 0 [])
    (step : ∀ (i : Nat) acc μ', i < n → A i acc → J μ' → Fr S μ μ' → μ'[μ.length]? = some (.lst acc) → ∀ (Y : CV → Mu → Prop) (N : Mu → Prop), (∀ y μ2, A (i + 1) (acc ++ [y]) → J μ2 → Fr S μ' μ2 → Y y μ2) → (∀ μ2, A (i + 1) acc → J μ2 → Fr S μ' μ2 → N μ2) →
      g (.int (i : Nat)) (wipeG Γ vs) μ' fun Γ' μ1 => tt Γ' μ1 (fun b μ2 => if b = true then te Γ' μ2 Y noX else N μ2) noX)
    (done : ∀ acc μ', A n acc → acc.length ≤ n → J μ' → Fr S μ μ' → μ'[μ.length]? = some (.lst acc) → P (.hnd μ.length) μ') : cLc (ciRange1 (cCons c cNil)) g tt te vs Γ μ0 P E := by
  have hz : (1000000 : Nat) ≤ sizeLine := by decide
  refine hc _ _ ?_
  refine ⟨⟨by omega, by omega⟩, ?_⟩
  refine lc_grow S J A hS hJ0 hJ (fun _ _ => trivial) A0 (by rw [rangeC_len]; omega) (fun i y acc μ' hy a j f e Y N h1 h2 => ?_) (fun acc μ' a l j f e => ?_)
  · obtain ⟨h0, rfl⟩ := rangeC_get hy
    exact step i acc μ' h0 a j f e Y N h1 h2
  · rw [rangeC_len] at a l
    exact done acc μ' (by simpa using a) (by simpa using l) j f e
/-- .. over the items of x -/
theorem lc_seqG {c : CE} {x : CV} {l : List CV} {g : CG} {tt : CT} {te : CE} {vs : List Nat} {Γ : Ga} {μ0 μ : Mu} {P : PV} {E : PX} (S : List Nat) (J : Mu → Prop) (A : Nat → List CV → Prop) (hc : ∀ (Q : PV) E, Q x μ → c Γ μ0 Q E) (h : citems μ x = some l) (hn : l.length ≤ sizeLine)
    (hS : μ.length ∉ S) (hJ0 : J (μ ++ [.lst []])) (hJ : ∀ μ' acc, J μ' → Fr S μ μ' → J (μ'.set μ.length (.lst acc))) (hx : ∀ μ', J μ' → citems μ' x = some l) (A0 : A 0 [])
    (step : ∀ (i : Nat) y acc μ', l[i]? = some y → A i acc → J μ' → Fr S μ μ' → μ'[μ.length]? = some (.lst acc) → ∀ (Y : CV → Mu → Prop) (N : Mu → Prop), (∀ y μ2, A (i + 1) (acc ++ [y]) → J μ2 → Fr S μ' μ2 → Y y μ2) → (∀ μ2, A (i + 1) acc → J μ2 → Fr S μ' μ2 → N μ2) →
      g y (wipeG Γ vs) μ' fun Γ' μ1 => tt Γ' μ1 (fun b μ2 => if b = true then te Γ' μ2 Y noX else N μ2) noX)
    (done : ∀ acc μ', A l.length acc → acc.length ≤ l.length → J μ' → Fr S μ μ' → μ'[μ.length]? = some (.lst acc) → P (.hnd μ.length) μ') : cLc (ciSeq c) g tt te vs Γ μ0 P E := by
  refine ciSeq_var (x := x) h (fun ok hok => ?_) (fun Q => hc Q _)
  exact lc_grow S J A hS hJ0 hJ (fun μ' j => hok _ (hx μ' j)) A0 hn step done
/-! ### lists of truth values -/
theorem pd_int {μ : Mu} {k : Nat} {i : Int} : pdF k μ (.int i) = some (.int i) := by cases k <;> rfl
theorem pd_bl {μ : Mu} {k : Nat} {i : Bool} : pdF k μ (.bl i) = some (.bool i) := by cases k <;> rfl
theorem pd_str {μ : Mu} {k : Nat} {i : Str} : pdF k μ (.str i) = some (.str i) := by cases k <;> rfl
theorem pd_non {μ : Mu} {k : Nat} : pdF k μ .non = some .none := by cases k <;> rfl
theorem pd_tup {μ : Mu} {k : Nat} {l : List CV} {ds : List PyData} (h : pdAllW (pdF k μ) l = some ds) : pdF (k + 1) μ (.tup l) = some (.tuple ds) := by
  simp only [pdF, h, Option.map_some]
theorem pd_hnd {μ : Mu} {k n : Nat} {l : List CV} {ds : List PyData} (h0 : μ[n]? = some (.lst l)) (h : pdAllW (pdF k μ) l = some ds) : pdF (k + 1) μ (.hnd n) = some (.list ds) := by
  simp only [pdF, h0, h, Option.map_some]
theorem pd_map {α : Type} {μ : Mu} {k : Nat} {f : α → CV} {g : α → PyData} (h : ∀ a, pdF k μ (f a) = some (g a)) (l : List α) : pdAllW (pdF k μ) (l.map f) = some (l.map g) := by
  induction l with
  | nil => rfl
  | cons b r ih => simp only [List.map_cons, pdAllW, ih, h]
theorem pd_bls {μ : Mu} {k : Nat} (bs : List Bool) : pdAllW (pdF k μ) (bs.map CV.bl) = some (bs.map PyData.bool) := pd_map (fun _ => pd_bl) bs
theorem pd_ints {μ : Mu} {k : Nat} (bs : List Int) : pdAllW (pdF k μ) (bs.map CV.int) = some (bs.map PyData.int) := pd_map (fun _ => pd_int) bs
theorem ceq_pd {μ : Mu} {x y : CV} {d e : PyData} (hx : pdF 40 μ x = some d) (hy : pdF 40 μ y = some e) : ceq μ x y = some (PyData.eqv d e) := by
  unfold ceq
  split
  · rw [pd_int] at hx hy; cases hx; cases hy; simp only [PyData.eqv]; rw [beq_dec]
  · rw [pd_str] at hx hy; cases hx; cases hy; simp only [PyData.eqv]; rw [beq_dec]
  · rw [pd_bl] at hx hy; cases hx; cases hy; simp only [PyData.eqv]; rw [beq_dec]
  · rw [pd_non] at hx hy; cases hx; cases hy; simp only [PyData.eqv]
  · rw [hx, hy]
theorem eq_pd {μ : Mu} {x y : CV} {d e : PyData} {P : PV} (hx : pdF 40 μ x = some d) (hy : pdF 40 μ y = some e) : fEq x y μ P = P (.bl (PyData.eqv d e)) μ := by simp only [fEq, ceq_pd hx hy]
theorem ne_pd {μ : Mu} {x y : CV} {d e : PyData} {P : PV} (hx : pdF 40 μ x = some d) (hy : pdF 40 μ y = some e) : fNe x y μ P = P (.bl (!PyData.eqv d e)) μ := by simp only [fNe, ceq_pd hx hy]
theorem in_tupI {μ : Mu} {i : Int} {ns : List Int} {P : PV} : fIn (.int i) (.tup (ns.map .int)) μ P = P (.bl (ns.any (· == i))) μ := by
  simp only [fIn, cin, citems, cinL, pd_ints, pd_int]
  congr 2
  rw [List.any_map]
  rfl
theorem notin_tupI {μ : Mu} {i : Int} {ns : List Int} {P : PV} : fNotIn (.int i) (.tup (ns.map .int)) μ P = P (.bl (!(ns.any (· == i)))) μ := by
  simp only [fNotIn, cin, citems, cinL, pd_ints, pd_int]
  congr 3
  rw [List.any_map]
  rfl
theorem in_bls {μ : Mu} {n : Nat} {bs : List Bool} {b : Bool} {P : PV} (h : μ[n]? = some (.lst (bs.map .bl))) : fIn (.bl b) (.hnd n) μ P = P (.bl (bs.any (· == b))) μ := by
  simp only [fIn, cin, items_hnd h, cinL, pd_bls, pd_bl]
  congr 2
  rw [List.any_map]
  rfl
theorem any_of {μ : Mu} {n : Nat} {bs : List Bool} {P : PV} (h : μ[n]? = some (.lst (bs.map .bl))) : fAny [.hnd n] μ P = P (.bl (bs.any id)) μ := by
  simp only [fAny, fBls, clist, h, Option.bind_some, asBls_map]
theorem all_of {μ : Mu} {n : Nat} {bs : List Bool} {P : PV} (h : μ[n]? = some (.lst (bs.map .bl))) : fAll [.hnd n] μ P = P (.bl (bs.all id)) μ := by
  simp only [fAll, fBls, clist, h, Option.bind_some, asBls_map]
theorem app_of {μ : Mu} {n : Nat} {l : List CV} {y : CV} {P : PV} (h : μ[n]? = some (.lst l)) (hl : l.length < sizeLine) (p : P .non (μ.set n (.lst (l ++ [y])))) : isL μ (.hnd n) ∧ fApp (.hnd n) [y] μ P := by
  refine ⟨⟨l, ?_⟩, ?_⟩
  · simp only [clist, h]
  · simp only [fApp, h]
    exact ⟨hl, p⟩
theorem isL_of {μ : Mu} {n : Nat} {l : List CV} (h : μ[n]? = some (.lst l)) : isL μ (.hnd n) := ⟨l, by simp only [clist, h]⟩
theorem fm_if {α β : Type} (p : α → Bool) (f : α → β) (l : List α) : l.filterMap (fun t => if p t = true then some (f t) else none) = (l.filter p).map f := by
  induction l with
  | nil => rfl
  | cons a r ih =>
    by_cases h : p a = true
    · simp [h, ih]
    · have h' : p a = false := by simpa using h
      simp [h', ih]
theorem mu_set_self {μ : Mu} {n : Nat} {o : CO} (h : n < μ.length) : (μ.set n o)[n]? = some o := by simp [h]

theorem cut_map {α : Type} (f : α → CV) (l : List α) (lo hi : Option Int) : cutC (l.map f) lo hi = ((l.drop (HT.sIx l.length 0 lo)).take (HT.sIx l.length l.length hi - HT.sIx l.length 0 lo)).map f := by
  unfold cutC
  rw [List.length_map, List.map_take, List.map_drop]
theorem cut63 (ns : List Int) (h : ns.length ≤ 63) : cutC (ns.map CV.int) none (some 63) = ns.map CV.int := by
  rw [cut_map]
  congr 1
  simp only [HT.sIx, List.drop_zero, Nat.sub_zero]
  exact List.take_of_length_le (by simp; omega)

theorem setL_of {μ : Mu} {n : Nat} {l : List CV} {i : Int} {z : CV} {P : Mu → Prop} (h : μ[n]? = some (.lst l)) (h0 : 0 ≤ i) (hi : i.toNat < l.length) : fSetL (.hnd n) (.int i) z μ P = P (μ.set n (.lst (l.set i.toNat z))) := by
  have e : ixN l.length i = some i.toNat := by
    unfold ixN
    rw [if_pos h0, if_pos (by omega)]
  simp only [fSetL, h, e]
theorem mu_ne {μ : Mu} {n m : Nat} {o : CO} (h : n ≠ m) : (μ.set n o)[m]? = μ[m]? := List.getElem?_set_ne h

/-- a cut between two statements -/
theorem seq_cut {c d : CS} {Γ : Ga} {μ : Mu} {D : CEnds} (I : Ga → Mu → Prop) (h1 : ∀ N : Ga → Mu → Prop, (∀ Γ' μ', I Γ' μ' → N Γ' μ') → c Γ μ { D with nx := N }) (h2 : ∀ Γ' μ', I Γ' μ' → d Γ' μ' D) : csSeq c d Γ μ D := h1 _ h2
theorem mu_setne {μ μ' : Mu} {n m : Nat} {o o' : CO} (h : μ'[n]? = some o) (k : n ≠ m) : (μ'.set m o')[n]? = some o := by
  rw [mu_ne (Ne.symm k)]
  exact h

/-- .. once the range's end is known -/
theorem go_rangeG {n : Nat} {g : CG} {tt : CT} {te : CE} {Γ : Ga} {μ : Mu} {P : Mu → Prop} (S : List Nat) (J : Mu → Prop) (A : Nat → List CV → Prop) (hn : n ≤ 1000000)
    (hS : μ.length ∉ S) (hJ0 : J (μ ++ [.lst []])) (hJ : ∀ μ' acc, J μ' → Fr S μ μ' → J (μ'.set μ.length (.lst acc))) (A0 : A 0 [])
    (step : ∀ (i : Nat) acc μ', i < n → A i acc → J μ' → Fr S μ μ' → μ'[μ.length]? = some (.lst acc) → ∀ (Y : CV → Mu → Prop) (N : Mu → Prop), (∀ y μ2, A (i + 1) (acc ++ [y]) → J μ2 → Fr S μ' μ2 → Y y μ2) → (∀ μ2, A (i + 1) acc → J μ2 → Fr S μ' μ2 → N μ2) →
      g (.int (i : Nat)) Γ μ' fun Γ' μ1 => tt Γ' μ1 (fun b μ2 => if b = true then te Γ' μ2 Y noX else N μ2) noX)
    (done : ∀ acc μ', A n acc → acc.length ≤ n → J μ' → Fr S μ μ' → μ'[μ.length]? = some (.lst acc) → P μ') : (-(2 ^ 62) ≤ (n : Int) ∧ (n : Int) < 2 ^ 62) ∧ cLcGo (fun _ => True) g tt te μ.length Γ (rangeC 0 (n : Int)) (μ ++ [.lst []]) P := by
  have hz : (1000000 : Nat) ≤ sizeLine := by decide
  refine ⟨⟨by omega, by omega⟩, ?_⟩
  refine lc_grow S J A hS hJ0 hJ (fun _ _ => trivial) A0 (by rw [rangeC_len]; omega) (fun i y acc μ' hy a j f e Y N h1 h2 => ?_) (fun acc μ' a l j f e => ?_)
  · obtain ⟨h0, rfl⟩ := rangeC_get hy
    exact step i acc μ' h0 a j f e Y N h1 h2
  · rw [rangeC_len] at a l
    exact done acc μ' (by simpa using a) (by simpa using l) j f e

theorem Fr.setGe {S : List Nat} {μ μ2 : Mu} {m : Nat} {o : CO} (f : Fr S μ μ2) (g : μ.length ≤ m) : Fr S μ (μ2.set m o) := ⟨by simp [f.len], fun n h k => by
  rw [List.getElem?_set_ne (by omega)]
  exact f.at_ n h k⟩

/-- a comprehension whose turns change the store within S, or lay more; I: what is told of the list so far and the store -/
theorem lc_growI {ok : Mu → Prop} {g : CG} {tt : CT} {te : CE} {Γ : Ga} {items : List CV} {μ : Mu} {P : Mu → Prop} (S : List Nat) (I : Nat → List CV → Mu → Prop)
    (hS : μ.length ∉ S) (I0 : I 0 [] (μ ++ [.lst []])) (hJ : ∀ i acc μ' l, I i acc μ' → Fr S μ μ' → μ.length < μ'.length → I i acc (μ'.set μ.length (.lst l))) (hok : ∀ i acc μ', I i acc μ' → Fr S μ μ' → ok μ') (hl : items.length ≤ sizeLine)
    (step : ∀ (i : Nat) x acc μ', items[i]? = some x → I i acc μ' → Fr S μ μ' → μ'[μ.length]? = some (.lst acc) → ∀ (Y : CV → Mu → Prop) (N : Mu → Prop), (∀ y μ2, I (i + 1) (acc ++ [y]) μ2 → Fr S μ' μ2 → Y y μ2) → (∀ μ2, I (i + 1) acc μ2 → Fr S μ' μ2 → N μ2) →
      g x Γ μ' fun Γ' μ1 => tt Γ' μ1 (fun b μ2 => if b = true then te Γ' μ2 Y noX else N μ2) noX)
    (done : ∀ acc μ', I items.length acc μ' → acc.length ≤ items.length → Fr S μ μ' → μ'[μ.length]? = some (.lst acc) → P μ') : cLcGo ok g tt te μ.length Γ items (μ ++ [.lst []]) P := by
  refine lc_rule (I := fun i μ' => ∃ acc, I i acc μ' ∧ acc.length ≤ i ∧ i ≤ items.length ∧ Fr S μ μ' ∧ μ'[μ.length]? = some (.lst acc)) ⟨[], I0, Nat.le_refl _, Nat.zero_le _, Fr.push, mu_top⟩ ?_ ?_
  · rintro i x μ' hx ⟨acc, a, hla, hi, fr, at0⟩
    have hlt : i < items.length := (List.getElem?_eq_some_iff.mp hx).1
    refine ⟨hok _ _ _ a fr, fun N hN => step i x acc μ' hx a fr at0 _ _ (fun y μ2 a2 f2 => ?_) (fun μ2 a2 f2 => hN _ ⟨acc, a2, by omega, hlt, fr.trans f2, f2.get at0 hS⟩)⟩
    rw [f2.get at0 hS]
    have hl2 : μ.length < μ2.length := mlt (f2.get at0 hS)
    exact ⟨by omega, hN _ ⟨acc ++ [y], hJ _ _ _ _ a2 (fr.trans f2) hl2, by simp; omega, hlt, (fr.trans f2).setTop, by simp [hl2]⟩⟩
  · rintro μ' ⟨acc, a, hla, hi, fr, at0⟩
    exact ⟨hok _ _ _ a fr, done acc μ' a hla fr at0⟩
theorem go_rangeI {n : Nat} {g : CG} {tt : CT} {te : CE} {Γ : Ga} {μ : Mu} {P : Mu → Prop} (S : List Nat) (I : Nat → List CV → Mu → Prop) (hn : n ≤ 1000000)
    (hS : μ.length ∉ S) (I0 : I 0 [] (μ ++ [.lst []])) (hJ : ∀ i acc μ' l, I i acc μ' → Fr S μ μ' → μ.length < μ'.length → I i acc (μ'.set μ.length (.lst l)))
    (step : ∀ (i : Nat) acc μ', i < n → I i acc μ' → Fr S μ μ' → μ'[μ.length]? = some (.lst acc) → ∀ (Y : CV → Mu → Prop) (N : Mu → Prop), (∀ y μ2, I (i + 1) (acc ++ [y]) μ2 → Fr S μ' μ2 → Y y μ2) → (∀ μ2, I (i + 1) acc μ2 → Fr S μ' μ2 → N μ2) →
      g (.int (i : Nat)) Γ μ' fun Γ' μ1 => tt Γ' μ1 (fun b μ2 => if b = true then te Γ' μ2 Y noX else N μ2) noX)
    (done : ∀ acc μ', I n acc μ' → acc.length ≤ n → Fr S μ μ' → μ'[μ.length]? = some (.lst acc) → P μ') : (-(2 ^ 62) ≤ (n : Int) ∧ (n : Int) < 2 ^ 62) ∧ cLcGo (fun _ => True) g tt te μ.length Γ (rangeC 0 (n : Int)) (μ ++ [.lst []]) P := by
  have hz : (1000000 : Nat) ≤ sizeLine := by decide
  refine ⟨⟨by omega, by omega⟩, ?_⟩
  refine lc_growI S I hS I0 hJ (fun _ _ _ _ _ => trivial) (by rw [rangeC_len]; omega) (fun i y acc μ' hy a f e Y N h1 h2 => ?_) (fun acc μ' a l f e => ?_)
  · obtain ⟨h0, rfl⟩ := rangeC_get hy
    exact step i acc μ' h0 a f e Y N h1 h2
  · rw [rangeC_len] at a l
    exact done acc μ' (by simpa using a) (by simpa using l) f e
theorem lc_rangeI {c : CE} {n : Nat} {g : CG} {tt : CT} {te : CE} {vs : List Nat} {Γ : Ga} {μ0 μ : Mu} {P : PV} {E : PX} (S : List Nat) (I : Nat → List CV → Mu → Prop) (hc : ∀ (Q : PV) E, Q (.int (n : Int)) μ → c Γ μ0 Q E) (hn : n ≤ 1000000)
    (hS : μ.length ∉ S) (I0 : I 0 [] (μ ++ [.lst []])) (hJ : ∀ i acc μ' l, I i acc μ' → Fr S μ μ' → μ.length < μ'.length → I i acc (μ'.set μ.length (.lst l)))
    (step : ∀ (i : Nat) acc μ', i < n → I i acc μ' → Fr S μ μ' → μ'[μ.length]? = some (.lst acc) → ∀ (Y : CV → Mu → Prop) (N : Mu → Prop), (∀ y μ2, I (i + 1) (acc ++ [y]) μ2 → Fr S μ' μ2 → Y y μ2) → (∀ μ2, I (i + 1) acc μ2 → Fr S μ' μ2 → N μ2) →
      g (.int (i : Nat)) (wipeG Γ vs) μ' fun Γ' μ1 => tt Γ' μ1 (fun b μ2 => if b = true then te Γ' μ2 Y noX else N μ2) noX)
    (done : ∀ acc μ', I n acc μ' → acc.length ≤ n → Fr S μ μ' → μ'[μ.length]? = some (.lst acc) → P (.hnd μ.length) μ') : cLc (ciRange1 (cCons c cNil)) g tt te vs Γ μ0 P E := hc _ _ (go_rangeI S I hn hS I0 hJ step done)
theorem lc_seqI {c : CE} {x : CV} {l : List CV} {g : CG} {tt : CT} {te : CE} {vs : List Nat} {Γ : Ga} {μ0 μ : Mu} {P : PV} {E : PX} (S : List Nat) (I : Nat → List CV → Mu → Prop) (hc : ∀ (Q : PV) E, Q x μ → c Γ μ0 Q E) (h : citems μ x = some l) (hn : l.length ≤ sizeLine)
    (hS : μ.length ∉ S) (I0 : I 0 [] (μ ++ [.lst []])) (hJ : ∀ i acc μ' l, I i acc μ' → Fr S μ μ' → μ.length < μ'.length → I i acc (μ'.set μ.length (.lst l))) (hx : ∀ i acc μ', I i acc μ' → Fr S μ μ' → citems μ' x = some l)
    (step : ∀ (i : Nat) y acc μ', l[i]? = some y → I i acc μ' → Fr S μ μ' → μ'[μ.length]? = some (.lst acc) → ∀ (Y : CV → Mu → Prop) (N : Mu → Prop), (∀ y μ2, I (i + 1) (acc ++ [y]) μ2 → Fr S μ' μ2 → Y y μ2) → (∀ μ2, I (i + 1) acc μ2 → Fr S μ' μ2 → N μ2) →
      g y (wipeG Γ vs) μ' fun Γ' μ1 => tt Γ' μ1 (fun b μ2 => if b = true then te Γ' μ2 Y noX else N μ2) noX)
    (done : ∀ acc μ', I l.length acc μ' → acc.length ≤ l.length → Fr S μ μ' → μ'[μ.length]? = some (.lst acc) → P (.hnd μ.length) μ') : cLc (ciSeq c) g tt te vs Γ μ0 P E := by
  refine ciSeq_var (x := x) h (fun ok hok => ?_) (fun Q => hc Q _)
  exact lc_growI S I hS I0 hJ (fun i acc μ' a f => hok _ (hx i acc μ' a f)) hn step done
end Cl
/-! k59: what the defs promise. -/
namespace K59
open PySem PySem.Spec PyProof.Rows L2 Cl
def thingsOf (n : Nat) : Option Nat := if n = 1 then some 0 else if n = 2 then some 1 else if n = 4 then some 2 else if n = 8 then some 3 else if n = 16 then some 4 else if n = 32 then some 5 else none
def at_ (bs : List Bool) (i : Nat) : Bool := bs.getD i false
def Rises (bs : List Bool) (m : Nat) : Prop := ∀ lot, lot < bs.length → ∀ t, t < m → at_ bs lot = true → at_ bs (lot ||| 2 ^ t) = true
def leastOf (bs : List Bool) (m : Nat) : List Nat := (List.range bs.length).filter fun lot => at_ bs lot && !(List.range m).any fun t => lot.testBit t && at_ bs (lot ^^^ 2 ^ t)
def greatestOf (bs : List Bool) (m : Nat) : List Nat := (List.range bs.length).filter fun lot => !at_ bs lot && (List.range m).all fun t => lot.testBit t || at_ bs (lot ||| 2 ^ t)
def nats (l : List Nat) : List CV := l.map fun n : Nat => .int (n : Int)
def szX : Exn := ⟨7, [("reason", .str "size")]⟩
def faX : Exn := ⟨7, [("reason", .str "falls")]⟩
/-- x is a row of answers -/
def Row (μ : Mu) (x : CV) (bs : List Bool) : Prop := citems μ x = some (bs.map CV.bl)
/-- the three ends -/
def Told (bs : List Bool) (good : Nat → Prop) (falls size : Prop) : Prop := (∀ m, thingsOf bs.length = some m → Rises bs m → good m) ∧ (∀ m, thingsOf bs.length = some m → ¬ Rises bs m → falls) ∧ (thingsOf bs.length = none → size)
def sp_things_of : CSpec := fun xs μ P E => ∃ x bs, xs = [x] ∧ Row μ x bs ∧ (∀ m, thingsOf bs.length = some m → P (.int (m : Nat)) μ) ∧ (thingsOf bs.length = none → E szX μ)
def sp_check_rises : CSpec := fun xs μ P E => ∃ x bs, xs = [x] ∧ Row μ x bs ∧ Told bs (fun m => P (.int (m : Nat)) μ) (E faX μ) (E szX μ)
def sp_least_lots : CSpec := fun xs μ P E => ∃ x bs, xs = [x] ∧ Row μ x bs ∧ Told bs (fun m => ∀ μ', Fr [] μ μ' → P (.tup (nats (leastOf bs m))) μ') (E faX μ) (E szX μ)
def sp_greatest_lots : CSpec := fun xs μ P E => ∃ x bs, xs = [x] ∧ Row μ x bs ∧ Told bs (fun m => ∀ μ', Fr [] μ μ' → P (.tup (nats (greatestOf bs m))) μ') (E faX μ) (E szX μ)
/-- the drawing: a list of great numbers, the seed, the count -/
def Dw (μ : Mu) (h g : Nat) : Prop := ∃ (gs : List Int) (s c : Int), μ[h]? = some (.lst [.hnd g, .int s, .int c]) ∧ μ[g]? = some (.lst (gs.map CV.int)) ∧ h ≠ g
def sp__law_begin : CSpec := fun xs μ P E => ∃ ns : List Int, xs = [.rol (ns.map .int)] ∧ ns.length ≤ 63 ∧ ∀ h g μ', Fr [] μ μ' → Dw μ' h g → μ.length ≤ h → μ.length ≤ g → P (.hnd h) μ'
def sp__law_draw : CSpec := fun xs μ P E => ∃ h g many, xs = [.hnd h, .int many] ∧ (0 < many ∧ many ≤ 100) ∧ Dw μ h g ∧ ∀ r μ', 0 ≤ r → r < many → Dw μ' h g → Fr [h, g] μ μ' → P (.int r) μ'
def sp__law_is_count : CSpec := fun xs μ P E => ∃ i, xs = [.int i] ∧ P (.bl (decide (0 ≤ i))) μ
def sp__law_table : CSpec := fun xs μ P E => ∃ h g, xs = [.hnd h] ∧ Dw μ h g ∧ ∀ n (bs : List Bool) μ', Fr [h, g] μ μ' → Dw μ' h g → μ.length ≤ n → μ'[n]? = some (.lst (bs.map .bl)) → bs.length ≤ 70 → P (.hnd n) μ'
def sp__law_refusal : CSpec := fun xs μ P E => ∃ x bs, xs = [x] ∧ Row μ x bs ∧ Told bs (fun _ => P .non μ) (P (.str "falls") μ) (P (.str "size") μ)
def sp__law_lots : CSpec := fun xs μ P E => ∃ x bs w m, xs = [x, .bl w] ∧ Row μ x bs ∧ thingsOf bs.length = some m ∧ Rises bs m ∧ ∀ μ', Fr [] μ μ' → P (.tup (nats (if w = true then leastOf bs m else greatestOf bs m))) μ'
def sp__law_least_told : CSpec := fun xs μ P E => ∃ x bs, xs = [x] ∧ Row μ x bs ∧ Told bs (fun m => ∀ μ', Fr [] μ μ' → P (.tup [.bl true, .tup (nats (leastOf bs m))]) μ') (P (.tup [.bl false, .tup [.str "falls", .bl true]]) μ) (P (.tup [.bl false, .tup [.str "size", .bl true]]) μ)
def sp__law_greatest_told : CSpec := fun xs μ P E => ∃ x bs, xs = [x] ∧ Row μ x bs ∧ Told bs (fun m => ∀ μ', Fr [] μ μ' → P (.tup [.bl true, .tup (nats (greatestOf bs m))]) μ') (P (.tup [.bl false, .tup [.str "falls", .bl true]]) μ) (P (.tup [.bl false, .tup [.str "size", .bl true]]) μ)
def sp__law_row_right : CSpec := fun xs μ P E => ∃ ls : List Nat, xs = [.tup (nats ls), .tup (nats ls)] ∧ ls.length ≤ 70 ∧ ∀ μ', Fr [] μ μ' → P (.bl true) μ'
def sp__law_table_right : CSpec := fun xs μ P E => ∃ (n : Nat) (bs : List Bool) (t : Int), xs = [.hnd n, .int t] ∧ μ[n]? = some (.lst (bs.map .bl)) ∧ bs.length ≤ 70 ∧ ∀ μ', Fr [] μ μ' → P (.bl true) μ'
def sp_law : CSpec := fun xs μ P E => ∃ ns : List Int, xs = [.rol (ns.map .int)] ∧ ns.length ≤ 63 ∧ ∀ μ', P (.bl true) μ'
def mt_Refused : Nat → Option Bool
  | 7 => some true
  | _ => none
def c_SIZES : CV := .tup ([.int 1, .int 2, .int 4, .int 8, .int 16, .int 32].map Dc.c)
structure Dcs (K : PySem.W.Frag) : Prop where
  SIZES : ∀ ρ H, Den K ρ H (.ref (He.ga K "SIZES")) c_SIZES
end K59
namespace K59
open PySem PySem.Spec PyProof.Rows L2 Cl
/-- printed by gen.py out of the law's text -/
def top (i : Nat) : Stmt := PySem.Challenge.pw_porterlodge_k59_lots.main.body.getD i (.Pass ⟨0, 0, 0, 0⟩)
def FR : List Str := ["enumerate", "len", "range", "any", "tuple", "all", "int", "max", "isinstance", "bool", "list", "sorted"]
def GL : List Str := ["SIZES", "Refused", "things_of", "check_rises", "_law_draw", "least_lots", "LodgeError", "greatest_lots", "_law_is_count", "_law_refusal", "_law_least_told", "_law_greatest_told", "_law_lots", "_law_row_right", "_law_begin", "_law_table", "_law_table_right", "law"]
variable {P : Program} {w : World} {K : PySem.W.Frag} {mg : Str → Option Value} {base : Heap}
/-! ### things_of (level 3) -/
abbrev s_things_of : Stmt := top 5
abbrev N_things_of : List Str := ["answers", "many", "size"]
abbrev p_things_of : List Str := ["answers"]
def c_things_of : CS := (csSeq (csFor (ciEnum (cCons (cCon c_SIZES) cNil)) (cgTup 2 (cgCons (cgName 1) (cgCons (cgName 2) cgNil))) (csIf (cTest (cOp fEq (cCB fLen (cCons (cVar 0) cNil)) (cVar 2))) (csRet (cVar 1)) csNil)) (csRaise 7 "reason" (cCon (.str "size"))))
theorem sc_things_of : FnScope N_things_of p_things_of (defScope s_things_of) := ⟨rfl, rfl, rfl, by decide +kernel, rfl, by decide +kernel, by decide +kernel⟩
theorem d_things_of (G : GF FR GL K mg) (D : Dcs K) (XRefused : ExD P w K mg base 7 "reason") (cdv : Value) (A : Around) (outer : List Env) (s : Shared) (H : Hp) (E : XK) (hr : Room 2 (A.deeper (envOfC "things_of" (defScope s_things_of) s.heap.objs.size (He.ga K "things_of") cdv))) :
    PSs (cxOf (L2.CX P w) P w K mg base N_things_of "things_of" (defScope s_things_of) (He.ga K "things_of") cdv A outer s H E) (defBody s_things_of) (lS K (WD E) c_things_of) := by
  have nd : N_things_of.Nodup := sc_things_of.nd
  have hu : (A.deeper (envOfC "things_of" (defScope s_things_of) s.heap.objs.size (He.ga K "things_of") cdv)).units + 64 < cLine := by have := hr.un; omega
  have tk : Takes (cxOf (L2.CX P w) P w K mg base N_things_of "things_of" (defScope s_things_of) (He.ga K "things_of") cdv A outer s H E) (WD E) := takes_of rfl rfl rfl rfl
  have hp : PassesOwn (model P w) (cxOf (L2.CX P w) P w K mg base N_things_of "things_of" (defScope s_things_of) (He.ga K "things_of") cdv A outer s H E).A (cxOf (L2.CX P w) P w K mg base N_things_of "things_of" (defScope s_things_of) (He.ga K "things_of") cdv A outer s H E).env (cxOf (L2.CX P w) P w K mg base N_things_of "things_of" (defScope s_things_of) (He.ga K "things_of") cdv A outer s H E).xe := passes_of rfl
  exact (cs_cons (cs_for (vs := [1, 2]) hp rfl (ci_enum (G.fr 0 rfl) (ca_cons (ce_glob (v := .ref _) (G.gl 0 rfl) rfl D.SIZES) ca_nil)) (cg_tup rfl (cg_cons (cg_name (pg_name nd rfl (.inl rfl))) (cg_cons (cg_name (pg_name nd rfl (.inl rfl))) cg_nil))) (cs_one (cs_if (ct_cmp (op_eqP hu) os_eq (ce_callB cr_len cs_len (G.fr 1 rfl) (ca_cons (ce_var (pv 0)) ca_nil) boot_len) (ce_var (pv 2)) (nomark _)) (cs_one (cs_ret (ce_var (pv 1)))) cs_nil))) (cs_one (cs_raiseG XRefused (hr.mono (by decide)) (G.gl 1 rfl) rfl tk ce_str)))
/-! ### check_rises (level 4) -/
abbrev s_check_rises : Stmt := top 6
abbrev N_check_rises : List Str := ["answers", "many", "lot", "answer", "thing"]
abbrev p_check_rises : List Str := ["answers"]
def c_check_rises : CS := (csSeq (csSet 1 (cCall sp_things_of [] (cCons (cVar 0) cNil))) (csSeq (csFor (ciEnum (cCons (cVar 0) cNil)) (cgTup 2 (cgCons (cgName 2) (cgCons (cgName 3) cgNil))) (csFor (ciRange1 (cCons (cVar 1) cNil)) (cgName 4) (csIf (ctAnd (cTru (cVar 3)) (ctNot (cTru (cOp fIx (cVar 0) (cOp fOr (cVar 2) (cOp fShl (cCon (.int 1)) (cVar 4))))))) (csRaise 7 "reason" (cCon (.str "falls"))) csNil))) (csRet (cVar 1))))
theorem sc_check_rises : FnScope N_check_rises p_check_rises (defScope s_check_rises) := ⟨rfl, rfl, rfl, by decide +kernel, rfl, by decide +kernel, by decide +kernel⟩
theorem d_check_rises (G : GF FR GL K mg) (D : Dcs K) (F_things_of : OkG P w K mg base 3 (He.ga K "things_of") sp_things_of []) (XRefused : ExD P w K mg base 7 "reason") (cdv : Value) (A : Around) (outer : List Env) (s : Shared) (H : Hp) (E : XK) (hr : Room 3 (A.deeper (envOfC "check_rises" (defScope s_check_rises) s.heap.objs.size (He.ga K "check_rises") cdv))) :
    PSs (cxOf (L2.CX P w) P w K mg base N_check_rises "check_rises" (defScope s_check_rises) (He.ga K "check_rises") cdv A outer s H E) (defBody s_check_rises) (lS K (WD E) c_check_rises) := by
  have nd : N_check_rises.Nodup := sc_check_rises.nd
  have hu : (A.deeper (envOfC "check_rises" (defScope s_check_rises) s.heap.objs.size (He.ga K "check_rises") cdv)).units + 64 < cLine := by have := hr.un; omega
  have tk : Takes (cxOf (L2.CX P w) P w K mg base N_check_rises "check_rises" (defScope s_check_rises) (He.ga K "check_rises") cdv A outer s H E) (WD E) := takes_of rfl rfl rfl rfl
  have hp : PassesOwn (model P w) (cxOf (L2.CX P w) P w K mg base N_check_rises "check_rises" (defScope s_check_rises) (He.ga K "check_rises") cdv A outer s H E).A (cxOf (L2.CX P w) P w K mg base N_check_rises "check_rises" (defScope s_check_rises) (He.ga K "check_rises") cdv A outer s H E).env (cxOf (L2.CX P w) P w K mg base N_check_rises "check_rises" (defScope s_check_rises) (He.ga K "check_rises") cdv A outer s H E).xe := passes_of rfl
  exact (cs_cons (cs_set (ps_set (i := 1) nd rfl (.inl rfl) (ce_callG F_things_of (hr.mono (by decide)) (G.gl 2 rfl) tk (ca_cons (ce_var (pv 0)) ca_nil)))) (cs_cons (cs_for (vs := [2, 3]) hp rfl (ci_enum (G.fr 0 rfl) (ca_cons (ce_var (pv 0)) ca_nil)) (cg_tup rfl (cg_cons (cg_name (pg_name nd rfl (.inl rfl))) (cg_cons (cg_name (pg_name nd rfl (.inl rfl))) cg_nil))) (cs_one (cs_for (vs := [4]) hp rfl (ci_range1 (pi_range1 rfl (G.fr 2 rfl) (ca_cons (ce_var (pv 1)) ca_nil))) (cg_name (pg_name nd rfl (.inl rfl))) (cs_one (cs_if (PW.pt (cw_and (ct_tru (ce_var (pv 3))) (cw_and1 (ct_not (ct_tru (ce_ix (ce_var (pv 0)) (ce_or (ce_var (pv 2)) (ce_shl ce_int (ce_var (pv 4)))))))))) (cs_one (cs_raiseG XRefused (hr.mono (by decide)) (G.gl 1 rfl) rfl tk ce_str)) cs_nil))))) (cs_one (cs_ret (ce_var (pv 1))))))
/-! ### least_lots (level 5) -/
abbrev s_least_lots : Stmt := top 7
abbrev N_least_lots : List Str := ["answers", "many", "found", "lot", "answer", "smaller", "thing", "other"]
abbrev p_least_lots : List Str := ["answers"]
def c_least_lots : CS := (csSeq (csSet 1 (cCall sp_check_rises [] (cCons (cVar 0) cNil))) (csSeq (csSet 2 (cLst cNil)) (csSeq (csFor (ciEnum (cCons (cVar 0) cNil)) (cgTup 2 (cgCons (cgName 3) (cgCons (cgName 4) cgNil))) (csSeq (csSet 5 (cLc (ciRange1 (cCons (cVar 1) cNil)) (cgName 6) (cTru (cOp fAnd (cOp fShr (cVar 3) (cVar 6)) (cCon (.int 1)))) (cOp fXor (cVar 3) (cOp fShl (cCon (.int 1)) (cVar 6))) [6])) (csIf (ctAnd (cTru (cVar 4)) (ctNot (cTru (cCB fAny (cCons (cLc (ciSeq (cVar 5)) (cgName 7) ctYes (cOp fIx (cVar 0) (cVar 7)) [7]) cNil))))) (csExpr (cM fApp (cVar 2) (cCons (cVar 3) cNil))) csNil))) (csRet (cCB fTuple (cCons (cVar 2) cNil))))))
theorem sc_least_lots : FnScope N_least_lots p_least_lots (defScope s_least_lots) := ⟨rfl, rfl, rfl, by decide +kernel, rfl, by decide +kernel, by decide +kernel⟩
theorem d_least_lots (G : GF FR GL K mg) (D : Dcs K) (F_check_rises : OkG P w K mg base 4 (He.ga K "check_rises") sp_check_rises []) (cdv : Value) (A : Around) (outer : List Env) (s : Shared) (H : Hp) (E : XK) (hr : Room 4 (A.deeper (envOfC "least_lots" (defScope s_least_lots) s.heap.objs.size (He.ga K "least_lots") cdv))) :
    PSs (cxOf (L2.CX P w) P w K mg base N_least_lots "least_lots" (defScope s_least_lots) (He.ga K "least_lots") cdv A outer s H E) (defBody s_least_lots) (lS K (WD E) c_least_lots) := by
  have nd : N_least_lots.Nodup := sc_least_lots.nd
  have hu : (A.deeper (envOfC "least_lots" (defScope s_least_lots) s.heap.objs.size (He.ga K "least_lots") cdv)).units + 64 < cLine := by have := hr.un; omega
  have tk : Takes (cxOf (L2.CX P w) P w K mg base N_least_lots "least_lots" (defScope s_least_lots) (He.ga K "least_lots") cdv A outer s H E) (WD E) := takes_of rfl rfl rfl rfl
  have hp : PassesOwn (model P w) (cxOf (L2.CX P w) P w K mg base N_least_lots "least_lots" (defScope s_least_lots) (He.ga K "least_lots") cdv A outer s H E).A (cxOf (L2.CX P w) P w K mg base N_least_lots "least_lots" (defScope s_least_lots) (He.ga K "least_lots") cdv A outer s H E).env (cxOf (L2.CX P w) P w K mg base N_least_lots "least_lots" (defScope s_least_lots) (He.ga K "least_lots") cdv A outer s H E).xe := passes_of rfl
  exact (cs_cons (cs_set (ps_set (i := 1) nd rfl (.inl rfl) (ce_callG F_check_rises (hr.mono (by decide)) (G.gl 3 rfl) tk (ca_cons (ce_var (pv 0)) ca_nil)))) (cs_cons (cs_set (ps_set (i := 2) nd rfl (.inl rfl) (ce_lst ca_nil))) (cs_cons (cs_for (vs := [3, 4]) hp rfl (ci_enum (G.fr 0 rfl) (ca_cons (ce_var (pv 0)) ca_nil)) (cg_tup rfl (cg_cons (cg_name (pg_name nd rfl (.inr rfl))) (cg_cons (cg_name (pg_name nd rfl (.inl rfl))) cg_nil))) (cs_cons (cs_setLc (ps_setLc (i := 5) (own := [("thing", 6)]) rfl nd rfl rfl (sw_true rfl rfl rfl (by decide +kernel)) (ci_range1 (pi_range1 rfl (G.fr 2 rfl) (ca_cons (ce_var (pv 1)) ca_nil))) (blkOk_by (by kernel_rfl)) (fun _ _ _ _ _ => (cg_name (pg_name nd rfl (by first | exact .inl rfl | exact .inr rfl)))) (fun _ _ _ _ _ => (cts_one (ct_tru (ce_and (ce_shr (ce_var (pv 3)) (ce_var (pv 6))) ce_int)))) (fun _ _ _ _ _ => (ce_xor (ce_var (pv 3)) (ce_shl ce_int (ce_var (pv 6))))))) (cs_one (cs_if (PW.pt (cw_and (ct_tru (ce_var (pv 4))) (cw_and1 (ct_not (ct_tru (ce_callB (cr_any rfl) cs_any (G.fr 3 rfl) (ca_cons (ce_lc (pe_lc (own := [("other", 7)]) rfl nd (ci_seq (ce_var (pv 5))) (blkOk_by (by kernel_rfl)) (fun _ _ _ _ _ => (cg_name (pg_name nd rfl (by first | exact .inl rfl | exact .inr rfl)))) (fun _ _ _ _ _ => cts_nil) (fun _ _ _ _ _ => (ce_ix (ce_var (pv 0)) (ce_var (pv 7)))))) ca_nil) boot_any)))))) (cs_one (cs_expr (ps_expr (ce_m (id := "list.append") (pe_bm PySem.F.plainAttrs_list PySem.F.slot_list_append PySem.F.type_list_append mt_append (ce_var (pv 2)) (ca_cons (ce_var (pv 3)) ca_nil)) ms_app)))) cs_nil)))) (cs_one (cs_ret (ce_callTy call_tuple_of cs_tuple (G.fr 4 rfl) (ca_cons (ce_var (pv 2)) ca_nil) boot_tuple))))))
/-! ### greatest_lots (level 5) -/
abbrev s_greatest_lots : Stmt := top 8
abbrev N_greatest_lots : List Str := ["answers", "many", "found", "lot", "answer", "larger", "thing", "other"]
abbrev p_greatest_lots : List Str := ["answers"]
def c_greatest_lots : CS := (csSeq (csSet 1 (cCall sp_check_rises [] (cCons (cVar 0) cNil))) (csSeq (csSet 2 (cLst cNil)) (csSeq (csFor (ciEnum (cCons (cVar 0) cNil)) (cgTup 2 (cgCons (cgName 3) (cgCons (cgName 4) cgNil))) (csSeq (csSet 5 (cLc (ciRange1 (cCons (cVar 1) cNil)) (cgName 6) (cTest (cOp fEq (cOp fAnd (cOp fShr (cVar 3) (cVar 6)) (cCon (.int 1))) (cCon (.int 0)))) (cOp fOr (cVar 3) (cOp fShl (cCon (.int 1)) (cVar 6))) [6])) (csIf (ctAnd (ctNot (cTru (cVar 4))) (cTru (cCB fAll (cCons (cLc (ciSeq (cVar 5)) (cgName 7) ctYes (cOp fIx (cVar 0) (cVar 7)) [7]) cNil)))) (csExpr (cM fApp (cVar 2) (cCons (cVar 3) cNil))) csNil))) (csRet (cCB fTuple (cCons (cVar 2) cNil))))))
theorem sc_greatest_lots : FnScope N_greatest_lots p_greatest_lots (defScope s_greatest_lots) := ⟨rfl, rfl, rfl, by decide +kernel, rfl, by decide +kernel, by decide +kernel⟩
theorem d_greatest_lots (G : GF FR GL K mg) (D : Dcs K) (F_check_rises : OkG P w K mg base 4 (He.ga K "check_rises") sp_check_rises []) (cdv : Value) (A : Around) (outer : List Env) (s : Shared) (H : Hp) (E : XK) (hr : Room 4 (A.deeper (envOfC "greatest_lots" (defScope s_greatest_lots) s.heap.objs.size (He.ga K "greatest_lots") cdv))) :
    PSs (cxOf (L2.CX P w) P w K mg base N_greatest_lots "greatest_lots" (defScope s_greatest_lots) (He.ga K "greatest_lots") cdv A outer s H E) (defBody s_greatest_lots) (lS K (WD E) c_greatest_lots) := by
  have nd : N_greatest_lots.Nodup := sc_greatest_lots.nd
  have hu : (A.deeper (envOfC "greatest_lots" (defScope s_greatest_lots) s.heap.objs.size (He.ga K "greatest_lots") cdv)).units + 64 < cLine := by have := hr.un; omega
  have tk : Takes (cxOf (L2.CX P w) P w K mg base N_greatest_lots "greatest_lots" (defScope s_greatest_lots) (He.ga K "greatest_lots") cdv A outer s H E) (WD E) := takes_of rfl rfl rfl rfl
  have hp : PassesOwn (model P w) (cxOf (L2.CX P w) P w K mg base N_greatest_lots "greatest_lots" (defScope s_greatest_lots) (He.ga K "greatest_lots") cdv A outer s H E).A (cxOf (L2.CX P w) P w K mg base N_greatest_lots "greatest_lots" (defScope s_greatest_lots) (He.ga K "greatest_lots") cdv A outer s H E).env (cxOf (L2.CX P w) P w K mg base N_greatest_lots "greatest_lots" (defScope s_greatest_lots) (He.ga K "greatest_lots") cdv A outer s H E).xe := passes_of rfl
  exact (cs_cons (cs_set (ps_set (i := 1) nd rfl (.inl rfl) (ce_callG F_check_rises (hr.mono (by decide)) (G.gl 3 rfl) tk (ca_cons (ce_var (pv 0)) ca_nil)))) (cs_cons (cs_set (ps_set (i := 2) nd rfl (.inl rfl) (ce_lst ca_nil))) (cs_cons (cs_for (vs := [3, 4]) hp rfl (ci_enum (G.fr 0 rfl) (ca_cons (ce_var (pv 0)) ca_nil)) (cg_tup rfl (cg_cons (cg_name (pg_name nd rfl (.inr rfl))) (cg_cons (cg_name (pg_name nd rfl (.inl rfl))) cg_nil))) (cs_cons (cs_setLc (ps_setLc (i := 5) (own := [("thing", 6)]) rfl nd rfl rfl (sw_true rfl rfl rfl (by decide +kernel)) (ci_range1 (pi_range1 rfl (G.fr 2 rfl) (ca_cons (ce_var (pv 1)) ca_nil))) (blkOk_by (by kernel_rfl)) (fun _ _ _ _ _ => (cg_name (pg_name nd rfl (by first | exact .inl rfl | exact .inr rfl)))) (fun _ _ _ _ _ => (cts_one (ct_cmp (op_eqP hu) os_eq (ce_and (ce_shr (ce_var (pv 3)) (ce_var (pv 6))) ce_int) ce_int (nomark _)))) (fun _ _ _ _ _ => (ce_or (ce_var (pv 3)) (ce_shl ce_int (ce_var (pv 6))))))) (cs_one (cs_if (PW.pt (cw_and (ct_not (ct_tru (ce_var (pv 4)))) (cw_and1 (ct_tru (ce_callB (cr_all rfl) cs_all (G.fr 5 rfl) (ca_cons (ce_lc (pe_lc (own := [("other", 7)]) rfl nd (ci_seq (ce_var (pv 5))) (blkOk_by (by kernel_rfl)) (fun _ _ _ _ _ => (cg_name (pg_name nd rfl (by first | exact .inl rfl | exact .inr rfl)))) (fun _ _ _ _ _ => cts_nil) (fun _ _ _ _ _ => (ce_ix (ce_var (pv 0)) (ce_var (pv 7)))))) ca_nil) boot_all))))) (cs_one (cs_expr (ps_expr (ce_m (id := "list.append") (pe_bm PySem.F.plainAttrs_list PySem.F.slot_list_append PySem.F.type_list_append mt_append (ce_var (pv 2)) (ca_cons (ce_var (pv 3)) ca_nil)) ms_app)))) cs_nil)))) (cs_one (cs_ret (ce_callTy call_tuple_of cs_tuple (G.fr 4 rfl) (ca_cons (ce_var (pv 2)) ca_nil) boot_tuple))))))
/-! ### _law_begin (level 1) -/
abbrev s__law_begin : Stmt := top 10
abbrev N__law_begin : List Str := ["script", "great", "cell", "seed"]
abbrev p__law_begin : List Str := ["script"]
def c__law_begin : CS := (csSeq (csSet 1 (cLc (ciSeq (cSl (cVar 0) coNone (coSome (cCon (.int 63))))) (cgName 2) (cTest (cOp fGe (cVar 2) (cOp fPow (cCon (.int 10)) (cCon (.int 18))))) (cVar 2) [2])) (csSeq (csSet 3 (cCon (.int 12345))) (csSeq (csFor (ciSeq (cSl (cVar 0) coNone (coSome (cCon (.int 63))))) (cgName 2) (csIf (cTest (cOp fLt (cVar 2) (cOp fPow (cCon (.int 10)) (cCon (.int 18))))) (csSet 3 (cOp fMod (cOp fAdd (cOp fAdd (cOp fMul (cVar 3) (cCon (.int 48271))) (cOp fMod (cCB fInt (cCons (cVar 2) cNil)) (cCon (.int 1000003)))) (cCon (.int 11))) (cCon (.int 2147483647)))) csNil)) (csRet (cLst (cCons (cVar 1) (cCons (cVar 3) (cCons (cCB fLen (cCons (cSl (cVar 0) coNone (coSome (cCon (.int 63)))) cNil)) cNil))))))))
theorem sc__law_begin : FnScope N__law_begin p__law_begin (defScope s__law_begin) := ⟨rfl, rfl, rfl, by decide +kernel, rfl, by decide +kernel, by decide +kernel⟩
theorem d__law_begin (G : GF FR GL K mg) (D : Dcs K) (cdv : Value) (A : Around) (outer : List Env) (s : Shared) (H : Hp) (E : XK) (hr : Room 0 (A.deeper (envOfC "_law_begin" (defScope s__law_begin) s.heap.objs.size (He.ga K "_law_begin") cdv))) :
    PSs (cxOf (L2.CX P w) P w K mg base N__law_begin "_law_begin" (defScope s__law_begin) (He.ga K "_law_begin") cdv A outer s H E) (defBody s__law_begin) (lS K (WD E) c__law_begin) := by
  have nd : N__law_begin.Nodup := sc__law_begin.nd
  have hu : (A.deeper (envOfC "_law_begin" (defScope s__law_begin) s.heap.objs.size (He.ga K "_law_begin") cdv)).units + 64 < cLine := by have := hr.un; omega
  have tk : Takes (cxOf (L2.CX P w) P w K mg base N__law_begin "_law_begin" (defScope s__law_begin) (He.ga K "_law_begin") cdv A outer s H E) (WD E) := takes_of rfl rfl rfl rfl
  have hp : PassesOwn (model P w) (cxOf (L2.CX P w) P w K mg base N__law_begin "_law_begin" (defScope s__law_begin) (He.ga K "_law_begin") cdv A outer s H E).A (cxOf (L2.CX P w) P w K mg base N__law_begin "_law_begin" (defScope s__law_begin) (He.ga K "_law_begin") cdv A outer s H E).env (cxOf (L2.CX P w) P w K mg base N__law_begin "_law_begin" (defScope s__law_begin) (He.ga K "_law_begin") cdv A outer s H E).xe := passes_of rfl
  exact (cs_cons (cs_setLc (ps_setLc (i := 1) (own := [("cell", 2)]) rfl nd rfl rfl (sw_true rfl rfl rfl (by decide +kernel)) (ci_seq (ce_sl (ce_var (pv 0)) co_none (co_some ce_int))) (blkOk_by (by kernel_rfl)) (fun _ _ _ _ _ => (cg_name (pg_name nd rfl (by first | exact .inl rfl | exact .inr rfl)))) (fun _ _ _ _ _ => (cts_one (ct_cmp op_ge os_ge (ce_var (pv 2)) (ce_pow ce_int ce_int) (nomark _)))) (fun _ _ _ _ _ => (ce_var (pv 2))))) (cs_cons (cs_set (ps_set (i := 3) nd rfl (.inl rfl) ce_int)) (cs_cons (cs_for (vs := [2]) hp rfl (ci_seq (ce_sl (ce_var (pv 0)) co_none (co_some ce_int))) (cg_name (pg_name nd rfl (.inl rfl))) (cs_one (cs_if (ct_cmp op_lt os_lt (ce_var (pv 2)) (ce_pow ce_int ce_int) (nomark _)) (cs_one (cs_set (ps_set (i := 3) nd rfl (.inl rfl) (ce_mod (ce_add (ce_add (ce_mul (ce_var (pv 3)) ce_int) (ce_mod (ce_callTy call_int1 cs_int (G.fr 6 rfl) (ca_cons (ce_var (pv 2)) ca_nil) boot_int) ce_int)) ce_int) ce_int)))) cs_nil))) (cs_one (cs_ret (ce_lst (ca_cons (ce_var (pv 1)) (ca_cons (ce_var (pv 3)) (ca_cons (ce_callB cr_len cs_len (G.fr 1 rfl) (ca_cons (ce_sl (ce_var (pv 0)) co_none (co_some ce_int)) ca_nil) boot_len) ca_nil)))))))))
/-! ### _law_draw (level 1) -/
abbrev s__law_draw : Stmt := top 11
abbrev N__law_draw : List Str := ["d", "many", "great", "digit"]
abbrev p__law_draw : List Str := ["d", "many"]
def c__law_draw : CS := (csSeq (csSet 2 (cOp fIx (cVar 0) (cCon (.int 0)))) (csSeq (csIf (cTru (cVar 2)) (csSeq (csSet 3 (cOp fMod (cCB fInt (cCons (cOp fIx (cVar 2) (cCon (.int 0))) cNil)) (cVar 1))) (csSeq (csAsg (cOp fDiv (cOp fIx (cVar 2) (cCon (.int 0))) (cCB fMax2 (cCons (cCon (.int 2)) (cCons (cVar 1) cNil)))) (cgSub (cVar 2) (cCon (.int 0)) fSetL)) (csSeq (csIf (cTest (cOp fEq (cOp fIx (cVar 2) (cCon (.int 0))) (cCon (.int 0)))) (csExpr (cM fPopAt (cVar 2) (cCons (cCon (.int 0)) cNil))) csNil) (csRet (cVar 3))))) csNil) (csSeq (csAsg (cOp fAdd (cOp fIx (cVar 0) (cCon (.int 2))) (cCon (.int 1))) (cgSub (cVar 0) (cCon (.int 2)) fSetL)) (csSeq (csAsg (cOp fMod (cOp fAdd (cOp fAdd (cOp fMul (cOp fIx (cVar 0) (cCon (.int 1))) (cCon (.int 69621))) (cOp fMul (cOp fIx (cVar 0) (cCon (.int 2))) (cCon (.int 7919)))) (cCon (.int 5))) (cCon (.int 2147483647))) (cgSub (cVar 0) (cCon (.int 1)) fSetL)) (csRet (cOp fMod (cOp fDiv (cOp fIx (cVar 0) (cCon (.int 1))) (cCon (.int 31))) (cVar 1)))))))
theorem sc__law_draw : FnScope N__law_draw p__law_draw (defScope s__law_draw) := ⟨rfl, rfl, rfl, by decide +kernel, rfl, by decide +kernel, by decide +kernel⟩
theorem d__law_draw (G : GF FR GL K mg) (D : Dcs K) (cdv : Value) (A : Around) (outer : List Env) (s : Shared) (H : Hp) (E : XK) (hr : Room 0 (A.deeper (envOfC "_law_draw" (defScope s__law_draw) s.heap.objs.size (He.ga K "_law_draw") cdv))) :
    PSs (cxOf (L2.CX P w) P w K mg base N__law_draw "_law_draw" (defScope s__law_draw) (He.ga K "_law_draw") cdv A outer s H E) (defBody s__law_draw) (lS K (WD E) c__law_draw) := by
  have nd : N__law_draw.Nodup := sc__law_draw.nd
  have hu : (A.deeper (envOfC "_law_draw" (defScope s__law_draw) s.heap.objs.size (He.ga K "_law_draw") cdv)).units + 64 < cLine := by have := hr.un; omega
  have tk : Takes (cxOf (L2.CX P w) P w K mg base N__law_draw "_law_draw" (defScope s__law_draw) (He.ga K "_law_draw") cdv A outer s H E) (WD E) := takes_of rfl rfl rfl rfl
  have hp : PassesOwn (model P w) (cxOf (L2.CX P w) P w K mg base N__law_draw "_law_draw" (defScope s__law_draw) (He.ga K "_law_draw") cdv A outer s H E).A (cxOf (L2.CX P w) P w K mg base N__law_draw "_law_draw" (defScope s__law_draw) (He.ga K "_law_draw") cdv A outer s H E).env (cxOf (L2.CX P w) P w K mg base N__law_draw "_law_draw" (defScope s__law_draw) (He.ga K "_law_draw") cdv A outer s H E).xe := passes_of rfl
  exact (cs_cons (cs_set (ps_set (i := 2) nd rfl (.inl rfl) (ce_ix (ce_var (pv 0)) ce_int))) (cs_cons (cs_if (ct_tru (ce_var (pv 2))) (cs_cons (cs_set (ps_set (i := 3) nd rfl (.inl rfl) (ce_mod (ce_callTy call_int1 cs_int (G.fr 6 rfl) (ca_cons (ce_ix (ce_var (pv 2)) ce_int) ca_nil) boot_int) (ce_var (pv 1))))) (cs_cons (cs_asg (vs := []) (ps_asg (ce_fdiv (ce_ix (ce_var (pv 2)) ce_int) (ce_callB (call_max2 rfl) cs_max2 (G.fr 7 rfl) (ca_cons ce_int (ca_cons (ce_var (pv 1)) ca_nil)) boot_max)) (cg_sub (W := W0) (pg_sub (ce_var (pv 2)) ce_int set_list) ss_setL))) (cs_cons (cs_if (ct_cmp (op_eqP hu) os_eq (ce_ix (ce_var (pv 2)) ce_int) ce_int (nomark _)) (cs_one (cs_expr (ps_expr (ce_m (id := "list.pop") (pe_bm PySem.F.plainAttrs_list PySem.F.slot_list_pop PySem.F.type_list_pop mt_popAt (ce_var (pv 2)) (ca_cons ce_int ca_nil)) ms_popAt)))) cs_nil) (cs_one (cs_ret (ce_var (pv 3))))))) cs_nil) (cs_cons (cs_asg (vs := []) (ps_asg (ce_add (ce_ix (ce_var (pv 0)) ce_int) ce_int) (cg_sub (W := W0) (pg_sub (ce_var (pv 0)) ce_int set_list) ss_setL))) (cs_cons (cs_asg (vs := []) (ps_asg (ce_mod (ce_add (ce_add (ce_mul (ce_ix (ce_var (pv 0)) ce_int) ce_int) (ce_mul (ce_ix (ce_var (pv 0)) ce_int) ce_int)) ce_int) ce_int) (cg_sub (W := W0) (pg_sub (ce_var (pv 0)) ce_int set_list) ss_setL))) (cs_one (cs_ret (ce_mod (ce_fdiv (ce_ix (ce_var (pv 0)) ce_int) ce_int) (ce_var (pv 1)))))))))
/-! ### _law_is_count (level 1) -/
abbrev s__law_is_count : Stmt := top 12
abbrev N__law_is_count : List Str := ["thing"]
abbrev p__law_is_count : List Str := ["thing"]
def c__law_is_count : CS := (csRet (cAnd (cCB fIsi (cCons (cVar 0) (cCons (cCon (.ty "int")) cNil))) (cAnd (cNot (cCB fIsi (cCons (cVar 0) (cCons (cCon (.ty "bool")) cNil)))) (cOp fGe (cVar 0) (cCon (.int 0))))))
theorem sc__law_is_count : FnScope N__law_is_count p__law_is_count (defScope s__law_is_count) := ⟨rfl, rfl, rfl, by decide +kernel, rfl, by decide +kernel, by decide +kernel⟩
theorem d__law_is_count (G : GF FR GL K mg) (D : Dcs K) (cdv : Value) (A : Around) (outer : List Env) (s : Shared) (H : Hp) (E : XK) (hr : Room 0 (A.deeper (envOfC "_law_is_count" (defScope s__law_is_count) s.heap.objs.size (He.ga K "_law_is_count") cdv))) :
    PSs (cxOf (L2.CX P w) P w K mg base N__law_is_count "_law_is_count" (defScope s__law_is_count) (He.ga K "_law_is_count") cdv A outer s H E) (defBody s__law_is_count) (lS K (WD E) c__law_is_count) := by
  have nd : N__law_is_count.Nodup := sc__law_is_count.nd
  have hu : (A.deeper (envOfC "_law_is_count" (defScope s__law_is_count) s.heap.objs.size (He.ga K "_law_is_count") cdv)).units + 64 < cLine := by have := hr.un; omega
  have tk : Takes (cxOf (L2.CX P w) P w K mg base N__law_is_count "_law_is_count" (defScope s__law_is_count) (He.ga K "_law_is_count") cdv A outer s H E) (WD E) := takes_of rfl rfl rfl rfl
  have hp : PassesOwn (model P w) (cxOf (L2.CX P w) P w K mg base N__law_is_count "_law_is_count" (defScope s__law_is_count) (He.ga K "_law_is_count") cdv A outer s H E).A (cxOf (L2.CX P w) P w K mg base N__law_is_count "_law_is_count" (defScope s__law_is_count) (He.ga K "_law_is_count") cdv A outer s H E).env (cxOf (L2.CX P w) P w K mg base N__law_is_count "_law_is_count" (defScope s__law_is_count) (He.ga K "_law_is_count") cdv A outer s H E).xe := passes_of rfl
  exact (cs_one (cs_ret (ce_andV (ce_callB call_isi cs_isi (G.fr 8 rfl) (ca_cons (ce_var (pv 0)) (ca_cons (ce_con (pe_bltn (v := .ty _) rfl (G.fr 6 rfl) boot_int rfl) fun _ _ => .ty _) ca_nil)) boot_isinstance) (ce_andV (ce_notV (ce_callB call_isi cs_isi (G.fr 8 rfl) (ca_cons (ce_var (pv 0)) (ca_cons (ce_con (pe_bltn (v := .ty _) rfl (G.fr 9 rfl) boot_bool rfl) fun _ _ => .ty _) ca_nil)) boot_isinstance)) (ce_one (ce_cmp op_ge os_ge (ce_var (pv 0)) ce_int (nomark _)))))))
/-! ### _law_table (level 2) -/
abbrev s__law_table : Stmt := top 13
abbrev N__law_table : List Str := ["d", "size", "basis", "answers", "way", "place", "k", "lot", "one"]
abbrev p__law_table : List Str := ["d"]
def c__law_table : CS := (csSeq (csSet 1 (cOp fShl (cCon (.int 1)) (cCall sp__law_draw [] (cCons (cVar 0) (cCons (cCon (.int 6)) cNil))))) (csSeq (csSet 2 (cLc (ciRange1 (cCons (cCall sp__law_draw [] (cCons (cVar 0) (cCons (cCon (.int 5)) cNil))) cNil)) (cgName 6) ctYes (cCall sp__law_draw [] (cCons (cVar 0) (cCons (cVar 1) cNil))) [6])) (csSeq (csSet 3 (cLc (ciRange1 (cCons (cVar 1) cNil)) (cgName 7) ctYes (cOp fIn (cCon (.bl true)) (cLc (ciSeq (cVar 2)) (cgName 8) ctYes (cOp fEq (cOp fAnd (cVar 7) (cVar 8)) (cVar 8)) [8])) [7])) (csSeq (csSet 4 (cCall sp__law_draw [] (cCons (cVar 0) (cCons (cCon (.int 7)) cNil)))) (csSeq (csIf (cTest (cOp fEq (cVar 4) (cCon (.int 0)))) (csSeq (csSet 5 (cCall sp__law_draw [] (cCons (cVar 0) (cCons (cVar 1) cNil)))) (csAsg (cNot (cOp fIx (cVar 3) (cVar 5))) (cgSub (cVar 3) (cVar 5) fSetL))) csNil) (csSeq (csIf (cTest (cOp fEq (cVar 4) (cCon (.int 1)))) (csSet 3 (cLc (ciRange1 (cCons (cVar 1) cNil)) (cgName 7) ctYes (cOp fEq (cCall sp__law_draw [] (cCons (cVar 0) (cCons (cCon (.int 2)) cNil))) (cCon (.int 1))) [7])) csNil) (csSeq (csIf (cTest (cOp fEq (cVar 4) (cCon (.int 2)))) (csSet 3 (cLc (ciRange1 (cCons (cCall sp__law_draw [] (cCons (cVar 0) (cCons (cCon (.int 71)) cNil))) cNil)) (cgName 7) ctYes (cOp fIx (cVar 3) (cOp fMod (cVar 7) (cVar 1))) [7])) csNil) (csRet (cVar 3)))))))))
theorem sc__law_table : FnScope N__law_table p__law_table (defScope s__law_table) := ⟨rfl, rfl, rfl, by decide +kernel, rfl, by decide +kernel, by decide +kernel⟩
theorem d__law_table (G : GF FR GL K mg) (D : Dcs K) (F__law_draw : OkG P w K mg base 1 (He.ga K "_law_draw") sp__law_draw []) (cdv : Value) (A : Around) (outer : List Env) (s : Shared) (H : Hp) (E : XK) (hr : Room 1 (A.deeper (envOfC "_law_table" (defScope s__law_table) s.heap.objs.size (He.ga K "_law_table") cdv))) :
    PSs (cxOf (L2.CX P w) P w K mg base N__law_table "_law_table" (defScope s__law_table) (He.ga K "_law_table") cdv A outer s H E) (defBody s__law_table) (lS K (WD E) c__law_table) := by
  have nd : N__law_table.Nodup := sc__law_table.nd
  have hu : (A.deeper (envOfC "_law_table" (defScope s__law_table) s.heap.objs.size (He.ga K "_law_table") cdv)).units + 64 < cLine := by have := hr.un; omega
  have tk : Takes (cxOf (L2.CX P w) P w K mg base N__law_table "_law_table" (defScope s__law_table) (He.ga K "_law_table") cdv A outer s H E) (WD E) := takes_of rfl rfl rfl rfl
  have hp : PassesOwn (model P w) (cxOf (L2.CX P w) P w K mg base N__law_table "_law_table" (defScope s__law_table) (He.ga K "_law_table") cdv A outer s H E).A (cxOf (L2.CX P w) P w K mg base N__law_table "_law_table" (defScope s__law_table) (He.ga K "_law_table") cdv A outer s H E).env (cxOf (L2.CX P w) P w K mg base N__law_table "_law_table" (defScope s__law_table) (He.ga K "_law_table") cdv A outer s H E).xe := passes_of rfl
  exact (cs_cons (cs_set (ps_set (i := 1) nd rfl (.inr rfl) (ce_shl ce_int (ce_callG F__law_draw (hr.mono (by decide)) (G.gl 4 rfl) tk (ca_cons (ce_var (pv 0)) (ca_cons ce_int ca_nil)))))) (cs_cons (cs_set (ps_set (i := 2) nd rfl (.inr rfl) (ce_lc (pe_lc (own := [("k", 6)]) rfl nd (ci_range1 (pi_range1 rfl (G.fr 2 rfl) (ca_cons (ce_callG F__law_draw (hr.mono (by decide)) (G.gl 4 rfl) tk (ca_cons (ce_var (pv 0)) (ca_cons ce_int ca_nil))) ca_nil))) (blkOk_by (by kernel_rfl)) (fun _ _ _ _ _ => (cg_name (pg_name nd rfl (by first | exact .inl rfl | exact .inr rfl)))) (fun _ _ _ _ _ => cts_nil) (fun _ _ _ _ _ => (ce_callG F__law_draw (hr.mono (by decide)) (G.gl 4 rfl) takes0 (ca_cons (ce_var (pv 0)) (ca_cons (ce_var (pv 1)) ca_nil)))))))) (cs_cons (cs_set (ps_set (i := 3) nd rfl (.inr rfl) (ce_lc (pe_lc (own := [("lot", 7)]) rfl nd (ci_range1 (pi_range1 rfl (G.fr 2 rfl) (ca_cons (ce_var (pv 1)) ca_nil))) (blkOk_by (by kernel_rfl)) (fun _ _ _ _ _ => (cg_name (pg_name nd rfl (by first | exact .inl rfl | exact .inr rfl)))) (fun _ _ _ _ _ => cts_nil) (fun _ _ _ _ _ => (ce_cmp (op_inP hu) os_in ce_bl (ce_lc (pe_lc (own := [("one", 8)]) rfl nd (ci_seq (ce_var (pv 2))) (blkOk_by (by kernel_rfl)) (fun _ _ _ _ _ => (cg_name (pg_name nd rfl (by first | exact .inl rfl | exact .inr rfl)))) (fun _ _ _ _ _ => cts_nil) (fun _ _ _ _ _ => (ce_cmp (op_eqP hu) os_eq (ce_and (ce_var (pv 7)) (ce_var (pv 8))) (ce_var (pv 8)) (nomark _))))) (by with_unfolding_all rfl))))))) (cs_cons (cs_set (ps_set (i := 4) nd rfl (.inl rfl) (ce_callG F__law_draw (hr.mono (by decide)) (G.gl 4 rfl) tk (ca_cons (ce_var (pv 0)) (ca_cons ce_int ca_nil))))) (cs_cons (cs_if (ct_cmp (op_eqP hu) os_eq (ce_var (pv 4)) ce_int (nomark _)) (cs_cons (cs_set (ps_set (i := 5) nd rfl (.inl rfl) (ce_callG F__law_draw (hr.mono (by decide)) (G.gl 4 rfl) tk (ca_cons (ce_var (pv 0)) (ca_cons (ce_var (pv 1)) ca_nil))))) (cs_one (cs_asg (vs := []) (ps_asg (ce_notV (ce_ix (ce_var (pv 3)) (ce_var (pv 5)))) (cg_sub (W := W0) (pg_sub (ce_var (pv 3)) (ce_var (pv 5)) set_list) ss_setL))))) cs_nil) (cs_cons (cs_if (ct_cmp (op_eqP hu) os_eq (ce_var (pv 4)) ce_int (nomark _)) (cs_one (cs_set (ps_set (i := 3) nd rfl (.inr rfl) (ce_lc (pe_lc (own := [("lot", 7)]) rfl nd (ci_range1 (pi_range1 rfl (G.fr 2 rfl) (ca_cons (ce_var (pv 1)) ca_nil))) (blkOk_by (by kernel_rfl)) (fun _ _ _ _ _ => (cg_name (pg_name nd rfl (by first | exact .inl rfl | exact .inr rfl)))) (fun _ _ _ _ _ => cts_nil) (fun _ _ _ _ _ => (ce_cmp (op_eqP hu) os_eq (ce_callG F__law_draw (hr.mono (by decide)) (G.gl 4 rfl) takes0 (ca_cons (ce_var (pv 0)) (ca_cons ce_int ca_nil))) ce_int (nomark _)))))))) cs_nil) (cs_cons (cs_if (ct_cmp (op_eqP hu) os_eq (ce_var (pv 4)) ce_int (nomark _)) (cs_one (cs_set (ps_set (i := 3) nd rfl (.inr rfl) (ce_lc (pe_lc (own := [("lot", 7)]) rfl nd (ci_range1 (pi_range1 rfl (G.fr 2 rfl) (ca_cons (ce_callG F__law_draw (hr.mono (by decide)) (G.gl 4 rfl) tk (ca_cons (ce_var (pv 0)) (ca_cons ce_int ca_nil))) ca_nil))) (blkOk_by (by kernel_rfl)) (fun _ _ _ _ _ => (cg_name (pg_name nd rfl (by first | exact .inl rfl | exact .inr rfl)))) (fun _ _ _ _ _ => cts_nil) (fun _ _ _ _ _ => (ce_ix (ce_var (pv 3)) (ce_mod (ce_var (pv 7)) (ce_var (pv 1)))))))))) cs_nil) (cs_one (cs_ret (ce_var (pv 3)))))))))))
/-! ### _law_refusal (level 1) -/
abbrev s__law_refusal : Stmt := top 14
abbrev N__law_refusal : List Str := ["answers", "lot", "answer", "other", "larger"]
abbrev p__law_refusal : List Str := ["answers"]
def c__law_refusal : CS := (csSeq (csIf (cTest (cOp fNotIn (cCB fLen (cCons (cVar 0) cNil)) (cTup (cCons (cCon (.int 1)) (cCons (cCon (.int 2)) (cCons (cCon (.int 4)) (cCons (cCon (.int 8)) (cCons (cCon (.int 16)) (cCons (cCon (.int 32)) cNil))))))))) (csRet (cCon (.str "size"))) csNil) (csSeq (csFor (ciEnum (cCons (cVar 0) cNil)) (cgTup 2 (cgCons (cgName 1) (cgCons (cgName 2) cgNil))) (csFor (ciEnum (cCons (cVar 0) cNil)) (cgTup 2 (cgCons (cgName 3) (cgCons (cgName 4) cgNil))) (csIf (ctAnd (cTest (cOp fEq (cOp fAnd (cVar 1) (cVar 3)) (cVar 1))) (ctAnd (cTru (cVar 2)) (ctNot (cTru (cVar 4))))) (csRet (cCon (.str "falls"))) csNil))) (csRet (cCon .non))))
theorem sc__law_refusal : FnScope N__law_refusal p__law_refusal (defScope s__law_refusal) := ⟨rfl, rfl, rfl, by decide +kernel, rfl, by decide +kernel, by decide +kernel⟩
theorem d__law_refusal (G : GF FR GL K mg) (D : Dcs K) (cdv : Value) (A : Around) (outer : List Env) (s : Shared) (H : Hp) (E : XK) (hr : Room 0 (A.deeper (envOfC "_law_refusal" (defScope s__law_refusal) s.heap.objs.size (He.ga K "_law_refusal") cdv))) :
    PSs (cxOf (L2.CX P w) P w K mg base N__law_refusal "_law_refusal" (defScope s__law_refusal) (He.ga K "_law_refusal") cdv A outer s H E) (defBody s__law_refusal) (lS K (WD E) c__law_refusal) := by
  have nd : N__law_refusal.Nodup := sc__law_refusal.nd
  have hu : (A.deeper (envOfC "_law_refusal" (defScope s__law_refusal) s.heap.objs.size (He.ga K "_law_refusal") cdv)).units + 64 < cLine := by have := hr.un; omega
  have tk : Takes (cxOf (L2.CX P w) P w K mg base N__law_refusal "_law_refusal" (defScope s__law_refusal) (He.ga K "_law_refusal") cdv A outer s H E) (WD E) := takes_of rfl rfl rfl rfl
  have hp : PassesOwn (model P w) (cxOf (L2.CX P w) P w K mg base N__law_refusal "_law_refusal" (defScope s__law_refusal) (He.ga K "_law_refusal") cdv A outer s H E).A (cxOf (L2.CX P w) P w K mg base N__law_refusal "_law_refusal" (defScope s__law_refusal) (He.ga K "_law_refusal") cdv A outer s H E).env (cxOf (L2.CX P w) P w K mg base N__law_refusal "_law_refusal" (defScope s__law_refusal) (He.ga K "_law_refusal") cdv A outer s H E).xe := passes_of rfl
  exact (cs_cons (cs_if (ct_cmp (op_notInP hu) os_notIn (ce_callB cr_len cs_len (G.fr 1 rfl) (ca_cons (ce_var (pv 0)) ca_nil) boot_len) (ce_tup (ca_cons ce_int (ca_cons ce_int (ca_cons ce_int (ca_cons ce_int (ca_cons ce_int (ca_cons ce_int ca_nil))))))) (by with_unfolding_all rfl)) (cs_one (cs_ret ce_str)) cs_nil) (cs_cons (cs_for (vs := [1, 2]) hp rfl (ci_enum (G.fr 0 rfl) (ca_cons (ce_var (pv 0)) ca_nil)) (cg_tup rfl (cg_cons (cg_name (pg_name nd rfl (.inl rfl))) (cg_cons (cg_name (pg_name nd rfl (.inl rfl))) cg_nil))) (cs_one (cs_for (vs := [3, 4]) hp rfl (ci_enum (G.fr 0 rfl) (ca_cons (ce_var (pv 0)) ca_nil)) (cg_tup rfl (cg_cons (cg_name (pg_name nd rfl (.inl rfl))) (cg_cons (cg_name (pg_name nd rfl (.inl rfl))) cg_nil))) (cs_one (cs_if (PW.pt (cw_and (ct_cmp (op_eqP hu) os_eq (ce_and (ce_var (pv 1)) (ce_var (pv 3))) (ce_var (pv 1)) (nomark _)) (cw_and (ct_tru (ce_var (pv 2))) (cw_and1 (ct_not (ct_tru (ce_var (pv 4)))))))) (cs_one (cs_ret ce_str)) cs_nil))))) (cs_one (cs_ret ce_non))))
/-! ### _law_lots (level 1) -/
abbrev s__law_lots : Stmt := top 15
abbrev N__law_lots : List Str := ["answers", "worth", "found", "lot", "answer", "alone", "other", "beside", "inner", "outer"]
abbrev p__law_lots : List Str := ["answers", "worth"]
def c__law_lots : CS := (csSeq (csSet 2 (cLst cNil)) (csSeq (csFor (ciEnum (cCons (cVar 0) cNil)) (cgTup 2 (cgCons (cgName 3) (cgCons (cgName 4) cgNil))) (csSeq (csSet 5 (cOp fEq (cVar 4) (cVar 1))) (csSeq (csFor (ciEnum (cCons (cVar 0) cNil)) (cgTup 2 (cgCons (cgName 6) (cgCons (cgName 7) cgNil))) (csSeq (csSet 8 (cIf (cTru (cVar 1)) (cVar 6) (cVar 3))) (csSeq (csSet 9 (cIf (cTru (cVar 1)) (cVar 3) (cVar 6))) (csIf (ctAnd (cTest (cOp fNe (cVar 6) (cVar 3))) (ctAnd (cTest (cOp fEq (cOp fAnd (cVar 8) (cVar 9)) (cVar 8))) (cTest (cOp fEq (cVar 7) (cVar 1))))) (csSet 5 (cCon (.bl false))) csNil)))) (csIf (cTru (cVar 5)) (csExpr (cM fApp (cVar 2) (cCons (cVar 3) cNil))) csNil)))) (csRet (cCB fTuple (cCons (cVar 2) cNil)))))
theorem sc__law_lots : FnScope N__law_lots p__law_lots (defScope s__law_lots) := ⟨rfl, rfl, rfl, by decide +kernel, rfl, by decide +kernel, by decide +kernel⟩
theorem d__law_lots (G : GF FR GL K mg) (D : Dcs K) (cdv : Value) (A : Around) (outer : List Env) (s : Shared) (H : Hp) (E : XK) (hr : Room 0 (A.deeper (envOfC "_law_lots" (defScope s__law_lots) s.heap.objs.size (He.ga K "_law_lots") cdv))) :
    PSs (cxOf (L2.CX P w) P w K mg base N__law_lots "_law_lots" (defScope s__law_lots) (He.ga K "_law_lots") cdv A outer s H E) (defBody s__law_lots) (lS K (WD E) c__law_lots) := by
  have nd : N__law_lots.Nodup := sc__law_lots.nd
  have hu : (A.deeper (envOfC "_law_lots" (defScope s__law_lots) s.heap.objs.size (He.ga K "_law_lots") cdv)).units + 64 < cLine := by have := hr.un; omega
  have tk : Takes (cxOf (L2.CX P w) P w K mg base N__law_lots "_law_lots" (defScope s__law_lots) (He.ga K "_law_lots") cdv A outer s H E) (WD E) := takes_of rfl rfl rfl rfl
  have hp : PassesOwn (model P w) (cxOf (L2.CX P w) P w K mg base N__law_lots "_law_lots" (defScope s__law_lots) (He.ga K "_law_lots") cdv A outer s H E).A (cxOf (L2.CX P w) P w K mg base N__law_lots "_law_lots" (defScope s__law_lots) (He.ga K "_law_lots") cdv A outer s H E).env (cxOf (L2.CX P w) P w K mg base N__law_lots "_law_lots" (defScope s__law_lots) (He.ga K "_law_lots") cdv A outer s H E).xe := passes_of rfl
  exact (cs_cons (cs_set (ps_set (i := 2) nd rfl (.inl rfl) (ce_lst ca_nil))) (cs_cons (cs_for (vs := [3, 4]) hp rfl (ci_enum (G.fr 0 rfl) (ca_cons (ce_var (pv 0)) ca_nil)) (cg_tup rfl (cg_cons (cg_name (pg_name nd rfl (.inl rfl))) (cg_cons (cg_name (pg_name nd rfl (.inl rfl))) cg_nil))) (cs_cons (cs_set (ps_set (i := 5) nd rfl (.inl rfl) (ce_cmp (op_eqP hu) os_eq (ce_var (pv 4)) (ce_var (pv 1)) (nomark _)))) (cs_cons (cs_for (vs := [6, 7]) hp rfl (ci_enum (G.fr 0 rfl) (ca_cons (ce_var (pv 0)) ca_nil)) (cg_tup rfl (cg_cons (cg_name (pg_name nd rfl (.inl rfl))) (cg_cons (cg_name (pg_name nd rfl (.inl rfl))) cg_nil))) (cs_cons (cs_set (ps_set (i := 8) nd rfl (.inl rfl) (ce_if (ct_tru (ce_var (pv 1))) (ce_var (pv 6)) (ce_var (pv 3))))) (cs_cons (cs_set (ps_set (i := 9) nd rfl (.inl rfl) (ce_if (ct_tru (ce_var (pv 1))) (ce_var (pv 3)) (ce_var (pv 6))))) (cs_one (cs_if (PW.pt (cw_and (ct_cmp (op_neP hu) os_ne (ce_var (pv 6)) (ce_var (pv 3)) (nomark _)) (cw_and (ct_cmp (op_eqP hu) os_eq (ce_and (ce_var (pv 8)) (ce_var (pv 9))) (ce_var (pv 8)) (nomark _)) (cw_and1 (ct_cmp (op_eqP hu) os_eq (ce_var (pv 7)) (ce_var (pv 1)) (nomark _)))))) (cs_one (cs_set (ps_set (i := 5) nd rfl (.inl rfl) ce_bl))) cs_nil))))) (cs_one (cs_if (ct_tru (ce_var (pv 5))) (cs_one (cs_expr (ps_expr (ce_m (id := "list.append") (pe_bm PySem.F.plainAttrs_list PySem.F.slot_list_append PySem.F.type_list_append mt_append (ce_var (pv 2)) (ca_cons (ce_var (pv 3)) ca_nil)) ms_app)))) cs_nil))))) (cs_one (cs_ret (ce_callTy call_tuple_of cs_tuple (G.fr 4 rfl) (ca_cons (ce_var (pv 2)) ca_nil) boot_tuple)))))
/-! ### _law_least_told (level 6) -/
abbrev s__law_least_told : Stmt := top 16
abbrev N__law_least_told : List Str := ["answers", "e"]
abbrev p__law_least_told : List Str := ["answers"]
def c__law_least_told : CS := (csTryAs mt_Refused 1 (csRet (cTup (cCons (cCon (.bl true)) (cCons (cCall sp_least_lots [] (cCons (cVar 0) cNil)) cNil)))) (fun xa xd xn => (csRet (cTup (cCons (cCon (.bl false)) (cCons (cTup (cCons (cXf xa xd xn "reason" (cVar 1)) (cCons (cCB (fIsX xa xd xn "LodgeError" true) (cCons (cVar 1) (cCons (cCon (.glo "LodgeError")) cNil))) cNil))) cNil))))))
theorem sc__law_least_told : FnScope N__law_least_told p__law_least_told (defScope s__law_least_told) := ⟨rfl, rfl, rfl, by decide +kernel, rfl, by decide +kernel, by decide +kernel⟩
theorem d__law_least_told (G : GF FR GL K mg) (D : Dcs K) (F_least_lots : OkG P w K mg base 5 (He.ga K "least_lots") sp_least_lots []) (MT_Refused : ∀ k b, mt_Refused k = some b → PySem.W.exmOne K (.ref (kA K k)) (.ref (He.ga K "Refused")) = some b) (XC : ∀ n, mt_Refused n = some true → XCl K n "reason") (IS_LodgeError : ∀ n, mt_Refused n = some true → PySem.W.kitOne K (.ref (kA K n)) (.ref (He.ga K "LodgeError")) = some true) (cdv : Value) (A : Around) (outer : List Env) (s : Shared) (H : Hp) (E : XK) (hr : Room 5 (A.deeper (envOfC "_law_least_told" (defScope s__law_least_told) s.heap.objs.size (He.ga K "_law_least_told") cdv))) :
    PSs (cxOf (L2.CX P w) P w K mg base N__law_least_told "_law_least_told" (defScope s__law_least_told) (He.ga K "_law_least_told") cdv A outer s H E) (defBody s__law_least_told) (lS K (WD E) c__law_least_told) := by
  have nd : N__law_least_told.Nodup := sc__law_least_told.nd
  have hu : (A.deeper (envOfC "_law_least_told" (defScope s__law_least_told) s.heap.objs.size (He.ga K "_law_least_told") cdv)).units + 64 < cLine := by have := hr.un; omega
  have tk : Takes (cxOf (L2.CX P w) P w K mg base N__law_least_told "_law_least_told" (defScope s__law_least_told) (He.ga K "_law_least_told") cdv A outer s H E) (WD E) := takes_of rfl rfl rfl rfl
  have hp : PassesOwn (model P w) (cxOf (L2.CX P w) P w K mg base N__law_least_told "_law_least_told" (defScope s__law_least_told) (He.ga K "_law_least_told") cdv A outer s H E).A (cxOf (L2.CX P w) P w K mg base N__law_least_told "_law_least_told" (defScope s__law_least_told) (He.ga K "_law_least_told") cdv A outer s H E).env (cxOf (L2.CX P w) P w K mg base N__law_least_told "_law_least_told" (defScope s__law_least_told) (He.ga K "_law_least_told") cdv A outer s H E).xe := passes_of rfl
  exact (cs_one (cs_try_as rfl rfl nd rfl rfl ⟨rfl, by decide, .inl (G.gl 1 rfl)⟩ tk MT_Refused (fun W2 pn xe tk hp => (cs_one (cs_ret (ce_tup (ca_cons ce_bl (ca_cons (ce_callG F_least_lots (hr.mono (by decide)) (G.gl 5 rfl) tk (ca_cons (ce_var (pv 0)) ca_nil)) ca_nil)))))) (fun xa oe xn xd pn hx1 hz hfl => (cs_one (cs_ret (ce_tup (ca_cons ce_bl (ca_cons (ce_tup (ca_cons (ce_xf (XC _ hx1).x (XC _ hx1).no hz hfl (ce_var (pv 1))) (ca_cons (ce_callB (call_isX (XC _ hx1).i hz hfl) (cs_isX (IS_LodgeError _ hx1)) (G.fr 8 rfl) (ca_cons (ce_var (pv 1)) (ca_cons (ce_glob (v := .ref _) (G.gl 6 rfl) rfl fun _ _ => .glo _) ca_nil)) boot_isinstance) ca_nil))) ca_nil))))))))
/-! ### _law_greatest_told (level 6) -/
abbrev s__law_greatest_told : Stmt := top 17
abbrev N__law_greatest_told : List Str := ["answers", "e"]
abbrev p__law_greatest_told : List Str := ["answers"]
def c__law_greatest_told : CS := (csTryAs mt_Refused 1 (csRet (cTup (cCons (cCon (.bl true)) (cCons (cCall sp_greatest_lots [] (cCons (cVar 0) cNil)) cNil)))) (fun xa xd xn => (csRet (cTup (cCons (cCon (.bl false)) (cCons (cTup (cCons (cXf xa xd xn "reason" (cVar 1)) (cCons (cCB (fIsX xa xd xn "LodgeError" true) (cCons (cVar 1) (cCons (cCon (.glo "LodgeError")) cNil))) cNil))) cNil))))))
theorem sc__law_greatest_told : FnScope N__law_greatest_told p__law_greatest_told (defScope s__law_greatest_told) := ⟨rfl, rfl, rfl, by decide +kernel, rfl, by decide +kernel, by decide +kernel⟩
theorem d__law_greatest_told (G : GF FR GL K mg) (D : Dcs K) (F_greatest_lots : OkG P w K mg base 5 (He.ga K "greatest_lots") sp_greatest_lots []) (MT_Refused : ∀ k b, mt_Refused k = some b → PySem.W.exmOne K (.ref (kA K k)) (.ref (He.ga K "Refused")) = some b) (XC : ∀ n, mt_Refused n = some true → XCl K n "reason") (IS_LodgeError : ∀ n, mt_Refused n = some true → PySem.W.kitOne K (.ref (kA K n)) (.ref (He.ga K "LodgeError")) = some true) (cdv : Value) (A : Around) (outer : List Env) (s : Shared) (H : Hp) (E : XK) (hr : Room 5 (A.deeper (envOfC "_law_greatest_told" (defScope s__law_greatest_told) s.heap.objs.size (He.ga K "_law_greatest_told") cdv))) :
    PSs (cxOf (L2.CX P w) P w K mg base N__law_greatest_told "_law_greatest_told" (defScope s__law_greatest_told) (He.ga K "_law_greatest_told") cdv A outer s H E) (defBody s__law_greatest_told) (lS K (WD E) c__law_greatest_told) := by
  have nd : N__law_greatest_told.Nodup := sc__law_greatest_told.nd
  have hu : (A.deeper (envOfC "_law_greatest_told" (defScope s__law_greatest_told) s.heap.objs.size (He.ga K "_law_greatest_told") cdv)).units + 64 < cLine := by have := hr.un; omega
  have tk : Takes (cxOf (L2.CX P w) P w K mg base N__law_greatest_told "_law_greatest_told" (defScope s__law_greatest_told) (He.ga K "_law_greatest_told") cdv A outer s H E) (WD E) := takes_of rfl rfl rfl rfl
  have hp : PassesOwn (model P w) (cxOf (L2.CX P w) P w K mg base N__law_greatest_told "_law_greatest_told" (defScope s__law_greatest_told) (He.ga K "_law_greatest_told") cdv A outer s H E).A (cxOf (L2.CX P w) P w K mg base N__law_greatest_told "_law_greatest_told" (defScope s__law_greatest_told) (He.ga K "_law_greatest_told") cdv A outer s H E).env (cxOf (L2.CX P w) P w K mg base N__law_greatest_told "_law_greatest_told" (defScope s__law_greatest_told) (He.ga K "_law_greatest_told") cdv A outer s H E).xe := passes_of rfl
  exact (cs_one (cs_try_as rfl rfl nd rfl rfl ⟨rfl, by decide, .inl (G.gl 1 rfl)⟩ tk MT_Refused (fun W2 pn xe tk hp => (cs_one (cs_ret (ce_tup (ca_cons ce_bl (ca_cons (ce_callG F_greatest_lots (hr.mono (by decide)) (G.gl 7 rfl) tk (ca_cons (ce_var (pv 0)) ca_nil)) ca_nil)))))) (fun xa oe xn xd pn hx1 hz hfl => (cs_one (cs_ret (ce_tup (ca_cons ce_bl (ca_cons (ce_tup (ca_cons (ce_xf (XC _ hx1).x (XC _ hx1).no hz hfl (ce_var (pv 1))) (ca_cons (ce_callB (call_isX (XC _ hx1).i hz hfl) (cs_isX (IS_LodgeError _ hx1)) (G.fr 8 rfl) (ca_cons (ce_var (pv 1)) (ca_cons (ce_glob (v := .ref _) (G.gl 6 rfl) rfl fun _ _ => .glo _) ca_nil)) boot_isinstance) ca_nil))) ca_nil))))))))
/-! ### _law_row_right (level 2) -/
abbrev s__law_row_right : Stmt := top 18
abbrev N__law_row_right : List Str := ["told", "due", "lot"]
abbrev p__law_row_right : List Str := ["told", "due"]
def c__law_row_right : CS := (csSeq (csIf (ctOr (ctNot (cTru (cCB fIsi (cCons (cVar 0) (cCons (cCon (.ty "tuple")) cNil))))) (cTest (cOp fIn (cCon (.bl false)) (cLc (ciSeq (cVar 0)) (cgName 2) ctYes (cCall sp__law_is_count [] (cCons (cVar 2) cNil)) [2])))) (csRet (cCon (.bl false))) csNil) (csRet (cOp fEq (cVar 0) (cVar 1))))
theorem sc__law_row_right : FnScope N__law_row_right p__law_row_right (defScope s__law_row_right) := ⟨rfl, rfl, rfl, by decide +kernel, rfl, by decide +kernel, by decide +kernel⟩
theorem d__law_row_right (G : GF FR GL K mg) (D : Dcs K) (F__law_is_count : OkG P w K mg base 1 (He.ga K "_law_is_count") sp__law_is_count []) (cdv : Value) (A : Around) (outer : List Env) (s : Shared) (H : Hp) (E : XK) (hr : Room 1 (A.deeper (envOfC "_law_row_right" (defScope s__law_row_right) s.heap.objs.size (He.ga K "_law_row_right") cdv))) :
    PSs (cxOf (L2.CX P w) P w K mg base N__law_row_right "_law_row_right" (defScope s__law_row_right) (He.ga K "_law_row_right") cdv A outer s H E) (defBody s__law_row_right) (lS K (WD E) c__law_row_right) := by
  have nd : N__law_row_right.Nodup := sc__law_row_right.nd
  have hu : (A.deeper (envOfC "_law_row_right" (defScope s__law_row_right) s.heap.objs.size (He.ga K "_law_row_right") cdv)).units + 64 < cLine := by have := hr.un; omega
  have tk : Takes (cxOf (L2.CX P w) P w K mg base N__law_row_right "_law_row_right" (defScope s__law_row_right) (He.ga K "_law_row_right") cdv A outer s H E) (WD E) := takes_of rfl rfl rfl rfl
  have hp : PassesOwn (model P w) (cxOf (L2.CX P w) P w K mg base N__law_row_right "_law_row_right" (defScope s__law_row_right) (He.ga K "_law_row_right") cdv A outer s H E).A (cxOf (L2.CX P w) P w K mg base N__law_row_right "_law_row_right" (defScope s__law_row_right) (He.ga K "_law_row_right") cdv A outer s H E).env (cxOf (L2.CX P w) P w K mg base N__law_row_right "_law_row_right" (defScope s__law_row_right) (He.ga K "_law_row_right") cdv A outer s H E).xe := passes_of rfl
  exact (cs_cons (cs_if (PW.pt (cw_or (ct_not (ct_tru (ce_callB call_isi cs_isi (G.fr 8 rfl) (ca_cons (ce_var (pv 0)) (ca_cons (ce_con (pe_bltn (v := .ty _) rfl (G.fr 4 rfl) boot_tuple rfl) fun _ _ => .ty _) ca_nil)) boot_isinstance))) (cw_or1 (ct_cmp (op_inP hu) os_in ce_bl (ce_lc (pe_lc (own := [("lot", 2)]) rfl nd (ci_seq (ce_var (pv 0))) (blkOk_by (by kernel_rfl)) (fun _ _ _ _ _ => (cg_name (pg_name nd rfl (by first | exact .inl rfl | exact .inr rfl)))) (fun _ _ _ _ _ => cts_nil) (fun _ _ _ _ _ => (ce_callG F__law_is_count (hr.mono (by decide)) (G.gl 8 rfl) takes0 (ca_cons (ce_var (pv 2)) ca_nil))))) (by with_unfolding_all rfl))))) (cs_one (cs_ret ce_bl)) cs_nil) (cs_one (cs_ret (ce_cmp (op_eqP hu) os_eq (ce_var (pv 0)) (ce_var (pv 1)) (nomark _)))))
/-! ### _law_table_right (level 7) -/
abbrev s__law_table_right : Stmt := top 19
abbrev N__law_table_right : List Str := ["answers", "turn", "refused", "given", "least", "greatest", "due", "lot", "answer", "size", "turned", "others", "one"]
abbrev p__law_table_right : List Str := ["answers", "turn"]
def c__law_table_right : CS := (csSeq (csSet 2 (cCall sp__law_refusal [] (cCons (cVar 0) cNil))) (csSeq (csSet 3 (cIf (cTest (cOp fEq (cVar 1) (cCon (.int 0)))) (cCB fList (cCons (cVar 0) cNil)) (cCB fTuple (cCons (cVar 0) cNil)))) (csSeq (csSet 4 (cCall sp__law_least_told [] (cCons (cVar 3) cNil))) (csSeq (csSet 5 (cCall sp__law_greatest_told [] (cCons (cVar 3) cNil))) (csSeq (csIf (cTest (cOp fNe (cCB fList (cCons (cVar 3) cNil)) (cVar 0))) (csRet (cCon (.bl false))) csNil) (csSeq (csIf (cTest (cOp fIsNot (cVar 2) (cCon .non))) (csSeq (csSet 6 (cTup (cCons (cCon (.bl false)) (cCons (cTup (cCons (cVar 2) (cCons (cCon (.bl true)) cNil))) cNil)))) (csRet (cAnd (cOp fEq (cVar 4) (cVar 6)) (cOp fEq (cVar 5) (cVar 6))))) csNil) (csSeq (csIf (ctOr (cTest (cOp fIsNot (cOp fIx (cVar 4) (cCon (.int 0))) (cCon (.bl true)))) (cTest (cOp fIsNot (cOp fIx (cVar 5) (cCon (.int 0))) (cCon (.bl true))))) (csRet (cCon (.bl false))) csNil) (csSeq (csIf (ctOr (ctNot (cTru (cCall sp__law_row_right [] (cCons (cOp fIx (cVar 4) (cCon (.int 1))) (cCons (cCall sp__law_lots [] (cCons (cVar 0) (cCons (cCon (.bl true)) cNil))) cNil))))) (ctNot (cTru (cCall sp__law_row_right [] (cCons (cOp fIx (cVar 5) (cCon (.int 1))) (cCons (cCall sp__law_lots [] (cCons (cVar 0) (cCons (cCon (.bl false)) cNil))) cNil)))))) (csRet (cCon (.bl false))) csNil) (csSeq (csFor (ciEnum (cCons (cVar 0) cNil)) (cgTup 2 (cgCons (cgName 7) (cgCons (cgName 8) cgNil))) (csSeq (csIf (cTest (cOp fNe (cVar 8) (cOp fIn (cCon (.bl true)) (cLc (ciSeq (cOp fIx (cVar 4) (cCon (.int 1)))) (cgName 12) ctYes (cOp fEq (cOp fAnd (cVar 7) (cVar 12)) (cVar 12)) [12])))) (csRet (cCon (.bl false))) csNil) (csIf (cTest (cOp fEq (cVar 8) (cOp fIn (cCon (.bl true)) (cLc (ciSeq (cOp fIx (cVar 5) (cCon (.int 1)))) (cgName 12) ctYes (cOp fEq (cOp fAnd (cVar 7) (cVar 12)) (cVar 7)) [12])))) (csRet (cCon (.bl false))) csNil))) (csSeq (csSet 9 (cCB fLen (cCons (cVar 0) cNil))) (csSeq (csSet 10 (cLc (ciRange1 (cCons (cVar 9) cNil)) (cgName 7) ctYes (cNot (cOp fIx (cVar 0) (cOp fSub (cOp fSub (cVar 9) (cCon (.int 1))) (cVar 7)))) [7])) (csSeq (csSet 11 (cCB fTuple (cCons (cCB fSortedI (cCons (cLc (ciSeq (cOp fIx (cVar 5) (cCon (.int 1)))) (cgName 7) ctYes (cOp fSub (cOp fSub (cVar 9) (cCon (.int 1))) (cVar 7)) [7]) cNil)) cNil))) (csSeq (csIf (cTest (cOp fNe (cCall sp_least_lots [] (cCons (cCB fList (cCons (cVar 10) cNil)) cNil)) (cVar 11))) (csRet (cCon (.bl false))) csNil) (csRet (cOp fEq (cCall sp_greatest_lots [] (cCons (cCB fTuple (cCons (cVar 10) cNil)) cNil)) (cCB fTuple (cCons (cCB fSortedI (cCons (cLc (ciSeq (cOp fIx (cVar 4) (cCon (.int 1)))) (cgName 7) ctYes (cOp fSub (cOp fSub (cVar 9) (cCon (.int 1))) (cVar 7)) [7]) cNil)) cNil)))))))))))))))))
theorem sc__law_table_right : FnScope N__law_table_right p__law_table_right (defScope s__law_table_right) := ⟨rfl, rfl, rfl, by decide +kernel, rfl, by decide +kernel, by decide +kernel⟩
theorem d__law_table_right (G : GF FR GL K mg) (D : Dcs K) (F__law_refusal : OkG P w K mg base 1 (He.ga K "_law_refusal") sp__law_refusal []) (F__law_least_told : OkG P w K mg base 6 (He.ga K "_law_least_told") sp__law_least_told []) (F__law_greatest_told : OkG P w K mg base 6 (He.ga K "_law_greatest_told") sp__law_greatest_told []) (F__law_row_right : OkG P w K mg base 2 (He.ga K "_law_row_right") sp__law_row_right []) (F__law_lots : OkG P w K mg base 1 (He.ga K "_law_lots") sp__law_lots []) (F_least_lots : OkG P w K mg base 5 (He.ga K "least_lots") sp_least_lots []) (F_greatest_lots : OkG P w K mg base 5 (He.ga K "greatest_lots") sp_greatest_lots []) (cdv : Value) (A : Around) (outer : List Env) (s : Shared) (H : Hp) (E : XK) (hr : Room 6 (A.deeper (envOfC "_law_table_right" (defScope s__law_table_right) s.heap.objs.size (He.ga K "_law_table_right") cdv))) :
    PSs (cxOf (L2.CX P w) P w K mg base N__law_table_right "_law_table_right" (defScope s__law_table_right) (He.ga K "_law_table_right") cdv A outer s H E) (defBody s__law_table_right) (lS K (WD E) c__law_table_right) := by
  have nd : N__law_table_right.Nodup := sc__law_table_right.nd
  have hu : (A.deeper (envOfC "_law_table_right" (defScope s__law_table_right) s.heap.objs.size (He.ga K "_law_table_right") cdv)).units + 64 < cLine := by have := hr.un; omega
  have tk : Takes (cxOf (L2.CX P w) P w K mg base N__law_table_right "_law_table_right" (defScope s__law_table_right) (He.ga K "_law_table_right") cdv A outer s H E) (WD E) := takes_of rfl rfl rfl rfl
  have hp : PassesOwn (model P w) (cxOf (L2.CX P w) P w K mg base N__law_table_right "_law_table_right" (defScope s__law_table_right) (He.ga K "_law_table_right") cdv A outer s H E).A (cxOf (L2.CX P w) P w K mg base N__law_table_right "_law_table_right" (defScope s__law_table_right) (He.ga K "_law_table_right") cdv A outer s H E).env (cxOf (L2.CX P w) P w K mg base N__law_table_right "_law_table_right" (defScope s__law_table_right) (He.ga K "_law_table_right") cdv A outer s H E).xe := passes_of rfl
  exact (cs_cons (cs_set (ps_set (i := 2) nd rfl (.inl rfl) (ce_callG F__law_refusal (hr.mono (by decide)) (G.gl 9 rfl) tk (ca_cons (ce_var (pv 0)) ca_nil)))) (cs_cons (cs_set (ps_set (i := 3) nd rfl (.inl rfl) (ce_if (ct_cmp (op_eqP hu) os_eq (ce_var (pv 1)) ce_int (nomark _)) (ce_callTy call_list_of cs_list (G.fr 10 rfl) (ca_cons (ce_var (pv 0)) ca_nil) boot_list) (ce_callTy call_tuple_of cs_tuple (G.fr 4 rfl) (ca_cons (ce_var (pv 0)) ca_nil) boot_tuple)))) (cs_cons (cs_set (ps_set (i := 4) nd rfl (.inl rfl) (ce_callG F__law_least_told (hr.mono (by decide)) (G.gl 10 rfl) tk (ca_cons (ce_var (pv 3)) ca_nil)))) (cs_cons (cs_set (ps_set (i := 5) nd rfl (.inl rfl) (ce_callG F__law_greatest_told (hr.mono (by decide)) (G.gl 11 rfl) tk (ca_cons (ce_var (pv 3)) ca_nil)))) (cs_cons (cs_if (ct_cmp (op_neP hu) os_ne (ce_callTy call_list_of cs_list (G.fr 10 rfl) (ca_cons (ce_var (pv 3)) ca_nil) boot_list) (ce_var (pv 0)) (nomark _)) (cs_one (cs_ret ce_bl)) cs_nil) (cs_cons (cs_if (ct_cmp op_isNotA os_isNot (ce_var (pv 2)) ce_non (nomark _)) (cs_cons (cs_set (ps_set (i := 6) nd rfl (.inl rfl) (ce_tup (ca_cons ce_bl (ca_cons (ce_tup (ca_cons (ce_var (pv 2)) (ca_cons ce_bl ca_nil))) ca_nil))))) (cs_one (cs_ret (ce_andV (ce_cmp (op_eqP hu) os_eq (ce_var (pv 4)) (ce_var (pv 6)) (nomark _)) (ce_one (ce_cmp (op_eqP hu) os_eq (ce_var (pv 5)) (ce_var (pv 6)) (nomark _))))))) cs_nil) (cs_cons (cs_if (PW.pt (cw_or (ct_cmp op_isNotA os_isNot (ce_ix (ce_var (pv 4)) ce_int) ce_bl (nomark _)) (cw_or1 (ct_cmp op_isNotA os_isNot (ce_ix (ce_var (pv 5)) ce_int) ce_bl (nomark _))))) (cs_one (cs_ret ce_bl)) cs_nil) (cs_cons (cs_if (PW.pt (cw_or (ct_not (ct_tru (ce_callG F__law_row_right (hr.mono (by decide)) (G.gl 13 rfl) tk (ca_cons (ce_ix (ce_var (pv 4)) ce_int) (ca_cons (ce_callG F__law_lots (hr.mono (by decide)) (G.gl 12 rfl) tk (ca_cons (ce_var (pv 0)) (ca_cons ce_bl ca_nil))) ca_nil))))) (cw_or1 (ct_not (ct_tru (ce_callG F__law_row_right (hr.mono (by decide)) (G.gl 13 rfl) tk (ca_cons (ce_ix (ce_var (pv 5)) ce_int) (ca_cons (ce_callG F__law_lots (hr.mono (by decide)) (G.gl 12 rfl) tk (ca_cons (ce_var (pv 0)) (ca_cons ce_bl ca_nil))) ca_nil)))))))) (cs_one (cs_ret ce_bl)) cs_nil) (cs_cons (cs_for (vs := [7, 8]) hp rfl (ci_enum (G.fr 0 rfl) (ca_cons (ce_var (pv 0)) ca_nil)) (cg_tup rfl (cg_cons (cg_name (pg_name nd rfl (.inr rfl))) (cg_cons (cg_name (pg_name nd rfl (.inl rfl))) cg_nil))) (cs_cons (cs_if (ct_cmp (op_neP hu) os_ne (ce_var (pv 8)) (ce_cmp (op_inP hu) os_in ce_bl (ce_lc (pe_lc (own := [("one", 12)]) rfl nd (ci_seq (ce_ix (ce_var (pv 4)) ce_int)) (blkOk_by (by kernel_rfl)) (fun _ _ _ _ _ => (cg_name (pg_name nd rfl (by first | exact .inl rfl | exact .inr rfl)))) (fun _ _ _ _ _ => cts_nil) (fun _ _ _ _ _ => (ce_cmp (op_eqP hu) os_eq (ce_and (ce_var (pv 7)) (ce_var (pv 12))) (ce_var (pv 12)) (nomark _))))) (by with_unfolding_all rfl)) (nomark _)) (cs_one (cs_ret ce_bl)) cs_nil) (cs_one (cs_if (ct_cmp (op_eqP hu) os_eq (ce_var (pv 8)) (ce_cmp (op_inP hu) os_in ce_bl (ce_lc (pe_lc (own := [("one", 12)]) rfl nd (ci_seq (ce_ix (ce_var (pv 5)) ce_int)) (blkOk_by (by kernel_rfl)) (fun _ _ _ _ _ => (cg_name (pg_name nd rfl (by first | exact .inl rfl | exact .inr rfl)))) (fun _ _ _ _ _ => cts_nil) (fun _ _ _ _ _ => (ce_cmp (op_eqP hu) os_eq (ce_and (ce_var (pv 7)) (ce_var (pv 12))) (ce_var (pv 7)) (nomark _))))) (by with_unfolding_all rfl)) (nomark _)) (cs_one (cs_ret ce_bl)) cs_nil)))) (cs_cons (cs_set (ps_set (i := 9) nd rfl (.inr rfl) (ce_callB cr_len cs_len (G.fr 1 rfl) (ca_cons (ce_var (pv 0)) ca_nil) boot_len))) (cs_cons (cs_setLc (ps_setLc (i := 10) (own := [("lot", 7)]) rfl nd rfl rfl (sw_true rfl rfl rfl (by decide +kernel)) (ci_range1 (pi_range1 rfl (G.fr 2 rfl) (ca_cons (ce_var (pv 9)) ca_nil))) (blkOk_by (by kernel_rfl)) (fun _ _ _ _ _ => (cg_name (pg_name nd rfl (by first | exact .inl rfl | exact .inr rfl)))) (fun _ _ _ _ _ => cts_nil) (fun _ _ _ _ _ => (ce_notV (ce_ix (ce_var (pv 0)) (ce_sub (ce_sub (ce_var (pv 9)) ce_int) (ce_var (pv 7)))))))) (cs_cons (cs_set (ps_set (i := 11) nd rfl (.inl rfl) (ce_callTy call_tuple_of cs_tuple (G.fr 4 rfl) (ca_cons (ce_callB cr_sortedI cs_sortedI (G.fr 11 rfl) (ca_cons (ce_lc (pe_lc (own := [("lot", 7)]) rfl nd (ci_seq (ce_ix (ce_var (pv 5)) ce_int)) (blkOk_by (by kernel_rfl)) (fun _ _ _ _ _ => (cg_name (pg_name nd rfl (by first | exact .inl rfl | exact .inr rfl)))) (fun _ _ _ _ _ => cts_nil) (fun _ _ _ _ _ => (ce_sub (ce_sub (ce_var (pv 9)) ce_int) (ce_var (pv 7)))))) ca_nil) boot_sorted) ca_nil) boot_tuple))) (cs_cons (cs_if (ct_cmp (op_neP hu) os_ne (ce_callG F_least_lots (hr.mono (by decide)) (G.gl 5 rfl) tk (ca_cons (ce_callTy call_list_of cs_list (G.fr 10 rfl) (ca_cons (ce_var (pv 10)) ca_nil) boot_list) ca_nil)) (ce_var (pv 11)) (nomark _)) (cs_one (cs_ret ce_bl)) cs_nil) (cs_one (cs_ret (ce_cmp (op_eqP hu) os_eq (ce_callG F_greatest_lots (hr.mono (by decide)) (G.gl 7 rfl) tk (ca_cons (ce_callTy call_tuple_of cs_tuple (G.fr 4 rfl) (ca_cons (ce_var (pv 10)) ca_nil) boot_tuple) ca_nil)) (ce_callTy call_tuple_of cs_tuple (G.fr 4 rfl) (ca_cons (ce_callB cr_sortedI cs_sortedI (G.fr 11 rfl) (ca_cons (ce_lc (pe_lc (own := [("lot", 7)]) rfl nd (ci_seq (ce_ix (ce_var (pv 4)) ce_int)) (blkOk_by (by kernel_rfl)) (fun _ _ _ _ _ => (cg_name (pg_name nd rfl (by first | exact .inl rfl | exact .inr rfl)))) (fun _ _ _ _ _ => cts_nil) (fun _ _ _ _ _ => (ce_sub (ce_sub (ce_var (pv 9)) ce_int) (ce_var (pv 7)))))) ca_nil) boot_sorted) ca_nil) boot_tuple) (nomark _)))))))))))))))))
/-! ### law (level 8) -/
abbrev s_law : Stmt := top 20
abbrev N_law : List Str := ["script", "d", "tables", "turns", "place", "answers", "k"]
abbrev p_law : List Str := ["script"]
def c_law : CS := (csSeq (csSet 1 (cCall sp__law_begin [] (cCons (cVar 0) cNil))) (csSeq (csSet 2 (cLc (ciRange1 (cCons (cCon (.int 3)) cNil)) (cgName 6) ctYes (cCall sp__law_table [] (cCons (cVar 1) cNil)) [6])) (csSeq (csSet 3 (cLc (ciRange1 (cCons (cCon (.int 3)) cNil)) (cgName 6) ctYes (cCall sp__law_draw [] (cCons (cVar 1) (cCons (cCon (.int 2)) cNil))) [6])) (csSeq (csFor (ciEnum (cCons (cVar 2) cNil)) (cgTup 2 (cgCons (cgName 4) (cgCons (cgName 5) cgNil))) (csIf (ctNot (cTru (cCall sp__law_table_right [] (cCons (cVar 5) (cCons (cOp fIx (cVar 3) (cVar 4)) cNil))))) (csRet (cCon (.bl false))) csNil)) (csRet (cCall sp__law_table_right [] (cCons (cOp fIx (cVar 2) (cCon (.int 0))) (cCons (cOp fSub (cCon (.int 1)) (cOp fIx (cVar 3) (cCon (.int 0)))) cNil))))))))
theorem sc_law : FnScope N_law p_law (defScope s_law) := ⟨rfl, rfl, rfl, by decide +kernel, rfl, by decide +kernel, by decide +kernel⟩
theorem d_law (G : GF FR GL K mg) (D : Dcs K) (F__law_begin : OkG P w K mg base 1 (He.ga K "_law_begin") sp__law_begin []) (F__law_table : OkG P w K mg base 2 (He.ga K "_law_table") sp__law_table []) (F__law_draw : OkG P w K mg base 1 (He.ga K "_law_draw") sp__law_draw []) (F__law_table_right : OkG P w K mg base 7 (He.ga K "_law_table_right") sp__law_table_right []) (cdv : Value) (A : Around) (outer : List Env) (s : Shared) (H : Hp) (E : XK) (hr : Room 7 (A.deeper (envOfC "law" (defScope s_law) s.heap.objs.size (He.ga K "law") cdv))) :
    PSs (cxOf (L2.CX P w) P w K mg base N_law "law" (defScope s_law) (He.ga K "law") cdv A outer s H E) (defBody s_law) (lS K (WD E) c_law) := by
  have nd : N_law.Nodup := sc_law.nd
  have hu : (A.deeper (envOfC "law" (defScope s_law) s.heap.objs.size (He.ga K "law") cdv)).units + 64 < cLine := by have := hr.un; omega
  have tk : Takes (cxOf (L2.CX P w) P w K mg base N_law "law" (defScope s_law) (He.ga K "law") cdv A outer s H E) (WD E) := takes_of rfl rfl rfl rfl
  have hp : PassesOwn (model P w) (cxOf (L2.CX P w) P w K mg base N_law "law" (defScope s_law) (He.ga K "law") cdv A outer s H E).A (cxOf (L2.CX P w) P w K mg base N_law "law" (defScope s_law) (He.ga K "law") cdv A outer s H E).env (cxOf (L2.CX P w) P w K mg base N_law "law" (defScope s_law) (He.ga K "law") cdv A outer s H E).xe := passes_of rfl
  exact (cs_cons (cs_set (ps_set (i := 1) nd rfl (.inr rfl) (ce_callG F__law_begin (hr.mono (by decide)) (G.gl 14 rfl) tk (ca_cons (ce_var (pv 0)) ca_nil)))) (cs_cons (cs_setLc (ps_setLc (i := 2) (own := [("k", 6)]) rfl nd rfl rfl (sw_true rfl rfl rfl (by decide +kernel)) (ci_range1 (pi_range1 rfl (G.fr 2 rfl) (ca_cons ce_int ca_nil))) (blkOk_by (by kernel_rfl)) (fun _ _ _ _ _ => (cg_name (pg_name nd rfl (by first | exact .inl rfl | exact .inr rfl)))) (fun _ _ _ _ _ => cts_nil) (fun _ _ _ _ _ => (ce_callG F__law_table (hr.mono (by decide)) (G.gl 15 rfl) takes0 (ca_cons (ce_var (pv 1)) ca_nil))))) (cs_cons (cs_setLc (ps_setLc (i := 3) (own := [("k", 6)]) rfl nd rfl rfl (sw_true rfl rfl rfl (by decide +kernel)) (ci_range1 (pi_range1 rfl (G.fr 2 rfl) (ca_cons ce_int ca_nil))) (blkOk_by (by kernel_rfl)) (fun _ _ _ _ _ => (cg_name (pg_name nd rfl (by first | exact .inl rfl | exact .inr rfl)))) (fun _ _ _ _ _ => cts_nil) (fun _ _ _ _ _ => (ce_callG F__law_draw (hr.mono (by decide)) (G.gl 4 rfl) takes0 (ca_cons (ce_var (pv 1)) (ca_cons ce_int ca_nil)))))) (cs_cons (cs_for (vs := [4, 5]) hp rfl (ci_enum (G.fr 0 rfl) (ca_cons (ce_var (pv 2)) ca_nil)) (cg_tup rfl (cg_cons (cg_name (pg_name nd rfl (.inl rfl))) (cg_cons (cg_name (pg_name nd rfl (.inl rfl))) cg_nil))) (cs_one (cs_if (ct_not (ct_tru (ce_callG F__law_table_right (hr.mono (by decide)) (G.gl 16 rfl) tk (ca_cons (ce_var (pv 5)) (ca_cons (ce_ix (ce_var (pv 3)) (ce_var (pv 4))) ca_nil))))) (cs_one (cs_ret ce_bl)) cs_nil))) (cs_one (cs_ret (ce_callG F__law_table_right (hr.mono (by decide)) (G.gl 16 rfl) tk (ca_cons (ce_ix (ce_var (pv 2)) ce_int) (ca_cons (ce_sub ce_int (ce_ix (ce_var (pv 3)) ce_int)) ca_nil)))))))))
end K59
/-! k59: the plain law. -/
namespace K59
def pL (bs : List Bool) (m lot : Nat) : Bool := at_ bs lot && !(List.range m).any fun t => lot.testBit t && at_ bs (lot ^^^ 2 ^ t)
def pG (bs : List Bool) (m lot : Nat) : Bool := !at_ bs lot && (List.range m).all fun t => lot.testBit t || at_ bs (lot ||| 2 ^ t)
theorem sub_iff {a b : Nat} : a &&& b = a ↔ ∀ i, a.testBit i = true → b.testBit i = true := by
  constructor
  · intro h i hi
    rw [← h, Nat.testBit_and] at hi
    exact (Bool.and_eq_true_iff.mp hi).2
  · intro h
    apply Nat.eq_of_testBit_eq
    intro i
    rw [Nat.testBit_and]
    cases e : a.testBit i with
    | false => simp
    | true => simp [h i e]
theorem or_lt {lot m t : Nat} (h : lot < 2 ^ m) (ht : t < m) : lot ||| 2 ^ t < 2 ^ m := Nat.or_lt_two_pow h (Nat.pow_lt_pow_right (by omega) ht)
theorem xor_lt {lot m t : Nat} (h : lot < 2 ^ m) (ht : t < m) : lot ^^^ 2 ^ t < 2 ^ m := Nat.xor_lt_two_pow h (Nat.pow_lt_pow_right (by omega) ht)
theorem bit_lt {a m i : Nat} (h : a < 2 ^ m) (hi : a.testBit i = true) : i < m := by
  rcases Nat.lt_or_ge i m with q | q
  · exact q
  · rw [Nat.testBit_lt_two_pow (Nat.lt_of_lt_of_le h (Nat.pow_le_pow_right (by omega) q))] at hi
    cases hi
theorem all_ext {l : List Nat} {f g : Nat → Bool} (h : ∀ t ∈ l, f t = g t) : l.all f = l.all g := by
  rw [Bool.eq_iff_iff, List.all_eq_true, List.all_eq_true]
  exact forall_congr' fun t => forall_congr' fun ht => by rw [h t ht]
theorem xor_less : ∀ lot, lot < 32 → ∀ t, t < 5 → lot.testBit t = true → lot ^^^ 2 ^ t < lot := by decide +kernel
theorem or_more : ∀ lot, lot < 32 → ∀ t, t < 5 → lot.testBit t = false → lot < lot ||| 2 ^ t := by decide +kernel
theorem p32 {m : Nat} (h : m ≤ 5) : 2 ^ m ≤ 32 := by
  calc 2 ^ m ≤ 2 ^ 5 := Nat.pow_le_pow_right (by omega) h
    _ = 32 := rfl
section
variable {bs : List Bool} {m : Nat} (hl : bs.length = 2 ^ m) (hr : Rises bs m)
include hl hr
theorem rise_sup {lot other : Nat} (h1 : lot < 2 ^ m) (h2 : other < 2 ^ m) (hs : lot &&& other = lot) (ha : at_ bs lot = true) : at_ bs other = true := by
  have key : ∀ k, k ≤ m → at_ bs (lot ||| other % 2 ^ k) = true := by
    intro k
    induction k with
    | zero => intro _; simpa [Nat.mod_one] using ha
    | succ k ih =>
      intro hk
      have p := ih (by omega)
      have hb : lot ||| other % 2 ^ k < 2 ^ m := Nat.or_lt_two_pow h1 (Nat.lt_of_le_of_lt (Nat.mod_le _ _) h2)
      cases e : other.testBit k with
      | false =>
        have : other % 2 ^ (k + 1) = other % 2 ^ k := by
          apply Nat.eq_of_testBit_eq
          intro i
          rw [Nat.testBit_mod_two_pow, Nat.testBit_mod_two_pow]
          by_cases q : i = k
          · subst q; simp [e]
          · have : decide (i < k + 1) = decide (i < k) := by
              rw [decide_eq_decide]; omega
            rw [this]
        rw [this]
        exact p
      | true =>
        have : lot ||| other % 2 ^ (k + 1) = (lot ||| other % 2 ^ k) ||| 2 ^ k := by
          apply Nat.eq_of_testBit_eq
          intro i
          simp only [Nat.testBit_or, Nat.testBit_mod_two_pow, Nat.testBit_two_pow]
          by_cases q : i = k
          · subst q; simp [e]
          · have : decide (i < k + 1) = decide (i < k) := by
              rw [decide_eq_decide]; omega
            rw [this]
            have : decide (k = i) = false := by simp; omega
            rw [this, Bool.or_false]
        rw [this]
        exact hr _ (by rw [hl]; exact hb) k (by omega) p
  have e := key m (Nat.le_refl _)
  rw [Nat.mod_eq_of_lt h2] at e
  have : lot ||| other = other := by
    apply Nat.eq_of_testBit_eq
    intro i
    rw [Nat.testBit_or]
    cases e2 : lot.testBit i with
    | false => simp
    | true => rw [sub_iff.mp hs i e2]; rfl
  rw [this] at e
  exact e
theorem pL_iff {lot : Nat} (h : lot < 2 ^ m) : pL bs m lot = true ↔ at_ bs lot = true ∧ ∀ other, other < 2 ^ m → ¬ (other ≠ lot ∧ other &&& lot = other ∧ at_ bs other = true) := by
  have e : pL bs m lot = true ↔ at_ bs lot = true ∧ ∀ t, t < m → lot.testBit t = true → ¬ at_ bs (lot ^^^ 2 ^ t) = true := by
    simp [pL, List.any_eq_false]
  rw [e]
  refine and_congr_right fun ha => ⟨fun p other ho ⟨h1, h2, h3⟩ => ?_, fun p t ht hb q => ?_⟩
  · obtain ⟨t, t1, t2⟩ : ∃ t, lot.testBit t = true ∧ other.testBit t = false := by
      refine Classical.byContradiction fun z => h1 (Nat.eq_of_testBit_eq fun i => ?_)
      cases e1 : lot.testBit i with
      | true =>
        cases e2 : other.testBit i with
        | true => rfl
        | false => exact absurd ⟨i, e1, e2⟩ z
      | false =>
        cases e2 : other.testBit i with
        | false => rfl
        | true => rw [sub_iff.mp h2 i e2] at e1; cases e1
    have ht := bit_lt h t1
    refine p t ht t1 (rise_sup hl hr ho (xor_lt h ht) (sub_iff.mpr fun i hi => ?_) h3)
    rw [Nat.testBit_xor, Nat.testBit_two_pow, sub_iff.mp h2 i hi]
    have : decide (t = i) = false := by
      refine decide_eq_false fun z => ?_
      subst z
      rw [t2] at hi
      cases hi
    rw [this]
    rfl
  · refine p _ (xor_lt h ht) ⟨fun z => ?_, sub_iff.mpr fun i hi => ?_, q⟩
    · have := congrArg (fun n => n.testBit t) z
      simp [Nat.testBit_xor, Nat.testBit_two_pow, hb] at this
    · rw [Nat.testBit_xor, Nat.testBit_two_pow] at hi
      by_cases q : t = i
      · subst q; exact hb
      · simpa [q] using hi
theorem pG_iff {lot : Nat} (h : lot < 2 ^ m) : pG bs m lot = true ↔ at_ bs lot = false ∧ ∀ other, other < 2 ^ m → ¬ (other ≠ lot ∧ lot &&& other = lot ∧ at_ bs other = false) := by
  have e : pG bs m lot = true ↔ at_ bs lot = false ∧ ∀ t, t < m → lot.testBit t = true ∨ at_ bs (lot ||| 2 ^ t) = true := by
    simp [pG, List.all_eq_true]
  rw [e]
  refine and_congr_right fun ha => ⟨fun p other ho ⟨h1, h2, h3⟩ => ?_, fun p t ht => ?_⟩
  · obtain ⟨t, t1, t2⟩ : ∃ t, other.testBit t = true ∧ lot.testBit t = false := by
      refine Classical.byContradiction fun z => h1 (Nat.eq_of_testBit_eq fun i => ?_)
      cases e1 : other.testBit i with
      | true =>
        cases e2 : lot.testBit i with
        | true => rfl
        | false => exact absurd ⟨i, e1, e2⟩ z
      | false =>
        cases e2 : lot.testBit i with
        | false => rfl
        | true => rw [sub_iff.mp h2 i e2] at e1; cases e1
    have ht := bit_lt ho t1
    rcases p t ht with q | q
    · rw [t2] at q; cases q
    · rw [rise_sup hl hr (or_lt h ht) ho (sub_iff.mpr fun i hi => ?_) q] at h3
      · cases h3
      · rw [Nat.testBit_or, Nat.testBit_two_pow] at hi
        by_cases z : t = i
        · subst z; exact t1
        · exact sub_iff.mp h2 i (by simpa [z] using hi)
  · cases hb : lot.testBit t with
    | true => exact .inl rfl
    | false =>
      refine .inr ?_
      cases q : at_ bs (lot ||| 2 ^ t) with
      | true => rfl
      | false =>
        refine absurd ⟨fun z => ?_, sub_iff.mpr fun i hi => ?_, q⟩ (p _ (or_lt h ht))
        · have := congrArg (fun n => n.testBit t) z
          simp [Nat.testBit_or, Nat.testBit_two_pow, hb] at this
        · rw [Nat.testBit_or, hi]; rfl
theorem mem_least {lot : Nat} : lot ∈ leastOf bs m ↔ lot < 2 ^ m ∧ pL bs m lot = true := by
  unfold leastOf
  rw [List.mem_filter, List.mem_range, hl]
  rfl
theorem mem_greatest {lot : Nat} : lot ∈ greatestOf bs m ↔ lot < 2 ^ m ∧ pG bs m lot = true := by
  unfold greatestOf
  rw [List.mem_filter, List.mem_range, hl]
  rfl
theorem cover_least (hm5 : m ≤ 5) {lot : Nat} (h : lot < 2 ^ m) : at_ bs lot = true ↔ ∃ one ∈ leastOf bs m, lot &&& one = one := by
  constructor
  · induction lot using Nat.strongRecOn with
    | ind lot ih =>
      intro ha
      by_cases q : pL bs m lot = true
      · exact ⟨lot, (mem_least hl hr).mpr ⟨h, q⟩, Nat.and_self _⟩
      · have : ∃ t, t < m ∧ lot.testBit t = true ∧ at_ bs (lot ^^^ 2 ^ t) = true := by
          simpa [pL, ha] using q
        obtain ⟨t, ht, hb, hx⟩ := this
        have hlt : lot ^^^ 2 ^ t < lot := by
          have := p32 hm5
          exact xor_less lot (by omega) t (by omega) hb
        obtain ⟨one, h1, h2⟩ := ih _ hlt (Nat.lt_trans hlt h) hx
        refine ⟨one, h1, ?_⟩
        rw [Nat.and_comm] at h2 ⊢
        refine sub_iff.mpr fun i hi => ?_
        have := sub_iff.mp h2 i hi
        rw [Nat.testBit_xor, Nat.testBit_two_pow] at this
        by_cases z : t = i
        · subst z; exact hb
        · simpa [z] using this
  · rintro ⟨one, h1, h2⟩
    obtain ⟨h3, h4⟩ := (mem_least hl hr).mp h1
    rw [Nat.and_comm] at h2
    exact rise_sup hl hr h3 h h2 ((pL_iff hl hr h3).mp h4).1
theorem cover_greatest (hm5 : m ≤ 5) {lot : Nat} (h : lot < 2 ^ m) : at_ bs lot = false ↔ ∃ one ∈ greatestOf bs m, lot &&& one = lot := by
  constructor
  · intro ha
    obtain ⟨k, hk⟩ : ∃ k, k = 2 ^ m - lot := ⟨_, rfl⟩
    induction k using Nat.strongRecOn generalizing lot with
    | ind k ih =>
      by_cases q : pG bs m lot = true
      · exact ⟨lot, (mem_greatest hl hr).mpr ⟨h, q⟩, Nat.and_self _⟩
      · have : ∃ t, t < m ∧ lot.testBit t = false ∧ at_ bs (lot ||| 2 ^ t) = false := by
          simpa [pG, ha] using q
        obtain ⟨t, ht, hb, hx⟩ := this
        have hlt : lot < lot ||| 2 ^ t := by
          have := p32 hm5
          exact or_more lot (by omega) t (by omega) hb
        have ho := or_lt h ht
        obtain ⟨one, h1, h2⟩ := ih (2 ^ m - (lot ||| 2 ^ t)) (by omega) ho hx rfl
        refine ⟨one, h1, sub_iff.mpr fun i hi => sub_iff.mp h2 i ?_⟩
        rw [Nat.testBit_or, hi]
        rfl
  · rintro ⟨one, h1, h2⟩
    obtain ⟨h3, h4⟩ := (mem_greatest hl hr).mp h1
    have h5 := ((pG_iff hl hr h3).mp h4).1
    cases e : at_ bs lot with
    | false => rfl
    | true => rw [rise_sup hl hr h h3 h2 e] at h5; cases h5
end
theorem rises_iff {bs : List Bool} {m : Nat} (hl : bs.length = 2 ^ m) : Rises bs m ↔ ∀ lot, lot < bs.length → ∀ other, other < bs.length → lot &&& other = lot → at_ bs lot = true → at_ bs other = true := by
  constructor
  · intro hr lot h1 other h2 hs ha
    rw [hl] at h1 h2
    exact rise_sup hl hr h1 h2 hs ha
  · intro p lot h t ht ha
    refine p lot h _ (by rw [hl] at h ⊢; exact or_lt h ht) (sub_iff.mpr fun i hi => ?_) ha
    rw [Nat.testBit_or, hi]
    rfl
/-- all things turned round -/
def turn (bs : List Bool) : List Bool := (List.range bs.length).map fun lot => !at_ bs (bs.length - 1 - lot)
theorem turn_len (bs : List Bool) : (turn bs).length = bs.length := by simp [turn]
theorem turn_at {bs : List Bool} {lot : Nat} (h : lot < bs.length) : at_ (turn bs) lot = !at_ bs (bs.length - 1 - lot) := by
  have : (turn bs)[lot]? = some (!at_ bs (bs.length - 1 - lot)) := by simp [turn, h]
  rw [at_, List.getD_eq_getElem?_getD, this]
  rfl
theorem comp_bit {m x i : Nat} (h : x < 2 ^ m) : (2 ^ m - 1 - x).testBit i = (decide (i < m) && !x.testBit i) := by
  rw [show 2 ^ m - 1 - x = 2 ^ m - (x + 1) by omega]
  exact Nat.testBit_two_pow_sub_succ h i
theorem comp_or {m x t : Nat} (h : x < 2 ^ m) (ht : t < m) (hb : x.testBit t = true) : 2 ^ m - 1 - (x ^^^ 2 ^ t) = (2 ^ m - 1 - x) ||| 2 ^ t := by
  apply Nat.eq_of_testBit_eq
  intro i
  rw [comp_bit (xor_lt h ht), Nat.testBit_or, comp_bit h, Nat.testBit_xor, Nat.testBit_two_pow]
  by_cases q : t = i
  · subst q; simp [ht, hb]
  · simp [q]
theorem comp_xor {m x t : Nat} (h : x < 2 ^ m) (ht : t < m) (hb : x.testBit t = false) : 2 ^ m - 1 - (x ||| 2 ^ t) = (2 ^ m - 1 - x) ^^^ 2 ^ t := by
  apply Nat.eq_of_testBit_eq
  intro i
  rw [comp_bit (or_lt h ht), Nat.testBit_xor, comp_bit h, Nat.testBit_or, Nat.testBit_two_pow]
  by_cases q : t = i
  · subst q; simp [ht, hb]
  · simp [q]
section
variable {bs : List Bool} {m : Nat} (hl : bs.length = 2 ^ m) (hr : Rises bs m)
include hl hr
theorem turn_rises : Rises (turn bs) m := by
  have hl2 : (turn bs).length = 2 ^ m := by rw [turn_len]; exact hl
  rw [rises_iff hl2]
  intro lot h1 other h2 hs ha
  rw [turn_len] at h1 h2
  rw [turn_at h1] at ha
  rw [turn_at h2]
  rw [hl] at h1 h2 ha ⊢
  cases e : at_ bs (2 ^ m - 1 - other) with
  | false => rfl
  | true =>
    rw [rise_sup hl hr (lot := 2 ^ m - 1 - other) (other := 2 ^ m - 1 - lot) (by omega) (by omega) (sub_iff.mpr fun i hi => ?_) e] at ha
    · cases ha
    · rw [comp_bit h2] at hi
      rw [comp_bit h1]
      obtain ⟨k1, k2⟩ := Bool.and_eq_true_iff.mp hi
      rw [k1]
      cases e2 : lot.testBit i with
      | false => rfl
      | true => rw [sub_iff.mp hs i e2] at k2; cases k2
theorem turn_pL {lot : Nat} (h : lot < 2 ^ m) : pL (turn bs) m lot = pG bs m (2 ^ m - 1 - lot) := by
  have hc : 2 ^ m - 1 - lot < 2 ^ m := by have := Nat.pow_pos (n := m) (show 0 < 2 by decide); omega
  unfold pL pG
  rw [turn_at (by rw [hl]; exact h), hl]
  congr 1
  rw [List.not_any_eq_all_not]
  refine all_ext fun t ht => ?_
  have ht' : t < m := List.mem_range.mp ht
  rw [comp_bit h]
  cases hb : lot.testBit t with
  | false => simp [ht']
  | true =>
    rw [turn_at (by rw [hl]; exact xor_lt h ht'), hl, comp_or h ht' hb]
    simp
theorem turn_pG {lot : Nat} (h : lot < 2 ^ m) : pG (turn bs) m lot = pL bs m (2 ^ m - 1 - lot) := by
  unfold pL pG
  rw [turn_at (by rw [hl]; exact h), hl, Bool.not_not]
  congr 1
  rw [List.not_any_eq_all_not]
  refine all_ext fun t ht => ?_
  have ht' : t < m := List.mem_range.mp ht
  rw [comp_bit h]
  cases hb : lot.testBit t with
  | true => simp
  | false =>
    rw [turn_at (by rw [hl]; exact or_lt h ht'), hl, comp_xor h ht' hb]
    simp [ht']
end

theorem sort_comp {N : Nat} {l l' : List Nat} (p : l.Pairwise (· < ·)) (b : ∀ x ∈ l, x < N) (p' : l'.Pairwise (· < ·)) (h : ∀ y, y ∈ l' ↔ y < N ∧ N - 1 - y ∈ l) {ns : List Int} (hp : ns.Perm (l.map fun n : Nat => (N : Int) - 1 - (n : Int))) (hs : ns.Pairwise (· ≤ ·)) : ns = l'.map fun n : Nat => (n : Int) := by
  have e1 : (l.map fun n : Nat => (N : Int) - 1 - (n : Int)) = (l.map fun n => N - 1 - n).map fun n : Nat => (n : Int) := by
    rw [List.map_map]
    refine List.map_congr_left fun n hn => ?_
    have := b n hn
    show (N : Int) - 1 - (n : Int) = ((N - 1 - n : Nat) : Int)
    omega
  have nd1 : (l.map fun n => N - 1 - n).Nodup := by
    rw [List.Nodup, List.pairwise_map]
    refine List.Pairwise.imp_of_mem (fun {a c} ha hc hac => ?_) p
    have := b a ha
    have := b c hc
    omega
  have nd2 : l'.Nodup := p'.imp fun h => Nat.ne_of_lt h
  have pm : (l.map fun n => N - 1 - n).Perm l' := (List.perm_ext_iff_of_nodup nd1 nd2).mpr fun y => by
    rw [List.mem_map, h]
    constructor
    · rintro ⟨x, hx, rfl⟩
      have := b x hx
      refine ⟨by omega, ?_⟩
      rw [show N - 1 - (N - 1 - x) = x by omega]
      exact hx
    · rintro ⟨h1, h2⟩
      exact ⟨N - 1 - y, h2, by omega⟩
  rw [e1] at hp
  refine List.Perm.eq_of_pairwise (le := (· ≤ ·)) (fun a b _ _ h1 h2 => Int.le_antisymm h1 h2) hs ?_ (hp.trans (pm.map _))
  rw [List.pairwise_map]
  exact p'.imp fun h => by omega
theorem pw_filter (p : Nat → Bool) (n : Nat) : ((List.range n).filter p).Pairwise (· < ·) := List.pairwise_lt_range.filter p
section
variable {bs : List Bool} {m : Nat} (hl : bs.length = 2 ^ m) (hr : Rises bs m)
include hl hr
theorem turn_least {ns : List Int} (hp : ns.Perm ((greatestOf bs m).map fun n : Nat => ((bs.length : Nat) : Int) - 1 - (n : Int))) (hs : ns.Pairwise (· ≤ ·)) : ns = (leastOf (turn bs) m).map fun n : Nat => (n : Int) := by
  have hl2 : (turn bs).length = 2 ^ m := by rw [turn_len]; exact hl
  have hr2 := turn_rises hl hr
  refine sort_comp (N := bs.length) (l := greatestOf bs m) (l' := leastOf (turn bs) m) (pw_filter _ _) (fun x hx => by rw [hl]; exact ((mem_greatest hl hr).mp hx).1) (pw_filter _ _) (fun y => ?_) hp hs
  rw [mem_least hl2 hr2, mem_greatest hl hr, hl]
  constructor
  · rintro ⟨h1, h2⟩
    rw [turn_pL hl hr h1] at h2
    exact ⟨h1, by omega, h2⟩
  · rintro ⟨h1, h2, h3⟩
    exact ⟨h1, by rw [turn_pL hl hr h1]; exact h3⟩
theorem turn_greatest {ns : List Int} (hp : ns.Perm ((leastOf bs m).map fun n : Nat => ((bs.length : Nat) : Int) - 1 - (n : Int))) (hs : ns.Pairwise (· ≤ ·)) : ns = (greatestOf (turn bs) m).map fun n : Nat => (n : Int) := by
  have hl2 : (turn bs).length = 2 ^ m := by rw [turn_len]; exact hl
  have hr2 := turn_rises hl hr
  refine sort_comp (N := bs.length) (l := leastOf bs m) (l' := greatestOf (turn bs) m) (pw_filter _ _) (fun x hx => by rw [hl]; exact ((mem_least hl hr).mp hx).1) (pw_filter _ _) (fun y => ?_) hp hs
  rw [mem_greatest hl2 hr2, mem_least hl hr, hl]
  constructor
  · rintro ⟨h1, h2⟩
    rw [turn_pG hl hr h1] at h2
    exact ⟨h1, by omega, h2⟩
  · rintro ⟨h1, h2, h3⟩
    exact ⟨h1, by rw [turn_pG hl hr h1]; exact h3⟩
end
end K59
namespace K59
open PySem PySem.Spec PyProof.Rows L2 Cl
abbrev Dn (P : PV) (E : PX) : CEnds := { nx := fun _ μ' => P .non μ', rt := P, ex := fun e _ μ' => E e μ' }
theorem pure_things_of (xs : List CV) (μ : Mu) (P : PV) (E : PX) (h : sp_things_of xs μ P E) : c_things_of (startG N_things_of xs) μ (Dn P E) := by
  obtain ⟨x, bs, rfl, hr, h1, h2⟩ := h
  show c_things_of [some x, none, none] μ (Dn P E)
  have hl : ∀ (Q : PV), fLen [x] μ Q = Q (.int (bs.length : Nat)) μ := fun Q => by rw [len_of hr, List.length_map]
  simp only [c_things_of, csSeq, csNil, csBreak, csCont, csExpr, csRet, csRetN, csIf, csAsg, csSet, csAug, csRaise, cVar, cCon, cNil, cCons, cTup, cLst, cOp, cTest, cTru, ctAnd, ctOr, ctNot, ctYes, cAnd, cOr, cNot, cIf, cChain, cSl, coNone, coSome, cCB, cM, cM0, cCall, cgName, cgNil, cgCons, cgTup, cgSub, cXf, fI, fI0, gA0, gAs, xeq_int, xeq_bl, xeq_str, xne_int, xne_bl, xne_str, xtru_bl, xtru_int, xtru_non, xtru_tup, xadd_int, List.set_cons_zero, List.set_cons_succ, List.set_nil, List.append_nil, List.nil_append, List.cons_append, wipeG, List.length_cons, List.length_nil, true_and, if_true, if_false, Bool.false_eq_true, csFor, ciEnum, c_SIZES, Dc.c, List.map_cons, List.map_nil, enumC, hl]
  show cForGo _ _ _ [.tup [.int 0, .int 1], .tup [.int 1, .int 2], .tup [.int 2, .int 4], .tup [.int 3, .int 8], .tup [.int 4, .int 16], .tup [.int 5, .int 32]] _ _ _
  simp only [cForGo, csSeq, csNil, csBreak, csCont, csExpr, csRet, csRetN, csIf, csAsg, csSet, csAug, csRaise, cVar, cCon, cNil, cCons, cTup, cLst, cOp, cTest, cTru, ctAnd, ctOr, ctNot, ctYes, cAnd, cOr, cNot, cIf, cChain, cSl, coNone, coSome, cCB, cM, cM0, cCall, cgName, cgNil, cgCons, cgTup, cgSub, cXf, fI, fI0, gA0, gAs, xeq_int, xeq_bl, xeq_str, xne_int, xne_bl, xne_str, xtru_bl, xtru_int, xtru_non, xtru_tup, xadd_int, List.set_cons_zero, List.set_cons_succ, List.set_nil, List.append_nil, List.nil_append, List.cons_append, wipeG, List.length_cons, List.length_nil, true_and, if_true, if_false, Bool.false_eq_true, hl, true_and]
  unfold thingsOf at h1 h2
  by_cases e1 : bs.length = 1
  · simpa [e1] using h1
  by_cases e2 : bs.length = 2
  · simpa [e2] using h1
  by_cases e4 : bs.length = 4
  · simpa [e4] using h1
  by_cases e8 : bs.length = 8
  · simpa [e8] using h1
  by_cases e16 : bs.length = 16
  · simpa [e16] using h1
  by_cases e32 : bs.length = 32
  · simpa [e32] using h1
  simp [e1, e2, e4, e8, e16, e32] at h2
  have f1 : ¬ ((bs.length : Nat) : Int) = 1 := by omega
  have f2 : ¬ ((bs.length : Nat) : Int) = 2 := by omega
  have f4 : ¬ ((bs.length : Nat) : Int) = 4 := by omega
  have f8 : ¬ ((bs.length : Nat) : Int) = 8 := by omega
  have f16 : ¬ ((bs.length : Nat) : Int) = 16 := by omega
  have f32 : ¬ ((bs.length : Nat) : Int) = 32 := by omega
  simp [f1, f2, f4, f8, f16, f32]
  exact h2

/-! ### bits below 32 -/
theorem bit_or : ∀ lot, lot < 32 → ∀ t, t < 5 → Builtin.bitOr ((lot : Nat) : Int) (1 * 2 ^ ((t : Nat) : Int).toNat) = ((lot ||| 2 ^ t : Nat) : Int) := by decide +kernel
theorem bit_xor : ∀ lot, lot < 32 → ∀ t, t < 5 → Builtin.bitXor ((lot : Nat) : Int) (1 * 2 ^ ((t : Nat) : Int).toNat) = ((lot ^^^ 2 ^ t : Nat) : Int) := by decide +kernel
theorem bit_tst : ∀ lot, lot < 32 → ∀ t, t < 5 → (Builtin.bitAnd (((lot : Nat) : Int) / 2 ^ ((t : Nat) : Int).toNat) 1 != 0) = lot.testBit t := by decide +kernel
theorem bit_tst0 : ∀ lot, lot < 32 → ∀ t, t < 5 → decide (Builtin.bitAnd (((lot : Nat) : Int) / 2 ^ ((t : Nat) : Int).toNat) 1 = 0) = !lot.testBit t := by decide +kernel
theorem things_some {n m : Nat} (h : thingsOf n = some m) : n = 2 ^ m ∧ m ≤ 5 := by
  unfold thingsOf at h
  repeat (split at h; · cases h; subst_vars; decide)
  cases h
theorem at_get {bs : List Bool} {i : Nat} (h : i < bs.length) : (bs.map CV.bl)[i]? = some (.bl (at_ bs i)) := by
  simp [at_, h]
theorem at_get2 {bs : List Bool} {i : Nat} {y : CV} (h : (bs.map CV.bl)[i]? = some y) : i < bs.length ∧ y = .bl (at_ bs i) := by
  have hl : i < bs.length := by
    have := (List.getElem?_eq_some_iff.mp h).1
    simpa using this
  rw [at_get hl] at h
  exact ⟨hl, (Option.some.inj h).symm⟩
theorem cpow1 {t : Nat} (h : t < 100) : CPow 1 (t : Int) := ⟨by omega, by omega, by decide⟩
theorem pure_check_rises (xs : List CV) (μ : Mu) (P : PV) (E : PX) (h : sp_check_rises xs μ P E) : c_check_rises (startG N_check_rises xs) μ (Dn P E) := by
  obtain ⟨x, bs, rfl, hr, h1, h2, h3⟩ := h
  show c_check_rises [some x, none, none, none, none] μ (Dn P E)
  simp only [c_check_rises, csSeq, csNil, csBreak, csCont, csExpr, csRet, csRetN, csIf, csAsg, csSet, csAug, csRaise, cVar, cCon, cNil, cCons, cTup, cLst, cOp, cTest, cTru, ctAnd, ctOr, ctNot, ctYes, cAnd, cOr, cNot, cIf, cChain, cSl, coNone, coSome, cCB, cM, cM0, cCall, cgName, cgNil, cgCons, cgTup, cgSub, cXf, fI, fI0, gA0, gAs, xeq_int, xeq_bl, xeq_str, xne_int, xne_bl, xne_str, xtru_bl, xtru_int, xtru_non, xtru_tup, xadd_int, List.set_cons_zero, List.set_cons_succ, List.set_nil, List.append_nil, List.nil_append, List.cons_append, wipeG, List.length_cons, List.length_nil, true_and, if_true, if_false, Bool.false_eq_true]
  refine ⟨x, bs, rfl, hr, fun m hm => ?_, h3⟩
  obtain ⟨hn, hm5⟩ := things_some hm
  have hb32 : bs.length ≤ 32 := by rw [hn]; calc 2 ^ m ≤ 2 ^ 5 := Nat.pow_le_pow_right (by omega) hm5
    _ = 32 := rfl
  refine for_enum (k := 0) (x := x) (l := bs.map CV.bl) rfl (fun i Γ μ' => μ' = μ ∧ (∃ a b c, Γ = [some x, some (.int (m : Nat)), a, b, c]) ∧ ∀ lot, lot < i → ∀ t, t < m → at_ bs lot = true → at_ bs (lot ||| 2 ^ t) = true) ?_ ?_ ?_ ?_
  · exact ⟨rfl, ⟨_, _, _, rfl⟩, fun lot hl => absurd hl (Nat.not_lt_zero _)⟩
  · rintro i Γ' μ' ⟨rfl, _⟩
    exact hr
  · rintro i y Γ μ' hy ⟨rfl, ⟨a, b, c, rfl⟩, hI⟩ N hN
    obtain ⟨hi, rfl⟩ := at_get2 hy
    simp only [csSeq, csNil, csBreak, csCont, csExpr, csRet, csRetN, csIf, csAsg, csSet, csAug, csRaise, cVar, cCon, cNil, cCons, cTup, cLst, cOp, cTest, cTru, ctAnd, ctOr, ctNot, ctYes, cAnd, cOr, cNot, cIf, cChain, cSl, coNone, coSome, cCB, cM, cM0, cCall, cgName, cgNil, cgCons, cgTup, cgSub, cXf, fI, fI0, gA0, gAs, xeq_int, xeq_bl, xeq_str, xne_int, xne_bl, xne_str, xtru_bl, xtru_int, xtru_non, xtru_tup, xadd_int, List.set_cons_zero, List.set_cons_succ, List.set_nil, List.append_nil, List.nil_append, List.cons_append, wipeG, List.length_cons, List.length_nil, true_and, if_true, if_false, Bool.false_eq_true]
    refine for_range (n := m) (fun Q E q => q) (by omega) (fun t Γ μ'' => μ'' = μ' ∧ (∃ c, Γ = [some x, some (.int (m : Nat)), some (.int (i : Nat)), some (.bl (at_ bs i)), c]) ∧ ∀ u, u < t → at_ bs i = true → at_ bs (i ||| 2 ^ u) = true) ?_ ?_ ?_
    · exact ⟨rfl, ⟨_, rfl⟩, fun u hu => absurd hu (Nat.not_lt_zero _)⟩
    · rintro t Γ μ'' ht ⟨rfl, ⟨c, rfl⟩, hJ⟩ N2 hN2
      have ho : i ||| 2 ^ t < bs.length := by rw [hn]; exact or_lt (by omega) ht
      simp only [csSeq, csNil, csBreak, csCont, csExpr, csRet, csRetN, csIf, csAsg, csSet, csAug, csRaise, cVar, cCon, cNil, cCons, cTup, cLst, cOp, cTest, cTru, ctAnd, ctOr, ctNot, ctYes, cAnd, cOr, cNot, cIf, cChain, cSl, coNone, coSome, cCB, cM, cM0, cCall, cgName, cgNil, cgCons, cgTup, cgSub, cXf, fI, fI0, gA0, gAs, xeq_int, xeq_bl, xeq_str, xne_int, xne_bl, xne_str, xtru_bl, xtru_int, xtru_non, xtru_tup, xadd_int, List.set_cons_zero, List.set_cons_succ, List.set_nil, List.append_nil, List.nil_append, List.cons_append, wipeG, List.length_cons, List.length_nil, true_and, if_true, if_false, Bool.false_eq_true, bit_or i (by omega) t (by omega), ix_of hr (at_get ho)]
      cases e : at_ bs i with
      | false =>
        simp
        exact hN2 _ _ ⟨rfl, ⟨some (.int (t : Nat)), by rw [e]⟩, fun u hu he => by rw [e] at he; cases he⟩
      | true =>
        simp only [if_true]
        refine ⟨cpow1 (by omega), ?_⟩
        cases e2 : at_ bs (i ||| 2 ^ t) with
        | true =>
          simp
          exact hN2 _ _ ⟨rfl, ⟨some (.int (t : Nat)), by rw [e]⟩, fun u hu he => by
            rcases Nat.lt_succ_iff_lt_or_eq.mp hu with z | z
            · exact hJ u z he
            · rw [z]; exact e2⟩
        | false =>
          simp
          exact h2 m hm fun z => by rw [z i hi t ht e] at e2; cases e2
    · rintro Γ μ'' ⟨rfl, ⟨c, rfl⟩, hJ⟩
      exact hN _ _ ⟨rfl, ⟨_, _, _, rfl⟩, fun lot hl t ht he => by
        rcases Nat.lt_succ_iff_lt_or_eq.mp hl with z | z
        · exact hI lot z t ht he
        · subst z; exact hJ t ht he⟩
  · rintro Γ μ' ⟨rfl, ⟨a, b, c, rfl⟩, hI⟩
    simp only [csSeq, csNil, csBreak, csCont, csExpr, csRet, csRetN, csIf, csAsg, csSet, csAug, csRaise, cVar, cCon, cNil, cCons, cTup, cLst, cOp, cTest, cTru, ctAnd, ctOr, ctNot, ctYes, cAnd, cOr, cNot, cIf, cChain, cSl, coNone, coSome, cCB, cM, cM0, cCall, cgName, cgNil, cgCons, cgTup, cgSub, cXf, fI, fI0, gA0, gAs, xeq_int, xeq_bl, xeq_str, xne_int, xne_bl, xne_str, xtru_bl, xtru_int, xtru_non, xtru_tup, xadd_int, List.set_cons_zero, List.set_cons_succ, List.set_nil, List.append_nil, List.nil_append, List.cons_append, wipeG, List.length_cons, List.length_nil, true_and, if_true, if_false, Bool.false_eq_true]
    refine h1 m hm fun lot hl t ht he => ?_
    exact hI lot (by rw [List.length_map]; exact hl) t ht he

theorem nats_app (l m : List Nat) : nats (l ++ m) = nats l ++ nats m := by simp [nats]
theorem nats_len (l : List Nat) : (nats l).length = l.length := by simp [nats]
theorem filter_succ {p : Nat → Bool} {i : Nat} : (List.range (i + 1)).filter p = (List.range i).filter p ++ if p i = true then [i] else [] := by
  rw [List.range_succ, List.filter_append]
  by_cases h : p i = true
  · simp [h]
  · simp [h]
theorem filter_len (p : Nat → Bool) (i : Nat) : ((List.range i).filter p).length ≤ i := by
  have := List.length_filter_le p (List.range i)
  simpa using this
theorem big70 : (70 : Nat) < sizeLine := by decide
theorem pure_least_lots (xs : List CV) (μ : Mu) (P : PV) (E : PX) (h : sp_least_lots xs μ P E) : c_least_lots (startG N_least_lots xs) μ (Dn P E) := by
  obtain ⟨x, bs, rfl, hr, h1, h2, h3⟩ := h
  show c_least_lots [some x, none, none, none, none, none, none, none] μ (Dn P E)
  simp only [c_least_lots, csSeq, csNil, csBreak, csCont, csExpr, csRet, csRetN, csIf, csAsg, csSet, csAug, csRaise, cVar, cCon, cNil, cCons, cTup, cLst, cOp, cTest, cTru, ctAnd, ctOr, ctNot, ctYes, cAnd, cOr, cNot, cIf, cChain, cSl, coNone, coSome, cCB, cM, cM0, cCall, cgName, cgNil, cgCons, cgTup, cgSub, cXf, fI, fI0, gA0, gAs, xeq_int, xeq_bl, xeq_str, xne_int, xne_bl, xne_str, xtru_bl, xtru_int, xtru_non, xtru_tup, xadd_int, List.set_cons_zero, List.set_cons_succ, List.set_nil, List.append_nil, List.nil_append, List.cons_append, wipeG, List.length_cons, List.length_nil, true_and, if_true, if_false, Bool.false_eq_true]
  refine ⟨x, bs, rfl, hr, fun m hm hri => ?_, h2, h3⟩
  obtain ⟨hn, hm5⟩ := things_some hm
  have hb32 : bs.length ≤ 32 := by rw [hn]; calc 2 ^ m ≤ 2 ^ 5 := Nat.pow_le_pow_right (by omega) hm5
    _ = 32 := rfl
  refine ⟨Nat.zero_le _, ?_⟩
  refine for_enum (k := 0) (x := x) (l := bs.map CV.bl) rfl (fun i Γ μ' => Fr [] μ μ' ∧ i ≤ bs.length ∧ μ'[μ.length]? = some (.lst (nats ((List.range i).filter (pL bs m)))) ∧ (∃ a b c, Γ = [some x, some (.int (m : Nat)), some (.hnd μ.length), a, b, c, none, none])) ?_ ?_ ?_ ?_
  · exact ⟨Fr.push, Nat.zero_le _, mu_top, ⟨_, _, _, rfl⟩⟩
  · rintro i Γ' μ' ⟨f, _⟩
    exact items_fr f hr
  · rintro i y Γ μ' hy ⟨f, _, hF, ⟨a, b, c, rfl⟩⟩ N hN
    obtain ⟨hi, rfl⟩ := at_get2 hy
    simp only [csSeq, csNil, csBreak, csCont, csExpr, csRet, csRetN, csIf, csAsg, csSet, csAug, csRaise, cVar, cCon, cNil, cCons, cTup, cLst, cOp, cTest, cTru, ctAnd, ctOr, ctNot, ctYes, cAnd, cOr, cNot, cIf, cChain, cSl, coNone, coSome, cCB, cM, cM0, cCall, cgName, cgNil, cgCons, cgTup, cgSub, cXf, fI, fI0, gA0, gAs, xeq_int, xeq_bl, xeq_str, xne_int, xne_bl, xne_str, xtru_bl, xtru_int, xtru_non, xtru_tup, xadd_int, List.set_cons_zero, List.set_cons_succ, List.set_nil, List.append_nil, List.nil_append, List.cons_append, wipeG, List.length_cons, List.length_nil, true_and, if_true, if_false, Bool.false_eq_true]
    refine lc_range (n := m) (fun t => if i.testBit t = true then some (.int ((i ^^^ 2 ^ t : Nat) : Int)) else none) (fun Q E q => q) (by omega) ?_ ?_
    · intro t acc ht Y N2 k1 k2
      simp only [csSeq, csNil, csBreak, csCont, csExpr, csRet, csRetN, csIf, csAsg, csSet, csAug, csRaise, cVar, cCon, cNil, cCons, cTup, cLst, cOp, cTest, cTru, ctAnd, ctOr, ctNot, ctYes, cAnd, cOr, cNot, cIf, cChain, cSl, coNone, coSome, cCB, cM, cM0, cCall, cgName, cgNil, cgCons, cgTup, cgSub, cXf, fI, fI0, gA0, gAs, xeq_int, xeq_bl, xeq_str, xne_int, xne_bl, xne_str, xtru_bl, xtru_int, xtru_non, xtru_tup, xadd_int, List.set_cons_zero, List.set_cons_succ, List.set_nil, List.append_nil, List.nil_append, List.cons_append, wipeG, List.length_cons, List.length_nil, true_and, if_true, if_false, Bool.false_eq_true, bit_xor i (by omega) t (by omega), bit_tst i (by omega) t (by omega)]
      refine ⟨by omega, ?_⟩
      cases e : i.testBit t with
      | true =>
        simp only [if_true]
        exact ⟨cpow1 (by omega), k1 _ (by simp [e])⟩
      | false =>
        simp only [Bool.false_eq_true, if_false]
        exact k2 (by simp [e])
    · rw [fm_if]
      have f1 : Fr [] μ (μ' ++ [.lst (((List.range m).filter fun t => i.testBit t).map fun t => .int ((i ^^^ 2 ^ t : Nat) : Int))]) := f.trans Fr.push
      have hF1 := (Fr.push (S := []) (t := [.lst (((List.range m).filter fun t => i.testBit t).map fun t => CV.int ((i ^^^ 2 ^ t : Nat) : Int))])).get0 hF
      have hlt1 : μ.length < (μ' ++ [CO.lst (((List.range m).filter fun t => i.testBit t).map fun t => CV.int ((i ^^^ 2 ^ t : Nat) : Int))]).length := mlt hF1
      cases e : at_ bs i with
      | false =>
        simp only [Bool.false_eq_true, if_false]
        refine hN _ _ ⟨f1, hi, ?_, ⟨_, _, _, rfl⟩⟩
        rw [hF1, filter_succ]
        simp [pL, e]
      | true =>
        simp only [if_true]
        refine lc_seq (x := .hnd μ'.length) (l := ((List.range m).filter fun t => i.testBit t).map fun t => CV.int ((i ^^^ 2 ^ t : Nat) : Int)) (fun y => match y with
          | .int j => some (.bl (at_ bs j.toNat))
          | _ => none) (fun Q E q => q) (items_hnd mu_top) ?_ ?_ ?_
        · rw [List.length_map]
          have := filter_len (fun t => i.testBit t) m
          have := big70
          omega
        · intro j y acc hy Y N2 k1 k2
          rw [List.getElem?_map] at hy
          obtain ⟨t, ht, rfl⟩ := Option.map_eq_some_iff.mp hy
          have htm : t < m := by
            have := List.mem_of_getElem? ht
            simpa using (List.mem_filter.mp this).1
          simp only [csSeq, csNil, csBreak, csCont, csExpr, csRet, csRetN, csIf, csAsg, csSet, csAug, csRaise, cVar, cCon, cNil, cCons, cTup, cLst, cOp, cTest, cTru, ctAnd, ctOr, ctNot, ctYes, cAnd, cOr, cNot, cIf, cChain, cSl, coNone, coSome, cCB, cM, cM0, cCall, cgName, cgNil, cgCons, cgTup, cgSub, cXf, fI, fI0, gA0, gAs, xeq_int, xeq_bl, xeq_str, xne_int, xne_bl, xne_str, xtru_bl, xtru_int, xtru_non, xtru_tup, xadd_int, List.set_cons_zero, List.set_cons_succ, List.set_nil, List.append_nil, List.nil_append, List.cons_append, wipeG, List.length_cons, List.length_nil, true_and, if_true, if_false, Bool.false_eq_true]
          rw [ix_of (items_fr (f1.trans Fr.push) hr) (at_get (by rw [hn]; exact xor_lt (by omega) htm))]
          exact k1 _ (by simp)
        · have eb : (((List.range m).filter fun t => i.testBit t).map fun t => CV.int ((i ^^^ 2 ^ t : Nat) : Int)).filterMap (fun y => match y with
            | .int j => some (.bl (at_ bs j.toNat))
            | _ => none) = (((List.range m).filter fun t => i.testBit t).map fun t => at_ bs (i ^^^ 2 ^ t)).map CV.bl := by
            rw [List.filterMap_map, List.map_map, ← List.filterMap_eq_map]
            congr 1
          rw [eb]
          simp only [any_of mu_top, csSeq, csNil, csBreak, csCont, csExpr, csRet, csRetN, csIf, csAsg, csSet, csAug, csRaise, cVar, cCon, cNil, cCons, cTup, cLst, cOp, cTest, cTru, ctAnd, ctOr, ctNot, ctYes, cAnd, cOr, cNot, cIf, cChain, cSl, coNone, coSome, cCB, cM, cM0, cCall, cgName, cgNil, cgCons, cgTup, cgSub, cXf, fI, fI0, gA0, gAs, xeq_int, xeq_bl, xeq_str, xne_int, xne_bl, xne_str, xtru_bl, xtru_int, xtru_non, xtru_tup, xadd_int, List.set_cons_zero, List.set_cons_succ, List.set_nil, List.append_nil, List.nil_append, List.cons_append, wipeG, List.length_cons, List.length_nil, true_and, if_true, if_false, Bool.false_eq_true]
          have ea : ((((List.range m).filter fun t => i.testBit t).map fun t => at_ bs (i ^^^ 2 ^ t)).any id) = (List.range m).any fun t => i.testBit t && at_ bs (i ^^^ 2 ^ t) := by
            rw [List.any_map, List.any_filter]
            rfl
          rw [ea]
          have hF2 := (Fr.push (S := []) (t := [.lst ((((List.range m).filter fun t => i.testBit t).map fun t => at_ bs (i ^^^ 2 ^ t)).map CV.bl)])).get0 hF1
          cases e2 : (List.range m).any fun t => i.testBit t && at_ bs (i ^^^ 2 ^ t) with
          | true =>
            simp only [Bool.not_true, Bool.false_eq_true, if_false]
            refine hN _ _ ⟨f1.trans Fr.push, hi, ?_, ⟨_, _, _, rfl⟩⟩
            rw [hF2, filter_succ]
            simp [pL, e, e2]
          | false =>
            simp only [Bool.not_false, if_true]
            refine app_of hF2 (by rw [nats_len]; have := filter_len (pL bs m) i; have := big70; omega) ?_
            refine hN _ _ ⟨(f1.trans Fr.push).setTop, hi, ?_, ⟨_, _, _, rfl⟩⟩
            rw [mu_set_self (mlt hF2), filter_succ, nats_app]
            simp [pL, e, e2, nats]
  · rintro Γ μ' ⟨f, _, hF, ⟨a, b, c, rfl⟩⟩
    simp only [csSeq, csNil, csBreak, csCont, csExpr, csRet, csRetN, csIf, csAsg, csSet, csAug, csRaise, cVar, cCon, cNil, cCons, cTup, cLst, cOp, cTest, cTru, ctAnd, ctOr, ctNot, ctYes, cAnd, cOr, cNot, cIf, cChain, cSl, coNone, coSome, cCB, cM, cM0, cCall, cgName, cgNil, cgCons, cgTup, cgSub, cXf, fI, fI0, gA0, gAs, xeq_int, xeq_bl, xeq_str, xne_int, xne_bl, xne_str, xtru_bl, xtru_int, xtru_non, xtru_tup, xadd_int, List.set_cons_zero, List.set_cons_succ, List.set_nil, List.append_nil, List.nil_append, List.cons_append, wipeG, List.length_cons, List.length_nil, true_and, if_true, if_false, Bool.false_eq_true]
    rw [tuple_of (items_hnd hF), List.length_map]
    exact h1 m hm hri μ' f
theorem pure_greatest_lots (xs : List CV) (μ : Mu) (P : PV) (E : PX) (h : sp_greatest_lots xs μ P E) : c_greatest_lots (startG N_greatest_lots xs) μ (Dn P E) := by
  obtain ⟨x, bs, rfl, hr, h1, h2, h3⟩ := h
  show c_greatest_lots [some x, none, none, none, none, none, none, none] μ (Dn P E)
  simp only [c_greatest_lots, csSeq, csNil, csBreak, csCont, csExpr, csRet, csRetN, csIf, csAsg, csSet, csAug, csRaise, cVar, cCon, cNil, cCons, cTup, cLst, cOp, cTest, cTru, ctAnd, ctOr, ctNot, ctYes, cAnd, cOr, cNot, cIf, cChain, cSl, coNone, coSome, cCB, cM, cM0, cCall, cgName, cgNil, cgCons, cgTup, cgSub, cXf, fI, fI0, gA0, gAs, xeq_int, xeq_bl, xeq_str, xne_int, xne_bl, xne_str, xtru_bl, xtru_int, xtru_non, xtru_tup, xadd_int, List.set_cons_zero, List.set_cons_succ, List.set_nil, List.append_nil, List.nil_append, List.cons_append, wipeG, List.length_cons, List.length_nil, true_and, if_true, if_false, Bool.false_eq_true]
  refine ⟨x, bs, rfl, hr, fun m hm hri => ?_, h2, h3⟩
  obtain ⟨hn, hm5⟩ := things_some hm
  have hb32 : bs.length ≤ 32 := by rw [hn]; calc 2 ^ m ≤ 2 ^ 5 := Nat.pow_le_pow_right (by omega) hm5
    _ = 32 := rfl
  refine ⟨Nat.zero_le _, ?_⟩
  refine for_enum (k := 0) (x := x) (l := bs.map CV.bl) rfl (fun i Γ μ' => Fr [] μ μ' ∧ i ≤ bs.length ∧ μ'[μ.length]? = some (.lst (nats ((List.range i).filter (pG bs m)))) ∧ (∃ a b c, Γ = [some x, some (.int (m : Nat)), some (.hnd μ.length), a, b, c, none, none])) ?_ ?_ ?_ ?_
  · exact ⟨Fr.push, Nat.zero_le _, mu_top, ⟨_, _, _, rfl⟩⟩
  · rintro i Γ' μ' ⟨f, _⟩
    exact items_fr f hr
  · rintro i y Γ μ' hy ⟨f, _, hF, ⟨a, b, c, rfl⟩⟩ N hN
    obtain ⟨hi, rfl⟩ := at_get2 hy
    simp only [csSeq, csNil, csBreak, csCont, csExpr, csRet, csRetN, csIf, csAsg, csSet, csAug, csRaise, cVar, cCon, cNil, cCons, cTup, cLst, cOp, cTest, cTru, ctAnd, ctOr, ctNot, ctYes, cAnd, cOr, cNot, cIf, cChain, cSl, coNone, coSome, cCB, cM, cM0, cCall, cgName, cgNil, cgCons, cgTup, cgSub, cXf, fI, fI0, gA0, gAs, xeq_int, xeq_bl, xeq_str, xne_int, xne_bl, xne_str, xtru_bl, xtru_int, xtru_non, xtru_tup, xadd_int, List.set_cons_zero, List.set_cons_succ, List.set_nil, List.append_nil, List.nil_append, List.cons_append, wipeG, List.length_cons, List.length_nil, true_and, if_true, if_false, Bool.false_eq_true]
    refine lc_range (n := m) (fun t => if (!i.testBit t) = true then some (.int ((i ||| 2 ^ t : Nat) : Int)) else none) (fun Q E q => q) (by omega) ?_ ?_
    · intro t acc ht Y N2 k1 k2
      simp only [csSeq, csNil, csBreak, csCont, csExpr, csRet, csRetN, csIf, csAsg, csSet, csAug, csRaise, cVar, cCon, cNil, cCons, cTup, cLst, cOp, cTest, cTru, ctAnd, ctOr, ctNot, ctYes, cAnd, cOr, cNot, cIf, cChain, cSl, coNone, coSome, cCB, cM, cM0, cCall, cgName, cgNil, cgCons, cgTup, cgSub, cXf, fI, fI0, gA0, gAs, xeq_int, xeq_bl, xeq_str, xne_int, xne_bl, xne_str, xtru_bl, xtru_int, xtru_non, xtru_tup, xadd_int, List.set_cons_zero, List.set_cons_succ, List.set_nil, List.append_nil, List.nil_append, List.cons_append, wipeG, List.length_cons, List.length_nil, true_and, if_true, if_false, Bool.false_eq_true, bit_or i (by omega) t (by omega), bit_tst0 i (by omega) t (by omega)]
      refine ⟨by omega, ?_⟩
      cases e : i.testBit t with
      | false =>
        simp only [Bool.not_false, if_true]
        exact ⟨cpow1 (by omega), k1 _ (by simp [e])⟩
      | true =>
        simp only [Bool.not_true, Bool.false_eq_true, if_false]
        exact k2 (by simp [e])
    · rw [fm_if]
      have f1 : Fr [] μ (μ' ++ [.lst (((List.range m).filter fun t => !i.testBit t).map fun t => .int ((i ||| 2 ^ t : Nat) : Int))]) := f.trans Fr.push
      have hF1 := (Fr.push (S := []) (t := [.lst (((List.range m).filter fun t => !i.testBit t).map fun t => CV.int ((i ||| 2 ^ t : Nat) : Int))])).get0 hF
      have hlt1 : μ.length < (μ' ++ [CO.lst (((List.range m).filter fun t => !i.testBit t).map fun t => CV.int ((i ||| 2 ^ t : Nat) : Int))]).length := mlt hF1
      cases e : at_ bs i with
      | true =>
        simp only [Bool.not_true, Bool.false_eq_true, if_false]
        refine hN _ _ ⟨f1, hi, ?_, ⟨_, _, _, rfl⟩⟩
        rw [hF1, filter_succ]
        simp [pG, e]
      | false =>
        simp only [Bool.not_false, if_true]
        refine lc_seq (x := .hnd μ'.length) (l := ((List.range m).filter fun t => !i.testBit t).map fun t => CV.int ((i ||| 2 ^ t : Nat) : Int)) (fun y => match y with
          | .int j => some (.bl (at_ bs j.toNat))
          | _ => none) (fun Q E q => q) (items_hnd mu_top) ?_ ?_ ?_
        · rw [List.length_map]
          have := filter_len (fun t => !i.testBit t) m
          have := big70
          omega
        · intro j y acc hy Y N2 k1 k2
          rw [List.getElem?_map] at hy
          obtain ⟨t, ht, rfl⟩ := Option.map_eq_some_iff.mp hy
          have htm : t < m := by
            have := List.mem_of_getElem? ht
            simpa using (List.mem_filter.mp this).1
          simp only [csSeq, csNil, csBreak, csCont, csExpr, csRet, csRetN, csIf, csAsg, csSet, csAug, csRaise, cVar, cCon, cNil, cCons, cTup, cLst, cOp, cTest, cTru, ctAnd, ctOr, ctNot, ctYes, cAnd, cOr, cNot, cIf, cChain, cSl, coNone, coSome, cCB, cM, cM0, cCall, cgName, cgNil, cgCons, cgTup, cgSub, cXf, fI, fI0, gA0, gAs, xeq_int, xeq_bl, xeq_str, xne_int, xne_bl, xne_str, xtru_bl, xtru_int, xtru_non, xtru_tup, xadd_int, List.set_cons_zero, List.set_cons_succ, List.set_nil, List.append_nil, List.nil_append, List.cons_append, wipeG, List.length_cons, List.length_nil, true_and, if_true, if_false, Bool.false_eq_true]
          rw [ix_of (items_fr (f1.trans Fr.push) hr) (at_get (by rw [hn]; exact or_lt (by omega) htm))]
          exact k1 _ (by simp)
        · have eb : (((List.range m).filter fun t => !i.testBit t).map fun t => CV.int ((i ||| 2 ^ t : Nat) : Int)).filterMap (fun y => match y with
            | .int j => some (.bl (at_ bs j.toNat))
            | _ => none) = (((List.range m).filter fun t => !i.testBit t).map fun t => at_ bs (i ||| 2 ^ t)).map CV.bl := by
            rw [List.filterMap_map, List.map_map, ← List.filterMap_eq_map]
            congr 1
          rw [eb]
          simp only [all_of mu_top, csSeq, csNil, csBreak, csCont, csExpr, csRet, csRetN, csIf, csAsg, csSet, csAug, csRaise, cVar, cCon, cNil, cCons, cTup, cLst, cOp, cTest, cTru, ctAnd, ctOr, ctNot, ctYes, cAnd, cOr, cNot, cIf, cChain, cSl, coNone, coSome, cCB, cM, cM0, cCall, cgName, cgNil, cgCons, cgTup, cgSub, cXf, fI, fI0, gA0, gAs, xeq_int, xeq_bl, xeq_str, xne_int, xne_bl, xne_str, xtru_bl, xtru_int, xtru_non, xtru_tup, xadd_int, List.set_cons_zero, List.set_cons_succ, List.set_nil, List.append_nil, List.nil_append, List.cons_append, wipeG, List.length_cons, List.length_nil, true_and, if_true, if_false, Bool.false_eq_true]
          have ea : ((((List.range m).filter fun t => !i.testBit t).map fun t => at_ bs (i ||| 2 ^ t)).all id) = (List.range m).all fun t => i.testBit t || at_ bs (i ||| 2 ^ t) := by
            rw [List.all_map, List.all_filter]
            simp
          rw [ea]
          have hF2 := (Fr.push (S := []) (t := [.lst ((((List.range m).filter fun t => !i.testBit t).map fun t => at_ bs (i ||| 2 ^ t)).map CV.bl)])).get0 hF1
          cases e2 : (List.range m).all fun t => i.testBit t || at_ bs (i ||| 2 ^ t) with
          | false =>
            simp only [Bool.false_eq_true, if_false]
            refine hN _ _ ⟨f1.trans Fr.push, hi, ?_, ⟨_, _, _, rfl⟩⟩
            rw [hF2, filter_succ]
            simp [pG, e, e2]
          | true =>
            simp only [if_true]
            refine app_of hF2 (by rw [nats_len]; have := filter_len (pG bs m) i; have := big70; omega) ?_
            refine hN _ _ ⟨(f1.trans Fr.push).setTop, hi, ?_, ⟨_, _, _, rfl⟩⟩
            rw [mu_set_self (mlt hF2), filter_succ, nats_app]
            simp [pG, e, e2, nats]
  · rintro Γ μ' ⟨f, _, hF, ⟨a, b, c, rfl⟩⟩
    simp only [csSeq, csNil, csBreak, csCont, csExpr, csRet, csRetN, csIf, csAsg, csSet, csAug, csRaise, cVar, cCon, cNil, cCons, cTup, cLst, cOp, cTest, cTru, ctAnd, ctOr, ctNot, ctYes, cAnd, cOr, cNot, cIf, cChain, cSl, coNone, coSome, cCB, cM, cM0, cCall, cgName, cgNil, cgCons, cgTup, cgSub, cXf, fI, fI0, gA0, gAs, xeq_int, xeq_bl, xeq_str, xne_int, xne_bl, xne_str, xtru_bl, xtru_int, xtru_non, xtru_tup, xadd_int, List.set_cons_zero, List.set_cons_succ, List.set_nil, List.append_nil, List.nil_append, List.cons_append, wipeG, List.length_cons, List.length_nil, true_and, if_true, if_false, Bool.false_eq_true]
    rw [tuple_of (items_hnd hF), List.length_map]
    exact h1 m hm hri μ' f

theorem pure__law_is_count (xs : List CV) (μ : Mu) (P : PV) (E : PX) (h : sp__law_is_count xs μ P E) : c__law_is_count (startG N__law_is_count xs) μ (Dn P E) := by
  obtain ⟨i, rfl, h⟩ := h
  show c__law_is_count [some (.int i)] μ (Dn P E)
  have e1 : ∀ Q : PV, fIsi [.int i, .ty "int"] μ Q = (True ∧ Q (.bl true) μ) := fun Q => by simp [fIsi, tyOf, isB, tyR]
  have e2 : ∀ Q : PV, fIsi [.int i, .ty "bool"] μ Q = (True ∧ Q (.bl false) μ) := fun Q => by simp [fIsi, tyOf, isB, tyR]
  simp only [c__law_is_count, csSeq, csNil, csBreak, csCont, csExpr, csRet, csRetN, csIf, csAsg, csSet, csAug, csRaise, cVar, cCon, cNil, cCons, cTup, cLst, cOp, cTest, cTru, ctAnd, ctOr, ctNot, ctYes, cAnd, cOr, cNot, cIf, cChain, cSl, coNone, coSome, cCB, cM, cM0, cCall, cgName, cgNil, cgCons, cgTup, cgSub, cXf, fI, fI0, gA0, gAs, xeq_int, xeq_bl, xeq_str, xne_int, xne_bl, xne_str, xtru_bl, xtru_int, xtru_non, xtru_tup, xadd_int, List.set_cons_zero, List.set_cons_succ, List.set_nil, List.append_nil, List.nil_append, List.cons_append, wipeG, List.length_cons, List.length_nil, true_and, if_true, if_false, Bool.false_eq_true, e1, e2, Bool.not_false]
  exact h
theorem pure__law_begin (xs : List CV) (μ : Mu) (P : PV) (E : PX) (h : sp__law_begin xs μ P E) : c__law_begin (startG N__law_begin xs) μ (Dn P E) := by
  obtain ⟨ns, rfl, hl, h⟩ := h
  have hz := big70
  show c__law_begin [some (.rol (ns.map .int)), none, none, none] μ (Dn P E)
  have es : ∀ (μ : Mu) (Q : PV), fSl (.rol (ns.map .int)) none (some 63) μ Q = Q (.hnd μ.length) (μ ++ [.lst (ns.map .int)]) := fun μ Q => by
    show Q (.hnd μ.length) (μ ++ [.lst (cutC (ns.map .int) none (some 63))]) = _
    rw [cut63 ns hl]
  have cp : CPow 10 18 := ⟨by decide, by decide, by decide⟩
  simp only [c__law_begin, csSeq, csNil, csBreak, csCont, csExpr, csRet, csRetN, csIf, csAsg, csSet, csAug, csRaise, cVar, cCon, cNil, cCons, cTup, cLst, cOp, cTest, cTru, ctAnd, ctOr, ctNot, ctYes, cAnd, cOr, cNot, cIf, cChain, cSl, coNone, coSome, cCB, cM, cM0, cCall, cgName, cgNil, cgCons, cgTup, cgSub, cXf, fI, fI0, gA0, gAs, xeq_int, xeq_bl, xeq_str, xne_int, xne_bl, xne_str, xtru_bl, xtru_int, xtru_non, xtru_tup, xadd_int, List.set_cons_zero, List.set_cons_succ, List.set_nil, List.append_nil, List.nil_append, List.cons_append, wipeG, List.length_cons, List.length_nil, true_and, if_true, if_false, Bool.false_eq_true, es]
  refine lc_seq (x := .hnd μ.length) (l := ns.map .int) (μ := μ ++ [.lst (ns.map .int)]) (fun y => match y with
    | .int j => if decide ((10 : Int) ^ (18 : Int).toNat ≤ j) = true then some (.int j) else none
    | _ => none) (fun Q E q => ?_) (items_hnd mu_top) (by simp; omega) ?_ ?_
  · simp only [csSeq, csNil, csBreak, csCont, csExpr, csRet, csRetN, csIf, csAsg, csSet, csAug, csRaise, cVar, cCon, cNil, cCons, cTup, cLst, cOp, cTest, cTru, ctAnd, ctOr, ctNot, ctYes, cAnd, cOr, cNot, cIf, cChain, cSl, coNone, coSome, cCB, cM, cM0, cCall, cgName, cgNil, cgCons, cgTup, cgSub, cXf, fI, fI0, gA0, gAs, xeq_int, xeq_bl, xeq_str, xne_int, xne_bl, xne_str, xtru_bl, xtru_int, xtru_non, xtru_tup, xadd_int, List.set_cons_zero, List.set_cons_succ, List.set_nil, List.append_nil, List.nil_append, List.cons_append, wipeG, List.length_cons, List.length_nil, true_and, if_true, if_false, Bool.false_eq_true, es]
    exact q
  · intro i y acc hy Y N k1 k2
    rw [List.getElem?_map] at hy
    obtain ⟨j, hj, rfl⟩ := Option.map_eq_some_iff.mp hy
    simp only [csSeq, csNil, csBreak, csCont, csExpr, csRet, csRetN, csIf, csAsg, csSet, csAug, csRaise, cVar, cCon, cNil, cCons, cTup, cLst, cOp, cTest, cTru, ctAnd, ctOr, ctNot, ctYes, cAnd, cOr, cNot, cIf, cChain, cSl, coNone, coSome, cCB, cM, cM0, cCall, cgName, cgNil, cgCons, cgTup, cgSub, cXf, fI, fI0, gA0, gAs, xeq_int, xeq_bl, xeq_str, xne_int, xne_bl, xne_str, xtru_bl, xtru_int, xtru_non, xtru_tup, xadd_int, List.set_cons_zero, List.set_cons_succ, List.set_nil, List.append_nil, List.nil_append, List.cons_append, wipeG, List.length_cons, List.length_nil, true_and, if_true, if_false, Bool.false_eq_true]
    refine ⟨cp, ?_⟩
    cases e : decide ((10 : Int) ^ (18 : Int).toNat ≤ j) with
    | true => simp only [if_true]; exact k1 _ (by simp only [e, if_true])
    | false => simp only [Bool.false_eq_true, if_false]; exact k2 (by simp only [e, Bool.false_eq_true, if_false])
  · obtain ⟨gs, hgs⟩ : ∃ gs : List Int, (ns.map CV.int).filterMap (fun y => match y with
      | .int j => if decide ((10 : Int) ^ (18 : Int).toNat ≤ j) = true then some (.int j) else none
      | _ => none) = gs.map CV.int := ⟨ns.filter fun j => decide ((10 : Int) ^ (18 : Int).toNat ≤ j), by
        rw [List.filterMap_map, ← fm_if]
        rfl⟩
    rw [hgs]
    have hg : ((μ ++ [CO.lst (ns.map .int)]) ++ [CO.lst (gs.map .int)])[(μ ++ [CO.lst (ns.map .int)]).length]? = some (.lst (gs.map .int)) := mu_top
    generalize hG : (μ ++ [CO.lst (ns.map .int)]).length = g at hg
    have hgl : μ.length ≤ g := by rw [← hG]; simp
    have f0 : Fr [] μ ((μ ++ [CO.lst (ns.map .int)]) ++ [CO.lst (gs.map .int)]) := Fr.push.trans Fr.push
    generalize (μ ++ [CO.lst (ns.map .int)]) ++ [CO.lst (gs.map .int)] = μ1 at hg f0
    refine for_seq (x := .hnd μ1.length) (l := ns.map .int) (μ := μ1 ++ [.lst (ns.map .int)]) (fun Q E q => ?_) (fun i Γ μ' => μ' = μ1 ++ [.lst (ns.map .int)] ∧ ∃ a s, Γ = [some (.rol (ns.map .int)), some (.hnd g), a, some (.int s)]) ?_ ?_ ?_ ?_
    · simp only [csSeq, csNil, csBreak, csCont, csExpr, csRet, csRetN, csIf, csAsg, csSet, csAug, csRaise, cVar, cCon, cNil, cCons, cTup, cLst, cOp, cTest, cTru, ctAnd, ctOr, ctNot, ctYes, cAnd, cOr, cNot, cIf, cChain, cSl, coNone, coSome, cCB, cM, cM0, cCall, cgName, cgNil, cgCons, cgTup, cgSub, cXf, fI, fI0, gA0, gAs, xeq_int, xeq_bl, xeq_str, xne_int, xne_bl, xne_str, xtru_bl, xtru_int, xtru_non, xtru_tup, xadd_int, List.set_cons_zero, List.set_cons_succ, List.set_nil, List.append_nil, List.nil_append, List.cons_append, wipeG, List.length_cons, List.length_nil, true_and, if_true, if_false, Bool.false_eq_true, es]
      exact q
    · exact ⟨rfl, _, _, rfl⟩
    · rintro i Γ μ' ⟨rfl, _⟩
      exact items_hnd mu_top
    · rintro i y Γ μ' hy ⟨rfl, a, s, rfl⟩ N hN
      rw [List.getElem?_map] at hy
      obtain ⟨j, hj, rfl⟩ := Option.map_eq_some_iff.mp hy
      have e3 : ∀ (μ : Mu) (Q : PV), fInt [.int j] μ Q = Q (.int j) μ := fun _ _ => rfl
      simp only [csSeq, csNil, csBreak, csCont, csExpr, csRet, csRetN, csIf, csAsg, csSet, csAug, csRaise, cVar, cCon, cNil, cCons, cTup, cLst, cOp, cTest, cTru, ctAnd, ctOr, ctNot, ctYes, cAnd, cOr, cNot, cIf, cChain, cSl, coNone, coSome, cCB, cM, cM0, cCall, cgName, cgNil, cgCons, cgTup, cgSub, cXf, fI, fI0, gA0, gAs, xeq_int, xeq_bl, xeq_str, xne_int, xne_bl, xne_str, xtru_bl, xtru_int, xtru_non, xtru_tup, xadd_int, List.set_cons_zero, List.set_cons_succ, List.set_nil, List.append_nil, List.nil_append, List.cons_append, wipeG, List.length_cons, List.length_nil, true_and, if_true, if_false, Bool.false_eq_true, e3]
      refine ⟨cp, ?_⟩
      cases e : decide (j < (10 : Int) ^ (18 : Int).toNat) with
      | true =>
        simp only [if_true]
        refine ⟨.inr (by decide), by decide, by decide, ?_⟩
        exact hN _ _ ⟨rfl, _, _, rfl⟩
      | false =>
        simp only [Bool.false_eq_true, if_false]
        exact hN _ _ ⟨rfl, _, _, rfl⟩
    · rintro Γ μ' ⟨rfl, a, s, rfl⟩
      have hl3 : ∀ (μ : Mu) (Q : PV), fLen [.hnd μ.length] (μ ++ [.lst (ns.map .int)]) Q = Q (.int ((ns.map CV.int).length : Nat)) (μ ++ [.lst (ns.map .int)]) := fun μ Q => len_of (items_hnd mu_top)
      simp only [csSeq, csNil, csBreak, csCont, csExpr, csRet, csRetN, csIf, csAsg, csSet, csAug, csRaise, cVar, cCon, cNil, cCons, cTup, cLst, cOp, cTest, cTru, ctAnd, ctOr, ctNot, ctYes, cAnd, cOr, cNot, cIf, cChain, cSl, coNone, coSome, cCB, cM, cM0, cCall, cgName, cgNil, cgCons, cgTup, cgSub, cXf, fI, fI0, gA0, gAs, xeq_int, xeq_bl, xeq_str, xne_int, xne_bl, xne_str, xtru_bl, xtru_int, xtru_non, xtru_tup, xadd_int, List.set_cons_zero, List.set_cons_succ, List.set_nil, List.append_nil, List.nil_append, List.cons_append, wipeG, List.length_cons, List.length_nil, true_and, if_true, if_false, Bool.false_eq_true, es, hl3]
      refine ⟨by decide, ?_⟩
      refine h _ g _ ((f0.trans Fr.push).trans (Fr.push.trans Fr.push)) ⟨gs, s, _, mu_top, ?_, ?_⟩ ?_ hgl
      · exact (Fr.push.trans (Fr.push.trans Fr.push)).get0 hg
      · have := mlt hg
        simp
        omega
      · have := f0.len
        simp
        omega
theorem Dw.fr {μ μ' : Mu} {h g : Nat} {S : List Nat} (d : Dw μ h g) (f : Fr S μ μ') (h1 : h ∉ S) (h2 : g ∉ S) : Dw μ' h g := by
  obtain ⟨gs, s, c, a, b, n⟩ := d
  exact ⟨gs, s, c, f.get a h1, f.get b h2, n⟩
theorem Dw.lt {μ : Mu} {h g : Nat} (d : Dw μ h g) : h < μ.length ∧ g < μ.length := by
  obtain ⟨gs, s, c, a, b, n⟩ := d
  exact ⟨mlt a, mlt b⟩
theorem pure__law_draw (xs : List CV) (μ : Mu) (P : PV) (E : PX) (h : sp__law_draw xs μ P E) : c__law_draw (startG N__law_draw xs) μ (Dn P E) := by
  obtain ⟨h, g, many, rfl, ⟨hm, hm1⟩, ⟨gs, s, c, hh, hg, hne⟩, k⟩ := h
  show c__law_draw [some (.hnd h), some (.int many), none, none] μ (Dn P E)
  have ix : ∀ (μ : Mu) (n : Nat) (l : List CV) (i : Int) (y : CV) (Q : PV), μ[n]? = some (.lst l) → 0 ≤ i → l[i.toNat]? = some y → fIx (.hnd n) (.int i) μ Q = Q y μ := fun μ n l i y Q a b c => ix_of' (items_hnd a) b c
  simp only [c__law_draw, csSeq, csNil, csBreak, csCont, csExpr, csRet, csRetN, csIf, csAsg, csSet, csAug, csRaise, cVar, cCon, cNil, cCons, cTup, cLst, cOp, cTest, cTru, ctAnd, ctOr, ctNot, ctYes, cAnd, cOr, cNot, cIf, cChain, cSl, coNone, coSome, cCB, cM, cM0, cCall, cgName, cgNil, cgCons, cgTup, cgSub, cXf, fI, fI0, gA0, gAs, xeq_int, xeq_bl, xeq_str, xne_int, xne_bl, xne_str, xtru_bl, xtru_int, xtru_non, xtru_tup, xadd_int, List.set_cons_zero, List.set_cons_succ, List.set_nil, List.append_nil, List.nil_append, List.cons_append, wipeG, List.length_cons, List.length_nil, true_and, if_true, if_false, Bool.false_eq_true, ix μ h _ 0 _ _ hh (by decide) rfl, xtru_hnd hg]
  cases gs with
  | nil =>
    simp only [List.map_nil, List.isEmpty_nil, Bool.not_true, Bool.false_eq_true, if_false, ix μ h _ 2 _ _ hh (by decide) rfl, csSeq, csNil, csBreak, csCont, csExpr, csRet, csRetN, csIf, csAsg, csSet, csAug, csRaise, cVar, cCon, cNil, cCons, cTup, cLst, cOp, cTest, cTru, ctAnd, ctOr, ctNot, ctYes, cAnd, cOr, cNot, cIf, cChain, cSl, coNone, coSome, cCB, cM, cM0, cCall, cgName, cgNil, cgCons, cgTup, cgSub, cXf, fI, fI0, gA0, gAs, xeq_int, xeq_bl, xeq_str, xne_int, xne_bl, xne_str, xtru_bl, xtru_int, xtru_non, xtru_tup, xadd_int, List.set_cons_zero, List.set_cons_succ, List.set_nil, List.append_nil, List.nil_append, List.cons_append, wipeG, List.length_cons, List.length_nil, true_and, if_true, if_false, Bool.false_eq_true]
    rw [setL_of hh (by decide) (by simp)]
    have hh1 : (μ.set h (.lst ([CV.hnd g, .int s, .int c].set (2 : Int).toNat (.int (c + 1)))))[h]? = some (.lst [.hnd g, .int s, .int (c + 1)]) := mu_set_self (mlt hh)
    have f1 : Fr [h, g] μ (μ.set h (.lst ([CV.hnd g, .int s, .int c].set (2 : Int).toNat (.int (c + 1))))) := Fr.set (by simp)
    have hg1 : (μ.set h (.lst ([CV.hnd g, .int s, .int c].set (2 : Int).toNat (.int (c + 1)))))[g]? = some (.lst []) := by rw [mu_ne hne]; exact hg
    generalize μ.set h (.lst ([CV.hnd g, .int s, .int c].set (2 : Int).toNat (.int (c + 1)))) = μ1 at hh1 f1 hg1
    simp only [ix μ1 h _ 1 _ _ hh1 (by decide) rfl, ix μ1 h _ 2 _ _ hh1 (by decide) rfl, csSeq, csNil, csBreak, csCont, csExpr, csRet, csRetN, csIf, csAsg, csSet, csAug, csRaise, cVar, cCon, cNil, cCons, cTup, cLst, cOp, cTest, cTru, ctAnd, ctOr, ctNot, ctYes, cAnd, cOr, cNot, cIf, cChain, cSl, coNone, coSome, cCB, cM, cM0, cCall, cgName, cgNil, cgCons, cgTup, cgSub, cXf, fI, fI0, gA0, gAs, xeq_int, xeq_bl, xeq_str, xne_int, xne_bl, xne_str, xtru_bl, xtru_int, xtru_non, xtru_tup, xadd_int, List.set_cons_zero, List.set_cons_succ, List.set_nil, List.append_nil, List.nil_append, List.cons_append, wipeG, List.length_cons, List.length_nil, true_and, if_true, if_false, Bool.false_eq_true]
    refine ⟨.inr (by decide), .inr (by decide), by decide, ?_⟩
    rw [setL_of hh1 (by decide) (by simp)]
    generalize hs' : (s * 69621 + (c + 1) * 7919 + 5) % 2147483647 = s'
    have hh2 : (μ1.set h (.lst ([CV.hnd g, .int s, .int (c + 1)].set (1 : Int).toNat (.int s'))))[h]? = some (.lst [.hnd g, .int s', .int (c + 1)]) := mu_set_self (mlt hh1)
    have f2 : Fr [h, g] μ1 (μ1.set h (.lst ([CV.hnd g, .int s, .int (c + 1)].set (1 : Int).toNat (.int s')))) := Fr.set (by simp)
    have hg2 : (μ1.set h (.lst ([CV.hnd g, .int s, .int (c + 1)].set (1 : Int).toNat (.int s'))))[g]? = some (.lst []) := by rw [mu_ne hne]; exact hg1
    generalize μ1.set h (.lst ([CV.hnd g, .int s, .int (c + 1)].set (1 : Int).toNat (.int s'))) = μ2 at hh2 f2 hg2
    simp only [ix μ2 h _ 1 _ _ hh2 (by decide) rfl, csSeq, csNil, csBreak, csCont, csExpr, csRet, csRetN, csIf, csAsg, csSet, csAug, csRaise, cVar, cCon, cNil, cCons, cTup, cLst, cOp, cTest, cTru, ctAnd, ctOr, ctNot, ctYes, cAnd, cOr, cNot, cIf, cChain, cSl, coNone, coSome, cCB, cM, cM0, cCall, cgName, cgNil, cgCons, cgTup, cgSub, cXf, fI, fI0, gA0, gAs, xeq_int, xeq_bl, xeq_str, xne_int, xne_bl, xne_str, xtru_bl, xtru_int, xtru_non, xtru_tup, xadd_int, List.set_cons_zero, List.set_cons_succ, List.set_nil, List.append_nil, List.nil_append, List.cons_append, wipeG, List.length_cons, List.length_nil, true_and, if_true, if_false, Bool.false_eq_true]
    refine ⟨⟨by decide, by decide⟩, hm, ?_⟩
    exact k _ _ (Int.emod_nonneg _ (by omega)) (Int.emod_lt_of_pos _ hm) ⟨[], s', c + 1, hh2, hg2, hne⟩ (f1.trans f2)
  | cons z r =>
    have e3 : ∀ (μ : Mu) (Q : PV), fInt [.int z] μ Q = Q (.int z) μ := fun _ _ => rfl
    have e4 : ∀ (μ : Mu) (Q : PV), fMax2 [.int 2, .int many] μ Q = Q (.int (if many > 2 then many else 2)) μ := fun _ _ => rfl
    simp only [List.map_cons, List.isEmpty_cons, Bool.not_false, if_true, ix μ g _ 0 _ _ hg (by decide) rfl, e3, e4, csSeq, csNil, csBreak, csCont, csExpr, csRet, csRetN, csIf, csAsg, csSet, csAug, csRaise, cVar, cCon, cNil, cCons, cTup, cLst, cOp, cTest, cTru, ctAnd, ctOr, ctNot, ctYes, cAnd, cOr, cNot, cIf, cChain, cSl, coNone, coSome, cCB, cM, cM0, cCall, cgName, cgNil, cgCons, cgTup, cgSub, cXf, fI, fI0, gA0, gAs, xeq_int, xeq_bl, xeq_str, xne_int, xne_bl, xne_str, xtru_bl, xtru_int, xtru_non, xtru_tup, xadd_int, List.set_cons_zero, List.set_cons_succ, List.set_nil, List.append_nil, List.nil_append, List.cons_append, wipeG, List.length_cons, List.length_nil, true_and, if_true, if_false, Bool.false_eq_true]
    refine ⟨hm, ⟨by split <;> omega, by split <;> omega⟩, ?_⟩
    rw [setL_of hg (by decide) (by simp)]
    generalize hq : z / (if many > 2 then many else 2) = q
    have hg1 : (μ.set g (.lst ((List.map CV.int (z :: r)).set (0 : Int).toNat (.int q))))[g]? = some (.lst ((q :: r).map CV.int)) := mu_set_self (mlt hg)
    have f1 : Fr [h, g] μ (μ.set g (.lst ((List.map CV.int (z :: r)).set (0 : Int).toNat (.int q)))) := Fr.set (by simp)
    have hh1 : (μ.set g (.lst ((List.map CV.int (z :: r)).set (0 : Int).toNat (.int q))))[h]? = some (.lst [.hnd g, .int s, .int c]) := by rw [mu_ne (Ne.symm hne)]; exact hh
    generalize μ.set g (.lst ((List.map CV.int (z :: r)).set (0 : Int).toNat (.int q))) = μ1 at hg1 f1 hh1
    simp only [ix μ1 g _ 0 _ _ hg1 (by decide) rfl, csSeq, csNil, csBreak, csCont, csExpr, csRet, csRetN, csIf, csAsg, csSet, csAug, csRaise, cVar, cCon, cNil, cCons, cTup, cLst, cOp, cTest, cTru, ctAnd, ctOr, ctNot, ctYes, cAnd, cOr, cNot, cIf, cChain, cSl, coNone, coSome, cCB, cM, cM0, cCall, cgName, cgNil, cgCons, cgTup, cgSub, cXf, fI, fI0, gA0, gAs, xeq_int, xeq_bl, xeq_str, xne_int, xne_bl, xne_str, xtru_bl, xtru_int, xtru_non, xtru_tup, xadd_int, List.set_cons_zero, List.set_cons_succ, List.set_nil, List.append_nil, List.nil_append, List.cons_append, wipeG, List.length_cons, List.length_nil, true_and, if_true, if_false, Bool.false_eq_true]
    by_cases e0 : q = 0
    · simp only [e0, decide_true, if_true]
      refine ⟨isL_of hg1, ?_⟩
      simp only [fPopAt, hg1]
      refine ⟨by decide, ?_⟩
      refine k _ _ (Int.emod_nonneg _ (by omega)) (Int.emod_lt_of_pos _ hm) ⟨r, s, c, ?_, mu_set_self (mlt hg1), hne⟩ (f1.trans (Fr.set (by simp)))
      rw [mu_ne (Ne.symm hne)]
      exact hh1
    · simp only [e0, decide_false, Bool.false_eq_true, if_false]
      exact k _ _ (Int.emod_nonneg _ (by omega)) (Int.emod_lt_of_pos _ hm) ⟨q :: r, s, c, hh1, hg1, hne⟩ f1

theorem Dw.set {μ μ' : Mu} {h g n : Nat} {o : CO} (d : Dw μ' h g) (h1 : h ≠ n) (h2 : g ≠ n) : Dw (μ'.set n o) h g := by
  obtain ⟨gs, s, c, a, b, e⟩ := d
  exact ⟨gs, s, c, mu_setne (μ := μ) a h1, mu_setne (μ := μ) b h2, e⟩
theorem pow_pos2 (k : Nat) : 0 < 2 ^ k := Nat.pow_pos (by decide)
theorem pow32 {k : Nat} (h : k < 6) : 2 ^ k ≤ 32 := by
  calc 2 ^ k ≤ 2 ^ 5 := Nat.pow_le_pow_right (by omega) (by omega)
    _ = 32 := rfl
theorem pure__law_table (xs : List CV) (μ : Mu) (P : PV) (E : PX) (h : sp__law_table xs μ P E) : c__law_table (startG N__law_table xs) μ (Dn P E) := by
  obtain ⟨h, g, rfl, hd, k⟩ := h
  have hz := big70
  have hlt := hd.lt
  show c__law_table [some (.hnd h), none, none, none, none, none, none, none, none] μ (Dn P E)
  unfold c__law_table
  -- size
  refine seq_cut (fun Γ' μ' => ∃ k, k < 6 ∧ Fr [h, g] μ μ' ∧ Dw μ' h g ∧ Γ' = [some (.hnd h), some (.int ((2 ^ k : Nat) : Int)), none, none, none, none, none, none, none]) (fun N hN => ?_) ?_
  · simp only [csSeq, csNil, csBreak, csCont, csExpr, csRet, csRetN, csIf, csAsg, csSet, csAug, csRaise, cVar, cCon, cNil, cCons, cTup, cLst, cOp, cTest, cTru, ctAnd, ctOr, ctNot, ctYes, cAnd, cOr, cNot, cIf, cChain, cSl, coNone, coSome, cCB, cM, cM0, cCall, cgName, cgNil, cgCons, cgTup, cgSub, cXf, fI, fI0, gA0, gAs, xeq_int, xeq_bl, xeq_str, xne_int, xne_bl, xne_str, xtru_bl, xtru_int, xtru_non, xtru_tup, xadd_int, List.set_cons_zero, List.set_cons_succ, List.set_nil, List.append_nil, List.nil_append, List.cons_append, wipeG, List.length_cons, List.length_nil, true_and, if_true, if_false, Bool.false_eq_true]
    refine ⟨h, g, 6, rfl, by decide, hd, fun r μ' h0 h6 d' f' => ?_⟩
    obtain ⟨q, rfl⟩ := Int.eq_ofNat_of_zero_le h0
    refine ⟨cpow1 (by omega), ?_⟩
    refine hN _ _ ⟨q, by omega, f', d', ?_⟩
    simp
  rintro _ μ1 ⟨q, hq, f1, d1, rfl⟩
  have hq32 := pow32 hq
  have hq0 := pow_pos2 q
  generalize hsz : 2 ^ q = size at hq32 hq0
  -- basis
  refine seq_cut (fun Γ' μ' => ∃ (n : Nat) (zs : List Int), Fr [h, g] μ μ' ∧ Dw μ' h g ∧ μ.length ≤ n ∧ zs.length ≤ 70 ∧ μ'[n]? = some (.lst (zs.map .int)) ∧ Γ' = [some (.hnd h), some (.int ((size : Nat) : Int)), some (.hnd n), none, none, none, none, none, none]) (fun N hN => ?_) ?_
  · simp only [csSeq, csNil, csBreak, csCont, csExpr, csRet, csRetN, csIf, csAsg, csSet, csAug, csRaise, cVar, cCon, cNil, cCons, cTup, cLst, cOp, cTest, cTru, ctAnd, ctOr, ctNot, ctYes, cAnd, cOr, cNot, cIf, cChain, cSl, coNone, coSome, cCB, cM, cM0, cCall, cgName, cgNil, cgCons, cgTup, cgSub, cXf, fI, fI0, gA0, gAs, xeq_int, xeq_bl, xeq_str, xne_int, xne_bl, xne_str, xtru_bl, xtru_int, xtru_non, xtru_tup, xadd_int, List.set_cons_zero, List.set_cons_succ, List.set_nil, List.append_nil, List.nil_append, List.cons_append, wipeG, List.length_cons, List.length_nil, true_and, if_true, if_false, Bool.false_eq_true, cLc, ciRange1]
    refine ⟨h, g, 5, rfl, by decide, d1, fun r μ' h0 h6 d' f' => ?_⟩
    obtain ⟨c, rfl⟩ := Int.eq_ofNat_of_zero_le h0
    have f1' := f1.trans f'
    have l1 := f1'.len
    refine go_rangeG (n := c) (μ := μ') [h, g] (fun μ2 => Dw μ2 h g) (fun i acc => ∃ zs : List Int, acc = zs.map .int) (by omega) (by simp; omega) (d'.fr Fr.push (S := []) (by simp) (by simp)) ?_ ⟨[], rfl⟩ ?_ ?_
    · intro μ2 acc d2 f2
      exact d2.set (μ := μ') (by have := d'.lt; omega) (by have := d'.lt; omega)
    · rintro i acc μ2 hi ⟨zs, rfl⟩ d2 f2 e2 Y N2 k1 k2
      simp only [csSeq, csNil, csBreak, csCont, csExpr, csRet, csRetN, csIf, csAsg, csSet, csAug, csRaise, cVar, cCon, cNil, cCons, cTup, cLst, cOp, cTest, cTru, ctAnd, ctOr, ctNot, ctYes, cAnd, cOr, cNot, cIf, cChain, cSl, coNone, coSome, cCB, cM, cM0, cCall, cgName, cgNil, cgCons, cgTup, cgSub, cXf, fI, fI0, gA0, gAs, xeq_int, xeq_bl, xeq_str, xne_int, xne_bl, xne_str, xtru_bl, xtru_int, xtru_non, xtru_tup, xadd_int, List.set_cons_zero, List.set_cons_succ, List.set_nil, List.append_nil, List.nil_append, List.cons_append, wipeG, List.length_cons, List.length_nil, true_and, if_true, if_false, Bool.false_eq_true]
      refine ⟨h, g, size, rfl, ⟨by omega, by omega⟩, d2, fun r μ3 _ _ d3 f3 => ?_⟩
      exact k1 _ _ ⟨zs ++ [r], by simp⟩ d3 f3
    · rintro acc μ2 ⟨zs, rfl⟩ hl d2 f2 e2
      exact hN _ _ ⟨μ'.length, zs, f1'.trans f2, d2, l1, by simp at hl; omega, e2, rfl⟩
  rintro _ μ2 ⟨nb, zs, f2, d2, hnb, hzs, hb, rfl⟩
  have hl2 := d2.lt
  -- answers
  refine seq_cut (fun Γ' μ' => ∃ (n : Nat) (bs : List Bool), Fr [h, g] μ μ' ∧ Dw μ' h g ∧ μ.length ≤ n ∧ bs.length = size ∧ μ'[n]? = some (.lst (bs.map .bl)) ∧ Γ' = [some (.hnd h), some (.int ((size : Nat) : Int)), some (.hnd nb), some (.hnd n), none, none, none, none, none]) (fun N hN => ?_) ?_
  · simp only [csSeq, csNil, csBreak, csCont, csExpr, csRet, csRetN, csIf, csAsg, csSet, csAug, csRaise, cVar, cCon, cNil, cCons, cTup, cLst, cOp, cTest, cTru, ctAnd, ctOr, ctNot, ctYes, cAnd, cOr, cNot, cIf, cChain, cSl, coNone, coSome, cCB, cM, cM0, cCall, cgName, cgNil, cgCons, cgTup, cgSub, cXf, fI, fI0, gA0, gAs, xeq_int, xeq_bl, xeq_str, xne_int, xne_bl, xne_str, xtru_bl, xtru_int, xtru_non, xtru_tup, xadd_int, List.set_cons_zero, List.set_cons_succ, List.set_nil, List.append_nil, List.nil_append, List.cons_append, wipeG, List.length_cons, List.length_nil, true_and, if_true, if_false, Bool.false_eq_true]
    refine lc_rangeG (n := size) (μ := μ2) [] (fun μ' => Dw μ' h g ∧ μ'[nb]? = some (.lst (zs.map .int))) (fun i acc => ∃ bs : List Bool, bs.length = i ∧ acc = bs.map .bl) (fun Q E q => q) (by omega) (by simp) ⟨d2.fr Fr.push (S := []) (by simp) (by simp), (Fr.push (S := [])).get0 hb⟩ ?_ ⟨[], rfl, rfl⟩ ?_ ?_
    · rintro μ3 acc ⟨d3, b3⟩ f3
      exact ⟨d3.set (μ := μ2) (by omega) (by omega), mu_setne (μ := μ2) b3 (by have := mlt hb; omega)⟩
    · rintro i acc μ3 hi ⟨bs, rfl, rfl⟩ ⟨d3, b3⟩ f3 e3 Y N2 k1 k2
      simp only [csSeq, csNil, csBreak, csCont, csExpr, csRet, csRetN, csIf, csAsg, csSet, csAug, csRaise, cVar, cCon, cNil, cCons, cTup, cLst, cOp, cTest, cTru, ctAnd, ctOr, ctNot, ctYes, cAnd, cOr, cNot, cIf, cChain, cSl, coNone, coSome, cCB, cM, cM0, cCall, cgName, cgNil, cgCons, cgTup, cgSub, cXf, fI, fI0, gA0, gAs, xeq_int, xeq_bl, xeq_str, xne_int, xne_bl, xne_str, xtru_bl, xtru_int, xtru_non, xtru_tup, xadd_int, List.set_cons_zero, List.set_cons_succ, List.set_nil, List.append_nil, List.nil_append, List.cons_append, wipeG, List.length_cons, List.length_nil, true_and, if_true, if_false, Bool.false_eq_true]
      refine lc_seq (x := .hnd nb) (l := zs.map .int) (fun y => match y with
        | .int j => some (.bl (decide (Builtin.bitAnd ((bs.length : Nat) : Int) j = j)))
        | _ => none) (fun Q E q => q) (items_hnd b3) (by simp; omega) ?_ ?_
      · intro j y acc hy Y2 N3 m1 m2
        rw [List.getElem?_map] at hy
        obtain ⟨z, hz', rfl⟩ := Option.map_eq_some_iff.mp hy
        simp only [csSeq, csNil, csBreak, csCont, csExpr, csRet, csRetN, csIf, csAsg, csSet, csAug, csRaise, cVar, cCon, cNil, cCons, cTup, cLst, cOp, cTest, cTru, ctAnd, ctOr, ctNot, ctYes, cAnd, cOr, cNot, cIf, cChain, cSl, coNone, coSome, cCB, cM, cM0, cCall, cgName, cgNil, cgCons, cgTup, cgSub, cXf, fI, fI0, gA0, gAs, xeq_int, xeq_bl, xeq_str, xne_int, xne_bl, xne_str, xtru_bl, xtru_int, xtru_non, xtru_tup, xadd_int, List.set_cons_zero, List.set_cons_succ, List.set_nil, List.append_nil, List.nil_append, List.cons_append, wipeG, List.length_cons, List.length_nil, true_and, if_true, if_false, Bool.false_eq_true]
        exact m1 _ rfl
      · have eb : (zs.map CV.int).filterMap (fun y => match y with
          | .int j => some (.bl (decide (Builtin.bitAnd ((bs.length : Nat) : Int) j = j)))
          | _ => none) = (zs.map fun j => decide (Builtin.bitAnd ((bs.length : Nat) : Int) j = j)).map CV.bl := by
          rw [List.filterMap_map, List.map_map, ← List.filterMap_eq_map]
          rfl
        rw [eb]
        rw [in_bls mu_top]
        exact k1 _ _ ⟨bs ++ [_], by simp, by rw [List.map_append]; rfl⟩ ⟨d3.fr Fr.push (S := []) (by simp) (by simp), (Fr.push (S := [])).get0 b3⟩ Fr.push
    · rintro acc μ3 ⟨bs, hbs, rfl⟩ _ ⟨d3, b3⟩ f3 e3
      exact hN _ _ ⟨μ2.length, bs, f2.trans f3.of0, d3, by have := f2.len; omega, hbs, e3, rfl⟩
  rintro _ μ3 ⟨n, bs, f3, d3, hn, hbs, ha, rfl⟩
  have hl3 := d3.lt
  -- way
  refine seq_cut (fun Γ' μ' => ∃ (bs : List Bool) (w : Int), Fr [h, g] μ μ' ∧ Dw μ' h g ∧ bs.length = size ∧ μ'[n]? = some (.lst (bs.map .bl)) ∧ Γ' = [some (.hnd h), some (.int ((size : Nat) : Int)), some (.hnd nb), some (.hnd n), some (.int w), none, none, none, none]) (fun N hN => ?_) ?_
  · simp only [csSeq, csNil, csBreak, csCont, csExpr, csRet, csRetN, csIf, csAsg, csSet, csAug, csRaise, cVar, cCon, cNil, cCons, cTup, cLst, cOp, cTest, cTru, ctAnd, ctOr, ctNot, ctYes, cAnd, cOr, cNot, cIf, cChain, cSl, coNone, coSome, cCB, cM, cM0, cCall, cgName, cgNil, cgCons, cgTup, cgSub, cXf, fI, fI0, gA0, gAs, xeq_int, xeq_bl, xeq_str, xne_int, xne_bl, xne_str, xtru_bl, xtru_int, xtru_non, xtru_tup, xadd_int, List.set_cons_zero, List.set_cons_succ, List.set_nil, List.append_nil, List.nil_append, List.cons_append, wipeG, List.length_cons, List.length_nil, true_and, if_true, if_false, Bool.false_eq_true]
    refine ⟨h, g, 7, rfl, by decide, d3, fun r μ' h0 h6 d' f' => ?_⟩
    exact hN _ _ ⟨bs, r, f3.trans f', d', hbs, f'.get ha (by simp; omega), rfl⟩
  clear hbs ha f3 d3 hl3
  rintro _ μ3 ⟨bs, w, f3, d3, hbs, ha, rfl⟩
  have hl3 := d3.lt
  -- way 0
  refine seq_cut (fun Γ' μ' => ∃ (bs : List Bool) (a : Option CV), Fr [h, g] μ μ' ∧ Dw μ' h g ∧ bs.length = size ∧ μ'[n]? = some (.lst (bs.map .bl)) ∧ Γ' = [some (.hnd h), some (.int ((size : Nat) : Int)), some (.hnd nb), some (.hnd n), some (.int w), a, none, none, none]) (fun N hN => ?_) ?_
  · simp only [csSeq, csNil, csBreak, csCont, csExpr, csRet, csRetN, csIf, csAsg, csSet, csAug, csRaise, cVar, cCon, cNil, cCons, cTup, cLst, cOp, cTest, cTru, ctAnd, ctOr, ctNot, ctYes, cAnd, cOr, cNot, cIf, cChain, cSl, coNone, coSome, cCB, cM, cM0, cCall, cgName, cgNil, cgCons, cgTup, cgSub, cXf, fI, fI0, gA0, gAs, xeq_int, xeq_bl, xeq_str, xne_int, xne_bl, xne_str, xtru_bl, xtru_int, xtru_non, xtru_tup, xadd_int, List.set_cons_zero, List.set_cons_succ, List.set_nil, List.append_nil, List.nil_append, List.cons_append, wipeG, List.length_cons, List.length_nil, true_and, if_true, if_false, Bool.false_eq_true]
    by_cases e : w = 0
    · simp only [e, decide_true, if_true]
      refine ⟨h, g, size, rfl, ⟨by omega, by omega⟩, d3, fun r μ' h0 h6 d' f' => ?_⟩
      obtain ⟨c, rfl⟩ := Int.eq_ofNat_of_zero_le h0
      have ha' := f'.get ha (by simp; omega)
      have hc : c < bs.length := by omega
      rw [ix_of (items_hnd ha') (at_get hc)]
      simp only [csSeq, csNil, csBreak, csCont, csExpr, csRet, csRetN, csIf, csAsg, csSet, csAug, csRaise, cVar, cCon, cNil, cCons, cTup, cLst, cOp, cTest, cTru, ctAnd, ctOr, ctNot, ctYes, cAnd, cOr, cNot, cIf, cChain, cSl, coNone, coSome, cCB, cM, cM0, cCall, cgName, cgNil, cgCons, cgTup, cgSub, cXf, fI, fI0, gA0, gAs, xeq_int, xeq_bl, xeq_str, xne_int, xne_bl, xne_str, xtru_bl, xtru_int, xtru_non, xtru_tup, xadd_int, List.set_cons_zero, List.set_cons_succ, List.set_nil, List.append_nil, List.nil_append, List.cons_append, wipeG, List.length_cons, List.length_nil, true_and, if_true, if_false, Bool.false_eq_true]
      rw [setL_of ha' (by omega) (by simp; omega)]
      refine hN _ _ ⟨bs.set c (!at_ bs c), _, ?_, d'.set (μ := μ) (by omega) (by omega), by simpa using hbs, ?_, by rw [e]⟩
      · exact (f3.trans f').setGe hn
      · rw [mu_set_self (mlt ha')]
        simp [List.map_set]
    · simp only [e, decide_false, Bool.false_eq_true, if_false]
      exact hN _ _ ⟨bs, _, f3, d3, hbs, ha, rfl⟩
  clear hbs ha f3 d3 hl3
  rintro _ μ3 ⟨bs, a, f3, d3, hbs, ha, rfl⟩
  have hl3 := d3.lt
  -- way 1
  refine seq_cut (fun Γ' μ' => ∃ (n : Nat) (bs : List Bool) (a : Option CV), Fr [h, g] μ μ' ∧ Dw μ' h g ∧ μ.length ≤ n ∧ bs.length = size ∧ μ'[n]? = some (.lst (bs.map .bl)) ∧ Γ' = [some (.hnd h), some (.int ((size : Nat) : Int)), some (.hnd nb), some (.hnd n), some (.int w), a, none, none, none]) (fun N hN => ?_) ?_
  · simp only [csSeq, csNil, csBreak, csCont, csExpr, csRet, csRetN, csIf, csAsg, csSet, csAug, csRaise, cVar, cCon, cNil, cCons, cTup, cLst, cOp, cTest, cTru, ctAnd, ctOr, ctNot, ctYes, cAnd, cOr, cNot, cIf, cChain, cSl, coNone, coSome, cCB, cM, cM0, cCall, cgName, cgNil, cgCons, cgTup, cgSub, cXf, fI, fI0, gA0, gAs, xeq_int, xeq_bl, xeq_str, xne_int, xne_bl, xne_str, xtru_bl, xtru_int, xtru_non, xtru_tup, xadd_int, List.set_cons_zero, List.set_cons_succ, List.set_nil, List.append_nil, List.nil_append, List.cons_append, wipeG, List.length_cons, List.length_nil, true_and, if_true, if_false, Bool.false_eq_true]
    by_cases e : w = 1
    · simp only [e, decide_true, if_true]
      have l1 := f3.len
      refine lc_rangeG (n := size) (μ := μ3) [h, g] (fun μ2 => Dw μ2 h g) (fun i acc => ∃ bs : List Bool, bs.length = i ∧ acc = bs.map .bl) (fun Q E q => q) (by omega) (by simp; omega) (d3.fr Fr.push (S := []) (by simp) (by simp)) ?_ ⟨[], rfl, rfl⟩ ?_ ?_
      · intro μ2 acc d2 f2
        exact d2.set (μ := μ) (by omega) (by omega)
      · rintro i acc μ2 hi ⟨bs, rfl, rfl⟩ d2 f2 e2 Y N2 k1 k2
        simp only [csSeq, csNil, csBreak, csCont, csExpr, csRet, csRetN, csIf, csAsg, csSet, csAug, csRaise, cVar, cCon, cNil, cCons, cTup, cLst, cOp, cTest, cTru, ctAnd, ctOr, ctNot, ctYes, cAnd, cOr, cNot, cIf, cChain, cSl, coNone, coSome, cCB, cM, cM0, cCall, cgName, cgNil, cgCons, cgTup, cgSub, cXf, fI, fI0, gA0, gAs, xeq_int, xeq_bl, xeq_str, xne_int, xne_bl, xne_str, xtru_bl, xtru_int, xtru_non, xtru_tup, xadd_int, List.set_cons_zero, List.set_cons_succ, List.set_nil, List.append_nil, List.nil_append, List.cons_append, wipeG, List.length_cons, List.length_nil, true_and, if_true, if_false, Bool.false_eq_true]
        refine ⟨h, g, 2, rfl, by decide, d2, fun r μ3 _ _ d3 f3 => ?_⟩
        exact k1 _ _ ⟨bs ++ [_], by simp, by rw [List.map_append]; rfl⟩ d3 f3
      · rintro acc μ2 ⟨bs, hbs, rfl⟩ hl d2 f2 e2
        exact hN _ _ ⟨μ3.length, bs, _, f3.trans f2, d2, l1, hbs, e2, by rw [e]⟩
    · simp only [e, decide_false, Bool.false_eq_true, if_false]
      exact hN _ _ ⟨n, bs, _, f3, d3, hn, hbs, ha, rfl⟩
  clear hbs ha f3 d3 hl3 hn
  rintro _ μ3 ⟨n, bs, a, f3, d3, hn, hbs, ha, rfl⟩
  have hl3 := d3.lt
  -- way 2
  refine seq_cut (fun Γ' μ' => ∃ (n : Nat) (bs : List Bool) (a : Option CV), Fr [h, g] μ μ' ∧ Dw μ' h g ∧ μ.length ≤ n ∧ bs.length ≤ 70 ∧ μ'[n]? = some (.lst (bs.map .bl)) ∧ Γ' = [some (.hnd h), some (.int ((size : Nat) : Int)), some (.hnd nb), some (.hnd n), some (.int w), a, none, none, none]) (fun N hN => ?_) ?_
  · simp only [csSeq, csNil, csBreak, csCont, csExpr, csRet, csRetN, csIf, csAsg, csSet, csAug, csRaise, cVar, cCon, cNil, cCons, cTup, cLst, cOp, cTest, cTru, ctAnd, ctOr, ctNot, ctYes, cAnd, cOr, cNot, cIf, cChain, cSl, coNone, coSome, cCB, cM, cM0, cCall, cgName, cgNil, cgCons, cgTup, cgSub, cXf, fI, fI0, gA0, gAs, xeq_int, xeq_bl, xeq_str, xne_int, xne_bl, xne_str, xtru_bl, xtru_int, xtru_non, xtru_tup, xadd_int, List.set_cons_zero, List.set_cons_succ, List.set_nil, List.append_nil, List.nil_append, List.cons_append, wipeG, List.length_cons, List.length_nil, true_and, if_true, if_false, Bool.false_eq_true, cLc, ciRange1]
    by_cases e : w = 2
    · simp only [e, decide_true, if_true]
      refine ⟨h, g, 71, rfl, by decide, d3, fun r μ' h0 h6 d' f' => ?_⟩
      obtain ⟨c, rfl⟩ := Int.eq_ofNat_of_zero_le h0
      have f1' := f3.trans f'
      have l1 := f1'.len
      have ha' := f'.get ha (by simp; omega)
      refine go_rangeG (n := c) (μ := μ') [] (fun μ2 => Dw μ2 h g ∧ μ2[n]? = some (.lst (bs.map .bl))) (fun i acc => ∃ bs : List Bool, bs.length = i ∧ acc = bs.map .bl) (by omega) (by simp) ⟨d'.fr Fr.push (S := []) (by simp) (by simp), (Fr.push (S := [])).get0 ha'⟩ ?_ ⟨[], rfl, rfl⟩ ?_ ?_
      · rintro μ2 acc ⟨d2, a2⟩ f2
        exact ⟨d2.set (μ := μ) (by have := d'.lt; omega) (by have := d'.lt; omega), mu_setne (μ := μ) a2 (by have := mlt ha'; omega)⟩
      · rintro i acc μ2 hi ⟨bs2, rfl, rfl⟩ ⟨d2, a2⟩ f2 e2 Y N2 k1 k2
        simp only [csSeq, csNil, csBreak, csCont, csExpr, csRet, csRetN, csIf, csAsg, csSet, csAug, csRaise, cVar, cCon, cNil, cCons, cTup, cLst, cOp, cTest, cTru, ctAnd, ctOr, ctNot, ctYes, cAnd, cOr, cNot, cIf, cChain, cSl, coNone, coSome, cCB, cM, cM0, cCall, cgName, cgNil, cgCons, cgTup, cgSub, cXf, fI, fI0, gA0, gAs, xeq_int, xeq_bl, xeq_str, xne_int, xne_bl, xne_str, xtru_bl, xtru_int, xtru_non, xtru_tup, xadd_int, List.set_cons_zero, List.set_cons_succ, List.set_nil, List.append_nil, List.nil_append, List.cons_append, wipeG, List.length_cons, List.length_nil, true_and, if_true, if_false, Bool.false_eq_true]
        refine ⟨by omega, ?_⟩
        have em : ((bs2.length : Nat) : Int) % ((size : Nat) : Int) = ((bs2.length % size : Nat) : Int) := rfl
        have hm : bs2.length % size < bs.length := by rw [hbs]; exact Nat.mod_lt _ hq0
        rw [em, ix_of (items_hnd a2) (at_get hm)]
        exact k1 _ _ ⟨bs2 ++ [_], by simp, by rw [List.map_append]; rfl⟩ ⟨d2, a2⟩ Fr.refl
      · rintro acc μ2 ⟨bs2, hbs2, rfl⟩ hl ⟨d2, a2⟩ f2 e2
        exact hN _ _ ⟨μ'.length, bs2, _, f1'.trans f2.of0, d2, l1, by omega, e2, by rw [e]⟩
    · simp only [e, decide_false, Bool.false_eq_true, if_false]
      exact hN _ _ ⟨n, bs, _, f3, d3, hn, by omega, ha, rfl⟩
  rintro _ μ4 ⟨n, bs, a, f4, d4, hn, hbs, ha, rfl⟩
  simp only [csSeq, csNil, csBreak, csCont, csExpr, csRet, csRetN, csIf, csAsg, csSet, csAug, csRaise, cVar, cCon, cNil, cCons, cTup, cLst, cOp, cTest, cTru, ctAnd, ctOr, ctNot, ctYes, cAnd, cOr, cNot, cIf, cChain, cSl, coNone, coSome, cCB, cM, cM0, cCall, cgName, cgNil, cgCons, cgTup, cgSub, cXf, fI, fI0, gA0, gAs, xeq_int, xeq_bl, xeq_str, xne_int, xne_bl, xne_str, xtru_bl, xtru_int, xtru_non, xtru_tup, xadd_int, List.set_cons_zero, List.set_cons_succ, List.set_nil, List.append_nil, List.nil_append, List.cons_append, wipeG, List.length_cons, List.length_nil, true_and, if_true, if_false, Bool.false_eq_true]
  exact k n bs μ4 f4 d4 hn ha hbs
end K59
namespace K59
open PySem PySem.Spec PyProof.Rows L2 Cl
theorem band_nat (a b : Nat) : Builtin.bitAnd (a : Int) (b : Int) = ((a &&& b : Nat) : Int) := by simp [Builtin.bitAnd]
theorem band_eq (a b c : Nat) : decide (Builtin.bitAnd (a : Int) (b : Int) = (c : Int)) = decide (a &&& b = c) := by
  rw [band_nat, decide_eq_decide]
  exact Int.ofNat_inj
theorem things_none {n : Nat} (h : thingsOf n = none) : ([1, 2, 4, 8, 16, 32] : List Int).any (· == (n : Int)) = false := by
  unfold thingsOf at h
  by_cases e1 : n = 1
  · simp [e1] at h
  by_cases e2 : n = 2
  · simp [e2] at h
  by_cases e4 : n = 4
  · simp [e4] at h
  by_cases e8 : n = 8
  · simp [e8] at h
  by_cases e16 : n = 16
  · simp [e16] at h
  by_cases e32 : n = 32
  · simp [e32] at h
  simp
  omega
theorem things_yes {n m : Nat} (h : thingsOf n = some m) : ([1, 2, 4, 8, 16, 32] : List Int).any (· == (n : Int)) = true := by
  unfold thingsOf at h
  repeat (split at h; · subst_vars; decide)
  cases h
theorem pure__law_refusal (xs : List CV) (μ : Mu) (P : PV) (E : PX) (h : sp__law_refusal xs μ P E) : c__law_refusal (startG N__law_refusal xs) μ (Dn P E) := by
  obtain ⟨x, bs, rfl, hr, h1, h2, h3⟩ := h
  show c__law_refusal [some x, none, none, none, none] μ (Dn P E)
  have hl : ∀ (Q : PV), fLen [x] μ Q = Q (.int (bs.length : Nat)) μ := fun Q => by rw [len_of hr, List.length_map]
  have hi : ∀ Q : PV, fNotIn (.int ((bs.length : Nat) : Int)) (.tup [.int 1, .int 2, .int 4, .int 8, .int 16, .int 32]) μ Q = Q (.bl (!(([1, 2, 4, 8, 16, 32] : List Int).any (· == ((bs.length : Nat) : Int))))) μ := fun Q => notin_tupI (ns := [1, 2, 4, 8, 16, 32])
  simp only [c__law_refusal, csSeq, csNil, csBreak, csCont, csExpr, csRet, csRetN, csIf, csAsg, csSet, csAug, csRaise, cVar, cCon, cNil, cCons, cTup, cLst, cOp, cTest, cTru, ctAnd, ctOr, ctNot, ctYes, cAnd, cOr, cNot, cIf, cChain, cSl, coNone, coSome, cCB, cM, cM0, cCall, cgName, cgNil, cgCons, cgTup, cgSub, cXf, fI, fI0, gA0, gAs, xeq_int, xeq_bl, xeq_str, xne_int, xne_bl, xne_str, xtru_bl, xtru_int, xtru_non, xtru_tup, xadd_int, List.set_cons_zero, List.set_cons_succ, List.set_nil, List.append_nil, List.nil_append, List.cons_append, wipeG, List.length_cons, List.length_nil, true_and, if_true, if_false, Bool.false_eq_true, hl, hi]
  refine ⟨by decide, ?_⟩
  cases hm : thingsOf bs.length with
  | none =>
    rw [things_none hm]
    simp only [Bool.not_false, if_true]
    exact h3 hm
  | some m =>
    rw [things_yes hm]
    simp only [Bool.not_true, if_false, Bool.false_eq_true]
    obtain ⟨hn, hm5⟩ := things_some hm
    refine for_enum (k := 0) (x := x) (l := bs.map CV.bl) rfl (fun i Γ μ' => μ' = μ ∧ (∃ a b c d, Γ = [some x, a, b, c, d]) ∧ ∀ lot, lot < i → ∀ other, other < bs.length → lot &&& other = lot → at_ bs lot = true → at_ bs other = true) ?_ ?_ ?_ ?_
    · exact ⟨rfl, ⟨_, _, _, _, rfl⟩, fun lot hl => absurd hl (Nat.not_lt_zero _)⟩
    · rintro i Γ' μ' ⟨rfl, _⟩
      exact hr
    · rintro i y Γ μ' hy ⟨rfl, ⟨a, b, c, d, rfl⟩, hI⟩ N hN
      obtain ⟨hib, rfl⟩ := at_get2 hy
      simp only [csSeq, csNil, csBreak, csCont, csExpr, csRet, csRetN, csIf, csAsg, csSet, csAug, csRaise, cVar, cCon, cNil, cCons, cTup, cLst, cOp, cTest, cTru, ctAnd, ctOr, ctNot, ctYes, cAnd, cOr, cNot, cIf, cChain, cSl, coNone, coSome, cCB, cM, cM0, cCall, cgName, cgNil, cgCons, cgTup, cgSub, cXf, fI, fI0, gA0, gAs, xeq_int, xeq_bl, xeq_str, xne_int, xne_bl, xne_str, xtru_bl, xtru_int, xtru_non, xtru_tup, xadd_int, List.set_cons_zero, List.set_cons_succ, List.set_nil, List.append_nil, List.nil_append, List.cons_append, wipeG, List.length_cons, List.length_nil, true_and, if_true, if_false, Bool.false_eq_true]
      refine for_enum (k := 0) (x := x) (l := bs.map CV.bl) rfl (fun j Γ μ'' => μ'' = μ' ∧ (∃ c d, Γ = [some x, some (.int (i : Nat)), some (.bl (at_ bs i)), c, d]) ∧ ∀ other, other < j → i &&& other = i → at_ bs i = true → at_ bs other = true) ?_ ?_ ?_ ?_
      · exact ⟨rfl, ⟨_, _, rfl⟩, fun lot hl => absurd hl (Nat.not_lt_zero _)⟩
      · rintro j Γ' μ'' ⟨rfl, _⟩
        exact hr
      · rintro j y Γ μ'' hy ⟨rfl, ⟨c, d, rfl⟩, hJ⟩ N2 hN2
        obtain ⟨hjb, rfl⟩ := at_get2 hy
        simp only [csSeq, csNil, csBreak, csCont, csExpr, csRet, csRetN, csIf, csAsg, csSet, csAug, csRaise, cVar, cCon, cNil, cCons, cTup, cLst, cOp, cTest, cTru, ctAnd, ctOr, ctNot, ctYes, cAnd, cOr, cNot, cIf, cChain, cSl, coNone, coSome, cCB, cM, cM0, cCall, cgName, cgNil, cgCons, cgTup, cgSub, cXf, fI, fI0, gA0, gAs, xeq_int, xeq_bl, xeq_str, xne_int, xne_bl, xne_str, xtru_bl, xtru_int, xtru_non, xtru_tup, xadd_int, List.set_cons_zero, List.set_cons_succ, List.set_nil, List.append_nil, List.nil_append, List.cons_append, wipeG, List.length_cons, List.length_nil, true_and, if_true, if_false, Bool.false_eq_true, band_eq]
        have go : (i &&& j = i → at_ bs i = true → at_ bs j = true) → N2 [some x, some (.int (i : Nat)), some (.bl (at_ bs i)), some (.int (j : Nat)), some (.bl (at_ bs j))] μ'' := fun z => hN2 _ _ ⟨rfl, ⟨_, _, rfl⟩, fun o ho e1 e2 => by
          rcases Nat.lt_succ_iff_lt_or_eq.mp ho with q | q
          · exact hJ o q e1 e2
          · subst q; exact z e1 e2⟩
        by_cases e1 : i &&& j = i
        · simp only [e1, decide_true, if_true]
          cases e2 : at_ bs i with
          | false =>
            simp only [Bool.false_eq_true, if_false]
            rw [e2] at go
            exact go fun _ z => by cases z
          | true =>
            simp only [if_true]
            cases e3 : at_ bs j with
            | true =>
              simp only [Bool.not_true, Bool.false_eq_true, if_false]
              rw [e2, e3] at go
              exact go fun _ _ => rfl
            | false =>
              simp only [Bool.not_false, if_true]
              refine h2 m hm fun z => ?_
              rw [rises_iff hn] at z
              rw [z i hib j hjb e1 e2] at e3
              cases e3
        · simp only [e1, decide_false, Bool.false_eq_true, if_false]
          exact go fun z => absurd z e1
      · rintro Γ μ'' ⟨rfl, ⟨c, d, rfl⟩, hJ⟩
        refine hN _ _ ⟨rfl, ⟨_, _, _, _, rfl⟩, fun lot hlot other ho e1 e2 => ?_⟩
        rcases Nat.lt_succ_iff_lt_or_eq.mp hlot with q | q
        · exact hI lot q other ho e1 e2
        · subst q; exact hJ other (by rw [List.length_map]; exact ho) e1 e2
    · rintro Γ μ' ⟨rfl, ⟨a, b, c, d, rfl⟩, hI⟩
      simp only [csSeq, csNil, csBreak, csCont, csExpr, csRet, csRetN, csIf, csAsg, csSet, csAug, csRaise, cVar, cCon, cNil, cCons, cTup, cLst, cOp, cTest, cTru, ctAnd, ctOr, ctNot, ctYes, cAnd, cOr, cNot, cIf, cChain, cSl, coNone, coSome, cCB, cM, cM0, cCall, cgName, cgNil, cgCons, cgTup, cgSub, cXf, fI, fI0, gA0, gAs, xeq_int, xeq_bl, xeq_str, xne_int, xne_bl, xne_str, xtru_bl, xtru_int, xtru_non, xtru_tup, xadd_int, List.set_cons_zero, List.set_cons_succ, List.set_nil, List.append_nil, List.nil_append, List.cons_append, wipeG, List.length_cons, List.length_nil, true_and, if_true, if_false, Bool.false_eq_true]
      refine h1 m hm ((rises_iff hn).mpr fun lot hlot other ho e1 e2 => hI lot (by rw [List.length_map]; exact hlot) other ho e1 e2)
/-- the law's own lots -/
def inr (w : Bool) (lot other : Nat) : Nat := if w = true then other else lot
def alB (bs : List Bool) (w : Bool) (lot j : Nat) : Bool := decide (at_ bs lot = w) && (List.range j).all fun other => !(!decide (other = lot) && (decide (inr w lot other &&& inr w other lot = inr w lot other) && decide (at_ bs other = w)))
theorem alB_succ {bs : List Bool} {w : Bool} {lot j : Nat} : alB bs w lot (j + 1) = (alB bs w lot j && !(!decide (j = lot) && (decide (inr w lot j &&& inr w j lot = inr w lot j) && decide (at_ bs j = w)))) := by
  unfold alB
  rw [List.range_succ, List.all_append, Bool.and_assoc]
  simp
theorem alB_ok {bs : List Bool} {w : Bool} {m lot : Nat} (hl : bs.length = 2 ^ m) (hr : Rises bs m) (h : lot < 2 ^ m) : alB bs w lot bs.length = if w = true then pL bs m lot else pG bs m lot := by
  rw [Bool.eq_iff_iff]
  cases w with
  | true =>
    simp only [if_true]
    rw [pL_iff hl hr h, hl]
    simp [alB, inr]
    refine fun _ => forall_congr' fun o => forall_congr' fun _ => ?_
    by_cases e : o = lot
    · simp [e]
    · simp [e]
      exact Decidable.imp_iff_not_or.symm
  | false =>
    simp only [if_false, Bool.false_eq_true]
    rw [pG_iff hl hr h, hl]
    simp [alB, inr]
    refine fun _ => forall_congr' fun o => forall_congr' fun _ => ?_
    by_cases e : o = lot
    · simp [e]
    · simp [e]
      exact Decidable.imp_iff_not_or.symm
theorem pure__law_lots (xs : List CV) (μ : Mu) (P : PV) (E : PX) (h : sp__law_lots xs μ P E) : c__law_lots (startG N__law_lots xs) μ (Dn P E) := by
  obtain ⟨x, bs, w, m, rfl, hr, hm, hri, k⟩ := h
  obtain ⟨hn, hm5⟩ := things_some hm
  have hb32 : bs.length ≤ 32 := by rw [hn]; exact p32 hm5
  show c__law_lots [some x, some (.bl w), none, none, none, none, none, none, none, none] μ (Dn P E)
  simp only [c__law_lots, csSeq, csNil, csBreak, csCont, csExpr, csRet, csRetN, csIf, csAsg, csSet, csAug, csRaise, cVar, cCon, cNil, cCons, cTup, cLst, cOp, cTest, cTru, ctAnd, ctOr, ctNot, ctYes, cAnd, cOr, cNot, cIf, cChain, cSl, coNone, coSome, cCB, cM, cM0, cCall, cgName, cgNil, cgCons, cgTup, cgSub, cXf, fI, fI0, gA0, gAs, xeq_int, xeq_bl, xeq_str, xne_int, xne_bl, xne_str, xtru_bl, xtru_int, xtru_non, xtru_tup, xadd_int, List.set_cons_zero, List.set_cons_succ, List.set_nil, List.append_nil, List.nil_append, List.cons_append, wipeG, List.length_cons, List.length_nil, true_and, if_true, if_false, Bool.false_eq_true]
  refine ⟨Nat.zero_le _, ?_⟩
  refine for_enum (k := 0) (x := x) (l := bs.map CV.bl) rfl (fun i Γ μ' => Fr [] μ μ' ∧ μ'[μ.length]? = some (.lst (nats ((List.range i).filter fun lot => alB bs w lot bs.length))) ∧ (∃ a b c d e f g, Γ = [some x, some (.bl w), some (.hnd μ.length), a, b, c, d, e, f, g])) ?_ ?_ ?_ ?_
  · exact ⟨Fr.push, mu_top, ⟨_, _, _, _, _, _, _, rfl⟩⟩
  · rintro i Γ' μ' ⟨f, _⟩
    exact items_fr f hr
  · rintro i y Γ μ' hy ⟨f, hF, ⟨a, b, c, d, e, f', g, rfl⟩⟩ N hN
    obtain ⟨hi, rfl⟩ := at_get2 hy
    simp only [csSeq, csNil, csBreak, csCont, csExpr, csRet, csRetN, csIf, csAsg, csSet, csAug, csRaise, cVar, cCon, cNil, cCons, cTup, cLst, cOp, cTest, cTru, ctAnd, ctOr, ctNot, ctYes, cAnd, cOr, cNot, cIf, cChain, cSl, coNone, coSome, cCB, cM, cM0, cCall, cgName, cgNil, cgCons, cgTup, cgSub, cXf, fI, fI0, gA0, gAs, xeq_int, xeq_bl, xeq_str, xne_int, xne_bl, xne_str, xtru_bl, xtru_int, xtru_non, xtru_tup, xadd_int, List.set_cons_zero, List.set_cons_succ, List.set_nil, List.append_nil, List.nil_append, List.cons_append, wipeG, List.length_cons, List.length_nil, true_and, if_true, if_false, Bool.false_eq_true]
    refine for_enum (k := 0) (x := x) (l := bs.map CV.bl) rfl (fun j Γ μ'' => μ'' = μ' ∧ (∃ d e f g, Γ = [some x, some (.bl w), some (.hnd μ.length), some (.int (i : Nat)), some (.bl (at_ bs i)), some (.bl (alB bs w i j)), d, e, f, g])) ?_ ?_ ?_ ?_
    · exact ⟨rfl, ⟨d, e, f', g, by simp [alB]⟩⟩
    · rintro j Γ' μ'' ⟨rfl, _⟩
      exact items_fr f hr
    · rintro j y Γ μ'' hy ⟨rfl, ⟨d, e, f2, g, rfl⟩⟩ N2 hN2
      obtain ⟨hjb, rfl⟩ := at_get2 hy
      have ei : (if w = true then ((j : Nat) : Int) else ((i : Nat) : Int)) = ((inr w i j : Nat) : Int) := by unfold inr; cases w <;> rfl
      have eo : (if w = true then ((i : Nat) : Int) else ((j : Nat) : Int)) = ((inr w j i : Nat) : Int) := by unfold inr; cases w <;> rfl
      have e0 : decide (((j : Nat) : Int) = ((i : Nat) : Int)) = decide (j = i) := by rw [decide_eq_decide]; exact Int.ofNat_inj
      have go : ∀ (z : Bool) (d e f g), z = alB bs w i (j + 1) → N2 [some x, some (.bl w), some (.hnd μ.length), some (.int (i : Nat)), some (.bl (at_ bs i)), some (.bl z), d, e, f, g] μ'' := fun z d e f g hz => hN2 _ _ ⟨rfl, d, e, f, g, by rw [hz]⟩
      have s1 := alB_succ (bs := bs) (w := w) (lot := i) (j := j)
      cases w with
      | true =>
        simp only [csSeq, csNil, csBreak, csCont, csExpr, csRet, csRetN, csIf, csAsg, csSet, csAug, csRaise, cVar, cCon, cNil, cCons, cTup, cLst, cOp, cTest, cTru, ctAnd, ctOr, ctNot, ctYes, cAnd, cOr, cNot, cIf, cChain, cSl, coNone, coSome, cCB, cM, cM0, cCall, cgName, cgNil, cgCons, cgTup, cgSub, cXf, fI, fI0, gA0, gAs, xeq_int, xeq_bl, xeq_str, xne_int, xne_bl, xne_str, xtru_bl, xtru_int, xtru_non, xtru_tup, xadd_int, List.set_cons_zero, List.set_cons_succ, List.set_nil, List.append_nil, List.nil_append, List.cons_append, wipeG, List.length_cons, List.length_nil, true_and, if_true, if_false, Bool.false_eq_true, band_eq, e0]
        by_cases q1 : j = i
        · simp only [q1, decide_true, Bool.not_true, Bool.false_eq_true, if_false]
          subst q1
          exact go _ _ _ _ _ (by rw [s1]; simp)
        · simp only [q1, decide_false, Bool.not_false, if_true]
          by_cases q2 : j &&& i = j
          · simp only [q2, decide_true, if_true]
            cases q3 : at_ bs j with
            | true => simp only [decide_true, if_true]; exact go _ _ _ _ _ (by rw [s1]; simp [q1, q2, q3, inr])
            | false => simp only [Bool.false_eq_true, decide_false, if_false]; exact go _ _ _ _ _ (by rw [s1]; simp [q1, q2, q3, inr])
          · simp only [q2, decide_false, Bool.false_eq_true, if_false]
            exact go _ _ _ _ _ (by rw [s1]; simp [q1, q2, inr])
      | false =>
        simp only [csSeq, csNil, csBreak, csCont, csExpr, csRet, csRetN, csIf, csAsg, csSet, csAug, csRaise, cVar, cCon, cNil, cCons, cTup, cLst, cOp, cTest, cTru, ctAnd, ctOr, ctNot, ctYes, cAnd, cOr, cNot, cIf, cChain, cSl, coNone, coSome, cCB, cM, cM0, cCall, cgName, cgNil, cgCons, cgTup, cgSub, cXf, fI, fI0, gA0, gAs, xeq_int, xeq_bl, xeq_str, xne_int, xne_bl, xne_str, xtru_bl, xtru_int, xtru_non, xtru_tup, xadd_int, List.set_cons_zero, List.set_cons_succ, List.set_nil, List.append_nil, List.nil_append, List.cons_append, wipeG, List.length_cons, List.length_nil, true_and, if_true, if_false, Bool.false_eq_true, band_eq, e0]
        by_cases q1 : j = i
        · simp only [q1, decide_true, Bool.not_true, Bool.false_eq_true, if_false]
          subst q1
          exact go _ _ _ _ _ (by rw [s1]; simp)
        · simp only [q1, decide_false, Bool.not_false, if_true]
          by_cases q2 : i &&& j = i
          · simp only [q2, decide_true, if_true]
            cases q3 : at_ bs j with
            | false => simp only [decide_true, if_true]; exact go _ _ _ _ _ (by rw [s1]; simp [q1, q2, q3, inr])
            | true => simp only [Bool.true_eq_false, decide_false, Bool.false_eq_true, if_false]; exact go _ _ _ _ _ (by rw [s1]; simp [q1, q2, q3, inr])
          · simp only [q2, decide_false, Bool.false_eq_true, if_false]
            exact go _ _ _ _ _ (by rw [s1]; simp [q1, q2, inr])
    · rintro Γ μ'' ⟨rfl, ⟨d, e, f2, g, rfl⟩⟩
      rw [List.length_map]
      simp only [csSeq, csNil, csBreak, csCont, csExpr, csRet, csRetN, csIf, csAsg, csSet, csAug, csRaise, cVar, cCon, cNil, cCons, cTup, cLst, cOp, cTest, cTru, ctAnd, ctOr, ctNot, ctYes, cAnd, cOr, cNot, cIf, cChain, cSl, coNone, coSome, cCB, cM, cM0, cCall, cgName, cgNil, cgCons, cgTup, cgSub, cXf, fI, fI0, gA0, gAs, xeq_int, xeq_bl, xeq_str, xne_int, xne_bl, xne_str, xtru_bl, xtru_int, xtru_non, xtru_tup, xadd_int, List.set_cons_zero, List.set_cons_succ, List.set_nil, List.append_nil, List.nil_append, List.cons_append, wipeG, List.length_cons, List.length_nil, true_and, if_true, if_false, Bool.false_eq_true]
      cases q : alB bs w i bs.length with
      | false =>
        simp only [Bool.false_eq_true, if_false]
        refine hN _ _ ⟨f, ?_, ⟨_, _, _, _, _, _, _, rfl⟩⟩
        rw [hF, filter_succ]
        simp [q]
      | true =>
        simp only [if_true]
        refine app_of hF (by rw [nats_len]; have := filter_len (fun lot => alB bs w lot bs.length) i; have := big70; omega) ?_
        refine hN _ _ ⟨f.setTop, ?_, ⟨_, _, _, _, _, _, _, rfl⟩⟩
        rw [mu_set_self (mlt hF), filter_succ, nats_app]
        simp [q, nats]
  · rintro Γ μ' ⟨f, hF, ⟨a, b, c, d, e, f', g, rfl⟩⟩
    simp only [csSeq, csNil, csBreak, csCont, csExpr, csRet, csRetN, csIf, csAsg, csSet, csAug, csRaise, cVar, cCon, cNil, cCons, cTup, cLst, cOp, cTest, cTru, ctAnd, ctOr, ctNot, ctYes, cAnd, cOr, cNot, cIf, cChain, cSl, coNone, coSome, cCB, cM, cM0, cCall, cgName, cgNil, cgCons, cgTup, cgSub, cXf, fI, fI0, gA0, gAs, xeq_int, xeq_bl, xeq_str, xne_int, xne_bl, xne_str, xtru_bl, xtru_int, xtru_non, xtru_tup, xadd_int, List.set_cons_zero, List.set_cons_succ, List.set_nil, List.append_nil, List.nil_append, List.cons_append, wipeG, List.length_cons, List.length_nil, true_and, if_true, if_false, Bool.false_eq_true]
    rw [tuple_of (items_hnd hF), List.length_map]
    have e : (List.range bs.length).filter (fun lot => alB bs w lot bs.length) = if w = true then leastOf bs m else greatestOf bs m := by
      have e2 : (List.range bs.length).filter (fun lot => alB bs w lot bs.length) = (List.range bs.length).filter fun lot => if w = true then pL bs m lot else pG bs m lot :=
        List.filter_congr fun lot hlot => by
          rw [alB_ok hn hri (by rw [← hn]; exact List.mem_range.mp hlot)]
      rw [e2]
      cases w <;> rfl
    rw [e]
    exact k μ' f
end K59
namespace K59
open PySem PySem.Spec PyProof.Rows L2 Cl
theorem look_r {v : CV} : List.lookup ("reason" : Str) [(("reason" : Str), v)] = some v := by
  simp only [List.lookup, beq_self_eq_true]
theorem pure__law_least_told (xs : List CV) (μ : Mu) (P : PV) (E : PX) (h : sp__law_least_told xs μ P E) : c__law_least_told (startG N__law_least_told xs) μ (Dn P E) := by
  obtain ⟨x, bs, rfl, hr, h1, h2, h3⟩ := h
  show c__law_least_told [some x, none] μ (Dn P E)
  simp only [c__law_least_told, csTryAs, csSeq, csNil, csBreak, csCont, csExpr, csRet, csRetN, csIf, csAsg, csSet, csAug, csRaise, cVar, cCon, cNil, cCons, cTup, cLst, cOp, cTest, cTru, ctAnd, ctOr, ctNot, ctYes, cAnd, cOr, cNot, cIf, cChain, cSl, coNone, coSome, cCB, cM, cM0, cCall, cgName, cgNil, cgCons, cgTup, cgSub, cXf, fI, fI0, gA0, gAs, xeq_int, xeq_bl, xeq_str, xne_int, xne_bl, xne_str, xtru_bl, xtru_int, xtru_non, xtru_tup, xadd_int, List.set_cons_zero, List.set_cons_succ, List.set_nil, List.append_nil, List.nil_append, List.cons_append, wipeG, List.length_cons, List.length_nil, true_and, if_true, if_false, Bool.false_eq_true]
  refine ⟨x, bs, rfl, hr, fun m hm hri μ' f => ⟨by decide, h1 m hm hri μ' f⟩, fun m hm hn => ?_, fun hn => ?_⟩
  · simp only [exAs, faX, mt_Refused, csSeq, csNil, csBreak, csCont, csExpr, csRet, csRetN, csIf, csAsg, csSet, csAug, csRaise, cVar, cCon, cNil, cCons, cTup, cLst, cOp, cTest, cTru, ctAnd, ctOr, ctNot, ctYes, cAnd, cOr, cNot, cIf, cChain, cSl, coNone, coSome, cCB, cM, cM0, cCall, cgName, cgNil, cgCons, cgTup, cgSub, cXf, fI, fI0, gA0, gAs, xeq_int, xeq_bl, xeq_str, xne_int, xne_bl, xne_str, xtru_bl, xtru_int, xtru_non, xtru_tup, xadd_int, List.set_cons_zero, List.set_cons_succ, List.set_nil, List.append_nil, List.nil_append, List.cons_append, wipeG, List.length_cons, List.length_nil, true_and, if_true, if_false, Bool.false_eq_true, look_r, fIsX]
    exact fun a d => ⟨by decide, by decide, by decide, h2 m hm hn⟩
  · simp only [exAs, szX, mt_Refused, csSeq, csNil, csBreak, csCont, csExpr, csRet, csRetN, csIf, csAsg, csSet, csAug, csRaise, cVar, cCon, cNil, cCons, cTup, cLst, cOp, cTest, cTru, ctAnd, ctOr, ctNot, ctYes, cAnd, cOr, cNot, cIf, cChain, cSl, coNone, coSome, cCB, cM, cM0, cCall, cgName, cgNil, cgCons, cgTup, cgSub, cXf, fI, fI0, gA0, gAs, xeq_int, xeq_bl, xeq_str, xne_int, xne_bl, xne_str, xtru_bl, xtru_int, xtru_non, xtru_tup, xadd_int, List.set_cons_zero, List.set_cons_succ, List.set_nil, List.append_nil, List.nil_append, List.cons_append, wipeG, List.length_cons, List.length_nil, true_and, if_true, if_false, Bool.false_eq_true, look_r, fIsX]
    exact fun a d => ⟨by decide, by decide, by decide, h3 hn⟩
theorem pure__law_greatest_told (xs : List CV) (μ : Mu) (P : PV) (E : PX) (h : sp__law_greatest_told xs μ P E) : c__law_greatest_told (startG N__law_greatest_told xs) μ (Dn P E) := by
  obtain ⟨x, bs, rfl, hr, h1, h2, h3⟩ := h
  show c__law_greatest_told [some x, none] μ (Dn P E)
  simp only [c__law_greatest_told, csTryAs, csSeq, csNil, csBreak, csCont, csExpr, csRet, csRetN, csIf, csAsg, csSet, csAug, csRaise, cVar, cCon, cNil, cCons, cTup, cLst, cOp, cTest, cTru, ctAnd, ctOr, ctNot, ctYes, cAnd, cOr, cNot, cIf, cChain, cSl, coNone, coSome, cCB, cM, cM0, cCall, cgName, cgNil, cgCons, cgTup, cgSub, cXf, fI, fI0, gA0, gAs, xeq_int, xeq_bl, xeq_str, xne_int, xne_bl, xne_str, xtru_bl, xtru_int, xtru_non, xtru_tup, xadd_int, List.set_cons_zero, List.set_cons_succ, List.set_nil, List.append_nil, List.nil_append, List.cons_append, wipeG, List.length_cons, List.length_nil, true_and, if_true, if_false, Bool.false_eq_true]
  refine ⟨x, bs, rfl, hr, fun m hm hri μ' f => ⟨by decide, h1 m hm hri μ' f⟩, fun m hm hn => ?_, fun hn => ?_⟩
  · simp only [exAs, faX, mt_Refused, csSeq, csNil, csBreak, csCont, csExpr, csRet, csRetN, csIf, csAsg, csSet, csAug, csRaise, cVar, cCon, cNil, cCons, cTup, cLst, cOp, cTest, cTru, ctAnd, ctOr, ctNot, ctYes, cAnd, cOr, cNot, cIf, cChain, cSl, coNone, coSome, cCB, cM, cM0, cCall, cgName, cgNil, cgCons, cgTup, cgSub, cXf, fI, fI0, gA0, gAs, xeq_int, xeq_bl, xeq_str, xne_int, xne_bl, xne_str, xtru_bl, xtru_int, xtru_non, xtru_tup, xadd_int, List.set_cons_zero, List.set_cons_succ, List.set_nil, List.append_nil, List.nil_append, List.cons_append, wipeG, List.length_cons, List.length_nil, true_and, if_true, if_false, Bool.false_eq_true, look_r, fIsX]
    exact fun a d => ⟨by decide, by decide, by decide, h2 m hm hn⟩
  · simp only [exAs, szX, mt_Refused, csSeq, csNil, csBreak, csCont, csExpr, csRet, csRetN, csIf, csAsg, csSet, csAug, csRaise, cVar, cCon, cNil, cCons, cTup, cLst, cOp, cTest, cTru, ctAnd, ctOr, ctNot, ctYes, cAnd, cOr, cNot, cIf, cChain, cSl, coNone, coSome, cCB, cM, cM0, cCall, cgName, cgNil, cgCons, cgTup, cgSub, cXf, fI, fI0, gA0, gAs, xeq_int, xeq_bl, xeq_str, xne_int, xne_bl, xne_str, xtru_bl, xtru_int, xtru_non, xtru_tup, xadd_int, List.set_cons_zero, List.set_cons_succ, List.set_nil, List.append_nil, List.nil_append, List.cons_append, wipeG, List.length_cons, List.length_nil, true_and, if_true, if_false, Bool.false_eq_true, look_r, fIsX]
    exact fun a d => ⟨by decide, by decide, by decide, h3 hn⟩
theorem pd_nats {μ : Mu} {k : Nat} (l : List Nat) : pdF (k + 1) μ (.tup (nats l)) = some (.tuple (l.map fun n : Nat => .int (n : Int))) := pd_tup (pd_map (fun _ => pd_int) l)
theorem plain_nats (l : List Nat) : PyData.plain (.tuple (l.map fun n : Nat => .int (n : Int))) = true := by
  simp only [PyData.plain]
  induction l with
  | nil => rfl
  | cons a r ih => simp [PyData.plainAll, PyData.plain, ih]
theorem pure__law_row_right (xs : List CV) (μ : Mu) (P : PV) (E : PX) (h : sp__law_row_right xs μ P E) : c__law_row_right (startG N__law_row_right xs) μ (Dn P E) := by
  obtain ⟨ls, rfl, hl, k⟩ := h
  have hz := big70
  show c__law_row_right [some (.tup (nats ls)), some (.tup (nats ls)), none] μ (Dn P E)
  have e1 : ∀ Q : PV, fIsi [.tup (nats ls), .ty "tuple"] μ Q = (True ∧ Q (.bl true) μ) := fun Q => by simp [fIsi, tyOf, isB, tyR]
  simp only [c__law_row_right, csSeq, csNil, csBreak, csCont, csExpr, csRet, csRetN, csIf, csAsg, csSet, csAug, csRaise, cVar, cCon, cNil, cCons, cTup, cLst, cOp, cTest, cTru, ctAnd, ctOr, ctNot, ctYes, cAnd, cOr, cNot, cIf, cChain, cSl, coNone, coSome, cCB, cM, cM0, cCall, cgName, cgNil, cgCons, cgTup, cgSub, cXf, fI, fI0, gA0, gAs, xeq_int, xeq_bl, xeq_str, xne_int, xne_bl, xne_str, xtru_bl, xtru_int, xtru_non, xtru_tup, xadd_int, List.set_cons_zero, List.set_cons_succ, List.set_nil, List.append_nil, List.nil_append, List.cons_append, wipeG, List.length_cons, List.length_nil, true_and, if_true, if_false, Bool.false_eq_true, e1, Bool.not_true]
  refine lc_seq (x := .tup (nats ls)) (l := nats ls) (fun y => match y with
    | .int i => some (.bl (decide (0 ≤ i)))
    | _ => none) (fun Q E q => q) rfl (by rw [nats_len]; omega) ?_ ?_
  · intro i y acc hy Y N k1 k2
    unfold nats at hy
    rw [List.getElem?_map] at hy
    obtain ⟨n, hn, rfl⟩ := Option.map_eq_some_iff.mp hy
    simp only [csSeq, csNil, csBreak, csCont, csExpr, csRet, csRetN, csIf, csAsg, csSet, csAug, csRaise, cVar, cCon, cNil, cCons, cTup, cLst, cOp, cTest, cTru, ctAnd, ctOr, ctNot, ctYes, cAnd, cOr, cNot, cIf, cChain, cSl, coNone, coSome, cCB, cM, cM0, cCall, cgName, cgNil, cgCons, cgTup, cgSub, cXf, fI, fI0, gA0, gAs, xeq_int, xeq_bl, xeq_str, xne_int, xne_bl, xne_str, xtru_bl, xtru_int, xtru_non, xtru_tup, xadd_int, List.set_cons_zero, List.set_cons_succ, List.set_nil, List.append_nil, List.nil_append, List.cons_append, wipeG, List.length_cons, List.length_nil, true_and, if_true, if_false, Bool.false_eq_true]
    exact ⟨_, rfl, k1 _ rfl⟩
  · have eb : (nats ls).filterMap (fun y => match y with
      | .int i => some (.bl (decide (0 ≤ i)))
      | _ => none) = (ls.map fun _ => true).map CV.bl := by
      unfold nats
      rw [List.filterMap_map, List.map_map, ← List.filterMap_eq_map]
      refine congrArg (fun z => List.filterMap z ls) (funext fun n => ?_)
      simp
    rw [eb, in_bls mu_top]
    have e2 : (ls.map fun _ => true).any (· == false) = false := by simp
    rw [e2]
    simp only [csSeq, csNil, csBreak, csCont, csExpr, csRet, csRetN, csIf, csAsg, csSet, csAug, csRaise, cVar, cCon, cNil, cCons, cTup, cLst, cOp, cTest, cTru, ctAnd, ctOr, ctNot, ctYes, cAnd, cOr, cNot, cIf, cChain, cSl, coNone, coSome, cCB, cM, cM0, cCall, cgName, cgNil, cgCons, cgTup, cgSub, cXf, fI, fI0, gA0, gAs, xeq_int, xeq_bl, xeq_str, xne_int, xne_bl, xne_str, xtru_bl, xtru_int, xtru_non, xtru_tup, xadd_int, List.set_cons_zero, List.set_cons_succ, List.set_nil, List.append_nil, List.nil_append, List.cons_append, wipeG, List.length_cons, List.length_nil, true_and, if_true, if_false, Bool.false_eq_true]
    rw [eq_pd (pd_nats ls) (pd_nats ls), PySem.SeqAt.eqv_refl_plain _ (plain_nats ls)]
    exact k _ Fr.push
end K59
namespace K59
open PySem PySem.Spec PyProof.Rows L2 Cl
theorem plain_bls (l : List Bool) : PyData.plain (.list (l.map PyData.bool)) = true := by
  simp only [PyData.plain]
  induction l with
  | nil => rfl
  | cons a r ih => simp [PyData.plainAll, PyData.plain, ih]
theorem ne_same {μ : Mu} {a b : Nat} {bs : List Bool} {P : PV} (ha : μ[a]? = some (.lst (bs.map .bl))) (hb : μ[b]? = some (.lst (bs.map .bl))) : fNe (.hnd a) (.hnd b) μ P = P (.bl false) μ := by
  rw [ne_pd (pd_hnd (k := 39) ha (pd_bls bs)) (pd_hnd (k := 39) hb (pd_bls bs)), PySem.SeqAt.eqv_refl_plain _ (plain_bls bs)]
  rfl
theorem eq_told {μ : Mu} {r : Str} {P : PV} : fEq (.tup [.bl false, .tup [.str r, .bl true]]) (.tup [.bl false, .tup [.str r, .bl true]]) μ P = P (.bl true) μ := by
  have e : ∀ k, pdF (k + 2) μ (.tup [.bl false, .tup [.str r, .bl true]]) = some (.tuple [.bool false, .tuple [.str r, .bool true]]) := fun k => by
    refine pd_tup ?_
    simp only [pdAllW, pd_bl, pd_tup (show pdAllW (pdF k μ) [.str r, .bl true] = some [.str r, .bool true] by simp only [pdAllW, pd_str, pd_bl])]
  rw [eq_pd (e 38) (e 38), PySem.SeqAt.eqv_refl_plain _ rfl]
theorem ix0 {μ : Mu} {a b : CV} {P : PV} : fIx (.tup [a, b]) (.int 0) μ P = P a μ := ix_of' items_tup (by decide) rfl
theorem ix1 {μ : Mu} {a b : CV} {P : PV} : fIx (.tup [a, b]) (.int 1) μ P = P b μ := ix_of' items_tup (by decide) rfl
theorem any_true {l : List Nat} {p : Nat → Bool} : (l.map p).any (· == true) = true ↔ ∃ x ∈ l, p x = true := by
  simp
theorem low_len (bs : List Bool) (m : Nat) : (leastOf bs m).length ≤ bs.length := by
  unfold leastOf
  exact filter_len _ _
theorem high_len (bs : List Bool) (m : Nat) : (greatestOf bs m).length ≤ bs.length := by
  unfold greatestOf
  exact filter_len _ _
/-- a comprehension over a row of lots: each lot by f -/
theorem lc_nats {c : CE} {g : CG} {te : CE} {vs : List Nat} {Γ : Ga} {μ : Mu} {P : PV} {E : PX} (ls : List Nat) (f : Nat → CV) (hl : ls.length ≤ 70) (hc : ∀ (Q : PV) E, Q (.tup (nats ls)) μ → c Γ μ Q E)
    (step : ∀ (n : Nat) (μ : Mu), n ∈ ls → ∀ (Y : CV → Mu → Prop), Y (f n) μ → g (.int (n : Int)) (wipeG Γ vs) μ fun Γ' μ1 => te Γ' μ1 Y noX)
    (done : P (.hnd μ.length) (μ ++ [.lst (ls.map f)])) : cLc (ciSeq c) g ctYes te vs Γ μ P E := by
  have hz := big70
  refine lc_seq (x := .tup (nats ls)) (l := nats ls) (fun y => match y with
    | .int i => some (f i.toNat)
    | _ => none) hc rfl (by rw [nats_len]; omega) ?_ ?_
  · intro i y acc hy Y N k1 k2
    unfold nats at hy
    rw [List.getElem?_map] at hy
    obtain ⟨n, hn, rfl⟩ := Option.map_eq_some_iff.mp hy
    have := step n (μ ++ [.lst acc]) (List.mem_of_getElem? hn) Y (k1 _ (by simp))
    simpa only [ctYes, if_true] using this
  · have eb : (nats ls).filterMap (fun y => match y with
      | .int i => some (f i.toNat)
      | _ => none) = ls.map f := by
      unfold nats
      rw [List.filterMap_map, ← List.filterMap_eq_map]
      refine congrArg (fun z => List.filterMap z ls) (funext fun n => ?_)
      simp
    rw [eb]
    exact done
theorem pure__law_table_right (xs : List CV) (μ : Mu) (P : PV) (E : PX) (h : sp__law_table_right xs μ P E) : c__law_table_right (startG N__law_table_right xs) μ (Dn P E) := by
  obtain ⟨n, bs, t, rfl, ha, hb70, k⟩ := h
  have hz := big70
  have hr : Row μ (.hnd n) bs := items_hnd ha
  show c__law_table_right [some (.hnd n), some (.int t), none, none, none, none, none, none, none, none, none, none, none] μ (Dn P E)
  unfold c__law_table_right
  by_cases good : ¬ ∃ m, thingsOf bs.length = some m ∧ Rises bs m
  · -- refused
    obtain ⟨r, hB⟩ : ∃ r : Str, ∀ (Pn : Nat → Prop) (Pr : Str → Prop), Pr r → Told bs Pn (Pr "falls") (Pr "size") := by
      cases hm : thingsOf bs.length with
      | none => exact ⟨"size", fun Pn Pr p => ⟨fun m e => (by rw [hm] at e; cases e), fun m e => (by rw [hm] at e; cases e), fun _ => p⟩⟩
      | some m =>
        have hn : ¬ Rises bs m := fun z => good ⟨m, hm, z⟩
        refine ⟨"falls", fun Pn Pr p => ⟨fun m' e z => ?_, fun _ _ _ => p, fun e => ?_⟩⟩
        · rw [hm] at e; cases e; exact absurd z hn
        · rw [hm] at e; cases e
    refine seq_cut (fun Γ' μ' => μ = μ' ∧ Γ' = [some (.hnd n), some (.int t), some (.str r), none, none, none, none, none, none, none, none, none, none]) (fun N hN => ?_) ?_
    · simp only [csSeq, csNil, csBreak, csCont, csExpr, csRet, csRetN, csIf, csAsg, csSet, csAug, csRaise, cVar, cCon, cNil, cCons, cTup, cLst, cOp, cTest, cTru, ctAnd, ctOr, ctNot, ctYes, cAnd, cOr, cNot, cIf, cChain, cSl, coNone, coSome, cCB, cM, cM0, cCall, cgName, cgNil, cgCons, cgTup, cgSub, cXf, fI, fI0, gA0, gAs, xeq_int, xeq_bl, xeq_str, xne_int, xne_bl, xne_str, xtru_bl, xtru_int, xtru_non, xtru_tup, xadd_int, List.set_cons_zero, List.set_cons_succ, List.set_nil, List.append_nil, List.nil_append, List.cons_append, wipeG, List.length_cons, List.length_nil, true_and, if_true, if_false, Bool.false_eq_true]
      exact ⟨_, bs, rfl, hr, hB _ (fun s => N [some (.hnd n), some (.int t), some (.str s), none, none, none, none, none, none, none, none, none, none] μ) (hN _ _ ⟨rfl, rfl⟩)⟩
    rintro _ _ ⟨rfl, rfl⟩
    refine seq_cut (fun Γ' μ' => ∃ gv, Fr [] μ μ' ∧ Row μ' gv bs ∧ Γ' = [some (.hnd n), some (.int t), some (.str r), some gv, none, none, none, none, none, none, none, none, none]) (fun N hN => ?_) ?_
    · simp only [csSeq, csNil, csBreak, csCont, csExpr, csRet, csRetN, csIf, csAsg, csSet, csAug, csRaise, cVar, cCon, cNil, cCons, cTup, cLst, cOp, cTest, cTru, ctAnd, ctOr, ctNot, ctYes, cAnd, cOr, cNot, cIf, cChain, cSl, coNone, coSome, cCB, cM, cM0, cCall, cgName, cgNil, cgCons, cgTup, cgSub, cXf, fI, fI0, gA0, gAs, xeq_int, xeq_bl, xeq_str, xne_int, xne_bl, xne_str, xtru_bl, xtru_int, xtru_non, xtru_tup, xadd_int, List.set_cons_zero, List.set_cons_succ, List.set_nil, List.append_nil, List.nil_append, List.cons_append, wipeG, List.length_cons, List.length_nil, true_and, if_true, if_false, Bool.false_eq_true, list_of hr, tuple_of hr]
      by_cases e : t = 0
      · simp only [e, decide_true, if_true]
        exact hN _ _ ⟨_, Fr.push, items_hnd mu_top, by rw [e]⟩
      · simp only [e, decide_false, if_false, Bool.false_eq_true]
        exact hN _ _ ⟨.tup (bs.map .bl), Fr.refl, rfl, rfl⟩
    rintro _ μ1 ⟨gv, f1, hg, rfl⟩
    refine seq_cut (fun Γ' μ' => μ1 = μ' ∧ Γ' = [some (.hnd n), some (.int t), some (.str r), some gv, some (.tup [.bl false, .tup [.str r, .bl true]]), none, none, none, none, none, none, none, none]) (fun N hN => ?_) ?_
    · simp only [csSeq, csNil, csBreak, csCont, csExpr, csRet, csRetN, csIf, csAsg, csSet, csAug, csRaise, cVar, cCon, cNil, cCons, cTup, cLst, cOp, cTest, cTru, ctAnd, ctOr, ctNot, ctYes, cAnd, cOr, cNot, cIf, cChain, cSl, coNone, coSome, cCB, cM, cM0, cCall, cgName, cgNil, cgCons, cgTup, cgSub, cXf, fI, fI0, gA0, gAs, xeq_int, xeq_bl, xeq_str, xne_int, xne_bl, xne_str, xtru_bl, xtru_int, xtru_non, xtru_tup, xadd_int, List.set_cons_zero, List.set_cons_succ, List.set_nil, List.append_nil, List.nil_append, List.cons_append, wipeG, List.length_cons, List.length_nil, true_and, if_true, if_false, Bool.false_eq_true]
      exact ⟨gv, bs, rfl, hg, hB _ (fun s => N [some (.hnd n), some (.int t), some (.str r), some gv, some (.tup [.bl false, .tup [.str s, .bl true]]), none, none, none, none, none, none, none, none] μ1) (hN _ _ ⟨rfl, rfl⟩)⟩
    rintro _ _ ⟨rfl, rfl⟩
    refine seq_cut (fun Γ' μ' => μ1 = μ' ∧ Γ' = [some (.hnd n), some (.int t), some (.str r), some gv, some (.tup [.bl false, .tup [.str r, .bl true]]), some (.tup [.bl false, .tup [.str r, .bl true]]), none, none, none, none, none, none, none]) (fun N hN => ?_) ?_
    · simp only [csSeq, csNil, csBreak, csCont, csExpr, csRet, csRetN, csIf, csAsg, csSet, csAug, csRaise, cVar, cCon, cNil, cCons, cTup, cLst, cOp, cTest, cTru, ctAnd, ctOr, ctNot, ctYes, cAnd, cOr, cNot, cIf, cChain, cSl, coNone, coSome, cCB, cM, cM0, cCall, cgName, cgNil, cgCons, cgTup, cgSub, cXf, fI, fI0, gA0, gAs, xeq_int, xeq_bl, xeq_str, xne_int, xne_bl, xne_str, xtru_bl, xtru_int, xtru_non, xtru_tup, xadd_int, List.set_cons_zero, List.set_cons_succ, List.set_nil, List.append_nil, List.nil_append, List.cons_append, wipeG, List.length_cons, List.length_nil, true_and, if_true, if_false, Bool.false_eq_true]
      exact ⟨gv, bs, rfl, hg, hB _ (fun s => N [some (.hnd n), some (.int t), some (.str r), some gv, some (.tup [.bl false, .tup [.str r, .bl true]]), some (.tup [.bl false, .tup [.str s, .bl true]]), none, none, none, none, none, none, none] μ1) (hN _ _ ⟨rfl, rfl⟩)⟩
    rintro _ _ ⟨rfl, rfl⟩
    have ha1 := f1.get0 ha
    have en : ∀ Q : PV, fNe (.hnd μ1.length) (.hnd n) (μ1 ++ [.lst (bs.map .bl)]) Q = Q (.bl false) (μ1 ++ [.lst (bs.map .bl)]) := fun Q => ne_same mu_top ((Fr.push (S := [])).get0 ha1)
    have ei : ∀ (μ : Mu) (Q : PV), fIsNot (.str r) .non μ Q = Q (.bl true) μ := fun μ Q => rfl
    simp only [csSeq, csNil, csBreak, csCont, csExpr, csRet, csRetN, csIf, csAsg, csSet, csAug, csRaise, cVar, cCon, cNil, cCons, cTup, cLst, cOp, cTest, cTru, ctAnd, ctOr, ctNot, ctYes, cAnd, cOr, cNot, cIf, cChain, cSl, coNone, coSome, cCB, cM, cM0, cCall, cgName, cgNil, cgCons, cgTup, cgSub, cXf, fI, fI0, gA0, gAs, xeq_int, xeq_bl, xeq_str, xne_int, xne_bl, xne_str, xtru_bl, xtru_int, xtru_non, xtru_tup, xadd_int, List.set_cons_zero, List.set_cons_succ, List.set_nil, List.append_nil, List.nil_append, List.cons_append, wipeG, List.length_cons, List.length_nil, true_and, if_true, if_false, Bool.false_eq_true, list_of hg, en, ei]
    refine ⟨by decide, by decide, ?_⟩
    rw [eq_told]
    simp only [csSeq, csNil, csBreak, csCont, csExpr, csRet, csRetN, csIf, csAsg, csSet, csAug, csRaise, cVar, cCon, cNil, cCons, cTup, cLst, cOp, cTest, cTru, ctAnd, ctOr, ctNot, ctYes, cAnd, cOr, cNot, cIf, cChain, cSl, coNone, coSome, cCB, cM, cM0, cCall, cgName, cgNil, cgCons, cgTup, cgSub, cXf, fI, fI0, gA0, gAs, xeq_int, xeq_bl, xeq_str, xne_int, xne_bl, xne_str, xtru_bl, xtru_int, xtru_non, xtru_tup, xadd_int, List.set_cons_zero, List.set_cons_succ, List.set_nil, List.append_nil, List.nil_append, List.cons_append, wipeG, List.length_cons, List.length_nil, true_and, if_true, if_false, Bool.false_eq_true]
    rw [eq_told]
    exact k _ (f1.trans Fr.push)
  · obtain ⟨m, hm, hri⟩ := Classical.not_not.mp good
    obtain ⟨hn, hm5⟩ := things_some hm
    have hT : ∀ {Pn : Nat → Prop} {Pf Ps : Prop}, Pn m → Told bs Pn Pf Ps := fun p => ⟨fun m' e _ => by rw [hm] at e; cases e; exact p, fun m' e z => by rw [hm] at e; cases e; exact absurd hri z, fun e => by rw [hm] at e; cases e⟩
    have gl := low_len bs m
    have gg := high_len bs m
    refine seq_cut (fun Γ' μ' => μ = μ' ∧ Γ' = [some (.hnd n), some (.int t), some .non, none, none, none, none, none, none, none, none, none, none]) (fun N hN => ?_) ?_
    · simp only [csSeq, csNil, csBreak, csCont, csExpr, csRet, csRetN, csIf, csAsg, csSet, csAug, csRaise, cVar, cCon, cNil, cCons, cTup, cLst, cOp, cTest, cTru, ctAnd, ctOr, ctNot, ctYes, cAnd, cOr, cNot, cIf, cChain, cSl, coNone, coSome, cCB, cM, cM0, cCall, cgName, cgNil, cgCons, cgTup, cgSub, cXf, fI, fI0, gA0, gAs, xeq_int, xeq_bl, xeq_str, xne_int, xne_bl, xne_str, xtru_bl, xtru_int, xtru_non, xtru_tup, xadd_int, List.set_cons_zero, List.set_cons_succ, List.set_nil, List.append_nil, List.nil_append, List.cons_append, wipeG, List.length_cons, List.length_nil, true_and, if_true, if_false, Bool.false_eq_true]
      exact ⟨_, bs, rfl, hr, hT (hN _ _ ⟨rfl, rfl⟩)⟩
    rintro _ _ ⟨rfl, rfl⟩
    refine seq_cut (fun Γ' μ' => ∃ gv, Fr [] μ μ' ∧ Row μ' gv bs ∧ Γ' = [some (.hnd n), some (.int t), some .non, some gv, none, none, none, none, none, none, none, none, none]) (fun N hN => ?_) ?_
    · simp only [csSeq, csNil, csBreak, csCont, csExpr, csRet, csRetN, csIf, csAsg, csSet, csAug, csRaise, cVar, cCon, cNil, cCons, cTup, cLst, cOp, cTest, cTru, ctAnd, ctOr, ctNot, ctYes, cAnd, cOr, cNot, cIf, cChain, cSl, coNone, coSome, cCB, cM, cM0, cCall, cgName, cgNil, cgCons, cgTup, cgSub, cXf, fI, fI0, gA0, gAs, xeq_int, xeq_bl, xeq_str, xne_int, xne_bl, xne_str, xtru_bl, xtru_int, xtru_non, xtru_tup, xadd_int, List.set_cons_zero, List.set_cons_succ, List.set_nil, List.append_nil, List.nil_append, List.cons_append, wipeG, List.length_cons, List.length_nil, true_and, if_true, if_false, Bool.false_eq_true, list_of hr, tuple_of hr]
      by_cases e : t = 0
      · simp only [e, decide_true, if_true]
        exact hN _ _ ⟨_, Fr.push, items_hnd mu_top, by rw [e]⟩
      · simp only [e, decide_false, if_false, Bool.false_eq_true]
        exact hN _ _ ⟨.tup (bs.map .bl), Fr.refl, rfl, rfl⟩
    rintro _ μ1 ⟨gv, f1, hg, rfl⟩
    refine seq_cut (fun Γ' μ' => Fr [] μ μ' ∧ Row μ' gv bs ∧ Γ' = [some (.hnd n), some (.int t), some .non, some gv, some (.tup [.bl true, .tup (nats (leastOf bs m))]), none, none, none, none, none, none, none, none]) (fun N hN => ?_) ?_
    · simp only [csSeq, csNil, csBreak, csCont, csExpr, csRet, csRetN, csIf, csAsg, csSet, csAug, csRaise, cVar, cCon, cNil, cCons, cTup, cLst, cOp, cTest, cTru, ctAnd, ctOr, ctNot, ctYes, cAnd, cOr, cNot, cIf, cChain, cSl, coNone, coSome, cCB, cM, cM0, cCall, cgName, cgNil, cgCons, cgTup, cgSub, cXf, fI, fI0, gA0, gAs, xeq_int, xeq_bl, xeq_str, xne_int, xne_bl, xne_str, xtru_bl, xtru_int, xtru_non, xtru_tup, xadd_int, List.set_cons_zero, List.set_cons_succ, List.set_nil, List.append_nil, List.nil_append, List.cons_append, wipeG, List.length_cons, List.length_nil, true_and, if_true, if_false, Bool.false_eq_true]
      exact ⟨_, bs, rfl, hg, hT fun μ' f => hN _ _ ⟨f1.trans f, items_fr f hg, rfl⟩⟩
    clear f1 hg
    rintro _ μ1 ⟨f1, hg, rfl⟩
    refine seq_cut (fun Γ' μ' => Fr [] μ μ' ∧ Row μ' gv bs ∧ Γ' = [some (.hnd n), some (.int t), some .non, some gv, some (.tup [.bl true, .tup (nats (leastOf bs m))]), some (.tup [.bl true, .tup (nats (greatestOf bs m))]), none, none, none, none, none, none, none]) (fun N hN => ?_) ?_
    · simp only [csSeq, csNil, csBreak, csCont, csExpr, csRet, csRetN, csIf, csAsg, csSet, csAug, csRaise, cVar, cCon, cNil, cCons, cTup, cLst, cOp, cTest, cTru, ctAnd, ctOr, ctNot, ctYes, cAnd, cOr, cNot, cIf, cChain, cSl, coNone, coSome, cCB, cM, cM0, cCall, cgName, cgNil, cgCons, cgTup, cgSub, cXf, fI, fI0, gA0, gAs, xeq_int, xeq_bl, xeq_str, xne_int, xne_bl, xne_str, xtru_bl, xtru_int, xtru_non, xtru_tup, xadd_int, List.set_cons_zero, List.set_cons_succ, List.set_nil, List.append_nil, List.nil_append, List.cons_append, wipeG, List.length_cons, List.length_nil, true_and, if_true, if_false, Bool.false_eq_true]
      exact ⟨_, bs, rfl, hg, hT fun μ' f => hN _ _ ⟨f1.trans f, items_fr f hg, rfl⟩⟩
    clear f1 hg
    rintro _ μ1 ⟨f1, hg, rfl⟩
    refine seq_cut (fun Γ' μ' => Fr [] μ μ' ∧ Γ' = [some (.hnd n), some (.int t), some .non, some gv, some (.tup [.bl true, .tup (nats (leastOf bs m))]), some (.tup [.bl true, .tup (nats (greatestOf bs m))]), none, none, none, none, none, none, none]) (fun N hN => ?_) ?_
    · have en : ∀ Q : PV, fNe (.hnd μ1.length) (.hnd n) (μ1 ++ [.lst (bs.map .bl)]) Q = Q (.bl false) (μ1 ++ [.lst (bs.map .bl)]) := fun Q => ne_same mu_top ((Fr.push (S := [])).get0 (f1.get0 ha))
      simp only [csSeq, csNil, csBreak, csCont, csExpr, csRet, csRetN, csIf, csAsg, csSet, csAug, csRaise, cVar, cCon, cNil, cCons, cTup, cLst, cOp, cTest, cTru, ctAnd, ctOr, ctNot, ctYes, cAnd, cOr, cNot, cIf, cChain, cSl, coNone, coSome, cCB, cM, cM0, cCall, cgName, cgNil, cgCons, cgTup, cgSub, cXf, fI, fI0, gA0, gAs, xeq_int, xeq_bl, xeq_str, xne_int, xne_bl, xne_str, xtru_bl, xtru_int, xtru_non, xtru_tup, xadd_int, List.set_cons_zero, List.set_cons_succ, List.set_nil, List.append_nil, List.nil_append, List.cons_append, wipeG, List.length_cons, List.length_nil, true_and, if_true, if_false, Bool.false_eq_true, list_of hg, en]
      exact hN _ _ ⟨f1.trans Fr.push, rfl⟩
    clear f1 hg
    rintro _ μ1 ⟨f1, rfl⟩
    refine seq_cut (fun Γ' μ' => μ1 = μ' ∧ Γ' = [some (.hnd n), some (.int t), some .non, some gv, some (.tup [.bl true, .tup (nats (leastOf bs m))]), some (.tup [.bl true, .tup (nats (greatestOf bs m))]), none, none, none, none, none, none, none]) (fun N hN => ?_) ?_
    · have ei : ∀ (μ : Mu) (Q : PV), fIsNot .non .non μ Q = Q (.bl false) μ := fun μ Q => rfl
      simp only [csSeq, csNil, csBreak, csCont, csExpr, csRet, csRetN, csIf, csAsg, csSet, csAug, csRaise, cVar, cCon, cNil, cCons, cTup, cLst, cOp, cTest, cTru, ctAnd, ctOr, ctNot, ctYes, cAnd, cOr, cNot, cIf, cChain, cSl, coNone, coSome, cCB, cM, cM0, cCall, cgName, cgNil, cgCons, cgTup, cgSub, cXf, fI, fI0, gA0, gAs, xeq_int, xeq_bl, xeq_str, xne_int, xne_bl, xne_str, xtru_bl, xtru_int, xtru_non, xtru_tup, xadd_int, List.set_cons_zero, List.set_cons_succ, List.set_nil, List.append_nil, List.nil_append, List.cons_append, wipeG, List.length_cons, List.length_nil, true_and, if_true, if_false, Bool.false_eq_true, ei]
      exact hN _ _ ⟨rfl, rfl⟩
    rintro _ _ ⟨rfl, rfl⟩
    refine seq_cut (fun Γ' μ' => μ1 = μ' ∧ Γ' = [some (.hnd n), some (.int t), some .non, some gv, some (.tup [.bl true, .tup (nats (leastOf bs m))]), some (.tup [.bl true, .tup (nats (greatestOf bs m))]), none, none, none, none, none, none, none]) (fun N hN => ?_) ?_
    · have ei : ∀ (μ : Mu) (Q : PV), fIsNot (.bl true) (.bl true) μ Q = Q (.bl false) μ := fun μ Q => rfl
      simp only [csSeq, csNil, csBreak, csCont, csExpr, csRet, csRetN, csIf, csAsg, csSet, csAug, csRaise, cVar, cCon, cNil, cCons, cTup, cLst, cOp, cTest, cTru, ctAnd, ctOr, ctNot, ctYes, cAnd, cOr, cNot, cIf, cChain, cSl, coNone, coSome, cCB, cM, cM0, cCall, cgName, cgNil, cgCons, cgTup, cgSub, cXf, fI, fI0, gA0, gAs, xeq_int, xeq_bl, xeq_str, xne_int, xne_bl, xne_str, xtru_bl, xtru_int, xtru_non, xtru_tup, xadd_int, List.set_cons_zero, List.set_cons_succ, List.set_nil, List.append_nil, List.nil_append, List.cons_append, wipeG, List.length_cons, List.length_nil, true_and, if_true, if_false, Bool.false_eq_true, ix0, ei]
      exact hN _ _ ⟨rfl, rfl⟩
    rintro _ _ ⟨rfl, rfl⟩
    refine seq_cut (fun Γ' μ' => Fr [] μ μ' ∧ Γ' = [some (.hnd n), some (.int t), some .non, some gv, some (.tup [.bl true, .tup (nats (leastOf bs m))]), some (.tup [.bl true, .tup (nats (greatestOf bs m))]), none, none, none, none, none, none, none]) (fun N hN => ?_) ?_
    · simp only [csSeq, csNil, csBreak, csCont, csExpr, csRet, csRetN, csIf, csAsg, csSet, csAug, csRaise, cVar, cCon, cNil, cCons, cTup, cLst, cOp, cTest, cTru, ctAnd, ctOr, ctNot, ctYes, cAnd, cOr, cNot, cIf, cChain, cSl, coNone, coSome, cCB, cM, cM0, cCall, cgName, cgNil, cgCons, cgTup, cgSub, cXf, fI, fI0, gA0, gAs, xeq_int, xeq_bl, xeq_str, xne_int, xne_bl, xne_str, xtru_bl, xtru_int, xtru_non, xtru_tup, xadd_int, List.set_cons_zero, List.set_cons_succ, List.set_nil, List.append_nil, List.nil_append, List.cons_append, wipeG, List.length_cons, List.length_nil, true_and, if_true, if_false, Bool.false_eq_true, ix1]
      refine ⟨_, bs, true, m, rfl, items_hnd (f1.get0 ha), hm, hri, fun μ2 f2 => ?_⟩
      refine ⟨_, rfl, by omega, fun μ3 f3 => ?_⟩
      simp only [csSeq, csNil, csBreak, csCont, csExpr, csRet, csRetN, csIf, csAsg, csSet, csAug, csRaise, cVar, cCon, cNil, cCons, cTup, cLst, cOp, cTest, cTru, ctAnd, ctOr, ctNot, ctYes, cAnd, cOr, cNot, cIf, cChain, cSl, coNone, coSome, cCB, cM, cM0, cCall, cgName, cgNil, cgCons, cgTup, cgSub, cXf, fI, fI0, gA0, gAs, xeq_int, xeq_bl, xeq_str, xne_int, xne_bl, xne_str, xtru_bl, xtru_int, xtru_non, xtru_tup, xadd_int, List.set_cons_zero, List.set_cons_succ, List.set_nil, List.append_nil, List.nil_append, List.cons_append, wipeG, List.length_cons, List.length_nil, true_and, if_true, if_false, Bool.false_eq_true, Bool.not_true]
      refine ⟨_, bs, false, m, rfl, items_hnd (((f1.trans f2).trans f3).get0 ha), hm, hri, fun μ4 f4 => ?_⟩
      refine ⟨_, rfl, by omega, fun μ5 f5 => ?_⟩
      simp only [csSeq, csNil, csBreak, csCont, csExpr, csRet, csRetN, csIf, csAsg, csSet, csAug, csRaise, cVar, cCon, cNil, cCons, cTup, cLst, cOp, cTest, cTru, ctAnd, ctOr, ctNot, ctYes, cAnd, cOr, cNot, cIf, cChain, cSl, coNone, coSome, cCB, cM, cM0, cCall, cgName, cgNil, cgCons, cgTup, cgSub, cXf, fI, fI0, gA0, gAs, xeq_int, xeq_bl, xeq_str, xne_int, xne_bl, xne_str, xtru_bl, xtru_int, xtru_non, xtru_tup, xadd_int, List.set_cons_zero, List.set_cons_succ, List.set_nil, List.append_nil, List.nil_append, List.cons_append, wipeG, List.length_cons, List.length_nil, true_and, if_true, if_false, Bool.false_eq_true, Bool.not_true]
      exact hN _ _ ⟨(((f1.trans f2).trans f3).trans f4).trans f5, rfl⟩
    clear f1
    rintro _ μ1 ⟨f1, rfl⟩
    -- the covers
    refine seq_cut (fun Γ' μ' => Fr [] μ μ' ∧ ∃ a b, Γ' = [some (.hnd n), some (.int t), some .non, some gv, some (.tup [.bl true, .tup (nats (leastOf bs m))]), some (.tup [.bl true, .tup (nats (greatestOf bs m))]), none, a, b, none, none, none, none]) (fun N hN => ?_) ?_
    · refine for_enum (k := 0) (x := .hnd n) (l := bs.map CV.bl) rfl (fun i Γ' μ' => Fr [] μ μ' ∧ ∃ a b, Γ' = [some (.hnd n), some (.int t), some .non, some gv, some (.tup [.bl true, .tup (nats (leastOf bs m))]), some (.tup [.bl true, .tup (nats (greatestOf bs m))]), none, a, b, none, none, none, none]) ⟨f1, _, _, rfl⟩ ?_ ?_ ?_
      · rintro i Γ' μ' ⟨f, _⟩
        exact items_hnd (f.get0 ha)
      · rintro i y Γ' μ' hy ⟨f, a, b, rfl⟩ N2 hN2
        obtain ⟨hib, rfl⟩ := at_get2 hy
        have hi2 : i < 2 ^ m := by rw [← hn]; exact hib
        simp only [csSeq, csNil, csBreak, csCont, csExpr, csRet, csRetN, csIf, csAsg, csSet, csAug, csRaise, cVar, cCon, cNil, cCons, cTup, cLst, cOp, cTest, cTru, ctAnd, ctOr, ctNot, ctYes, cAnd, cOr, cNot, cIf, cChain, cSl, coNone, coSome, cCB, cM, cM0, cCall, cgName, cgNil, cgCons, cgTup, cgSub, cXf, fI, fI0, gA0, gAs, xeq_int, xeq_bl, xeq_str, xne_int, xne_bl, xne_str, xtru_bl, xtru_int, xtru_non, xtru_tup, xadd_int, List.set_cons_zero, List.set_cons_succ, List.set_nil, List.append_nil, List.nil_append, List.cons_append, wipeG, List.length_cons, List.length_nil, true_and, if_true, if_false, Bool.false_eq_true, ix1]
        refine lc_nats (leastOf bs m) (fun one => .bl (decide (i &&& one = one))) (by omega) (fun Q E q => q) (fun one μ2 ho Y q => ?_) ?_
        · simp only [csSeq, csNil, csBreak, csCont, csExpr, csRet, csRetN, csIf, csAsg, csSet, csAug, csRaise, cVar, cCon, cNil, cCons, cTup, cLst, cOp, cTest, cTru, ctAnd, ctOr, ctNot, ctYes, cAnd, cOr, cNot, cIf, cChain, cSl, coNone, coSome, cCB, cM, cM0, cCall, cgName, cgNil, cgCons, cgTup, cgSub, cXf, fI, fI0, gA0, gAs, xeq_int, xeq_bl, xeq_str, xne_int, xne_bl, xne_str, xtru_bl, xtru_int, xtru_non, xtru_tup, xadd_int, List.set_cons_zero, List.set_cons_succ, List.set_nil, List.append_nil, List.nil_append, List.cons_append, wipeG, List.length_cons, List.length_nil, true_and, if_true, if_false, Bool.false_eq_true, band_eq]
          exact q
        rw [show (leastOf bs m).map (fun one => CV.bl (decide (i &&& one = one))) = ((leastOf bs m).map fun one => decide (i &&& one = one)).map CV.bl by rw [List.map_map]; rfl, in_bls mu_top]
        have e1 : ((leastOf bs m).map fun one => decide (i &&& one = one)).any (· == true) = at_ bs i := by
          rw [Bool.eq_iff_iff, any_true, cover_least hn hri hm5 hi2]
          simp
        rw [e1]
        simp only [csSeq, csNil, csBreak, csCont, csExpr, csRet, csRetN, csIf, csAsg, csSet, csAug, csRaise, cVar, cCon, cNil, cCons, cTup, cLst, cOp, cTest, cTru, ctAnd, ctOr, ctNot, ctYes, cAnd, cOr, cNot, cIf, cChain, cSl, coNone, coSome, cCB, cM, cM0, cCall, cgName, cgNil, cgCons, cgTup, cgSub, cXf, fI, fI0, gA0, gAs, xeq_int, xeq_bl, xeq_str, xne_int, xne_bl, xne_str, xtru_bl, xtru_int, xtru_non, xtru_tup, xadd_int, List.set_cons_zero, List.set_cons_succ, List.set_nil, List.append_nil, List.nil_append, List.cons_append, wipeG, List.length_cons, List.length_nil, true_and, if_true, if_false, Bool.false_eq_true, decide_true, Bool.not_true, ix1]
        refine lc_nats (greatestOf bs m) (fun one => .bl (decide (i &&& one = i))) (by omega) (fun Q E q => q) (fun one μ2 ho Y q => ?_) ?_
        · simp only [csSeq, csNil, csBreak, csCont, csExpr, csRet, csRetN, csIf, csAsg, csSet, csAug, csRaise, cVar, cCon, cNil, cCons, cTup, cLst, cOp, cTest, cTru, ctAnd, ctOr, ctNot, ctYes, cAnd, cOr, cNot, cIf, cChain, cSl, coNone, coSome, cCB, cM, cM0, cCall, cgName, cgNil, cgCons, cgTup, cgSub, cXf, fI, fI0, gA0, gAs, xeq_int, xeq_bl, xeq_str, xne_int, xne_bl, xne_str, xtru_bl, xtru_int, xtru_non, xtru_tup, xadd_int, List.set_cons_zero, List.set_cons_succ, List.set_nil, List.append_nil, List.nil_append, List.cons_append, wipeG, List.length_cons, List.length_nil, true_and, if_true, if_false, Bool.false_eq_true, band_eq]
          exact q
        rw [show (greatestOf bs m).map (fun one => CV.bl (decide (i &&& one = i))) = ((greatestOf bs m).map fun one => decide (i &&& one = i)).map CV.bl by rw [List.map_map]; rfl, in_bls mu_top]
        have e2 : ((greatestOf bs m).map fun one => decide (i &&& one = i)).any (· == true) = !at_ bs i := by
          rw [Bool.eq_iff_iff, any_true, Bool.not_eq_true', cover_greatest hn hri hm5 hi2]
          simp
        rw [e2]
        have e3 : decide (at_ bs i = !at_ bs i) = false := by cases at_ bs i <;> rfl
        simp only [csSeq, csNil, csBreak, csCont, csExpr, csRet, csRetN, csIf, csAsg, csSet, csAug, csRaise, cVar, cCon, cNil, cCons, cTup, cLst, cOp, cTest, cTru, ctAnd, ctOr, ctNot, ctYes, cAnd, cOr, cNot, cIf, cChain, cSl, coNone, coSome, cCB, cM, cM0, cCall, cgName, cgNil, cgCons, cgTup, cgSub, cXf, fI, fI0, gA0, gAs, xeq_int, xeq_bl, xeq_str, xne_int, xne_bl, xne_str, xtru_bl, xtru_int, xtru_non, xtru_tup, xadd_int, List.set_cons_zero, List.set_cons_succ, List.set_nil, List.append_nil, List.nil_append, List.cons_append, wipeG, List.length_cons, List.length_nil, true_and, if_true, if_false, Bool.false_eq_true, e3]
        exact hN2 _ _ ⟨(f.trans Fr.push).trans Fr.push, _, _, rfl⟩
      · rintro Γ' μ' ⟨f, a, b, rfl⟩
        exact hN _ _ ⟨f, a, b, rfl⟩
    clear f1
    rintro _ μ1 ⟨f1, a, b, rfl⟩
    -- the turned table
    refine seq_cut (fun Γ' μ' => μ1 = μ' ∧ Γ' = [some (.hnd n), some (.int t), some .non, some gv, some (.tup [.bl true, .tup (nats (leastOf bs m))]), some (.tup [.bl true, .tup (nats (greatestOf bs m))]), none, a, b, some (.int ((bs.length : Nat) : Int)), none, none, none]) (fun N hN => ?_) ?_
    · have hl : ∀ (Q : PV), fLen [.hnd n] μ1 Q = Q (.int (bs.length : Nat)) μ1 := fun Q => by rw [len_of (items_hnd (f1.get0 ha)), List.length_map]
      simp only [csSeq, csNil, csBreak, csCont, csExpr, csRet, csRetN, csIf, csAsg, csSet, csAug, csRaise, cVar, cCon, cNil, cCons, cTup, cLst, cOp, cTest, cTru, ctAnd, ctOr, ctNot, ctYes, cAnd, cOr, cNot, cIf, cChain, cSl, coNone, coSome, cCB, cM, cM0, cCall, cgName, cgNil, cgCons, cgTup, cgSub, cXf, fI, fI0, gA0, gAs, xeq_int, xeq_bl, xeq_str, xne_int, xne_bl, xne_str, xtru_bl, xtru_int, xtru_non, xtru_tup, xadd_int, List.set_cons_zero, List.set_cons_succ, List.set_nil, List.append_nil, List.nil_append, List.cons_append, wipeG, List.length_cons, List.length_nil, true_and, if_true, if_false, Bool.false_eq_true, hl]
      exact hN _ _ ⟨rfl, rfl⟩
    rintro _ _ ⟨rfl, rfl⟩
    refine seq_cut (fun Γ' μ' => ∃ th, Fr [] μ μ' ∧ μ'[th]? = some (.lst ((turn bs).map .bl)) ∧ Γ' = [some (.hnd n), some (.int t), some .non, some gv, some (.tup [.bl true, .tup (nats (leastOf bs m))]), some (.tup [.bl true, .tup (nats (greatestOf bs m))]), none, a, b, some (.int ((bs.length : Nat) : Int)), some (.hnd th), none, none]) (fun N hN => ?_) ?_
    · simp only [csSeq, csNil, csBreak, csCont, csExpr, csRet, csRetN, csIf, csAsg, csSet, csAug, csRaise, cVar, cCon, cNil, cCons, cTup, cLst, cOp, cTest, cTru, ctAnd, ctOr, ctNot, ctYes, cAnd, cOr, cNot, cIf, cChain, cSl, coNone, coSome, cCB, cM, cM0, cCall, cgName, cgNil, cgCons, cgTup, cgSub, cXf, fI, fI0, gA0, gAs, xeq_int, xeq_bl, xeq_str, xne_int, xne_bl, xne_str, xtru_bl, xtru_int, xtru_non, xtru_tup, xadd_int, List.set_cons_zero, List.set_cons_succ, List.set_nil, List.append_nil, List.nil_append, List.cons_append, wipeG, List.length_cons, List.length_nil, true_and, if_true, if_false, Bool.false_eq_true]
      refine lc_range (n := bs.length) (fun lot => some (.bl (!at_ bs (bs.length - 1 - lot)))) (fun Q E q => q) (by omega) ?_ ?_
      · intro i acc hi Y N2 k1 k2
        have ei : ((bs.length : Nat) : Int) - 1 - (i : Int) = ((bs.length - 1 - i : Nat) : Int) := by omega
        simp only [csSeq, csNil, csBreak, csCont, csExpr, csRet, csRetN, csIf, csAsg, csSet, csAug, csRaise, cVar, cCon, cNil, cCons, cTup, cLst, cOp, cTest, cTru, ctAnd, ctOr, ctNot, ctYes, cAnd, cOr, cNot, cIf, cChain, cSl, coNone, coSome, cCB, cM, cM0, cCall, cgName, cgNil, cgCons, cgTup, cgSub, cXf, fI, fI0, gA0, gAs, xeq_int, xeq_bl, xeq_str, xne_int, xne_bl, xne_str, xtru_bl, xtru_int, xtru_non, xtru_tup, xadd_int, List.set_cons_zero, List.set_cons_succ, List.set_nil, List.append_nil, List.nil_append, List.cons_append, wipeG, List.length_cons, List.length_nil, true_and, if_true, if_false, Bool.false_eq_true, ei]
        rw [ix_of (items_hnd ((f1.trans Fr.push).get0 ha)) (at_get (by omega))]
        simp only [csSeq, csNil, csBreak, csCont, csExpr, csRet, csRetN, csIf, csAsg, csSet, csAug, csRaise, cVar, cCon, cNil, cCons, cTup, cLst, cOp, cTest, cTru, ctAnd, ctOr, ctNot, ctYes, cAnd, cOr, cNot, cIf, cChain, cSl, coNone, coSome, cCB, cM, cM0, cCall, cgName, cgNil, cgCons, cgTup, cgSub, cXf, fI, fI0, gA0, gAs, xeq_int, xeq_bl, xeq_str, xne_int, xne_bl, xne_str, xtru_bl, xtru_int, xtru_non, xtru_tup, xadd_int, List.set_cons_zero, List.set_cons_succ, List.set_nil, List.append_nil, List.nil_append, List.cons_append, wipeG, List.length_cons, List.length_nil, true_and, if_true, if_false, Bool.false_eq_true]
        exact k1 _ rfl
      · refine hN _ _ ⟨μ1.length, f1.trans Fr.push, ?_, rfl⟩
        rw [mu_top, List.filterMap_eq_map', turn, List.map_map]
        rfl
    clear f1
    rintro _ μ1 ⟨th, f1, ht, rfl⟩
    have hl2 : (turn bs).length = 2 ^ m := by rw [turn_len]; exact hn
    have hr2 := turn_rises hn hri
    have hT2 : ∀ {Pn : Nat → Prop} {Pf Ps : Prop}, Pn m → Told (turn bs) Pn Pf Ps := fun p => ⟨fun m' e _ => by rw [turn_len, hm] at e; cases e; exact p, fun m' e z => by rw [turn_len, hm] at e; cases e; exact absurd hr2 z, fun e => by rw [turn_len, hm] at e; cases e⟩
    have so : ∀ (l : List Nat) (μ : Mu) (Q : PV), (∀ ns' : List Int, ns'.Perm (l.map fun x : Nat => ((bs.length : Nat) : Int) - 1 - (x : Int)) → ns'.Pairwise (· ≤ ·) → Q (.hnd (μ ++ [CO.lst (l.map fun x : Nat => CV.int (((bs.length : Nat) : Int) - 1 - (x : Int)))]).length) ((μ ++ [CO.lst (l.map fun x : Nat => CV.int (((bs.length : Nat) : Int) - 1 - (x : Int)))]) ++ [.lst (ns'.map .int)])) →
        fSortedI [.hnd μ.length] (μ ++ [.lst (l.map fun x : Nat => CV.int (((bs.length : Nat) : Int) - 1 - (x : Int)))]) Q := fun l μ Q q => by
      have e : (clist (μ ++ [.lst (l.map fun x : Nat => CV.int (((bs.length : Nat) : Int) - 1 - (x : Int)))]) (.hnd μ.length)).bind asInts = some (l.map fun x : Nat => ((bs.length : Nat) : Int) - 1 - (x : Int)) := by
        simp only [clist, mu_top, Option.bind_some]
        rw [show (l.map fun x : Nat => CV.int (((bs.length : Nat) : Int) - 1 - (x : Int))) = (l.map fun x : Nat => ((bs.length : Nat) : Int) - 1 - (x : Int)).map CV.int by rw [List.map_map]; rfl]
        exact asInts_map _
      simp only [fSortedI, e]
      exact q
    refine seq_cut (fun Γ' μ' => Fr [] μ μ' ∧ μ'[th]? = some (.lst ((turn bs).map .bl)) ∧ Γ' = [some (.hnd n), some (.int t), some .non, some gv, some (.tup [.bl true, .tup (nats (leastOf bs m))]), some (.tup [.bl true, .tup (nats (greatestOf bs m))]), none, a, b, some (.int ((bs.length : Nat) : Int)), some (.hnd th), some (.tup (nats (leastOf (turn bs) m))), none]) (fun N hN => ?_) ?_
    · simp only [csSeq, csNil, csBreak, csCont, csExpr, csRet, csRetN, csIf, csAsg, csSet, csAug, csRaise, cVar, cCon, cNil, cCons, cTup, cLst, cOp, cTest, cTru, ctAnd, ctOr, ctNot, ctYes, cAnd, cOr, cNot, cIf, cChain, cSl, coNone, coSome, cCB, cM, cM0, cCall, cgName, cgNil, cgCons, cgTup, cgSub, cXf, fI, fI0, gA0, gAs, xeq_int, xeq_bl, xeq_str, xne_int, xne_bl, xne_str, xtru_bl, xtru_int, xtru_non, xtru_tup, xadd_int, List.set_cons_zero, List.set_cons_succ, List.set_nil, List.append_nil, List.nil_append, List.cons_append, wipeG, List.length_cons, List.length_nil, true_and, if_true, if_false, Bool.false_eq_true]
      refine lc_nats (greatestOf bs m) (fun x => .int (((bs.length : Nat) : Int) - 1 - (x : Int))) (by omega) (fun Q E q => by simp only [csSeq, csNil, csBreak, csCont, csExpr, csRet, csRetN, csIf, csAsg, csSet, csAug, csRaise, cVar, cCon, cNil, cCons, cTup, cLst, cOp, cTest, cTru, ctAnd, ctOr, ctNot, ctYes, cAnd, cOr, cNot, cIf, cChain, cSl, coNone, coSome, cCB, cM, cM0, cCall, cgName, cgNil, cgCons, cgTup, cgSub, cXf, fI, fI0, gA0, gAs, xeq_int, xeq_bl, xeq_str, xne_int, xne_bl, xne_str, xtru_bl, xtru_int, xtru_non, xtru_tup, xadd_int, List.set_cons_zero, List.set_cons_succ, List.set_nil, List.append_nil, List.nil_append, List.cons_append, wipeG, List.length_cons, List.length_nil, true_and, if_true, if_false, Bool.false_eq_true, ix1]; exact q) (fun one μ2 ho Y q => ?_) ?_
      · simp only [csSeq, csNil, csBreak, csCont, csExpr, csRet, csRetN, csIf, csAsg, csSet, csAug, csRaise, cVar, cCon, cNil, cCons, cTup, cLst, cOp, cTest, cTru, ctAnd, ctOr, ctNot, ctYes, cAnd, cOr, cNot, cIf, cChain, cSl, coNone, coSome, cCB, cM, cM0, cCall, cgName, cgNil, cgCons, cgTup, cgSub, cXf, fI, fI0, gA0, gAs, xeq_int, xeq_bl, xeq_str, xne_int, xne_bl, xne_str, xtru_bl, xtru_int, xtru_non, xtru_tup, xadd_int, List.set_cons_zero, List.set_cons_succ, List.set_nil, List.append_nil, List.nil_append, List.cons_append, wipeG, List.length_cons, List.length_nil, true_and, if_true, if_false, Bool.false_eq_true]
        exact q
      refine so _ _ _ fun ns' hp hs => ?_
      rw [turn_least hn hri hp hs, tuple_of (items_hnd mu_top)]
      refine hN _ _ ⟨(f1.trans Fr.push).trans Fr.push, (Fr.push.trans Fr.push).get0 ht, ?_⟩
      rw [List.map_map]
      rfl
    clear f1 ht
    rintro _ μ1 ⟨f1, ht, rfl⟩
    refine seq_cut (fun Γ' μ' => Fr [] μ μ' ∧ μ'[th]? = some (.lst ((turn bs).map .bl)) ∧ Γ' = [some (.hnd n), some (.int t), some .non, some gv, some (.tup [.bl true, .tup (nats (leastOf bs m))]), some (.tup [.bl true, .tup (nats (greatestOf bs m))]), none, a, b, some (.int ((bs.length : Nat) : Int)), some (.hnd th), some (.tup (nats (leastOf (turn bs) m))), none]) (fun N hN => ?_) ?_
    · simp only [csSeq, csNil, csBreak, csCont, csExpr, csRet, csRetN, csIf, csAsg, csSet, csAug, csRaise, cVar, cCon, cNil, cCons, cTup, cLst, cOp, cTest, cTru, ctAnd, ctOr, ctNot, ctYes, cAnd, cOr, cNot, cIf, cChain, cSl, coNone, coSome, cCB, cM, cM0, cCall, cgName, cgNil, cgCons, cgTup, cgSub, cXf, fI, fI0, gA0, gAs, xeq_int, xeq_bl, xeq_str, xne_int, xne_bl, xne_str, xtru_bl, xtru_int, xtru_non, xtru_tup, xadd_int, List.set_cons_zero, List.set_cons_succ, List.set_nil, List.append_nil, List.nil_append, List.cons_append, wipeG, List.length_cons, List.length_nil, true_and, if_true, if_false, Bool.false_eq_true, list_of (items_hnd ht)]
      refine ⟨_, turn bs, rfl, items_hnd mu_top, hT2 fun μ' f => ?_⟩
      dsimp only
      rw [ne_pd (pd_nats (k := 39) _) (pd_nats (k := 39) _), PySem.SeqAt.eqv_refl_plain _ (plain_nats _)]
      simp only [csSeq, csNil, csBreak, csCont, csExpr, csRet, csRetN, csIf, csAsg, csSet, csAug, csRaise, cVar, cCon, cNil, cCons, cTup, cLst, cOp, cTest, cTru, ctAnd, ctOr, ctNot, ctYes, cAnd, cOr, cNot, cIf, cChain, cSl, coNone, coSome, cCB, cM, cM0, cCall, cgName, cgNil, cgCons, cgTup, cgSub, cXf, fI, fI0, gA0, gAs, xeq_int, xeq_bl, xeq_str, xne_int, xne_bl, xne_str, xtru_bl, xtru_int, xtru_non, xtru_tup, xadd_int, List.set_cons_zero, List.set_cons_succ, List.set_nil, List.append_nil, List.nil_append, List.cons_append, wipeG, List.length_cons, List.length_nil, true_and, if_true, if_false, Bool.false_eq_true, Bool.not_true]
      exact hN _ _ ⟨(f1.trans Fr.push).trans f, (Fr.push.trans f).get0 ht, rfl⟩
    clear f1 ht
    rintro _ μ1 ⟨f1, ht, rfl⟩
    simp only [csSeq, csNil, csBreak, csCont, csExpr, csRet, csRetN, csIf, csAsg, csSet, csAug, csRaise, cVar, cCon, cNil, cCons, cTup, cLst, cOp, cTest, cTru, ctAnd, ctOr, ctNot, ctYes, cAnd, cOr, cNot, cIf, cChain, cSl, coNone, coSome, cCB, cM, cM0, cCall, cgName, cgNil, cgCons, cgTup, cgSub, cXf, fI, fI0, gA0, gAs, xeq_int, xeq_bl, xeq_str, xne_int, xne_bl, xne_str, xtru_bl, xtru_int, xtru_non, xtru_tup, xadd_int, List.set_cons_zero, List.set_cons_succ, List.set_nil, List.append_nil, List.nil_append, List.cons_append, wipeG, List.length_cons, List.length_nil, true_and, if_true, if_false, Bool.false_eq_true, tuple_of (items_hnd ht)]
    refine ⟨_, turn bs, rfl, rfl, hT2 fun μ' f => ?_⟩
    refine lc_nats (leastOf bs m) (fun x => .int (((bs.length : Nat) : Int) - 1 - (x : Int))) (by omega) (fun Q E q => by simp only [csSeq, csNil, csBreak, csCont, csExpr, csRet, csRetN, csIf, csAsg, csSet, csAug, csRaise, cVar, cCon, cNil, cCons, cTup, cLst, cOp, cTest, cTru, ctAnd, ctOr, ctNot, ctYes, cAnd, cOr, cNot, cIf, cChain, cSl, coNone, coSome, cCB, cM, cM0, cCall, cgName, cgNil, cgCons, cgTup, cgSub, cXf, fI, fI0, gA0, gAs, xeq_int, xeq_bl, xeq_str, xne_int, xne_bl, xne_str, xtru_bl, xtru_int, xtru_non, xtru_tup, xadd_int, List.set_cons_zero, List.set_cons_succ, List.set_nil, List.append_nil, List.nil_append, List.cons_append, wipeG, List.length_cons, List.length_nil, true_and, if_true, if_false, Bool.false_eq_true, ix1]; exact q) (fun one μ2 ho Y q => ?_) ?_
    · simp only [csSeq, csNil, csBreak, csCont, csExpr, csRet, csRetN, csIf, csAsg, csSet, csAug, csRaise, cVar, cCon, cNil, cCons, cTup, cLst, cOp, cTest, cTru, ctAnd, ctOr, ctNot, ctYes, cAnd, cOr, cNot, cIf, cChain, cSl, coNone, coSome, cCB, cM, cM0, cCall, cgName, cgNil, cgCons, cgTup, cgSub, cXf, fI, fI0, gA0, gAs, xeq_int, xeq_bl, xeq_str, xne_int, xne_bl, xne_str, xtru_bl, xtru_int, xtru_non, xtru_tup, xadd_int, List.set_cons_zero, List.set_cons_succ, List.set_nil, List.append_nil, List.nil_append, List.cons_append, wipeG, List.length_cons, List.length_nil, true_and, if_true, if_false, Bool.false_eq_true]
      exact q
    refine so _ _ _ fun ns' hp hs => ?_
    rw [turn_greatest hn hri hp hs, tuple_of (items_hnd mu_top), List.map_map]
    show fEq (.tup (nats (greatestOf (turn bs) m))) (.tup (nats (greatestOf (turn bs) m))) _ _
    rw [eq_pd (pd_nats (k := 39) _) (pd_nats (k := 39) _), PySem.SeqAt.eqv_refl_plain _ (plain_nats _)]
    exact k _ (((f1.trans f).trans Fr.push).trans Fr.push)
end K59
namespace K59
open PySem PySem.Spec PyProof.Rows L2 Cl
theorem pure_law (xs : List CV) (μ : Mu) (P : PV) (E : PX) (h : sp_law xs μ P E) : c_law (startG N_law xs) μ (Dn P E) := by
  obtain ⟨ns, rfl, hl, k⟩ := h
  have hz := big70
  show c_law [some (.rol (ns.map .int)), none, none, none, none, none, none] μ (Dn P E)
  unfold c_law
  refine seq_cut (fun Γ' μ' => ∃ h g, Dw μ' h g ∧ Γ' = [some (.rol (ns.map .int)), some (.hnd h), none, none, none, none, none]) (fun N hN => ?_) ?_
  · simp only [csSeq, csNil, csBreak, csCont, csExpr, csRet, csRetN, csIf, csAsg, csSet, csAug, csRaise, cVar, cCon, cNil, cCons, cTup, cLst, cOp, cTest, cTru, ctAnd, ctOr, ctNot, ctYes, cAnd, cOr, cNot, cIf, cChain, cSl, coNone, coSome, cCB, cM, cM0, cCall, cgName, cgNil, cgCons, cgTup, cgSub, cXf, fI, fI0, gA0, gAs, xeq_int, xeq_bl, xeq_str, xne_int, xne_bl, xne_str, xtru_bl, xtru_int, xtru_non, xtru_tup, xadd_int, List.set_cons_zero, List.set_cons_succ, List.set_nil, List.append_nil, List.nil_append, List.cons_append, wipeG, List.length_cons, List.length_nil, true_and, if_true, if_false, Bool.false_eq_true]
    exact ⟨ns, rfl, hl, fun h g μ' f d _ _ => hN _ _ ⟨h, g, d, rfl⟩⟩
  rintro _ μ1 ⟨h, g, d1, rfl⟩
  have hlt := d1.lt
  refine seq_cut (fun Γ' μ' => ∃ (tn : Nat) (ts : List (Nat × List Bool)), Dw μ' h g ∧ ts.length = 3 ∧ μ'[tn]? = some (.lst (ts.map fun t => .hnd t.1)) ∧ (h ≠ tn ∧ g ≠ tn) ∧ (∀ t ∈ ts, (h ≠ t.1 ∧ g ≠ t.1) ∧ μ'[t.1]? = some (.lst (t.2.map .bl)) ∧ t.2.length ≤ 70) ∧ Γ' = [some (.rol (ns.map .int)), some (.hnd h), some (.hnd tn), none, none, none, none]) (fun N hN => ?_) ?_
  · simp only [csSeq, csNil, csBreak, csCont, csExpr, csRet, csRetN, csIf, csAsg, csSet, csAug, csRaise, cVar, cCon, cNil, cCons, cTup, cLst, cOp, cTest, cTru, ctAnd, ctOr, ctNot, ctYes, cAnd, cOr, cNot, cIf, cChain, cSl, coNone, coSome, cCB, cM, cM0, cCall, cgName, cgNil, cgCons, cgTup, cgSub, cXf, fI, fI0, gA0, gAs, xeq_int, xeq_bl, xeq_str, xne_int, xne_bl, xne_str, xtru_bl, xtru_int, xtru_non, xtru_tup, xadd_int, List.set_cons_zero, List.set_cons_succ, List.set_nil, List.append_nil, List.nil_append, List.cons_append, wipeG, List.length_cons, List.length_nil, true_and, if_true, if_false, Bool.false_eq_true]
    refine lc_rangeI (n := 3) (μ := μ1) [h, g] (fun i acc μ' => Dw μ' h g ∧ ∃ ts : List (Nat × List Bool), ts.length = i ∧ acc = (ts.map fun t => .hnd t.1) ∧ ∀ t ∈ ts, ((h ≠ t.1 ∧ g ≠ t.1) ∧ t.1 ≠ μ1.length) ∧ μ'[t.1]? = some (.lst (t.2.map .bl)) ∧ t.2.length ≤ 70) (fun Q E q => q) (by omega) (by simp; omega) ?_ ?_ ?_ ?_
    · exact ⟨d1.fr Fr.push (S := []) (by simp) (by simp), [], rfl, rfl, fun t ht => by simp at ht⟩
    · rintro i acc μ' l ⟨d, ts, h1, h2, h3⟩ f hlt'
      refine ⟨d.set (μ := μ1) (by omega) (by omega), ts, h1, h2, fun t ht => ?_⟩
      obtain ⟨a, b, c⟩ := h3 t ht
      exact ⟨a, mu_setne (μ := μ1) b a.2, c⟩
    · rintro i acc μ' hi ⟨d, ts, h1, h2, h3⟩ f e Y N2 k1 k2
      simp only [csSeq, csNil, csBreak, csCont, csExpr, csRet, csRetN, csIf, csAsg, csSet, csAug, csRaise, cVar, cCon, cNil, cCons, cTup, cLst, cOp, cTest, cTru, ctAnd, ctOr, ctNot, ctYes, cAnd, cOr, cNot, cIf, cChain, cSl, coNone, coSome, cCB, cM, cM0, cCall, cgName, cgNil, cgCons, cgTup, cgSub, cXf, fI, fI0, gA0, gAs, xeq_int, xeq_bl, xeq_str, xne_int, xne_bl, xne_str, xtru_bl, xtru_int, xtru_non, xtru_tup, xadd_int, List.set_cons_zero, List.set_cons_succ, List.set_nil, List.append_nil, List.nil_append, List.cons_append, wipeG, List.length_cons, List.length_nil, true_and, if_true, if_false, Bool.false_eq_true]
      refine ⟨h, g, rfl, d, fun n bs μ2 f2 d2 hn e2 hb => ?_⟩
      have hm := mlt e
      have hd := d.lt
      refine k1 _ _ ⟨d2, ts ++ [(n, bs)], by simp [h1], by simp [h2], fun t ht => ?_⟩ f2
      rcases List.mem_append.mp ht with ht | ht
      · obtain ⟨a, b, c⟩ := h3 t ht
        exact ⟨a, f2.get b (by simp; exact ⟨fun z => a.1.1 z.symm, fun z => a.1.2 z.symm⟩), c⟩
      · obtain rfl : t = (n, bs) := by simpa using ht
        exact ⟨⟨⟨by show h ≠ n; omega, by show g ≠ n; omega⟩, by show n ≠ _; omega⟩, e2, hb⟩
    · rintro acc μ' ⟨d, ts, h1, h2, h3⟩ _ f e
      subst h2
      exact hN _ _ ⟨μ1.length, ts, d, h1, e, ⟨by omega, by omega⟩, fun t ht => ⟨(h3 t ht).1.1, (h3 t ht).2⟩, rfl⟩
  rintro _ μ2 ⟨tn, ts, d2, hts, et, hne, hT, rfl⟩
  have hlt2 := d2.lt
  refine seq_cut (fun Γ' μ' => ∃ (un : Nat) (zs : List Int), zs.length = 3 ∧ μ'[tn]? = some (.lst (ts.map fun t => .hnd t.1)) ∧ μ'[un]? = some (.lst (zs.map .int)) ∧ (∀ t ∈ ts, μ'[t.1]? = some (.lst (t.2.map .bl)) ∧ t.2.length ≤ 70) ∧ Γ' = [some (.rol (ns.map .int)), some (.hnd h), some (.hnd tn), some (.hnd un), none, none, none]) (fun N hN => ?_) ?_
  · simp only [csSeq, csNil, csBreak, csCont, csExpr, csRet, csRetN, csIf, csAsg, csSet, csAug, csRaise, cVar, cCon, cNil, cCons, cTup, cLst, cOp, cTest, cTru, ctAnd, ctOr, ctNot, ctYes, cAnd, cOr, cNot, cIf, cChain, cSl, coNone, coSome, cCB, cM, cM0, cCall, cgName, cgNil, cgCons, cgTup, cgSub, cXf, fI, fI0, gA0, gAs, xeq_int, xeq_bl, xeq_str, xne_int, xne_bl, xne_str, xtru_bl, xtru_int, xtru_non, xtru_tup, xadd_int, List.set_cons_zero, List.set_cons_succ, List.set_nil, List.append_nil, List.nil_append, List.cons_append, wipeG, List.length_cons, List.length_nil, true_and, if_true, if_false, Bool.false_eq_true]
    refine lc_rangeI (n := 3) (μ := μ2) [h, g] (fun i acc μ' => Dw μ' h g ∧ ∃ zs : List Int, zs.length = i ∧ acc = zs.map .int) (fun Q E q => q) (by omega) (by simp; omega) ?_ ?_ ?_ ?_
    · exact ⟨d2.fr Fr.push (S := []) (by simp) (by simp), [], rfl, rfl⟩
    · rintro i acc μ' l ⟨d, z⟩ f hlt'
      exact ⟨d.set (μ := μ1) (by omega) (by omega), z⟩
    · rintro i acc μ' hi ⟨d, zs, h1, h2⟩ f e Y N2 k1 k2
      simp only [csSeq, csNil, csBreak, csCont, csExpr, csRet, csRetN, csIf, csAsg, csSet, csAug, csRaise, cVar, cCon, cNil, cCons, cTup, cLst, cOp, cTest, cTru, ctAnd, ctOr, ctNot, ctYes, cAnd, cOr, cNot, cIf, cChain, cSl, coNone, coSome, cCB, cM, cM0, cCall, cgName, cgNil, cgCons, cgTup, cgSub, cXf, fI, fI0, gA0, gAs, xeq_int, xeq_bl, xeq_str, xne_int, xne_bl, xne_str, xtru_bl, xtru_int, xtru_non, xtru_tup, xadd_int, List.set_cons_zero, List.set_cons_succ, List.set_nil, List.append_nil, List.nil_append, List.cons_append, wipeG, List.length_cons, List.length_nil, true_and, if_true, if_false, Bool.false_eq_true]
      refine ⟨h, g, 2, rfl, by decide, d, fun r μ3 _ _ d3 f3 => ?_⟩
      exact k1 _ _ ⟨d3, zs ++ [r], by simp [h1], by simp [h2]⟩ f3
    · rintro acc μ' ⟨d, zs, h1, h2⟩ _ f e
      subst h2
      have fr : ∀ n o, μ2[n]? = some o → h ≠ n → g ≠ n → μ'[n]? = some o := fun n o a b c => f.get a (by simp; exact ⟨fun z => b z.symm, fun z => c z.symm⟩)
      exact hN _ _ ⟨μ2.length, zs, h1, fr _ _ et hne.1 hne.2, e, fun t ht => ⟨fr _ _ (hT t ht).2.1 (hT t ht).1.1 (hT t ht).1.2, (hT t ht).2.2⟩, rfl⟩
  rintro _ μ3 ⟨un, zs, hzs, et3, eu, hT3, rfl⟩
  refine seq_cut (fun Γ' μ' => Fr [] μ3 μ' ∧ ∃ a b, Γ' = [some (.rol (ns.map .int)), some (.hnd h), some (.hnd tn), some (.hnd un), a, b, none]) (fun N hN => ?_) ?_
  · refine for_enum (k := 2) (x := .hnd tn) (l := ts.map fun t => .hnd t.1) rfl (fun i Γ' μ' => Fr [] μ3 μ' ∧ ∃ a b, Γ' = [some (.rol (ns.map .int)), some (.hnd h), some (.hnd tn), some (.hnd un), a, b, none]) ⟨Fr.refl, _, _, rfl⟩ ?_ ?_ ?_
    · rintro i Γ' μ' ⟨f, _⟩
      exact items_hnd (f.get0 et3)
    · rintro i y Γ' μ' hy ⟨f, a, b, rfl⟩ N2 hN2
      rw [List.getElem?_map] at hy
      obtain ⟨t, ht, rfl⟩ := Option.map_eq_some_iff.mp hy
      have hm := List.mem_of_getElem? ht
      have hi : i < zs.length := by have := (List.getElem?_eq_some_iff.mp ht).1; omega
      have hzi : (zs.map CV.int)[i]? = some (.int zs[i]) := by simp [hi]
      simp only [csSeq, csNil, csBreak, csCont, csExpr, csRet, csRetN, csIf, csAsg, csSet, csAug, csRaise, cVar, cCon, cNil, cCons, cTup, cLst, cOp, cTest, cTru, ctAnd, ctOr, ctNot, ctYes, cAnd, cOr, cNot, cIf, cChain, cSl, coNone, coSome, cCB, cM, cM0, cCall, cgName, cgNil, cgCons, cgTup, cgSub, cXf, fI, fI0, gA0, gAs, xeq_int, xeq_bl, xeq_str, xne_int, xne_bl, xne_str, xtru_bl, xtru_int, xtru_non, xtru_tup, xadd_int, List.set_cons_zero, List.set_cons_succ, List.set_nil, List.append_nil, List.nil_append, List.cons_append, wipeG, List.length_cons, List.length_nil, true_and, if_true, if_false, Bool.false_eq_true]
      rw [ix_of (items_hnd (f.get0 eu)) hzi]
      refine ⟨t.1, t.2, zs[i], rfl, f.get0 (hT3 t hm).1, (hT3 t hm).2, fun μ4 f4 => ?_⟩
      simp only [csSeq, csNil, csBreak, csCont, csExpr, csRet, csRetN, csIf, csAsg, csSet, csAug, csRaise, cVar, cCon, cNil, cCons, cTup, cLst, cOp, cTest, cTru, ctAnd, ctOr, ctNot, ctYes, cAnd, cOr, cNot, cIf, cChain, cSl, coNone, coSome, cCB, cM, cM0, cCall, cgName, cgNil, cgCons, cgTup, cgSub, cXf, fI, fI0, gA0, gAs, xeq_int, xeq_bl, xeq_str, xne_int, xne_bl, xne_str, xtru_bl, xtru_int, xtru_non, xtru_tup, xadd_int, List.set_cons_zero, List.set_cons_succ, List.set_nil, List.append_nil, List.nil_append, List.cons_append, wipeG, List.length_cons, List.length_nil, true_and, if_true, if_false, Bool.false_eq_true, Bool.not_true]
      exact hN2 _ _ ⟨f.trans f4, _, _, rfl⟩
    · rintro Γ' μ' ⟨f, a, b, rfl⟩
      exact hN _ _ ⟨f, a, b, rfl⟩
  rintro _ μ4 ⟨f, a, b, rfl⟩
  obtain ⟨t, r, rfl⟩ : ∃ t r, ts = t :: r := by
    cases ts with
    | nil => cases hts
    | cons t r => exact ⟨t, r, rfl⟩
  obtain ⟨z, r2, rfl⟩ : ∃ z r2, zs = z :: r2 := by
    cases zs with
    | nil => cases hzs
    | cons t r => exact ⟨t, r, rfl⟩
  have hm : t ∈ t :: r := List.mem_cons_self
  simp only [csSeq, csNil, csBreak, csCont, csExpr, csRet, csRetN, csIf, csAsg, csSet, csAug, csRaise, cVar, cCon, cNil, cCons, cTup, cLst, cOp, cTest, cTru, ctAnd, ctOr, ctNot, ctYes, cAnd, cOr, cNot, cIf, cChain, cSl, coNone, coSome, cCB, cM, cM0, cCall, cgName, cgNil, cgCons, cgTup, cgSub, cXf, fI, fI0, gA0, gAs, xeq_int, xeq_bl, xeq_str, xne_int, xne_bl, xne_str, xtru_bl, xtru_int, xtru_non, xtru_tup, xadd_int, List.set_cons_zero, List.set_cons_succ, List.set_nil, List.append_nil, List.nil_append, List.cons_append, wipeG, List.length_cons, List.length_nil, true_and, if_true, if_false, Bool.false_eq_true]
  rw [ix_of' (items_hnd (f.get0 et3)) (by decide) rfl]
  simp only [csSeq, csNil, csBreak, csCont, csExpr, csRet, csRetN, csIf, csAsg, csSet, csAug, csRaise, cVar, cCon, cNil, cCons, cTup, cLst, cOp, cTest, cTru, ctAnd, ctOr, ctNot, ctYes, cAnd, cOr, cNot, cIf, cChain, cSl, coNone, coSome, cCB, cM, cM0, cCall, cgName, cgNil, cgCons, cgTup, cgSub, cXf, fI, fI0, gA0, gAs, xeq_int, xeq_bl, xeq_str, xne_int, xne_bl, xne_str, xtru_bl, xtru_int, xtru_non, xtru_tup, xadd_int, List.set_cons_zero, List.set_cons_succ, List.set_nil, List.append_nil, List.nil_append, List.cons_append, wipeG, List.length_cons, List.length_nil, true_and, if_true, if_false, Bool.false_eq_true]
  rw [ix_of' (items_hnd (f.get0 eu)) (by decide) rfl]
  simp only [csSeq, csNil, csBreak, csCont, csExpr, csRet, csRetN, csIf, csAsg, csSet, csAug, csRaise, cVar, cCon, cNil, cCons, cTup, cLst, cOp, cTest, cTru, ctAnd, ctOr, ctNot, ctYes, cAnd, cOr, cNot, cIf, cChain, cSl, coNone, coSome, cCB, cM, cM0, cCall, cgName, cgNil, cgCons, cgTup, cgSub, cXf, fI, fI0, gA0, gAs, xeq_int, xeq_bl, xeq_str, xne_int, xne_bl, xne_str, xtru_bl, xtru_int, xtru_non, xtru_tup, xadd_int, List.set_cons_zero, List.set_cons_succ, List.set_nil, List.append_nil, List.nil_append, List.cons_append, wipeG, List.length_cons, List.length_nil, true_and, if_true, if_false, Bool.false_eq_true]
  exact ⟨t.1, t.2, 1 - z, rfl, f.get0 (hT3 t hm).1, (hT3 t hm).2, fun μ5 _ => k μ5⟩
end K59
namespace K59
open PySem PySem.Spec PyProof.Rows L2 Cl

variable {P : Program} {w : World} {K : PySem.W.Frag} {mg : Str → Option Value} {base : Heap}
theorem len_things_of (xs : List CV) (μ : Mu) (P : PV) (E : PX) (h : sp_things_of xs μ P E) : xs.length = p_things_of.length := by
  obtain ⟨_, _, rfl, _⟩ := h
  rfl
theorem ok_things_of (G : GF FR GL K mg) (D : Dcs K) (XRefused : ExD P w K mg base 7 "reason") {fd : FuncData} (F : FunD K "things_of" "things_of" (defArgs s_things_of) (defBody s_things_of) (defScope s_things_of) [] [] (He.ga K "things_of") fd) : OkG P w K mg base 3 (He.ga K "things_of") sp_things_of [] :=
  okG F (fun _ _ _ _ _ _ us hl => match us, hl with | [_], _ => rfl) sc_things_of len_things_of (fun cdv A outer s H E hr => d_things_of G D XRefused cdv A outer s H E hr) pure_things_of
theorem len_check_rises (xs : List CV) (μ : Mu) (P : PV) (E : PX) (h : sp_check_rises xs μ P E) : xs.length = p_check_rises.length := by
  obtain ⟨_, _, rfl, _⟩ := h
  rfl
theorem ok_check_rises (G : GF FR GL K mg) (D : Dcs K) (F_things_of : OkG P w K mg base 3 (He.ga K "things_of") sp_things_of []) (XRefused : ExD P w K mg base 7 "reason") {fd : FuncData} (F : FunD K "check_rises" "check_rises" (defArgs s_check_rises) (defBody s_check_rises) (defScope s_check_rises) [] [] (He.ga K "check_rises") fd) : OkG P w K mg base 4 (He.ga K "check_rises") sp_check_rises [] :=
  okG F (fun _ _ _ _ _ _ us hl => match us, hl with | [_], _ => rfl) sc_check_rises len_check_rises (fun cdv A outer s H E hr => d_check_rises G D F_things_of XRefused cdv A outer s H E hr) pure_check_rises
theorem len_least_lots (xs : List CV) (μ : Mu) (P : PV) (E : PX) (h : sp_least_lots xs μ P E) : xs.length = p_least_lots.length := by
  obtain ⟨_, _, rfl, _⟩ := h
  rfl
theorem ok_least_lots (G : GF FR GL K mg) (D : Dcs K) (F_check_rises : OkG P w K mg base 4 (He.ga K "check_rises") sp_check_rises []) {fd : FuncData} (F : FunD K "least_lots" "least_lots" (defArgs s_least_lots) (defBody s_least_lots) (defScope s_least_lots) [] [] (He.ga K "least_lots") fd) : OkG P w K mg base 5 (He.ga K "least_lots") sp_least_lots [] :=
  okG F (fun _ _ _ _ _ _ us hl => match us, hl with | [_], _ => rfl) sc_least_lots len_least_lots (fun cdv A outer s H E hr => d_least_lots G D F_check_rises cdv A outer s H E hr) pure_least_lots
theorem len_greatest_lots (xs : List CV) (μ : Mu) (P : PV) (E : PX) (h : sp_greatest_lots xs μ P E) : xs.length = p_greatest_lots.length := by
  obtain ⟨_, _, rfl, _⟩ := h
  rfl
theorem ok_greatest_lots (G : GF FR GL K mg) (D : Dcs K) (F_check_rises : OkG P w K mg base 4 (He.ga K "check_rises") sp_check_rises []) {fd : FuncData} (F : FunD K "greatest_lots" "greatest_lots" (defArgs s_greatest_lots) (defBody s_greatest_lots) (defScope s_greatest_lots) [] [] (He.ga K "greatest_lots") fd) : OkG P w K mg base 5 (He.ga K "greatest_lots") sp_greatest_lots [] :=
  okG F (fun _ _ _ _ _ _ us hl => match us, hl with | [_], _ => rfl) sc_greatest_lots len_greatest_lots (fun cdv A outer s H E hr => d_greatest_lots G D F_check_rises cdv A outer s H E hr) pure_greatest_lots
theorem len__law_begin (xs : List CV) (μ : Mu) (P : PV) (E : PX) (h : sp__law_begin xs μ P E) : xs.length = p__law_begin.length := by
  obtain ⟨_, rfl, _⟩ := h
  rfl
theorem ok__law_begin (G : GF FR GL K mg) (D : Dcs K) {fd : FuncData} (F : FunD K "_law_begin" "_law_begin" (defArgs s__law_begin) (defBody s__law_begin) (defScope s__law_begin) [] [] (He.ga K "_law_begin") fd) : OkG P w K mg base 1 (He.ga K "_law_begin") sp__law_begin [] :=
  okG F (fun _ _ _ _ _ _ us hl => match us, hl with | [_], _ => rfl) sc__law_begin len__law_begin (fun cdv A outer s H E hr => d__law_begin G D cdv A outer s H E hr) pure__law_begin
theorem len__law_draw (xs : List CV) (μ : Mu) (P : PV) (E : PX) (h : sp__law_draw xs μ P E) : xs.length = p__law_draw.length := by
  obtain ⟨_, _, _, rfl, _⟩ := h
  rfl
theorem ok__law_draw (G : GF FR GL K mg) (D : Dcs K) {fd : FuncData} (F : FunD K "_law_draw" "_law_draw" (defArgs s__law_draw) (defBody s__law_draw) (defScope s__law_draw) [] [] (He.ga K "_law_draw") fd) : OkG P w K mg base 1 (He.ga K "_law_draw") sp__law_draw [] :=
  okG F (fun _ _ _ _ _ _ us hl => match us, hl with | [_, _], _ => rfl) sc__law_draw len__law_draw (fun cdv A outer s H E hr => d__law_draw G D cdv A outer s H E hr) pure__law_draw
theorem len__law_is_count (xs : List CV) (μ : Mu) (P : PV) (E : PX) (h : sp__law_is_count xs μ P E) : xs.length = p__law_is_count.length := by
  obtain ⟨_, rfl, _⟩ := h
  rfl
theorem ok__law_is_count (G : GF FR GL K mg) (D : Dcs K) {fd : FuncData} (F : FunD K "_law_is_count" "_law_is_count" (defArgs s__law_is_count) (defBody s__law_is_count) (defScope s__law_is_count) [] [] (He.ga K "_law_is_count") fd) : OkG P w K mg base 1 (He.ga K "_law_is_count") sp__law_is_count [] :=
  okG F (fun _ _ _ _ _ _ us hl => match us, hl with | [_], _ => rfl) sc__law_is_count len__law_is_count (fun cdv A outer s H E hr => d__law_is_count G D cdv A outer s H E hr) pure__law_is_count
theorem len__law_table (xs : List CV) (μ : Mu) (P : PV) (E : PX) (h : sp__law_table xs μ P E) : xs.length = p__law_table.length := by
  obtain ⟨_, _, rfl, _⟩ := h
  rfl
theorem ok__law_table (G : GF FR GL K mg) (D : Dcs K) (F__law_draw : OkG P w K mg base 1 (He.ga K "_law_draw") sp__law_draw []) {fd : FuncData} (F : FunD K "_law_table" "_law_table" (defArgs s__law_table) (defBody s__law_table) (defScope s__law_table) [] [] (He.ga K "_law_table") fd) : OkG P w K mg base 2 (He.ga K "_law_table") sp__law_table [] :=
  okG F (fun _ _ _ _ _ _ us hl => match us, hl with | [_], _ => rfl) sc__law_table len__law_table (fun cdv A outer s H E hr => d__law_table G D F__law_draw cdv A outer s H E hr) pure__law_table
theorem len__law_refusal (xs : List CV) (μ : Mu) (P : PV) (E : PX) (h : sp__law_refusal xs μ P E) : xs.length = p__law_refusal.length := by
  obtain ⟨_, _, rfl, _⟩ := h
  rfl
theorem ok__law_refusal (G : GF FR GL K mg) (D : Dcs K) {fd : FuncData} (F : FunD K "_law_refusal" "_law_refusal" (defArgs s__law_refusal) (defBody s__law_refusal) (defScope s__law_refusal) [] [] (He.ga K "_law_refusal") fd) : OkG P w K mg base 1 (He.ga K "_law_refusal") sp__law_refusal [] :=
  okG F (fun _ _ _ _ _ _ us hl => match us, hl with | [_], _ => rfl) sc__law_refusal len__law_refusal (fun cdv A outer s H E hr => d__law_refusal G D cdv A outer s H E hr) pure__law_refusal
theorem len__law_lots (xs : List CV) (μ : Mu) (P : PV) (E : PX) (h : sp__law_lots xs μ P E) : xs.length = p__law_lots.length := by
  obtain ⟨_, _, _, _, rfl, _⟩ := h
  rfl
theorem ok__law_lots (G : GF FR GL K mg) (D : Dcs K) {fd : FuncData} (F : FunD K "_law_lots" "_law_lots" (defArgs s__law_lots) (defBody s__law_lots) (defScope s__law_lots) [] [] (He.ga K "_law_lots") fd) : OkG P w K mg base 1 (He.ga K "_law_lots") sp__law_lots [] :=
  okG F (fun _ _ _ _ _ _ us hl => match us, hl with | [_, _], _ => rfl) sc__law_lots len__law_lots (fun cdv A outer s H E hr => d__law_lots G D cdv A outer s H E hr) pure__law_lots
theorem len__law_least_told (xs : List CV) (μ : Mu) (P : PV) (E : PX) (h : sp__law_least_told xs μ P E) : xs.length = p__law_least_told.length := by
  obtain ⟨_, _, rfl, _⟩ := h
  rfl
theorem ok__law_least_told (G : GF FR GL K mg) (D : Dcs K) (F_least_lots : OkG P w K mg base 5 (He.ga K "least_lots") sp_least_lots []) (MT_Refused : ∀ k b, mt_Refused k = some b → PySem.W.exmOne K (.ref (kA K k)) (.ref (He.ga K "Refused")) = some b) (XC : ∀ n, mt_Refused n = some true → XCl K n "reason") (IS_LodgeError : ∀ n, mt_Refused n = some true → PySem.W.kitOne K (.ref (kA K n)) (.ref (He.ga K "LodgeError")) = some true) {fd : FuncData} (F : FunD K "_law_least_told" "_law_least_told" (defArgs s__law_least_told) (defBody s__law_least_told) (defScope s__law_least_told) [] [] (He.ga K "_law_least_told") fd) : OkG P w K mg base 6 (He.ga K "_law_least_told") sp__law_least_told [] :=
  okG F (fun _ _ _ _ _ _ us hl => match us, hl with | [_], _ => rfl) sc__law_least_told len__law_least_told (fun cdv A outer s H E hr => d__law_least_told G D F_least_lots MT_Refused XC IS_LodgeError cdv A outer s H E hr) pure__law_least_told
theorem len__law_greatest_told (xs : List CV) (μ : Mu) (P : PV) (E : PX) (h : sp__law_greatest_told xs μ P E) : xs.length = p__law_greatest_told.length := by
  obtain ⟨_, _, rfl, _⟩ := h
  rfl
theorem ok__law_greatest_told (G : GF FR GL K mg) (D : Dcs K) (F_greatest_lots : OkG P w K mg base 5 (He.ga K "greatest_lots") sp_greatest_lots []) (MT_Refused : ∀ k b, mt_Refused k = some b → PySem.W.exmOne K (.ref (kA K k)) (.ref (He.ga K "Refused")) = some b) (XC : ∀ n, mt_Refused n = some true → XCl K n "reason") (IS_LodgeError : ∀ n, mt_Refused n = some true → PySem.W.kitOne K (.ref (kA K n)) (.ref (He.ga K "LodgeError")) = some true) {fd : FuncData} (F : FunD K "_law_greatest_told" "_law_greatest_told" (defArgs s__law_greatest_told) (defBody s__law_greatest_told) (defScope s__law_greatest_told) [] [] (He.ga K "_law_greatest_told") fd) : OkG P w K mg base 6 (He.ga K "_law_greatest_told") sp__law_greatest_told [] :=
  okG F (fun _ _ _ _ _ _ us hl => match us, hl with | [_], _ => rfl) sc__law_greatest_told len__law_greatest_told (fun cdv A outer s H E hr => d__law_greatest_told G D F_greatest_lots MT_Refused XC IS_LodgeError cdv A outer s H E hr) pure__law_greatest_told
theorem len__law_row_right (xs : List CV) (μ : Mu) (P : PV) (E : PX) (h : sp__law_row_right xs μ P E) : xs.length = p__law_row_right.length := by
  obtain ⟨_, rfl, _⟩ := h
  rfl
theorem ok__law_row_right (G : GF FR GL K mg) (D : Dcs K) (F__law_is_count : OkG P w K mg base 1 (He.ga K "_law_is_count") sp__law_is_count []) {fd : FuncData} (F : FunD K "_law_row_right" "_law_row_right" (defArgs s__law_row_right) (defBody s__law_row_right) (defScope s__law_row_right) [] [] (He.ga K "_law_row_right") fd) : OkG P w K mg base 2 (He.ga K "_law_row_right") sp__law_row_right [] :=
  okG F (fun _ _ _ _ _ _ us hl => match us, hl with | [_, _], _ => rfl) sc__law_row_right len__law_row_right (fun cdv A outer s H E hr => d__law_row_right G D F__law_is_count cdv A outer s H E hr) pure__law_row_right
theorem len__law_table_right (xs : List CV) (μ : Mu) (P : PV) (E : PX) (h : sp__law_table_right xs μ P E) : xs.length = p__law_table_right.length := by
  obtain ⟨_, _, _, rfl, _⟩ := h
  rfl
theorem ok__law_table_right (G : GF FR GL K mg) (D : Dcs K) (F__law_refusal : OkG P w K mg base 1 (He.ga K "_law_refusal") sp__law_refusal []) (F__law_least_told : OkG P w K mg base 6 (He.ga K "_law_least_told") sp__law_least_told []) (F__law_greatest_told : OkG P w K mg base 6 (He.ga K "_law_greatest_told") sp__law_greatest_told []) (F__law_row_right : OkG P w K mg base 2 (He.ga K "_law_row_right") sp__law_row_right []) (F__law_lots : OkG P w K mg base 1 (He.ga K "_law_lots") sp__law_lots []) (F_least_lots : OkG P w K mg base 5 (He.ga K "least_lots") sp_least_lots []) (F_greatest_lots : OkG P w K mg base 5 (He.ga K "greatest_lots") sp_greatest_lots []) {fd : FuncData} (F : FunD K "_law_table_right" "_law_table_right" (defArgs s__law_table_right) (defBody s__law_table_right) (defScope s__law_table_right) [] [] (He.ga K "_law_table_right") fd) : OkG P w K mg base 7 (He.ga K "_law_table_right") sp__law_table_right [] :=
  okG F (fun _ _ _ _ _ _ us hl => match us, hl with | [_, _], _ => rfl) sc__law_table_right len__law_table_right (fun cdv A outer s H E hr => d__law_table_right G D F__law_refusal F__law_least_told F__law_greatest_told F__law_row_right F__law_lots F_least_lots F_greatest_lots cdv A outer s H E hr) pure__law_table_right
theorem len_law (xs : List CV) (μ : Mu) (P : PV) (E : PX) (h : sp_law xs μ P E) : xs.length = p_law.length := by
  obtain ⟨_, rfl, _⟩ := h
  rfl
theorem ok_law (G : GF FR GL K mg) (D : Dcs K) (F__law_begin : OkG P w K mg base 1 (He.ga K "_law_begin") sp__law_begin []) (F__law_table : OkG P w K mg base 2 (He.ga K "_law_table") sp__law_table []) (F__law_draw : OkG P w K mg base 1 (He.ga K "_law_draw") sp__law_draw []) (F__law_table_right : OkG P w K mg base 7 (He.ga K "_law_table_right") sp__law_table_right []) {fd : FuncData} (F : FunD K "law" "law" (defArgs s_law) (defBody s_law) (defScope s_law) [] [] (He.ga K "law") fd) : OkG P w K mg base 8 (He.ga K "law") sp_law [] :=
  okG F (fun _ _ _ _ _ _ us hl => match us, hl with | [_], _ => rfl) sc_law len_law (fun cdv A outer s H E hr => d_law G D F__law_begin F__law_table F__law_draw F__law_table_right cdv A outer s H E hr) pure_law
abbrev s_iniRefused : Stmt := inClass (top 2) 0
theorem ini_Refused (T : XCl K 7 "reason") {fd : FuncData} (F : FunD K "__init__" "Refused.__init__" (defArgs s_iniRefused) (defBody s_iniRefused) (defScope s_iniRefused) [] [] (He.ma K (kA K 7) "__init__") fd) : ExD P w K mg base 7 "reason" :=
  exD T F ⟨rfl, rfl, rfl, by decide +kernel, rfl, by decide +kernel, by decide +kernel⟩ (fun _ _ _ _ _ _ us hl => match us, hl with | [_, _], _ => rfl) fun cdv A outer s H E => pss_one (ps_ost (pv 0) (pv 1))
def D_iniRefused : He.DefD := ⟨("Refused", some "__init__"), "__init__", "Refused.__init__", defArgs s_iniRefused, defBody s_iniRefused, defScope s_iniRefused, [], []⟩
def D_things_of : He.DefD := ⟨("things_of", none), "things_of", "things_of", defArgs s_things_of, defBody s_things_of, defScope s_things_of, [], []⟩
def D_check_rises : He.DefD := ⟨("check_rises", none), "check_rises", "check_rises", defArgs s_check_rises, defBody s_check_rises, defScope s_check_rises, [], []⟩
def D_least_lots : He.DefD := ⟨("least_lots", none), "least_lots", "least_lots", defArgs s_least_lots, defBody s_least_lots, defScope s_least_lots, [], []⟩
def D_greatest_lots : He.DefD := ⟨("greatest_lots", none), "greatest_lots", "greatest_lots", defArgs s_greatest_lots, defBody s_greatest_lots, defScope s_greatest_lots, [], []⟩
def D__law_begin : He.DefD := ⟨("_law_begin", none), "_law_begin", "_law_begin", defArgs s__law_begin, defBody s__law_begin, defScope s__law_begin, [], []⟩
def D__law_draw : He.DefD := ⟨("_law_draw", none), "_law_draw", "_law_draw", defArgs s__law_draw, defBody s__law_draw, defScope s__law_draw, [], []⟩
def D__law_is_count : He.DefD := ⟨("_law_is_count", none), "_law_is_count", "_law_is_count", defArgs s__law_is_count, defBody s__law_is_count, defScope s__law_is_count, [], []⟩
def D__law_table : He.DefD := ⟨("_law_table", none), "_law_table", "_law_table", defArgs s__law_table, defBody s__law_table, defScope s__law_table, [], []⟩
def D__law_refusal : He.DefD := ⟨("_law_refusal", none), "_law_refusal", "_law_refusal", defArgs s__law_refusal, defBody s__law_refusal, defScope s__law_refusal, [], []⟩
def D__law_lots : He.DefD := ⟨("_law_lots", none), "_law_lots", "_law_lots", defArgs s__law_lots, defBody s__law_lots, defScope s__law_lots, [], []⟩
def D__law_least_told : He.DefD := ⟨("_law_least_told", none), "_law_least_told", "_law_least_told", defArgs s__law_least_told, defBody s__law_least_told, defScope s__law_least_told, [], []⟩
def D__law_greatest_told : He.DefD := ⟨("_law_greatest_told", none), "_law_greatest_told", "_law_greatest_told", defArgs s__law_greatest_told, defBody s__law_greatest_told, defScope s__law_greatest_told, [], []⟩
def D__law_row_right : He.DefD := ⟨("_law_row_right", none), "_law_row_right", "_law_row_right", defArgs s__law_row_right, defBody s__law_row_right, defScope s__law_row_right, [], []⟩
def D__law_table_right : He.DefD := ⟨("_law_table_right", none), "_law_table_right", "_law_table_right", defArgs s__law_table_right, defBody s__law_table_right, defScope s__law_table_right, [], []⟩
def D_law : He.DefD := ⟨("law", none), "law", "law", defArgs s_law, defBody s_law, defScope s_law, [], []⟩
def fnL : List He.DefD := [D_iniRefused, D_things_of, D_check_rises, D_least_lots, D_greatest_lots, D__law_begin, D__law_draw, D__law_is_count, D__law_table, D__law_refusal, D__law_lots, D__law_least_told, D__law_greatest_told, D__law_row_right, D__law_table_right, D_law]
def bf (K : PySem.W.Frag) : Bool := xclB K 7 "reason" && (He.tupB K "SIZES" (([.int 1, .int 2, .int 4, .int 8, .int 16, .int 32] : List Dc).map Dc.d) && (decide (PySem.W.exmOne K (.ref (kA K 7)) (.ref (He.ga K "Refused")) = some true) && (decide (PySem.W.kitOne K (.ref (kA K 7)) (.ref (He.ga K "LodgeError")) = some true))))
abbrev RR : PySem.W.OpenRow := PySem.W.OpenLaw.row PySem.Challenge.rw_porterlodge_k59_lots
abbrev hk : PySem.W.Hook := hookK 6 (FR.map He.Fa.free ++ GL.map He.Fa.glo) fnL bf
def ob (s : PySem.W.SharedT) : Bool × He.AlD := obsKG 6 (FR.map He.Fa.free ++ GL.map He.Fa.glo) fnL bf (HandSHeadRun.getT s)
theorem ob_eq (s : PySem.W.SharedT) : ob s = hk.obs s.abs := obsKG_eq (HandSHeadRun.getT_eq s)
def loose : List Str := (["LodgeError", "Refused", "SIZES", "things_of", "check_rises", "least_lots", "greatest_lots", "_law_begin", "_law_draw", "_law_is_count", "_law_table", "_law_refusal", "_law_lots", "_law_least_told", "_law_greatest_told", "_law_row_right", "_law_table_right"] : List Str)
theorem run (w : World) : HandSHeadRun.RunEq RR (PySem.W.view RR.prog [20]) hk ob 6000 loose w := by
  intro os
  kernel_rfl
theorem law_at (g : GF FR GL K mg) : mg "law" = some (.ref (He.ga K "law")) := g.gl 17 rfl
theorem facts {h : Heap} (X : K.In h) (G : h.Ns mainGlobals mg) (c : SaysK (FR.map He.Fa.free ++ GL.map He.Fa.glo) fnL bf K) :
    ∃ fd : FuncData, (∀ (s : Shared) (v : Value), BindsTo s fd ⟨[v], []⟩ [("script", v)]) ∧ ∀ base : Heap, K.In base → base.Ns mainGlobals mg → FnOk P w K mg base (L2.CX P w) 8 (He.ga K "law") fd ["script"] (spC K sp_law) := by
  have g := gf_of c X G
  have m := c.more
  unfold bf at m
  obtain ⟨m0, m⟩ := He.ba m
  obtain ⟨m1, m⟩ := He.ba m
  obtain ⟨m2, m⟩ := He.ba m
  have m3 := m
  obtain ⟨fd_D_iniRefused, F_D_iniRefused⟩ := c.d.def_ 0 (d := D_iniRefused) rfl
  obtain ⟨fd_D_things_of, F_D_things_of⟩ := c.d.def_ 1 (d := D_things_of) rfl
  obtain ⟨fd_D_check_rises, F_D_check_rises⟩ := c.d.def_ 2 (d := D_check_rises) rfl
  obtain ⟨fd_D_least_lots, F_D_least_lots⟩ := c.d.def_ 3 (d := D_least_lots) rfl
  obtain ⟨fd_D_greatest_lots, F_D_greatest_lots⟩ := c.d.def_ 4 (d := D_greatest_lots) rfl
  obtain ⟨fd_D__law_begin, F_D__law_begin⟩ := c.d.def_ 5 (d := D__law_begin) rfl
  obtain ⟨fd_D__law_draw, F_D__law_draw⟩ := c.d.def_ 6 (d := D__law_draw) rfl
  obtain ⟨fd_D__law_is_count, F_D__law_is_count⟩ := c.d.def_ 7 (d := D__law_is_count) rfl
  obtain ⟨fd_D__law_table, F_D__law_table⟩ := c.d.def_ 8 (d := D__law_table) rfl
  obtain ⟨fd_D__law_refusal, F_D__law_refusal⟩ := c.d.def_ 9 (d := D__law_refusal) rfl
  obtain ⟨fd_D__law_lots, F_D__law_lots⟩ := c.d.def_ 10 (d := D__law_lots) rfl
  obtain ⟨fd_D__law_least_told, F_D__law_least_told⟩ := c.d.def_ 11 (d := D__law_least_told) rfl
  obtain ⟨fd_D__law_greatest_told, F_D__law_greatest_told⟩ := c.d.def_ 12 (d := D__law_greatest_told) rfl
  obtain ⟨fd_D__law_row_right, F_D__law_row_right⟩ := c.d.def_ 13 (d := D__law_row_right) rfl
  obtain ⟨fd_D__law_table_right, F_D__law_table_right⟩ := c.d.def_ 14 (d := D__law_table_right) rfl
  obtain ⟨fd_D_law, F_D_law⟩ := c.d.def_ 15 (d := D_law) rfl
  have XCRefused : XCl K 7 "reason" := xclB_ok m0
  have D : Dcs K := ⟨den_tupB m1⟩
  have MT_Refused : ∀ k b, mt_Refused k = some b → PySem.W.exmOne K (.ref (kA K k)) (.ref (He.ga K "Refused")) = some b := by
    intro k b h
    unfold mt_Refused at h
    split at h
    · cases h; exact of_decide_eq_true m2
    · cases h
  have XC : ∀ n, mt_Refused n = some true → XCl K n "reason" := by
    intro n h
    unfold mt_Refused at h
    split at h
    · exact XCRefused
    · cases h
  have IS_LodgeError : ∀ n, mt_Refused n = some true → PySem.W.kitOne K (.ref (kA K n)) (.ref (He.ga K "LodgeError")) = some true := by
    intro n h
    unfold mt_Refused at h
    split at h
    · exact of_decide_eq_true m3
    · cases h

  have b := FunD.bindsA (ps := ["script"]) F_D_law fun _ _ _ _ _ _ us hl => match us, hl with | [_], _ => rfl
  refine ⟨fd_D_law, fun s v => b s [v] rfl, fun base _ _ => ?_⟩
  have XRefused : ExD P w K mg base 7 "reason" := ini_Refused XCRefused F_D_iniRefused
  have O_things_of := ok_things_of (P := P) (w := w) (base := base) g D XRefused F_D_things_of
  have O_check_rises := ok_check_rises (P := P) (w := w) (base := base) g D O_things_of XRefused F_D_check_rises
  have O_least_lots := ok_least_lots (P := P) (w := w) (base := base) g D O_check_rises F_D_least_lots
  have O_greatest_lots := ok_greatest_lots (P := P) (w := w) (base := base) g D O_check_rises F_D_greatest_lots
  have O__law_begin := ok__law_begin (P := P) (w := w) (base := base) g D F_D__law_begin
  have O__law_draw := ok__law_draw (P := P) (w := w) (base := base) g D F_D__law_draw
  have O__law_is_count := ok__law_is_count (P := P) (w := w) (base := base) g D F_D__law_is_count
  have O__law_table := ok__law_table (P := P) (w := w) (base := base) g D O__law_draw F_D__law_table
  have O__law_refusal := ok__law_refusal (P := P) (w := w) (base := base) g D F_D__law_refusal
  have O__law_lots := ok__law_lots (P := P) (w := w) (base := base) g D F_D__law_lots
  have O__law_least_told := ok__law_least_told (P := P) (w := w) (base := base) g D O_least_lots MT_Refused XC IS_LodgeError F_D__law_least_told
  have O__law_greatest_told := ok__law_greatest_told (P := P) (w := w) (base := base) g D O_greatest_lots MT_Refused XC IS_LodgeError F_D__law_greatest_told
  have O__law_row_right := ok__law_row_right (P := P) (w := w) (base := base) g D O__law_is_count F_D__law_row_right
  have O__law_table_right := ok__law_table_right (P := P) (w := w) (base := base) g D O__law_refusal O__law_least_told O__law_greatest_told O__law_row_right O__law_lots O_least_lots O_greatest_lots F_D__law_table_right
  exact ok_clean F_D_law sc_law len_law (fun cdv A outer s H E hr => d_law g D O__law_begin O__law_table O__law_draw O__law_table_right cdv A outer s H E hr) pure_law
end K59
open PySem PySem.W PySem.Calls PyProof.Rows
theorem PySem.Challenge.cw_porterlodge_k59_lots_holds : PySem.Challenge.rw_porterlodge_k59_lots.Holds := by
  w_on; o_law
  refine HandSHeadRun.head_any (r := OpenLaw.row PySem.Challenge.rw_porterlodge_k59_lots) (q := view (OpenLaw.row PySem.Challenge.rw_porterlodge_k59_lots).prog [20]) (H := K59.hk) (ob := K59.ob) (M := 6000) (loose := K59.loose) (d := HandSHeadRun.topDef (OpenLaw.row PySem.Challenge.rw_porterlodge_k59_lots).prog 20) (kwd := []) K59.ob_eq
    (by kernel_rfl) (fun s => by kernel_rfl) K59.run (by kernel_rfl) (by kernel_rfl) (by kernel_rfl) (by rfl) (by first | assumption | decide +kernel) (by decide +kernel) ⟨rfl, rfl, rfl, rfl, rfl, by decide +kernel⟩ ?hw ?hc
  case hw => w_witness2
  case hc =>
    refine Cl.law_walk (l := PySem.Challenge.rw_porterlodge_k59_lots) (n := 63) (k := 8) (x := "script") rfl (by decide) (by kernel_rfl) ⟨rfl, by decide, by decide⟩ fun w mg at_ hp Y G named => ?_
    obtain ⟨K, kin, c⟩ := Y
    have nm : (HandSHeadRun.topDef (OpenLaw.row PySem.Challenge.rw_porterlodge_k59_lots).prog 20).name = ("law" : PySem.Str) := by kernel_rfl
    rw [nm] at named
    have e := named.symm.trans (K59.law_at (Cl.gf_of c kin G))
    cases e
    obtain ⟨fd, hb, hF⟩ := K59.facts (P := (PySem.Challenge.rw_porterlodge_k59_lots).prog) (w := w) kin G c
    exact ⟨K, fd, K59.sp_law, kin, hb, fun ns hn => ⟨ns, rfl, hn, fun _ => rfl⟩, hF⟩
