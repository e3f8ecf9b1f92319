import PyProof.Rows.All
import Wide.All
import OpenK.AllK
import Wide.FinOn
import HandS.Conv
import HandS.Deep
import HandS.ExcIs
import HandS.Flow
import HandS.ForExc
import HandS.ForMost
import HandS.IsInst
import HandS.SetFor
import HandS.Small
import HandS.SortInts
import HandS.SortRule
import HandS.Strs
import HandS.Style
import HandS.TryOnly
import HandS.TupAny
import HandS.TupMul
import HandS.TupSets
import HandS.Walk
import HandS.Wide
import PyProof.ReprRoads
import PySem.Challenge.RW_pilenets_k66_nets_beside
set_option Elab.async false
set_option linter.all false
set_option maxRecDepth 100000
set_option maxHeartbeats 2000001
set_option exponentiation.threshold 5000
/-! DL1: data, how a value reads as data, who owns what, the relation between slots and data -/
namespace DL
open L2 PySem PySem.Spec PyProof.Rows

/-- data: what a value is worth, down to its leaves -/
inductive D where
  | non
  | bl (b : Bool)
  | int (i : Int)
  | str (x : Str)
  | frz (xs : List Int)
  | tup (xs : List D)
  | lst (xs : List D)
  | dk (kvs : List (Key × D))
  /-- an exception, of the law's class of this name -/
  | exn (n : String)

/-- no object in it that may be changed -/
def D.imm : D → Bool
  | .tup xs => immAll xs
  | .lst _ => false
  | .dk _ => false
  | _ => true
where immAll : List D → Bool
  | [] => true
  | x :: xs => x.imm && immAll xs
/-- its top is an object that may be changed -/
def D.mut : D → Bool
  | .lst _ => true
  | .dk _ => true
  | _ => false

/-- a list that stands as it is -/
def FzL (K : PySem.W.Frag) (H : Hp) (a : Addr) (xs : List V) : Prop := (∃ o, H a = some (.frz o (.lst xs))) ∨
  ∃ (o : Obj) (its : Array Value) (n : Nat), K.lookup a = some o ∧ o.cls = .type "list" ∧ o.dict = none ∧ o.data = .seq its n ∧ its.size ≤ sizeLine ∧ Vals xs its.toList
/-- the class that the law's name n tells -/
def clsN (K : PySem.W.Frag) (n : String) (C : Addr) : Prop := PySem.W.nsIn K mainGlobals (Str.ofString n) = some (some (.ref C))
/-- a caught exception stands: its object is known -/
def ExF (H : Hp) (a C : Addr) : Prop := ∃ (oe : Obj) (u : HO), H a = some (.frz oe u) ∧ oe.cls = .ref C ∧ oe.dict = none ∧ ∃ vs, oe.data = .fields vs
theorem FzL.sq {K : PySem.W.Frag} {H : Hp} {a : Addr} {xs : List V} (h : FzL K H a xs) : SqL K H a xs := h.imp .inr id
section
variable (K : PySem.W.Frag) (ct : String → Option Value) (H : Hp)
mutual
/-- the value v reads as d in H; ns: the objects in it that may be changed, from the top -/
inductive Rd : V → D → List Addr → Prop
  | non : Rd .non .non []
  | bl (b : Bool) : Rd (.bl b) (.bl b) []
  | int (i : Int) : Rd (.int i) (.int i) []
  | str (x : Str) : Rd (.str x) (.str x) []
  | tup {a : Addr} {vs : List V} {ds : List D} {ns : List Addr} : SqT K H a vs → Rds vs ds ns → Rd (.ref a) (.tup ds) ns
  | frz {a : Addr} {xs : List Int} : FzL K H a (xs.map V.int) → Rd (.ref a) (.frz xs) []
  | lst {a : Addr} {vs : List V} {ds : List D} {ns : List Addr} : H a = some (.lst vs) → Rds vs ds ns → Rd (.ref a) (.lst ds) (a :: ns)
  | dk {a : Addr} {kvs : List (Key × V)} {kds : List (Key × D)} {ns : List Addr} : H a = some (.dK kvs) → kvs.map (·.1) = kds.map (·.1) → Rds (kvs.map (·.2)) (kds.map (·.2)) ns → Rd (.ref a) (.dk kds) (a :: ns)
  | exn {a C : Addr} {n : String} : ExF H a C → clsN K n C → Rd (.ref a) (.exn n) []
inductive Rds : List V → List D → List Addr → Prop
  | nil : Rds [] [] []
  | cons {v : V} {d : D} {n : List Addr} {vs : List V} {ds : List D} {ns : List Addr} : Rd v d n → Rds vs ds ns → Rds (v :: vs) (d :: ds) (n ++ ns)
end
end

/-- what may not be written stands -/
def TupK (H H' : Hp) : Prop := ∀ a o, H a = some o → ¬ Mut (some o) → H' a = some o
theorem TupK.refl {H : Hp} : TupK H H := fun _ _ h _ => h
theorem TupK.trans {H H1 H2 : Hp} (a : TupK H H1) (b : TupK H1 H2) : TupK H H2 := fun c o h n => b c o (a c o h n) n
theorem TupK.same {H H' : Hp} (s : Same H H') : TupK H H' := fun a o h _ => s a o h
theorem TupK.tup {K : PySem.W.Frag} {H H' : Hp} (s : TupK H H') {a : Addr} {xs : List V} (h : SqT K H a xs) : SqT K H' a xs := by
  rcases h with (h | ⟨o, h⟩) | h
  · exact .inl (.inl (s _ _ h fun z => z))
  · exact .inl (.inr ⟨o, s _ _ h fun z => z⟩)
  · exact .inr h

section
variable {K : PySem.W.Frag} {H H' : Hp}
mutual
theorem Rd.at (t : TupK H H') : ∀ (d : D) (v : V) (ns : List Addr), Rd K H v d ns → (∀ a ∈ ns, H' a = H a) → Rd K H' v d ns
  | .non, _, _, .non, _ => .non
  | .bl _, _, _, .bl _, _ => .bl _
  | .int _, _, _, .int _, _ => .int _
  | .str _, _, _, .str _, _ => .str _
  | .frz _, _, _, .frz h, _ => .frz (h.imp (fun ⟨o, h⟩ => ⟨o, t _ _ h fun z => z⟩) id)
  | .tup ds, _, _, .tup h r, e => .tup (t.tup h) (Rds.at t ds _ _ r e)
  | .lst ds, _, _, .lst h r, e => .lst ((e _ (List.mem_cons_self ..)).trans h) (Rds.at t ds _ _ r fun a ha => e a (List.mem_cons_of_mem _ ha))
  | .dk kds, _, _, .dk h k r, e => .dk ((e _ (List.mem_cons_self ..)).trans h) k (Rds.atK t kds _ _ r fun a ha => e a (List.mem_cons_of_mem _ ha))
  | .exn _, _, _, .exn ⟨oe, u, h, h2⟩ c, _ => .exn ⟨oe, u, t _ _ h (fun z => z), h2⟩ c
theorem Rds.at (t : TupK H H') : ∀ (ds : List D) (vs : List V) (ns : List Addr), Rds K H vs ds ns → (∀ a ∈ ns, H' a = H a) → Rds K H' vs ds ns
  | [], _, _, .nil, _ => .nil
  | d :: ds, _, _, .cons h r, e => .cons (Rd.at t d _ _ h fun a ha => e a (List.mem_append_left _ ha)) (Rds.at t ds _ _ r fun a ha => e a (List.mem_append_right _ ha))
theorem Rds.atK (t : TupK H H') : ∀ (kds : List (Key × D)) (vs : List V) (ns : List Addr), Rds K H vs (kds.map (·.2)) ns → (∀ a ∈ ns, H' a = H a) → Rds K H' vs (kds.map (·.2)) ns
  | [], _, _, .nil, _ => .nil
  | (_, d) :: kds, _, _, .cons h r, e => .cons (Rd.at t d _ _ h fun a ha => e a (List.mem_append_left _ ha)) (Rds.atK t kds _ _ r fun a ha => e a (List.mem_append_right _ ha))
end
mutual
theorem Rd.dom : ∀ (d : D) (v : V) (ns : List Addr), Rd K H v d ns → ∀ a ∈ ns, H a ≠ none
  | .non, _, _, .non, _, h => nomatch h
  | .bl _, _, _, .bl _, _, h => nomatch h
  | .int _, _, _, .int _, _, h => nomatch h
  | .str _, _, _, .str _, _, h => nomatch h
  | .frz _, _, _, .frz _, _, h => nomatch h
  | .tup ds, _, _, .tup h r, a, ha => Rds.dom ds _ _ r a ha
  | .lst ds, _, _, .lst h r, a, ha => by
    rcases List.mem_cons.mp ha with rfl | ha
    · rw [h]; exact fun z => nomatch z
    · exact Rds.dom ds _ _ r a ha
  | .dk kds, _, _, .dk h k r, a, ha => by
    rcases List.mem_cons.mp ha with rfl | ha
    · rw [h]; exact fun z => nomatch z
    · exact Rds.domK kds _ _ r a ha
  | .exn _, _, _, .exn _ _, _, h => nomatch h
theorem Rds.dom : ∀ (ds : List D) (vs : List V) (ns : List Addr), Rds K H vs ds ns → ∀ a ∈ ns, H a ≠ none
  | [], _, _, .nil, _, h => nomatch h
  | d :: ds, _, _, .cons h r, a, ha => by
    rcases List.mem_append.mp ha with ha | ha
    · exact Rd.dom d _ _ h a ha
    · exact Rds.dom ds _ _ r a ha
theorem Rds.domK : ∀ (kds : List (Key × D)) (vs : List V) (ns : List Addr), Rds K H vs (kds.map (·.2)) ns → ∀ a ∈ ns, H a ≠ none
  | [], _, _, .nil, _, h => nomatch h
  | (_, d) :: kds, _, _, .cons h r, a, ha => by
    rcases List.mem_append.mp ha with ha | ha
    · exact Rd.dom d _ _ h a ha
    · exact Rds.domK kds _ _ r a ha
end
mutual
theorem Rd.imm : ∀ (d : D) (v : V) (ns : List Addr), Rd K H v d ns → d.imm = true → ns = []
  | .non, _, _, .non, _ => rfl
  | .bl _, _, _, .bl _, _ => rfl
  | .int _, _, _, .int _, _ => rfl
  | .str _, _, _, .str _, _ => rfl
  | .frz _, _, _, .frz _, _ => rfl
  | .tup ds, _, _, .tup h r, e => Rds.imm ds _ _ r (by simpa [D.imm] using e)
  | .lst ds, _, _, .lst h r, e => by simp [D.imm] at e
  | .dk kds, _, _, .dk h k r, e => by simp [D.imm] at e
  | .exn _, _, _, .exn _ _, _ => rfl
theorem Rds.imm : ∀ (ds : List D) (vs : List V) (ns : List Addr), Rds K H vs ds ns → D.imm.immAll ds = true → ns = []
  | [], _, _, .nil, _ => rfl
  | d :: ds, _, _, .cons h r, e => by
    rw [D.imm.immAll, Bool.and_eq_true] at e
    rw [Rd.imm d _ _ h e.1, Rds.imm ds _ _ r e.2]
    rfl
end
theorem Rd.same {d : D} {v : V} {ns : List Addr} (h : Rd K H v d ns) (s : Same H H') : Rd K H' v d ns :=
  h.at (.same s) _ _ _ fun a ha => by
    cases e : H a with
    | none => exact absurd e (h.dom _ _ _ a ha)
    | some o => exact s a o e
theorem Rds.same {ds : List D} {vs : List V} {ns : List Addr} (h : Rds K H vs ds ns) (s : Same H H') : Rds K H' vs ds ns :=
  h.at (.same s) _ _ _ fun a ha => by
    cases e : H a with
    | none => exact absurd e (h.dom _ _ _ a ha)
    | some o => exact s a o e
theorem Rds.length {ds : List D} : ∀ {vs : List V} {ns : List Addr}, Rds K H vs ds ns → vs.length = ds.length := by
  induction ds with
  | nil => intro vs ns h; cases h; rfl
  | cons d ds ih => intro vs ns h; cases h with | cons h r => simp [ih r]
/-- the i-th of it -/
theorem Rds.get {ds : List D} {i : Nat} {d : D} : ∀ {vs : List V} {ns : List Addr}, Rds K H vs ds ns → ds[i]? = some d → ∃ v n n1 n2, vs[i]? = some v ∧ Rd K H v d n ∧ ns = n1 ++ (n ++ n2) := by
  induction ds generalizing i with
  | nil => intro vs ns h e; simp at e
  | cons d0 ds ih =>
    intro vs ns h e
    cases h with
    | cons h r =>
      cases i with
      | zero =>
        simp only [List.getElem?_cons_zero, Option.some.injEq] at e
        subst e
        exact ⟨_, _, [], _, rfl, h, rfl⟩
      | succ i =>
        simp only [List.getElem?_cons_succ] at e
        obtain ⟨v, n, n1, n2, h1, h2, h3⟩ := ih r e
        exact ⟨v, n, _ ++ n1, n2, by simpa using h1, h2, by rw [h3, List.append_assoc]⟩
theorem Rds.append {ds es : List D} : ∀ {vs us : List V} {ns ms : List Addr}, Rds K H vs ds ns → Rds K H us es ms → Rds K H (vs ++ us) (ds ++ es) (ns ++ ms) := by
  induction ds with
  | nil => intro vs us ns ms h q; cases h; exact q
  | cons d ds ih =>
    intro vs us ns ms h q
    cases h with
    | cons h r =>
      rw [List.append_assoc]
      exact .cons h (ih r q)
end

/-! ### owners -/
/-- level 0: nothing of it is owned; 1: its top; 2: all of it; 10 more: the slot is a parameter that its caller keeps -/
def ownL (l : Nat) (d : D) (ns : List Addr) : List Addr := match l % 10 with
  | 0 => []
  | 1 => if d.mut then ns.take 1 else []
  | _ => ns
def rstL (l : Nat) (d : D) (ns : List Addr) : List Addr := match l % 10 with
  | 0 => ns
  | 1 => if d.mut then ns.drop 1 else ns
  | _ => []
theorem own_rst (l : Nat) (d : D) (ns : List Addr) (a : Addr) : (ownL l d ns).count a + (rstL l d ns).count a = ns.count a := by
  unfold ownL rstL
  split
  · simp
  · split
    · rw [← List.count_append, List.take_append_drop]
    · simp
  · simp

/-- a thing that is kept while other things are done: what it owns, what else it leans on, what is true of it -/
structure Tm where
  own : Addr → Nat
  rst : Addr → Nat
  P : Hp → Prop
def Tm.Stab (K : PySem.W.Frag) (m : Tm) : Prop := ∀ H H', m.P H → TupK H H' → (∀ a, 0 < m.own a + m.rst a → H' a = H a) → m.P H'
/-- a slot: its level, data, value, objects -/
structure Sl where
  l : Nat
  d : D
  v : V
  ns : List Addr
def Sl.own (s : Sl) (a : Addr) : Nat := (ownL s.l s.d s.ns).count a
def Sl.rst (s : Sl) (a : Addr) : Nat := (rstL s.l s.d s.ns).count a
def Sl.ld (s : Sl) : Nat × D := (s.l, s.d)
def Sl.tm (K : PySem.W.Frag) (s : Sl) : Tm := ⟨s.own, s.rst, fun H => Rd K H s.v s.d s.ns⟩
theorem Sl.tot (s : Sl) (a : Addr) : s.own a + s.rst a = s.ns.count a := own_rst _ _ _ _
theorem Sl.mem (s : Sl) (a : Addr) : 0 < s.own a + s.rst a ↔ a ∈ s.ns := by rw [s.tot]; exact List.count_pos_iff
theorem Sl.stab (K : PySem.W.Frag) (s : Sl) : (s.tm K).Stab K := fun H H' h t e => Rd.at t _ _ _ h fun a ha => e a ((s.mem a).mpr ha)

abbrev Env := List (Option (Nat × D))
def oS : List (Option Sl) → Addr → Nat
  | [], _ => 0
  | none :: L, a => oS L a
  | some s :: L, a => s.own a + oS L a
def rS : List (Option Sl) → Addr → Nat
  | [], _ => 0
  | none :: L, a => rS L a
  | some s :: L, a => s.rst a + rS L a
def oM : List Tm → Addr → Nat
  | [], _ => 0
  | m :: M, a => m.own a + oM M a
def rM : List Tm → Addr → Nat
  | [], _ => 0
  | m :: M, a => m.rst a + rM M a
def er (L : List (Option Sl)) : Env := L.map (Option.map Sl.ld)
/-- the slots in A own nothing any more -/
def low (A : List Nat) (L : List (Option Sl)) : List (Option Sl) := L.mapIdx fun i s => if i ∈ A then s.map fun s => { s with l := 0 } else s
def lowE (A : List Nat) (Γ : Env) : Env := Γ.mapIdx fun i s => if i ∈ A then s.map fun s => (0, s.2) else s

theorem er_get {L : List (Option Sl)} {i : Nat} : (er L)[i]? = L[i]?.map (Option.map Sl.ld) := by unfold er; rw [List.getElem?_map]
theorem er_some {L : List (Option Sl)} {i l : Nat} {d : D} (h : (er L)[i]? = some (some (l, d))) : ∃ s, L[i]? = some (some s) ∧ s.l = l ∧ s.d = d := by
  rw [er_get] at h
  cases e : L[i]? with
  | none => rw [e] at h; cases h
  | some o =>
    rw [e] at h
    cases o with
    | none => simp at h
    | some s =>
      simp only [Option.map_some, Option.some.injEq, Sl.ld, Prod.mk.injEq] at h
      exact ⟨s, rfl, h.1, h.2⟩
theorem er_low (A : List Nat) (L : List (Option Sl)) : er (low A L) = lowE A (er L) := by
  unfold er low lowE
  apply List.ext_getElem?
  intro i
  simp only [List.getElem?_map, List.getElem?_mapIdx]
  cases L[i]? with
  | none => rfl
  | some s =>
    simp only [Option.map_some]
    split <;> cases s <;> rfl
theorem er_set (L : List (Option Sl)) (i : Nat) (s : Option Sl) : er (L.set i s) = (er L).set i (s.map Sl.ld) := by
  unfold er
  rw [List.map_set]
theorem er_length (L : List (Option Sl)) : (er L).length = L.length := by unfold er; simp

def oO : Option Sl → Addr → Nat
  | none, _ => 0
  | some s, a => s.own a
def rO : Option Sl → Addr → Nat
  | none, _ => 0
  | some s, a => s.rst a
theorem oS_set {L : List (Option Sl)} {i : Nat} {s x : Option Sl} (a : Addr) (h : L[i]? = some s) : oS (L.set i x) a + oO s a = oS L a + oO x a := by
  induction L generalizing i with
  | nil => simp at h
  | cons y L ih =>
    cases i with
    | zero =>
      simp only [List.getElem?_cons_zero, Option.some.injEq] at h
      subst h
      cases y <;> cases x <;> simp only [List.set_cons_zero, oS, oO] <;> omega
    | succ i =>
      simp only [List.getElem?_cons_succ] at h
      have := ih h
      cases y <;> simp only [List.set_cons_succ, oS] <;> omega
theorem rS_set {L : List (Option Sl)} {i : Nat} {s x : Option Sl} (a : Addr) (h : L[i]? = some s) : rS (L.set i x) a + rO s a = rS L a + rO x a := by
  induction L generalizing i with
  | nil => simp at h
  | cons y L ih =>
    cases i with
    | zero =>
      simp only [List.getElem?_cons_zero, Option.some.injEq] at h
      subst h
      cases y <;> cases x <;> simp only [List.set_cons_zero, rS, rO] <;> omega
    | succ i =>
      simp only [List.getElem?_cons_succ] at h
      have := ih h
      cases y <;> simp only [List.set_cons_succ, rS] <;> omega
theorem oS_get {L : List (Option Sl)} {i : Nat} {s : Sl} (a : Addr) (h : L[i]? = some (some s)) : s.own a ≤ oS L a := by
  have := oS_set (x := none) a h
  simp only [oO] at this
  omega
theorem rS_get {L : List (Option Sl)} {i : Nat} {s : Sl} (a : Addr) (h : L[i]? = some (some s)) : s.rst a ≤ rS L a := by
  have := rS_set (x := none) a h
  simp only [rO] at this
  omega
theorem oS_pos {L : List (Option Sl)} {a : Addr} (h : 0 < oS L a) : ∃ (i : Nat) (s : Sl), L[i]? = some (some s) ∧ 0 < s.own a := by
  induction L with
  | nil => simp [oS] at h
  | cons y L ih =>
    cases y with
    | none =>
      obtain ⟨i, s, h1, h2⟩ := ih h
      exact ⟨i + 1, s, h1, h2⟩
    | some t =>
      by_cases ht : 0 < t.own a
      · exact ⟨0, t, rfl, ht⟩
      · obtain ⟨i, s, h1, h2⟩ := ih (by simp only [oS] at h; omega)
        exact ⟨i + 1, s, h1, h2⟩
theorem rS_pos {L : List (Option Sl)} {a : Addr} (h : 0 < rS L a) : ∃ (i : Nat) (s : Sl), L[i]? = some (some s) ∧ 0 < s.rst a := by
  induction L with
  | nil => simp [rS] at h
  | cons y L ih =>
    cases y with
    | none =>
      obtain ⟨i, s, h1, h2⟩ := ih h
      exact ⟨i + 1, s, h1, h2⟩
    | some t =>
      by_cases ht : 0 < t.rst a
      · exact ⟨0, t, rfl, ht⟩
      · obtain ⟨i, s, h1, h2⟩ := ih (by simp only [rS] at h; omega)
        exact ⟨i + 1, s, h1, h2⟩
theorem sl_low (s : Sl) (a : Addr) : ({ s with l := 0 } : Sl).own a = 0 ∧ ({ s with l := 0 } : Sl).rst a = s.own a + s.rst a := by
  refine ⟨by simp [Sl.own, ownL], ?_⟩
  rw [s.tot]
  simp [Sl.rst, rstL]
theorem low_counts (A : List Nat) (a : Addr) : ∀ (L : List (Option Sl)), oS (low A L) a ≤ oS L a ∧ oS (low A L) a + rS (low A L) a = oS L a + rS L a := by
  have gen : ∀ (L : List (Option Sl)) (f : Nat → Option Sl → Option Sl), (∀ i s, f i s = s ∨ f i s = s.map fun s => { s with l := 0 }) → oS (L.mapIdx f) a ≤ oS L a ∧ oS (L.mapIdx f) a + rS (L.mapIdx f) a = oS L a + rS L a := by
    intro L
    induction L with
    | nil => intro f hf; simp [oS, rS]
    | cons y L ih =>
      intro f hf
      rw [List.mapIdx_cons]
      obtain ⟨h1, h2⟩ := ih (fun i => f (i + 1)) fun i s => hf (i + 1) s
      cases y with
      | none =>
        have e : f 0 none = none := by rcases hf 0 none with e | e <;> rw [e]; rfl
        rw [e]
        exact ⟨h1, h2⟩
      | some s =>
        rcases hf 0 (some s) with e | e
        · rw [e]; simp only [oS, rS]; omega
        · rw [e]
          obtain ⟨q1, q2⟩ := sl_low s a
          simp only [Option.map_some, oS, rS, q1, q2]
          omega
  intro L
  refine gen L _ fun i s => ?_
  by_cases h : i ∈ A
  · exact .inr (by simp [h])
  · exact .inl (by simp [h])
theorem low_get {A : List Nat} {L : List (Option Sl)} {i : Nat} {s : Sl} (h : (low A L)[i]? = some (some s)) : ∃ t, L[i]? = some (some t) ∧ t.v = s.v ∧ t.d = s.d ∧ t.ns = s.ns ∧ (i ∉ A → t = s) ∧ (i ∈ A → s.l = 0) := by
  unfold low at h
  rw [List.getElem?_mapIdx] at h
  cases e : L[i]? with
  | none => rw [e] at h; cases h
  | some o =>
    rw [e] at h
    cases o with
    | none =>
      simp only [Option.map_some, Option.some.injEq] at h
      split at h <;> cases h
    | some t =>
      simp only [Option.map_some, Option.some.injEq] at h
      split at h
      · rename_i hA
        simp only [Option.map_some, Option.some.injEq] at h
        subst h
        exact ⟨t, rfl, rfl, rfl, rfl, fun z => absurd hA z, fun _ => rfl⟩
      · rename_i hA
        simp only [Option.some.injEq] at h
        subst h
        exact ⟨t, rfl, rfl, rfl, rfl, fun _ => rfl, fun z => absurd z hA⟩
/-- less is owned by the slots that are left, the more of them go -/
theorem low_mono {A B : List Nat} (hAB : ∀ i ∈ A, i ∈ B) (a : Addr) : ∀ (L : List (Option Sl)), oS (low B L) a ≤ oS (low A L) a := by
  have gen : ∀ (L : List (Option Sl)) (f g : Nat → Option Sl → Option Sl), (∀ i s, oO (g i s) a ≤ oO (f i s) a) → oS (L.mapIdx g) a ≤ oS (L.mapIdx f) a := by
    intro L
    induction L with
    | nil => intro f g h; simp [oS]
    | cons y L ih =>
      intro f g h
      rw [List.mapIdx_cons, List.mapIdx_cons]
      have h1 := ih (fun i => f (i + 1)) (fun i => g (i + 1)) fun i s => h (i + 1) s
      have h0 := h 0 y
      generalize f 0 y = p at *
      generalize g 0 y = q at *
      cases p <;> cases q <;> simp only [oS, oO] at * <;> omega
  intro L
  refine gen L _ _ fun i s => ?_
  by_cases hB : i ∈ B
  · simp only [hB, if_pos]
    cases s with
    | none => simp [oO]
    | some s => simp only [Option.map_some, oO, (sl_low s a).1]; omega
  · have hA : i ∉ A := fun z => hB (hAB i z)
    simp [hA, hB]
theorem low_length (A : List Nat) (L : List (Option Sl)) : (low A L).length = L.length := by unfold low; simp
/-- a slot in A owns nothing behind it -/
theorem low_own {A : List Nat} {L : List (Option Sl)} {i : Nat} {s : Sl} (hi : i ∈ A) (h : L[i]? = some (some s)) (a : Addr) : oS (low A L) a + s.own a ≤ oS L a := by
  have h1 : oS (low A L) a ≤ oS (low [i] L) a := low_mono (fun j hj => by rw [List.mem_singleton.mp hj]; exact hi) a L
  have e : low [i] L = L.set i (some { s with l := 0 }) := by
    apply List.ext_getElem?
    intro j
    unfold low
    rw [List.getElem?_mapIdx, List.getElem?_set]
    by_cases hj : i = j
    · subst hj
      have hl : i < L.length := (List.getElem?_eq_some_iff.mp h).1
      rw [h]
      simp [hl]
    · have hj' : j ∉ [i] := fun z => hj (List.mem_singleton.mp z).symm
      rw [if_neg hj]
      cases L[j]? <;> simp [hj']
  have h2 := oS_set (x := some { s with l := 0 }) a h
  rw [← e] at h2
  simp only [oO, (sl_low s a).1] at h2
  omega

/-- where objects may stand that a def comes to; the values of the parameters that their callers keep -/
structure Zone where
  mem : Addr → Prop
  new : Addr → Prop
  sub : ∀ a, new a → mem a
  pv : Nat → V
instance : CoeFun Zone (fun _ => Addr → Prop) := ⟨Zone.mem⟩
/-- THE RELATION: the slots' values read as data; who owns what -/
structure Rel (K : PySem.W.Frag) (Z : Zone) (σ : L2.St) (H : Hp) (L : List (Option Sl)) (M : List Tm) : Prop where
  len : L.length = σ.length
  slot : ∀ (i : Nat) (s : Sl), L[i]? = some (some s) → σ[i]? = some (some s.v) ∧ Rd K H s.v s.d s.ns ∧ ∀ a ∈ s.ns, Z a
  tms : ∀ m ∈ M, m.P H ∧ m.Stab K ∧ ∀ a, 0 < m.own a + m.rst a → H a ≠ none
  sep : ∀ a, oS L a + oM M a ≤ 1 ∧ (0 < oS L a + oM M a → rS L a + rM M a = 0)
  wr : ∀ a, 0 < oS L a + oM M a → Mut (H a)
  zf : ∀ a, H a = none → Z.new a
  pin : ∀ (i : Nat) (s : Sl), L[i]? = some (some s) → 10 ≤ s.l → s.v = Z.pv i
section
variable {K : PySem.W.Frag} {Z : Zone} {σ : L2.St} {H H' : Hp} {L : List (Option Sl)} {M : List Tm}
theorem oM_mem {m : Tm} (a : Addr) : ∀ {M : List Tm}, m ∈ M → m.own a ≤ oM M a ∧ m.rst a ≤ rM M a
  | x :: M, h => by
    rcases List.mem_cons.mp h with rfl | h
    · simp only [oM, rM]; omega
    · have := oM_mem a h
      simp only [oM, rM]; omega
theorem oM_pos {a : Addr} : ∀ {M : List Tm}, 0 < oM M a → ∃ m ∈ M, 0 < m.own a
  | m :: M, h => by
    by_cases q : 0 < m.own a
    · exact ⟨m, List.mem_cons_self .., q⟩
    · obtain ⟨n, h1, h2⟩ := oM_pos (a := a) (M := M) (by simp only [oM] at h; omega)
      exact ⟨n, List.mem_cons_of_mem _ h1, h2⟩
theorem rM_pos {a : Addr} : ∀ {M : List Tm}, 0 < rM M a → ∃ m ∈ M, 0 < m.rst a
  | m :: M, h => by
    by_cases q : 0 < m.rst a
    · exact ⟨m, List.mem_cons_self .., q⟩
    · obtain ⟨n, h1, h2⟩ := rM_pos (a := a) (M := M) (by simp only [rM] at h; omega)
      exact ⟨n, List.mem_cons_of_mem _ h1, h2⟩
/-- what nobody has yet -/
theorem Rel.free (R : Rel K Z σ H L M) {a : Addr} (h : H a = none) : oS L a = 0 ∧ rS L a = 0 ∧ oM M a = 0 ∧ rM M a = 0 := by
  refine ⟨?_, ?_, ?_, ?_⟩
  · refine Nat.eq_zero_of_not_pos fun q => ?_
    obtain ⟨i, s, h1, h2⟩ := oS_pos q
    exact (R.slot i s h1).2.1.dom _ _ _ a ((s.mem a).mp (by omega)) h
  · refine Nat.eq_zero_of_not_pos fun q => ?_
    obtain ⟨i, s, h1, h2⟩ := rS_pos q
    exact (R.slot i s h1).2.1.dom _ _ _ a ((s.mem a).mp (by omega)) h
  · refine Nat.eq_zero_of_not_pos fun q => ?_
    obtain ⟨m, h1, h2⟩ := oM_pos q
    exact (R.tms m h1).2.2 a (by omega) h
  · refine Nat.eq_zero_of_not_pos fun q => ?_
    obtain ⟨m, h1, h2⟩ := rM_pos q
    exact (R.tms m h1).2.2 a (by omega) h
/-- what is there stands: all stays -/
theorem Rel.same (R : Rel K Z σ H L M) (s : Same H H') : Rel K Z σ H' L M where
  len := R.len
  slot := fun i t h => let ⟨h1, h2, h3⟩ := R.slot i t h; ⟨h1, h2.same s, h3⟩
  tms := fun m hm => by
    obtain ⟨h1, h2, h3⟩ := R.tms m hm
    have k : ∀ a, 0 < m.own a + m.rst a → H' a = H a := fun a ha => by
      cases e : H a with
      | none => exact absurd e (h3 a ha)
      | some o => exact s a o e
    exact ⟨h2 H H' h1 (.same s) k, h2, fun a ha => by rw [k a ha]; exact h3 a ha⟩
  sep := R.sep
  wr := fun a ha => by
    have := R.wr a ha
    cases e : H a with
    | none => rw [e] at this; exact this.elim
    | some o => rw [e] at this; rw [s a o e]; exact this
  zf := fun a ha => R.zf a (s.free ha)
  pin := R.pin
/-- the temps above go -/
theorem Rel.pop {m : Tm} (R : Rel K Z σ H L (m :: M)) : Rel K Z σ H L M where
  len := R.len
  slot := R.slot
  tms := fun n hn => R.tms n (List.mem_cons_of_mem _ hn)
  sep := fun a => by have := R.sep a; simp only [oM, rM] at this; omega
  wr := fun a ha => R.wr a (by simp only [oM]; omega)
  zf := R.zf
  pin := R.pin
theorem Rel.low (R : Rel K Z σ H L M) (A : List Nat) : Rel K Z σ H (low A L) M where
  len := by rw [low_length]; exact R.len
  slot := fun i t h => by
    obtain ⟨u, h1, e1, e2, e3, _⟩ := low_get h
    have := R.slot i u h1
    rw [e1, e2, e3] at this
    exact this
  tms := R.tms
  sep := fun a => by
    have h1 := R.sep a
    have h2 := low_counts A a L
    omega
  wr := fun a ha => R.wr a (by have := low_counts A a L; omega)
  zf := R.zf
  pin := fun i s h hl => by
    obtain ⟨u, h1, _, _, _, e4, e5⟩ := low_get h
    by_cases c : i ∈ A
    · have := e5 c
      omega
    · rw [← e4 c] at hl ⊢
      exact R.pin i u h1 hl
/-- a new thing above -/
theorem Rel.push (R : Rel K Z σ H L M) {m : Tm} (hP : m.P H) (hS : m.Stab K) (hd : ∀ a, 0 < m.own a + m.rst a → H a ≠ none)
    (h1 : ∀ a, m.own a ≤ 1 ∧ (0 < m.own a → m.rst a = 0)) (h2 : ∀ a, 0 < m.own a → Mut (H a) ∧ oS L a = 0 ∧ rS L a = 0 ∧ oM M a = 0 ∧ rM M a = 0) (h3 : ∀ a, 0 < m.rst a → oS L a = 0 ∧ oM M a = 0) : Rel K Z σ H L (m :: M) where
  len := R.len
  slot := R.slot
  tms := fun n hn => by
    rcases List.mem_cons.mp hn with rfl | hn
    · exact ⟨hP, hS, hd⟩
    · exact R.tms n hn
  sep := fun a => by
    have q := R.sep a
    have q1 := h1 a
    have q2 := h2 a
    have q3 := h3 a
    simp only [oM, rM]
    by_cases c : 0 < m.own a
    · have := q2 c; omega
    · by_cases c' : 0 < m.rst a
      · have := q3 c'; omega
      · omega
  wr := fun a ha => by
    simp only [oM] at ha
    by_cases c : 0 < m.own a
    · exact (h2 a c).1
    · exact R.wr a (by omega)
  zf := R.zf
  pin := R.pin
end
end DL

/-! DL2: judgements over data: pure expressions (DP), expressions that turn slots (DE); operations by values (VOk) -/
namespace DL
open L2 PySem PySem.Spec PyProof.Rows

abbrev LD := Nat × D
/-- what a pure reckoning gives -/
inductive P (α : Type) where
  | ok (a : α)
  | exc (c : String)
  | bad
/-- what a reckoning gives that may turn the slots -/
inductive R (α : Type) where
  | ok (a : α) (Γ : Env)
  | exc (c : String) (Γ : Env)
  | bad
abbrev PF := Env → P LD
abbrev EF := Env → R LD
/-- what is wanted of an exception of the class called c -/
abbrev WW := String → L2.St → Hp → Prop

theorem PE.imp {X : Cx} {e : Expr} {t t' : TE} (h : PE X e t) (i : ∀ σ H Q, t' σ H Q → t σ H Q) : PE X e t' := ⟨fun pins s σ H Q I hw => h.run pins s σ H Q I (i σ H Q hw)⟩
theorem PT.imp {X : Cx} {e : Expr} {t t' : TT} (h : PT X e t) (i : ∀ σ H Q, t' σ H Q → t σ H Q) : PT X e t' := ⟨fun pins s σ H Q I hw => h.run pins s σ H Q I (i σ H Q hw)⟩
theorem PS.imp {X : Cx} {e : Stmt} {t t' : TS} (h : PS X e t) (i : ∀ D σ H, t' D σ H → t D σ H) : PS X e t' := ⟨fun pins s σ H D I hw => h.run pins s σ H D I (i D σ H hw)⟩
theorem PSs.imp {X : Cx} {e : List Stmt} {t t' : TS} (h : PSs X e t) (i : ∀ D σ H, t' D σ H → t D σ H) : PSs X e t' := ⟨fun pins s σ H D I hw => h.run pins s σ H D I (i D σ H hw)⟩
theorem PA.imp {X : Cx} {e : List Expr} {t t' : TA} (h : PA X e t) (i : ∀ σ H Q, t' σ H Q → t σ H Q) : PA X e t' := ⟨fun pos pins s σ H Q I hw => h.run pos pins s σ H Q I (i σ H Q hw)⟩

/-- a value that a pure reckoning has given: its own objects are new; what else is in it is owned by none but the slots in A -/
structure Bor (K : PySem.W.Frag) (Z : Zone) (A : List Nat) (H : Hp) (L : List (Option Sl)) (M : List Tm) (H' : Hp) (s : Sl) : Prop where
  same : Same H H'
  rd : Rd K H' s.v s.d s.ns
  z : ∀ a ∈ s.ns, Z a
  own : ∀ a, s.own a ≤ 1 ∧ (0 < s.own a → s.rst a = 0 ∧ H a = none ∧ Mut (H' a))
  rst : ∀ a, 0 < s.rst a → oS (low A L) a = 0 ∧ oM M a = 0
def tDP (K : PySem.W.Frag) (W : WW) (A : List Nat) (f : PF) : TE := fun σ H Q => ∃ Z L M, Rel K Z σ H L M ∧ match f (er L) with
  | .ok (l, d) => ∀ v ns H', Bor K Z A H L M H' ⟨l, d, v, ns⟩ → Q v H'
  | .exc c => ∀ H', Same H H' → W c σ H'
  | .bad => False
def tDE (K : PySem.W.Frag) (W : WW) (f : EF) : TE := fun σ H Q => ∃ Z L M, Rel K Z σ H L M ∧ match f (er L) with
  | .ok (l, d) Γ' => ∀ v ns H' L', er L' = Γ' → Rel K Z σ H' L' (Sl.tm K ⟨l, d, v, ns⟩ :: M) → (∀ a ∈ ns, Z a) → Q v H'
  | .exc c Γ' => ∀ H' L', er L' = Γ' → Rel K Z σ H' L' M → W c σ H'
  | .bad => False
def DP (X : Cx) (W : WW) (A : List Nat) (e : Expr) (f : PF) : Prop := PE X e (tDP X.K W A f)
def DE (X : Cx) (W : WW) (e : Expr) (f : EF) : Prop := PE X e (tDE X.K W f)
/-- a pure reckoning, kept: unless it is new or may not be changed, the slots it may come from own nothing any more -/
def toE (A : List Nat) (f : PF) : EF := fun Γ => match f Γ with
  | .ok (l, d) => .ok (l, d) (if 2 ≤ l % 10 ∨ d.imm = true then Γ else lowE A Γ)
  | .exc c => .exc c Γ
  | .bad => .bad
section
variable {K : PySem.W.Frag} {Z : Zone} {σ : L2.St} {H H' : Hp} {L : List (Option Sl)} {M : List Tm} {A : List Nat}
theorem rst_top {l : Nat} {d : D} {v : V} {ns : List Addr} (h : 2 ≤ l % 10) (a : Addr) : (Sl.mk l d v ns).rst a = 0 := by
  obtain ⟨n, e⟩ : ∃ n, l % 10 = n + 2 := ⟨l % 10 - 2, by omega⟩
  simp [Sl.rst, rstL, e]
theorem imm_cnt {l : Nat} {d : D} {v : V} {ns : List Addr} (r : Rd K H v d ns) (h : d.imm = true) (a : Addr) : (Sl.mk l d v ns).rst a = 0 ∧ (Sl.mk l d v ns).own a = 0 := by
  have e := r.imm _ _ _ h
  subst e
  have := (Sl.mk l d v []).tot a
  simp only [List.count_nil] at this
  omega
/-- what was given is put above, the slots that it may come from lowered -/
theorem Bor.push {s : Sl} (B : Bor K Z A H L M H' s) (R : Rel K Z σ H L M) : Rel K Z σ H' (low A L) (s.tm K :: M) := by
  refine ((R.same B.same).low A).push (m := s.tm K) B.rd (s.stab K) (fun a ha => B.rd.dom _ _ _ a ((s.mem a).mp ha)) (fun a => ⟨(B.own a).1, fun h => ((B.own a).2 h).1⟩) (fun a ha => ?_) (fun a ha => B.rst a ha)
  obtain ⟨_, h1, h2⟩ := (B.own a).2 ha
  obtain ⟨q1, q2, q3, q4⟩ := R.free h1
  have := low_counts A a L
  exact ⟨h2, by omega, by omega, q3, q4⟩
theorem Bor.push0 {s : Sl} (B : Bor K Z A H L M H' s) (R : Rel K Z σ H L M) (h : 2 ≤ s.l % 10 ∨ s.d.imm = true) : Rel K Z σ H' L (s.tm K :: M) := by
  have hr : ∀ a, s.rst a = 0 := fun a => by
    rcases h with h | h
    · exact rst_top h a
    · exact (imm_cnt (l := s.l) B.rd h a).1
  refine (R.same B.same).push (m := s.tm K) B.rd (s.stab K) (fun a ha => B.rd.dom _ _ _ a ((s.mem a).mp ha)) (fun a => ⟨(B.own a).1, fun _ => hr a⟩) (fun a ha => ?_) (fun a ha => ?_)
  · obtain ⟨_, h1, h2⟩ := (B.own a).2 ha
    obtain ⟨q1, q2, q3, q4⟩ := R.free h1
    exact ⟨h2, q1, q2, q3, q4⟩
  · have := hr a
    have : 0 < s.rst a := ha
    omega
end
theorem DP.toE {X : Cx} {W : WW} {A : List Nat} {e : Expr} {f : PF} (h : DP X W A e f) : DE X W e (toE A f) := by
  refine PE.imp h fun σ H Q ⟨Z, L, M, R, q⟩ => ⟨Z, L, M, R, ?_⟩
  unfold DL.toE at q
  cases ef : f (er L) with
  | bad => rw [ef] at q; exact q
  | exc c =>
    rw [ef] at q
    exact fun H' s => q H' L rfl (R.same s)
  | ok x =>
    obtain ⟨l, d⟩ := x
    rw [ef] at q
    intro v ns H' B
    by_cases c : 2 ≤ l % 10 ∨ d.imm = true
    · exact q v ns H' L (by simp only [if_pos c]) (B.push0 R c) B.z
    · exact q v ns H' (low A L) (by simp only [if_neg c]; exact er_low A L) (B.push R) B.z

/-! ### names, constants -/
def pVar (i : Nat) : PF := fun Γ => match Γ[i]? with
  | some (some (_, d)) => .ok (0, d)
  | _ => .bad
def pC (d : D) : PF := fun _ => .ok (2, d)
/-- a name's value goes on: the slot is empty behind it -/
def eMove (i : Nat) : EF := fun Γ => match Γ[i]? with
  | some (some (l, d)) => .ok (l % 10, d) (Γ.set i none)
  | _ => .bad
section
variable {X : Cx} {W : WW}
theorem p_var {e : Expr} {i : Nat} (h : PE X e (tVar i)) : DP X W [i] e (pVar i) := by
  refine PE.imp h fun σ H Q ⟨Z, L, M, R, q⟩ => ?_
  unfold pVar at q
  cases el : (er L)[i]? with
  | none => rw [el] at q; exact q.elim
  | some o =>
    cases o with
    | none => rw [el] at q; exact q.elim
    | some x =>
      obtain ⟨l, d⟩ := x
      rw [el] at q
      obtain ⟨s, h1, e1, e2⟩ := er_some el
      obtain ⟨h2, h3, h4⟩ := R.slot i s h1
      refine ⟨s.v, h2, q s.v s.ns H ⟨fun _ _ h => h, by rw [← e2]; exact h3, h4, fun a => ⟨by simp [Sl.own, ownL], fun z => by simp [Sl.own, ownL] at z⟩, fun a ha => ?_⟩⟩
      have ha' : a ∈ s.ns := by simpa [Sl.rst, rstL, List.count_pos_iff] using ha
      have hs := (s.mem a).mpr ha'
      have sp := R.sep a
      have g1 := oS_get a h1
      have g2 := rS_get a h1
      have g3 := low_own (A := [i]) (List.mem_singleton.mpr rfl) h1 a
      have g4 := low_counts [i] a L
      omega
theorem e_move {e : Expr} {i : Nat} (h : PE X e (tVar i)) : DE X W e (eMove i) := by
  refine PE.imp h fun σ H Q ⟨Z, L, M, R, q⟩ => ?_
  unfold eMove at q
  cases el : (er L)[i]? with
  | none => rw [el] at q; exact q.elim
  | some o =>
    cases o with
    | none => rw [el] at q; exact q.elim
    | some x =>
      obtain ⟨l, d⟩ := x
      rw [el] at q
      obtain ⟨s, h1, e1, e2⟩ := er_some el
      obtain ⟨h2, h3, h4⟩ := R.slot i s h1
      subst e1 e2
      have p1 : ∀ a, (Sl.mk (s.l % 10) s.d s.v s.ns).own a = s.own a := fun a => by simp [Sl.own, ownL]
      have p2 : ∀ a, (Sl.mk (s.l % 10) s.d s.v s.ns).rst a = s.rst a := fun a => by simp [Sl.rst, rstL]
      refine ⟨s.v, h2, q s.v s.ns H (L.set i none) (by rw [er_set]; rfl) ⟨by simpa using R.len, fun j t hj => ?_, fun m hm => ?_, fun a => ?_, fun a ha => ?_, R.zf, fun j t hj hl => ?_⟩ h4⟩
      · by_cases hij : i = j
        · subst hij
          rw [List.getElem?_set_self (List.getElem?_eq_some_iff.mp h1).1] at hj
          cases hj
        · rw [List.getElem?_set_ne hij] at hj
          exact R.slot j t hj
      · rcases List.mem_cons.mp hm with rfl | hm
        · exact ⟨h3, Sl.stab _ _, fun a ha => h3.dom _ _ _ a (((Sl.mk (s.l % 10) s.d s.v s.ns).mem a).mp ha)⟩
        · exact R.tms m hm
      · have g1 := oS_set (x := none) a h1
        have g2 := rS_set (x := none) a h1
        have sp := R.sep a
        simp only [oO, rO] at g1 g2
        simp only [oM, rM, Sl.tm]
        rw [p1 a, p2 a]
        omega
      · have g1 := oS_set (x := none) a h1
        simp only [oO] at g1
        simp only [oM] at ha
        exact R.wr a (by have ha : 0 < oS (L.set i none) a + ((Sl.mk (s.l % 10) s.d s.v s.ns).own a + oM M a) := ha; rw [p1 a] at ha; omega)
      · by_cases hij : i = j
        · subst hij
          rw [List.getElem?_set_self (List.getElem?_eq_some_iff.mp h1).1] at hj
          cases hj
        · rw [List.getElem?_set_ne hij] at hj
          exact R.pin j t hj hl
theorem rd_C {K : PySem.W.Frag} {H : Hp} {v : V} {d : D} (hr : Rd K H v d []) : ∀ (Z : Zone) (L : List (Option Sl)) (M : List Tm), Bor K Z [] H L M H ⟨2, d, v, []⟩ := fun Z L M =>
  ⟨fun _ _ h => h, hr, fun a h => (nomatch h), fun a => ⟨by simp [Sl.own, ownL], fun z => by simp [Sl.own, ownL] at z⟩, fun a z => by simp [Sl.rst, rstL] at z⟩
theorem p_C {e : Expr} {v : V} {d : D} (h : PE X e (tC v)) (hr : ∀ H, Rd X.K H v d []) : DP X W [] e (pC d) :=
  PE.imp h fun σ H Q ⟨Z, L, M, R, q⟩ => q v [] H (rd_C (hr H) Z L M)
theorem p_int {i : Int} {j pos} : DP X W [] (.Constant (.int i) j pos) (pC (.int i)) := p_C pe_int fun _ => .int i
theorem p_bl {b j pos} : DP X W [] (.Constant (.bool b) j pos) (pC (.bl b)) := p_C pe_bl fun _ => .bl b
theorem p_non {j pos} : DP X W [] (.Constant .none j pos) (pC .non) := p_C pe_non fun _ => .non
theorem p_str {x j pos} : DP X W [] (.Constant (.str x) j pos) (pC (.str x)) := p_C pe_str fun _ => .str x
end

/-! ### operations by values -/
def oL : List Sl → Addr → Nat
  | [], _ => 0
  | s :: l, a => s.own a + oL l a
def rL : List Sl → Addr → Nat
  | [], _ => 0
  | s :: l, a => s.rst a + rL l a
/-- arguments that read as data in H and stand apart -/
structure ArgsOk (K : PySem.W.Frag) (H : Hp) (As : List Sl) : Prop where
  rd : ∀ s ∈ As, Rd K H s.v s.d s.ns
  sep : ∀ a, oL As a ≤ 1 ∧ (0 < oL As a → rL As a = 0)
  wr : ∀ a, 0 < oL As a → Mut (H a)
/-- what comes of them: new, or theirs -/
def Res (As : List Sl) (H H' : Hp) (s : Sl) : Prop := ∀ a, s.own a ≤ 1 ∧ (0 < s.own a → s.rst a = 0 ∧ Mut (H' a) ∧ (H a = none ∨ 0 < oL As a)) ∧ (0 < s.rst a → H a = none ∨ 0 < oL As a + rL As a)
def VOk (K : PySem.W.Frag) (r : List V → Hp → VK → Prop) (g : List LD → Option LD) : Prop := ∀ (As : List Sl) (H : Hp) (Q : VK), ArgsOk K H As → ∀ l d, g (As.map Sl.ld) = some (l, d) →
  (∀ v ns H', Same H H' → Rd K H' v d ns → Res As H H' ⟨l, d, v, ns⟩ → Q v H') → r (As.map Sl.v) H Q
theorem oL_append (As Bs : List Sl) (a : Addr) : oL (As ++ Bs) a = oL As a + oL Bs a := by
  induction As with
  | nil => simp [oL]
  | cons s As ih => simp only [List.cons_append, oL, ih]; omega
theorem rL_append (As Bs : List Sl) (a : Addr) : rL (As ++ Bs) a = rL As a + rL Bs a := by
  induction As with
  | nil => simp [rL]
  | cons s As ih => simp only [List.cons_append, rL, ih]; omega
theorem oL_mem {s : Sl} (a : Addr) : ∀ {As : List Sl}, s ∈ As → s.own a ≤ oL As a ∧ s.rst a ≤ rL As a
  | x :: As, h => by
    rcases List.mem_cons.mp h with rfl | h
    · simp only [oL, rL]; omega
    · have := oL_mem a h
      simp only [oL, rL]; omega
theorem oL_pos {a : Addr} : ∀ {As : List Sl}, 0 < oL As a + rL As a → ∃ s ∈ As, a ∈ s.ns
  | s :: As, h => by
    by_cases q : 0 < s.own a + s.rst a
    · exact ⟨s, List.mem_cons_self .., (s.mem a).mp q⟩
    · obtain ⟨n, h1, h2⟩ := oL_pos (a := a) (As := As) (by simp only [oL, rL] at h; omega)
      exact ⟨n, List.mem_cons_of_mem _ h1, h2⟩
theorem ArgsOk.free {K : PySem.W.Frag} {H : Hp} {As : List Sl} (h : ArgsOk K H As) {a : Addr} (e : H a = none) : oL As a = 0 ∧ rL As a = 0 := by
  have : oL As a + rL As a = 0 := Nat.eq_zero_of_not_pos fun q => by
    obtain ⟨s, h1, h2⟩ := oL_pos q
    exact (h.rd s h1).dom _ _ _ a h2 e
  omega
theorem ArgsOk.same {K : PySem.W.Frag} {H H' : Hp} {As : List Sl} (h : ArgsOk K H As) (s : Same H H') : ArgsOk K H' As :=
  ⟨fun t ht => (h.rd t ht).same s, h.sep, fun a ha => by
    have := h.wr a ha
    cases e : H a with
    | none => rw [e] at this; exact this.elim
    | some o => rw [e] at this; rw [s a o e]; exact this⟩

/-- readings one behind the other, then r of the values -/
def tArgs : List TE → (List V → Hp → VK → Prop) → TE
  | [], r => fun _ H Q => r [] H Q
  | t :: ts, r => fun σ H Q => t σ H fun x H1 => tArgs ts (fun xs => r (x :: xs)) σ H1 Q
/-- pure reckonings one behind the other -/
def evP : List PF → Env → P (List LD)
  | [], _ => .ok []
  | f :: fs, Γ => match f Γ with
    | .ok x => (match evP fs Γ with
      | .ok xs => .ok (x :: xs)
      | .exc c => .exc c
      | .bad => .bad)
    | .exc c => .exc c
    | .bad => .bad
def gP (o : Option LD) : P LD := match o with
  | some x => .ok x
  | none => .bad
def pApp (g : List LD → Option LD) (fs : List PF) : PF := fun Γ => match evP fs Γ with
  | .ok xs => gP (g xs)
  | .exc c => .exc c
  | .bad => .bad
/-- what the arguments that are there own is kept -/
def prot (As : List Sl) : Tm := ⟨oL As, fun _ => 0, fun _ => True⟩
section
variable {K : PySem.W.Frag} {Z : Zone} {σ : L2.St} {H0 H H' : Hp} {L : List (Option Sl)} {M : List Tm} {A : List Nat} {W : WW}
/-- pure arguments that have come: H0 the heap ahead of them -/
structure PArgs (K : PySem.W.Frag) (Z : Zone) (A : List Nat) (H0 : Hp) (L : List (Option Sl)) (M : List Tm) (H : Hp) (As : List Sl) : Prop where
  same : Same H0 H
  ok : ArgsOk K H As
  z : ∀ s ∈ As, ∀ a ∈ s.ns, Z a
  own : ∀ a, 0 < oL As a → H0 a = none
  rst : ∀ a, 0 < rL As a → oS (low A L) a = 0 ∧ oM M a = 0
theorem PArgs.rel (B : PArgs K Z A H0 L M H As) (R : Rel K Z σ H0 L M) : Rel K Z σ H L (prot As :: M) := by
  refine (R.same B.same).push (m := prot As) trivial (fun _ _ _ _ _ => trivial) (fun a ha => ?_) (fun a => ⟨(B.ok.sep a).1, fun _ => rfl⟩) (fun a ha => ?_) (fun a ha => absurd ha (Nat.lt_irrefl 0))
  · have := B.ok.wr a ha
    intro e
    rw [e] at this
    exact this
  · obtain ⟨q1, q2, q3, q4⟩ := R.free (B.own a ha)
    exact ⟨B.ok.wr a ha, q1, q2, q3, q4⟩
theorem PArgs.nil (R : Rel K Z σ H L M) : PArgs K Z A H L M H [] :=
  ⟨fun _ _ h => h, ⟨fun _ h => (nomatch h), fun a => ⟨Nat.zero_le _, fun _ => rfl⟩, fun a h => absurd h (Nat.lt_irrefl 0)⟩, fun _ h => (nomatch h), fun a h => absurd h (Nat.lt_irrefl 0), fun a h => absurd h (Nat.lt_irrefl 0)⟩
theorem PArgs.snoc {As : List Sl} {s : Sl} {B : List Nat} (hB : ∀ i ∈ B, i ∈ A) (R : Rel K Z σ H0 L M) (p : PArgs K Z A H0 L M H As) (b : Bor K Z B H L (prot As :: M) H' s) : PArgs K Z A H0 L M H' (As ++ [s]) := by
  have k := p.ok.same b.same
  have oe : ∀ a, oL (As ++ [s]) a = oL As a + s.own a := fun a => by rw [oL_append]; simp [oL]
  have re : ∀ a, rL (As ++ [s]) a = rL As a + s.rst a := fun a => by rw [rL_append]; simp [rL]
  refine ⟨p.same.trans b.same, ⟨fun t ht => ?_, fun a => ?_, fun a ha => ?_⟩, fun t ht => ?_, fun a ha => ?_, fun a ha => ?_⟩
  · rcases List.mem_append.mp ht with ht | ht
    · exact k.rd t ht
    · rw [List.mem_singleton.mp ht]; exact b.rd
  · rw [oe, re]
    have q1 := p.ok.sep a
    have q2 := b.own a
    have q3 := b.rst a
    by_cases c : 0 < s.own a
    · obtain ⟨c1, c2, _⟩ := q2.2 c
      have := p.ok.free c2
      omega
    · by_cases c' : 0 < s.rst a
      · have h3 : oL As a + oM M a = 0 := (q3 c').2
        omega
      · omega
  · rw [oe] at ha
    by_cases c : 0 < s.own a
    · exact ((b.own a).2 c).2.2
    · exact k.wr a (by omega)
  · rcases List.mem_append.mp ht with ht | ht
    · exact p.z t ht
    · rw [List.mem_singleton.mp ht]; exact b.z
  · rw [oe] at ha
    by_cases c : 0 < s.own a
    · exact p.same.free ((b.own a).2 c).2.1
    · exact p.own a (by omega)
  · rw [re] at ha
    by_cases c : 0 < s.rst a
    · obtain ⟨c1, c2⟩ := b.rst a c
      have c2 : oL As a + oM M a = 0 := c2
      have := low_mono hB a L
      omega
    · exact p.rst a (by omega)
/-- what comes of pure arguments, as a pure reckoning's -/
theorem PArgs.res {As : List Sl} {s : Sl} (R : Rel K Z σ H0 L M) (p : PArgs K Z A H0 L M H As) (sm : Same H0 H') (rd : Rd K H' s.v s.d s.ns) (r : Res As H H' s) : Bor K Z A H0 L M H' s := by
  have fr : ∀ a, H a = none → H0 a = none := fun a h => p.same.free h
  refine ⟨sm, rd, fun a ha => ?_, fun a => ⟨(r a).1, fun h => ?_⟩, fun a ha => ?_⟩
  · have hm := (s.mem a).mpr ha
    have key : H a = none ∨ 0 < oL As a + rL As a := by
      by_cases c : 0 < s.own a
      · rcases ((r a).2.1 c).2.2 with q | q
        · exact .inl q
        · exact .inr (by omega)
      · exact (r a).2.2 (by omega)
    rcases key with q | q
    · exact Z.sub a (R.zf a (fr a q))
    · obtain ⟨t, h1, h2⟩ := oL_pos q
      exact p.z t h1 a h2
  · obtain ⟨h1, h2, h3⟩ := (r a).2.1 h
    refine ⟨h1, ?_, h2⟩
    rcases h3 with q | q
    · exact fr a q
    · exact p.own a q
  · have zer : H0 a = none → oS (low A L) a = 0 ∧ oM M a = 0 := fun e => by
      have := R.free e
      have := low_counts A a L
      omega
    rcases (r a).2.2 ha with q | q
    · exact zer (fr a q)
    · by_cases c : 0 < oL As a
      · exact zer (p.own a c)
      · exact p.rst a (by omega)
/-- pure arguments, from the left -/
theorem parts {r : List V → Hp → VK → Prop} {Q : VK} (hexc : ∀ c H', Same H0 H' → W c σ H' → W c σ H') : ∀ (fs : List (List Nat × PF)) (As : List Sl) (H : Hp), (∀ p ∈ fs, ∀ i ∈ p.1, i ∈ A) → Rel K Z σ H0 L M → PArgs K Z A H0 L M H As →
    (match evP (fs.map (·.2)) (er L) with
      | .ok xs => ∀ Bs H', Bs.map Sl.ld = xs → PArgs K Z A H0 L M H' (As ++ Bs) → r ((As ++ Bs).map Sl.v) H' Q
      | .exc c => ∀ H', Same H0 H' → W c σ H'
      | .bad => False) →
    tArgs (fs.map fun p => tDP K W p.1 p.2) (fun xs => r (As.map Sl.v ++ xs)) σ H Q
  | [], As, H, _, R, p, h => by
    have := h [] H rfl (by rw [List.append_nil]; exact p)
    rw [List.append_nil] at this
    show r (As.map Sl.v ++ []) H Q
    rw [List.append_nil]
    exact this
  | (B, f) :: fs, As, H, hA, R, p, h => by
    refine ⟨Z, L, prot As :: M, p.rel R, ?_⟩
    simp only [List.map_cons, evP] at h
    dsimp only
    cases ef : f (er L) with
    | bad => simp only [ef] at h
    | exc c =>
      simp only [ef] at h
      exact fun H' s => h H' (p.same.trans s)
    | ok x =>
      obtain ⟨l, d⟩ := x
      simp only [ef] at h
      intro v ns H' b
      have p' := p.snoc (hA _ (List.mem_cons_self ..)) R b
      have hv : (fun xs => r (As.map Sl.v ++ v :: xs)) = fun xs => r ((As ++ [Sl.mk l d v ns]).map Sl.v ++ xs) := by
        funext xs
        simp
      show tArgs (fs.map fun p => tDP K W p.1 p.2) (fun xs => r (As.map Sl.v ++ v :: xs)) σ H' Q
      rw [hv]
      refine parts hexc fs _ H' (fun q hq => hA q (List.mem_cons_of_mem _ hq)) R p' ?_
      cases ev : evP (fs.map (·.2)) (er L) with
      | bad => simp only [ev] at h
      | exc c => simp only [ev] at h; exact h
      | ok xs =>
        simp only [ev] at h
        intro Bs H2 e q
        have := h (⟨l, d, v, ns⟩ :: Bs) H2 (by simp [Sl.ld, e]) (by simpa using q)
        simpa using this
/-- an operation upon pure arguments -/
theorem p_app {X : Cx} {r : List V → Hp → VK → Prop} {g : List LD → Option LD} {e : Expr} {t : TE} (fs : List (List Nat × PF)) (hA : ∀ p ∈ fs, ∀ i ∈ p.1, i ∈ A) (hv : VOk X.K r g) (h : PE X e t) (ht : ∀ σ H Q, tArgs (fs.map fun p => tDP X.K W p.1 p.2) r σ H Q → t σ H Q) :
    DP X W A e (pApp g (fs.map (·.2))) := by
  refine PE.imp h fun σ H Q ⟨Z, L, M, R, q⟩ => ht σ H Q ?_
  refine parts (A := A) (r := r) (fun _ _ _ z => z) fs [] H hA R (PArgs.nil R) ?_
  unfold pApp at q
  cases ev : evP (fs.map (·.2)) (er L) with
  | bad => rw [ev] at q; exact q
  | exc c => rw [ev] at q; exact q
  | ok xs =>
    rw [ev] at q
    intro Bs H1 e1 p
    simp only [List.nil_append] at p ⊢
    cases eg : g xs with
    | none => simp only [eg, gP] at q
    | some x =>
      obtain ⟨l, d⟩ := x
      simp only [eg, gP] at q
      exact hv Bs H1 Q p.ok l d (by rw [e1]; exact eg) fun v ns H' sm rd rs => q v ns H' (p.res R (p.same.trans sm) rd rs)
end
end DL

/-! DL3: arguments that may turn slots; tests; and, or, not; conditional expressions; chains -/
namespace DL
open L2 PySem PySem.Spec PyProof.Rows

/-- arguments that have come, kept -/
def tmA (K : PySem.W.Frag) (As : List Sl) : Tm := ⟨oL As, rL As, fun H => ∀ s ∈ As, Rd K H s.v s.d s.ns⟩
def evE : List EF → Env → R (List LD)
  | [], Γ => .ok [] Γ
  | f :: fs, Γ => match f Γ with
    | .ok x Γ1 => (match evE fs Γ1 with
      | .ok xs Γ2 => .ok (x :: xs) Γ2
      | .exc c Γ2 => .exc c Γ2
      | .bad => .bad)
    | .exc c Γ1 => .exc c Γ1
    | .bad => .bad
def eApp (g : List LD → Option LD) (fs : List EF) : EF := fun Γ => match evE fs Γ with
  | .ok xs Γ' => (match g xs with
    | some x => .ok x Γ'
    | none => .bad)
  | .exc c Γ' => .exc c Γ'
  | .bad => .bad
section
variable {K : PySem.W.Frag} {Z : Zone} {σ : L2.St} {H H' : Hp} {L : List (Option Sl)} {M : List Tm} {W : WW}
theorem tmA_stab (As : List Sl) : (tmA K As).Stab K := fun H H' h t e s hs => Rd.at t _ _ _ (h s hs) fun a ha => e a (by
  have := oL_mem a hs
  have := (s.mem a).mpr ha
  show 0 < oL As a + rL As a
  omega)
/-- no argument yet -/
theorem Rel.args0 (R : Rel K Z σ H L M) : Rel K Z σ H L (tmA K [] :: M) :=
  R.push (m := tmA K []) (fun _ h => (nomatch h)) (tmA_stab []) (fun a h => absurd h (Nat.lt_irrefl 0)) (fun a => ⟨Nat.zero_le _, fun _ => rfl⟩) (fun a h => absurd h (Nat.lt_irrefl 0)) fun a h => absurd h (Nat.lt_irrefl 0)
/-- one argument more -/
theorem Rel.argsC {As : List Sl} {s : Sl} (R : Rel K Z σ H L (s.tm K :: tmA K As :: M)) : Rel K Z σ H L (tmA K (As ++ [s]) :: M) where
  len := R.len
  slot := R.slot
  tms := fun m hm => by
    rcases List.mem_cons.mp hm with rfl | hm
    · obtain ⟨h1, _, h3⟩ := R.tms (s.tm K) (List.mem_cons_self ..)
      obtain ⟨g1, _, g3⟩ := R.tms (tmA K As) (List.mem_cons_of_mem _ (List.mem_cons_self ..))
      refine ⟨fun t ht => ?_, tmA_stab _, fun a ha => ?_⟩
      · rcases List.mem_append.mp ht with ht | ht
        · exact g1 t ht
        · rw [List.mem_singleton.mp ht]; exact h1
      · have ha : 0 < oL (As ++ [s]) a + rL (As ++ [s]) a := ha
        rw [oL_append, rL_append] at ha
        simp only [oL, rL] at ha
        by_cases c : 0 < s.own a + s.rst a
        · exact h3 a c
        · exact g3 a (by show 0 < oL As a + rL As a; omega)
    · exact R.tms m (List.mem_cons_of_mem _ (List.mem_cons_of_mem _ hm))
  sep := fun a => by
    have h := R.sep a
    have e1 : oM (s.tm K :: tmA K As :: M) a = s.own a + (oL As a + oM M a) := rfl
    have e2 : rM (s.tm K :: tmA K As :: M) a = s.rst a + (rL As a + rM M a) := rfl
    have e3 : oM (tmA K (As ++ [s]) :: M) a = oL (As ++ [s]) a + oM M a := rfl
    have e4 : rM (tmA K (As ++ [s]) :: M) a = rL (As ++ [s]) a + rM M a := rfl
    rw [e1, e2] at h
    rw [e3, e4, oL_append, rL_append]
    simp only [oL, rL]
    omega
  wr := fun a ha => R.wr a (by
    have e1 : oM (s.tm K :: tmA K As :: M) a = s.own a + (oL As a + oM M a) := rfl
    have e3 : oM (tmA K (As ++ [s]) :: M) a = oL (As ++ [s]) a + oM M a := rfl
    rw [e3, oL_append] at ha
    simp only [oL] at ha
    rw [e1]
    omega)
  zf := R.zf
  pin := R.pin
theorem Rel.argsOk {As : List Sl} (R : Rel K Z σ H L (tmA K As :: M)) : ArgsOk K H As := by
  obtain ⟨h1, _, h3⟩ := R.tms _ (List.mem_cons_self ..)
  have e : ∀ a, oM (tmA K As :: M) a = oL As a + oM M a := fun _ => rfl
  have e' : ∀ a, rM (tmA K As :: M) a = rL As a + rM M a := fun _ => rfl
  refine ⟨h1, fun a => ?_, fun a ha => R.wr a (by rw [e]; omega)⟩
  have := R.sep a
  rw [e, e'] at this
  omega
/-- what comes of arguments takes their place -/
theorem Rel.argsRes {As : List Sl} {s : Sl} (R : Rel K Z σ H L (tmA K As :: M)) (sm : Same H H') (rd : Rd K H' s.v s.d s.ns) (r : Res As H H' s) : Rel K Z σ H' L (s.tm K :: M) := by
  have e : ∀ a, oM (tmA K As :: M) a = oL As a + oM M a := fun _ => rfl
  have e' : ∀ a, rM (tmA K As :: M) a = rL As a + rM M a := fun _ => rfl
  have fr : ∀ a, H a = none → oS L a = 0 ∧ rS L a = 0 ∧ oM M a = 0 ∧ rM M a = 0 := fun a h => by
    have := R.free h
    rw [e, e'] at this
    omega
  refine (R.pop.same sm).push (m := s.tm K) rd (s.stab K) (fun a ha => rd.dom _ _ _ a ((s.mem a).mp ha)) (fun a => ⟨(r a).1, fun h => ((r a).2.1 h).1⟩) (fun a ha => ?_) (fun a ha => ?_)
  · obtain ⟨h1, h2, h3⟩ := (r a).2.1 ha
    refine ⟨h2, ?_⟩
    rcases h3 with q | q
    · exact fr a q
    · have := R.sep a
      rw [e, e'] at this
      omega
  · rcases (r a).2.2 ha with q | q
    · have := fr a q
      omega
    · have := R.sep a
      rw [e, e'] at this
      omega
theorem Res.zone {As : List Sl} {s : Sl} (R : Rel K Z σ H L M) (hz : ∀ t ∈ As, ∀ a ∈ t.ns, Z a) (r : Res As H H' s) : ∀ a ∈ s.ns, Z a := fun a ha => by
  have hm := (s.mem a).mpr ha
  have key : H a = none ∨ 0 < oL As a + rL As a := by
    by_cases c : 0 < s.own a
    · rcases ((r a).2.1 c).2.2 with q | q
      · exact .inl q
      · exact .inr (by omega)
    · exact (r a).2.2 (by omega)
  rcases key with q | q
  · exact Z.sub a (R.zf a q)
  · obtain ⟨t, h1, h2⟩ := oL_pos q
    exact hz t h1 a h2
/-- arguments that may turn slots, from the left -/
theorem eparts {r : List V → Hp → VK → Prop} {Q : VK} : ∀ (fs : List EF) (As : List Sl) (H : Hp) (L : List (Option Sl)), Rel K Z σ H L (tmA K As :: M) → (∀ t ∈ As, ∀ a ∈ t.ns, Z a) →
    (match evE fs (er L) with
      | .ok xs Γ' => ∀ Bs H' L', er L' = Γ' → Bs.map Sl.ld = xs → Rel K Z σ H' L' (tmA K (As ++ Bs) :: M) → (∀ t ∈ As ++ Bs, ∀ a ∈ t.ns, Z a) → r ((As ++ Bs).map Sl.v) H' Q
      | .exc c Γ' => ∀ H' L', er L' = Γ' → Rel K Z σ H' L' M → W c σ H'
      | .bad => False) →
    tArgs (fs.map fun f => tDE K W f) (fun xs => r (As.map Sl.v ++ xs)) σ H Q
  | [], As, H, L, R, hz, h => by
    have := h [] H L rfl rfl (by rw [List.append_nil]; exact R) (by rw [List.append_nil]; exact hz)
    rw [List.append_nil] at this
    show r (As.map Sl.v ++ []) H Q
    rw [List.append_nil]
    exact this
  | f :: fs, As, H, L, R, hz, h => by
    refine ⟨Z, L, _, R, ?_⟩
    simp only [evE] at h
    dsimp only
    cases ef : f (er L) with
    | bad => simp only [ef] at h
    | exc c Γ1 =>
      simp only [ef] at h
      exact fun H' L' e R' => h H' L' e R'.pop
    | ok x Γ1 =>
      obtain ⟨l, d⟩ := x
      simp only [ef] at h
      intro v ns H1 L1 e1 R1 z1
      have R2 := R1.argsC
      have hv : (fun xs => r (As.map Sl.v ++ v :: xs)) = fun xs => r ((As ++ [Sl.mk l d v ns]).map Sl.v ++ xs) := by
        funext xs
        simp
      show tArgs (fs.map fun f => tDE K W f) (fun xs => r (As.map Sl.v ++ v :: xs)) σ H1 Q
      rw [hv]
      refine eparts fs _ H1 L1 R2 (fun t ht => ?_) ?_
      · rcases List.mem_append.mp ht with ht | ht
        · exact hz t ht
        · rw [List.mem_singleton.mp ht]; exact z1
      rw [e1]
      cases ev : evE fs Γ1 with
      | bad => simp only [ev] at h
      | exc c Γ2 => simp only [ev] at h; exact h
      | ok xs Γ2 =>
        simp only [ev] at h
        intro Bs H2 L2 e2 eB R3 z3
        have := h (⟨l, d, v, ns⟩ :: Bs) H2 L2 e2 (by simp [Sl.ld, eB]) (by simpa using R3) (by simpa using z3)
        simpa using this
end
/-- an operation upon arguments that may turn slots -/
theorem e_app {X : Cx} {W : WW} {r : List V → Hp → VK → Prop} {g : List LD → Option LD} {e : Expr} {t : TE} (fs : List EF) (hv : VOk X.K r g) (h : PE X e t) (ht : ∀ σ H Q, tArgs (fs.map fun f => tDE X.K W f) r σ H Q → t σ H Q) : DE X W e (eApp g fs) := by
  refine PE.imp h fun σ H Q ⟨Z, L, M, R, q⟩ => ht σ H Q ?_
  refine eparts (r := r) (M := M) fs [] H L R.args0 (fun _ h => (nomatch h)) ?_
  unfold eApp at q
  cases ev : evE fs (er L) with
  | bad => rw [ev] at q; exact q
  | exc c Γ' => rw [ev] at q; exact q
  | ok xs Γ' =>
    rw [ev] at q
    intro Bs H1 L1 e1 eB R1 z1
    simp only [List.nil_append] at R1 z1 ⊢
    cases eg : g xs with
    | none => simp only [eg] at q
    | some x =>
      obtain ⟨l, d⟩ := x
      simp only [eg] at q
      exact hv Bs H1 Q R1.argsOk l d (by rw [eB]; exact eg) fun v ns H' sm rd rs => q v ns H' L1 e1 (R1.argsRes sm rd rs) (Res.zone R1 z1 rs)

/-! ### tests -/
abbrev PB := Env → P Bool
abbrev EB := Env → R Bool
def tDTP (K : PySem.W.Frag) (W : WW) (f : PB) : TT := fun σ H Q => ∃ Z L M, Rel K Z σ H L M ∧ match f (er L) with
  | .ok b => ∀ H', Same H H' → Q b H'
  | .exc c => ∀ H', Same H H' → W c σ H'
  | .bad => False
def tDT (K : PySem.W.Frag) (W : WW) (f : EB) : TT := fun σ H Q => ∃ Z L M, Rel K Z σ H L M ∧ match f (er L) with
  | .ok b Γ' => ∀ H' L', er L' = Γ' → Rel K Z σ H' L' M → Q b H'
  | .exc c Γ' => ∀ H' L', er L' = Γ' → Rel K Z σ H' L' M → W c σ H'
  | .bad => False
def DTP (X : Cx) (W : WW) (e : Expr) (f : PB) : Prop := PT X e (tDTP X.K W f)
def DT (X : Cx) (W : WW) (e : Expr) (f : EB) : Prop := PT X e (tDT X.K W f)
def toEB (f : PB) : EB := fun Γ => match f Γ with
  | .ok b => .ok b Γ
  | .exc c => .exc c Γ
  | .bad => .bad
theorem DTP.toE {X : Cx} {W : WW} {e : Expr} {f : PB} (h : DTP X W e f) : DT X W e (toEB f) := by
  refine PT.imp h fun σ H Q ⟨Z, L, M, R, q⟩ => ⟨Z, L, M, R, ?_⟩
  unfold toEB at q
  cases ef : f (er L) with
  | bad => rw [ef] at q; exact q
  | exc c => rw [ef] at q; exact fun H' s => q H' L rfl (R.same s)
  | ok b => rw [ef] at q; exact fun H' s => q H' L rfl (R.same s)
/-- a truth that an expression gives -/
def pB (f : PF) : PB := fun Γ => match f Γ with
  | .ok (_, .bl b) => .ok b
  | .exc c => .exc c
  | _ => .bad
def eB (f : EF) : EB := fun Γ => match f Γ with
  | .ok (_, .bl b) Γ' => .ok b Γ'
  | .exc c Γ' => .exc c Γ'
  | _ => .bad
section
variable {K : PySem.W.Frag} {W : WW}
theorem rd_bl {H : Hp} {v : V} {b : Bool} {ns : List Addr} (h : Rd K H v (.bl b) ns) : v = .bl b ∧ ns = [] := by cases h; exact ⟨rfl, rfl⟩
theorem rd_int {H : Hp} {v : V} {b : Int} {ns : List Addr} (h : Rd K H v (.int b) ns) : v = .int b ∧ ns = [] := by cases h; exact ⟨rfl, rfl⟩
theorem rd_str {H : Hp} {v : V} {b : Str} {ns : List Addr} (h : Rd K H v (.str b) ns) : v = .str b ∧ ns = [] := by cases h; exact ⟨rfl, rfl⟩
theorem rd_non {H : Hp} {v : V} {ns : List Addr} (h : Rd K H v .non ns) : v = .non ∧ ns = [] := by cases h; exact ⟨rfl, rfl⟩
theorem tB_P {A : List Nat} {f : PF} {σ : L2.St} {H : Hp} {Q : Bool → Hp → Prop} (h : tDTP K W (pB f) σ H Q) : tDP K W A f σ H (fun x H1 => ∃ k, x = .bl k ∧ Q k H1) := by
  obtain ⟨Z, L, M, R, q⟩ := h
  refine ⟨Z, L, M, R, ?_⟩
  unfold pB at q
  cases ef : f (er L) with
  | bad => rw [ef] at q; exact q
  | exc c => rw [ef] at q; exact q
  | ok x =>
    obtain ⟨l, d⟩ := x
    rw [ef] at q
    cases d with
    | bl b => exact fun v ns H' B => ⟨b, (rd_bl B.rd).1, q H' B.same⟩
    | _ => exact q.elim
theorem tB_E {f : EF} {σ : L2.St} {H : Hp} {Q : Bool → Hp → Prop} (h : tDT K W (eB f) σ H Q) : tDE K W f σ H (fun x H1 => ∃ k, x = .bl k ∧ Q k H1) := by
  obtain ⟨Z, L, M, R, q⟩ := h
  refine ⟨Z, L, M, R, ?_⟩
  unfold eB at q
  cases ef : f (er L) with
  | bad => rw [ef] at q; exact q
  | exc c Γ' => rw [ef] at q; exact q
  | ok x Γ' =>
    obtain ⟨l, d⟩ := x
    rw [ef] at q
    cases d with
    | bl b => exact fun v ns H' L' e R' _ => ⟨b, (rd_bl (R'.tms _ (List.mem_cons_self ..)).1).1, q H' L' e R'.pop⟩
    | _ => exact q.elim
end
section
variable {X : Cx} {W : WW} {A : List Nat} {e : Expr} {r : List V → Hp → VK → Prop} {g : List LD → Option LD} {t : TT}
/-- an expression as a test -/
theorem t_val {f : PF} (h : DP X W A e f) (he : ∀ whole, isTrue e X.env whole = (do let v ← whole; standAt e.pos; holding [v] (truthy v)) := by intro _; rfl) : DTP X W e (pB f) :=
  PT.imp (pt_val h he) fun _ _ _ q => tB_P q
theorem t_valE {f : EF} (h : DE X W e f) (he : ∀ whole, isTrue e X.env whole = (do let v ← whole; standAt e.pos; holding [v] (truthy v)) := by intro _; rfl) : DT X W e (eB f) :=
  PT.imp (pt_val h he) fun _ _ _ q => tB_E q
/-- an operation as a test (a comparison) -/
theorem t_app (fs : List (List Nat × PF)) (hA : ∀ p ∈ fs, ∀ i ∈ p.1, i ∈ A) (hv : VOk X.K r g) (h : PT X e t) (ht : ∀ σ H Q, tArgs (fs.map fun p => tDP X.K W p.1 p.2) r σ H (fun x H1 => ∃ k, x = .bl k ∧ Q k H1) → t σ H Q) :
    DTP X W e (pB (pApp g (fs.map (·.2)))) := by
  refine PT.imp h fun σ H Q q => ht σ H Q ?_
  obtain ⟨Z, L, M, R, q⟩ := tB_P (A := A) q
  refine parts (A := A) (r := r) (fun _ _ _ z => z) fs [] H hA R (PArgs.nil R) ?_
  unfold pApp at q
  cases ev : evP (fs.map (·.2)) (er L) with
  | bad => rw [ev] at q; exact q
  | exc c => rw [ev] at q; exact q
  | ok xs =>
    rw [ev] at q
    intro Bs H1 e1 p
    simp only [List.nil_append] at p ⊢
    cases eg : g xs with
    | none => simp only [eg, gP] at q
    | some x =>
      obtain ⟨l, d⟩ := x
      simp only [eg, gP] at q
      exact hv Bs H1 _ p.ok l d (by rw [e1]; exact eg) fun v ns H' sm rd rs => q v ns H' (p.res R (p.same.trans sm) rd rs)
theorem t_appE (fs : List EF) (hv : VOk X.K r g) (h : PT X e t) (ht : ∀ σ H Q, tArgs (fs.map fun f => tDE X.K W f) r σ H (fun x H1 => ∃ k, x = .bl k ∧ Q k H1) → t σ H Q) : DT X W e (eB (eApp g fs)) := by
  refine PT.imp h fun σ H Q q => ht σ H Q ?_
  obtain ⟨Z, L, M, R, q⟩ := tB_E q
  refine eparts (r := r) (M := M) fs [] H L R.args0 (fun _ h => (nomatch h)) ?_
  unfold eApp at q
  cases ev : evE fs (er L) with
  | bad => rw [ev] at q; exact q
  | exc c Γ' => rw [ev] at q; exact q
  | ok xs Γ' =>
    rw [ev] at q
    intro Bs H1 L1 e1 eB R1 z1
    simp only [List.nil_append] at R1 z1 ⊢
    cases eg : g xs with
    | none => simp only [eg] at q
    | some x =>
      obtain ⟨l, d⟩ := x
      simp only [eg] at q
      exact hv Bs H1 _ R1.argsOk l d (by rw [eB]; exact eg) fun v ns H' sm rd rs => q v ns H' L1 e1 (R1.argsRes sm rd rs) (Res.zone R1 z1 rs)
end

/-! ### and, or, not as tests -/
def bAndP (f g : PB) : PB := fun Γ => match f Γ with
  | .ok true => g Γ
  | x => x
def bOrP (f g : PB) : PB := fun Γ => match f Γ with
  | .ok false => g Γ
  | x => x
def bNotP (f : PB) : PB := fun Γ => match f Γ with
  | .ok b => .ok (!b)
  | x => x
def bAndE (f g : EB) : EB := fun Γ => match f Γ with
  | .ok true Γ' => g Γ'
  | x => x
def bOrE (f g : EB) : EB := fun Γ => match f Γ with
  | .ok false Γ' => g Γ'
  | x => x
def bNotE (f : EB) : EB := fun Γ => match f Γ with
  | .ok b Γ' => .ok (!b) Γ'
  | x => x
/-- as within and, or -/
def DWP (X : Cx) (W : WW) (e : Expr) (f : PB) : Prop := PW X e (tDTP X.K W f)
def DW (X : Cx) (W : WW) (e : Expr) (f : EB) : Prop := PW X e (tDT X.K W f)
theorem PW.imp {X : Cx} {e : Expr} {t t' : TT} (h : PW X e t) (i : ∀ σ H Q, t' σ H Q → t σ H Q) : PW X e t' := ⟨fun wh pins s σ H Q I hw => h.run wh pins s σ H Q I (i σ H Q hw)⟩
section
variable {X : Cx} {W : WW} {a b : Expr} {rest : List Expr} {pos : Pos} {f g : PB} {f' g' : EB}
theorem DWP.t {e : Expr} (h : DWP X W e f) : DTP X W e f := L2.PW.pt h
theorem DW.t {e : Expr} (h : DW X W e f') : DT X W e f' := L2.PW.pt h
theorem w_and1 (h : DTP X W a f) : DWP X W (.BoolOp .And [a] pos) f := pw_and1 h
theorem w_or1 (h : DTP X W a f) : DWP X W (.BoolOp .Or [a] pos) f := pw_or1 h
theorem w_and1E (h : DT X W a f') : DW X W (.BoolOp .And [a] pos) f' := pw_and1 h
theorem w_or1E (h : DT X W a f') : DW X W (.BoolOp .Or [a] pos) f' := pw_or1 h
theorem w_and (h : DTP X W a f) (k : DWP X W (.BoolOp .And (b :: rest) pos) g) : DWP X W (.BoolOp .And (a :: b :: rest) pos) (bAndP f g) := by
  refine PW.imp (pw_and h k) fun σ H Q ⟨Z, L, M, R, q⟩ => ⟨Z, L, M, R, ?_⟩
  unfold bAndP at q
  cases ef : f (er L) with
  | bad => rw [ef] at q; exact q
  | exc c => rw [ef] at q; exact q
  | ok c =>
    rw [ef] at q
    intro H' s
    cases c with
    | false => exact iteF (q H' s)
    | true =>
      refine iteT ⟨Z, L, M, R.same s, ?_⟩
      revert q
      show (match g (er L) with | .ok b => _ | .exc c => _ | .bad => False) → _
      cases g (er L) with
      | bad => exact id
      | exc c => exact fun q H2 s2 => q H2 (s.trans s2)
      | ok d => exact fun q H2 s2 => q H2 (s.trans s2)
theorem w_or (h : DTP X W a f) (k : DWP X W (.BoolOp .Or (b :: rest) pos) g) : DWP X W (.BoolOp .Or (a :: b :: rest) pos) (bOrP f g) := by
  refine PW.imp (pw_or h k) fun σ H Q ⟨Z, L, M, R, q⟩ => ⟨Z, L, M, R, ?_⟩
  unfold bOrP at q
  cases ef : f (er L) with
  | bad => rw [ef] at q; exact q
  | exc c => rw [ef] at q; exact q
  | ok c =>
    rw [ef] at q
    intro H' s
    cases c with
    | true => exact iteT (q H' s)
    | false =>
      refine iteF ⟨Z, L, M, R.same s, ?_⟩
      revert q
      show (match g (er L) with | .ok b => _ | .exc c => _ | .bad => False) → _
      cases g (er L) with
      | bad => exact id
      | exc c => exact fun q H2 s2 => q H2 (s.trans s2)
      | ok d => exact fun q H2 s2 => q H2 (s.trans s2)
theorem w_andE (h : DT X W a f') (k : DW X W (.BoolOp .And (b :: rest) pos) g') : DW X W (.BoolOp .And (a :: b :: rest) pos) (bAndE f' g') := by
  refine PW.imp (pw_and h k) fun σ H Q ⟨Z, L, M, R, q⟩ => ⟨Z, L, M, R, ?_⟩
  unfold bAndE at q
  cases ef : f' (er L) with
  | bad => rw [ef] at q; exact q
  | exc c Γ' => rw [ef] at q; exact q
  | ok c Γ' =>
    rw [ef] at q
    intro H' L' e R'
    cases c with
    | false => exact iteF (q H' L' e R')
    | true => exact iteT ⟨Z, L', M, R', by rw [e]; exact q⟩
theorem w_orE (h : DT X W a f') (k : DW X W (.BoolOp .Or (b :: rest) pos) g') : DW X W (.BoolOp .Or (a :: b :: rest) pos) (bOrE f' g') := by
  refine PW.imp (pw_or h k) fun σ H Q ⟨Z, L, M, R, q⟩ => ⟨Z, L, M, R, ?_⟩
  unfold bOrE at q
  cases ef : f' (er L) with
  | bad => rw [ef] at q; exact q
  | exc c Γ' => rw [ef] at q; exact q
  | ok c Γ' =>
    rw [ef] at q
    intro H' L' e R'
    cases c with
    | true => exact iteT (q H' L' e R')
    | false => exact iteF ⟨Z, L', M, R', by rw [e]; exact q⟩
theorem t_not (h : DTP X W a f) : DTP X W (.UnaryOp .Not a pos) (bNotP f) := by
  refine PT.imp (pt_not h) fun σ H Q ⟨Z, L, M, R, q⟩ => ⟨Z, L, M, R, ?_⟩
  unfold bNotP at q
  cases ef : f (er L) with
  | bad => rw [ef] at q; exact q
  | exc c => rw [ef] at q; exact q
  | ok c => rw [ef] at q; exact q
theorem t_notE (h : DT X W a f') : DT X W (.UnaryOp .Not a pos) (bNotE f') := by
  refine PT.imp (pt_not h) fun σ H Q ⟨Z, L, M, R, q⟩ => ⟨Z, L, M, R, ?_⟩
  unfold bNotE at q
  cases ef : f' (er L) with
  | bad => rw [ef] at q; exact q
  | exc c Γ' => rw [ef] at q; exact q
  | ok c Γ' => rw [ef] at q; exact q
end

/-! ### .. as values -/
def pAnd (f g : PF) : PF := fun Γ => match f Γ with
  | .ok (_, .bl true) => g Γ
  | .ok (_, .bl false) => .ok (2, .bl false)
  | .exc c => .exc c
  | _ => .bad
def pOr (f g : PF) : PF := fun Γ => match f Γ with
  | .ok (_, .bl false) => g Γ
  | .ok (_, .bl true) => .ok (2, .bl true)
  | .exc c => .exc c
  | _ => .bad
def pNot (f : PF) : PF := fun Γ => match f Γ with
  | .ok (_, .bl b) => .ok (2, .bl (!b))
  | .exc c => .exc c
  | _ => .bad
def pIf (t : PB) (f g : PF) : PF := fun Γ => match t Γ with
  | .ok true => f Γ
  | .ok false => g Γ
  | .exc c => .exc c
  | .bad => .bad
def eAnd (f g : EF) : EF := fun Γ => match f Γ with
  | .ok (_, .bl true) Γ' => g Γ'
  | .ok (_, .bl false) Γ' => .ok (2, .bl false) Γ'
  | .exc c Γ' => .exc c Γ'
  | _ => .bad
def eOr (f g : EF) : EF := fun Γ => match f Γ with
  | .ok (_, .bl false) Γ' => g Γ'
  | .ok (_, .bl true) Γ' => .ok (2, .bl true) Γ'
  | .exc c Γ' => .exc c Γ'
  | _ => .bad
def eNot (f : EF) : EF := fun Γ => match f Γ with
  | .ok (_, .bl b) Γ' => .ok (2, .bl (!b)) Γ'
  | .exc c Γ' => .exc c Γ'
  | _ => .bad
def eIf (t : EB) (f g : EF) : EF := fun Γ => match t Γ with
  | .ok true Γ' => f Γ'
  | .ok false Γ' => g Γ'
  | .exc c Γ' => .exc c Γ'
  | .bad => .bad
section
variable {K : PySem.W.Frag} {Z : Zone} {σ : L2.St} {H H1 H' : Hp} {L : List (Option Sl)} {M : List Tm} {A B : List Nat} {W : WW}
/-- a reckoning behind others that left nothing -/
theorem Bor.back {s : Sl} (sm : Same H H1) (hA : ∀ i ∈ A, i ∈ B) (b : Bor K Z A H1 L M H' s) : Bor K Z B H L M H' s :=
  ⟨sm.trans b.same, b.rd, b.z, fun a => ⟨(b.own a).1, fun h => ⟨((b.own a).2 h).1, sm.free ((b.own a).2 h).2.1, ((b.own a).2 h).2.2⟩⟩, fun a h => ⟨by have := (b.rst a h).1; have := low_mono hA a L; omega, (b.rst a h).2⟩⟩
/-- .. its reading then -/
theorem tDP_then {f : PF} {Q : VK} (R : Rel K Z σ H L M) (sm : Same H H1) (hA : ∀ i ∈ A, i ∈ B) (q : match f (er L) with
      | .ok (l, d) => ∀ v ns H', Bor K Z B H L M H' ⟨l, d, v, ns⟩ → Q v H'
      | .exc c => ∀ H', Same H H' → W c σ H'
      | .bad => False) : tDP K W A f σ H1 Q := by
  refine ⟨Z, L, M, R.same sm, ?_⟩
  cases ef : f (er L) with
  | bad => rw [ef] at q; exact q
  | exc c => rw [ef] at q; exact fun H2 s => q H2 (sm.trans s)
  | ok x =>
    obtain ⟨l, d⟩ := x
    rw [ef] at q
    exact fun v ns H2 b => q v ns H2 (b.back sm hA)
theorem blC (sm : Same H H1) (b : Bool) : Bor K Z A H L M H1 ⟨2, .bl b, .bl b, []⟩ :=
  ⟨sm, .bl b, fun a h => (nomatch h), fun a => ⟨by simp [Sl.own, ownL], fun z => by simp [Sl.own, ownL] at z⟩, fun a z => by simp [Sl.rst, rstL] at z⟩
theorem blR (R : Rel K Z σ H L M) (b : Bool) : Rel K Z σ H L ((Sl.mk 2 (.bl b) (.bl b) []).tm K :: M) :=
  R.push (m := (Sl.mk 2 (.bl b) (.bl b) []).tm K) (.bl b) (Sl.stab _ _) (fun a h => by simp [Sl.tm, Sl.own, Sl.rst, ownL, rstL] at h) (fun a => by simp [Sl.tm, Sl.own, Sl.rst, ownL, rstL]) (fun a h => by simp [Sl.tm, Sl.own, ownL] at h) fun a h => by simp [Sl.tm, Sl.rst, rstL] at h
end
section
variable {X : Cx} {W : WW} {A B C : List Nat} {a b c : Expr} {rest : List Expr} {pos : Pos} {f g : PF} {f' g' : EF} {op : PySem.BoolOp}
theorem p_one (h : DP X W A a f) : DP X W A (.BoolOp op [a] pos) f := pe_one h
theorem e_one (h : DE X W a f') : DE X W (.BoolOp op [a] pos) f' := pe_one h
theorem p_and (h : DP X W A a f) (k : DP X W B (.BoolOp .And (b :: rest) pos) g) : DP X W B (.BoolOp .And (a :: b :: rest) pos) (pAnd f g) := by
  refine PE.imp (pe_and h k) fun σ H Q ⟨Z, L, M, R, q⟩ => ⟨Z, L, M, R, ?_⟩
  unfold pAnd at q
  cases ef : f (er L) with
  | bad => rw [ef] at q; exact q
  | exc c => rw [ef] at q; exact q
  | ok x =>
    obtain ⟨l, d⟩ := x
    rw [ef] at q
    cases d with
    | bl d =>
      intro v ns H' B'
      refine ⟨d, (rd_bl B'.rd).1, ?_⟩
      cases d with
      | false => exact iteF (q _ _ H' (blC B'.same false))
      | true => exact iteT (tDP_then R B'.same (fun _ h => h) q)
    | _ => exact q.elim
theorem p_or (h : DP X W A a f) (k : DP X W B (.BoolOp .Or (b :: rest) pos) g) : DP X W B (.BoolOp .Or (a :: b :: rest) pos) (pOr f g) := by
  refine PE.imp (pe_or h k) fun σ H Q ⟨Z, L, M, R, q⟩ => ⟨Z, L, M, R, ?_⟩
  unfold pOr at q
  cases ef : f (er L) with
  | bad => rw [ef] at q; exact q
  | exc c => rw [ef] at q; exact q
  | ok x =>
    obtain ⟨l, d⟩ := x
    rw [ef] at q
    cases d with
    | bl d =>
      intro v ns H' B'
      refine ⟨d, (rd_bl B'.rd).1, ?_⟩
      cases d with
      | true => exact iteT (q _ _ H' (blC B'.same true))
      | false => exact iteF (tDP_then R B'.same (fun _ h => h) q)
    | _ => exact q.elim
theorem p_not (h : DP X W A a f) : DP X W [] (.UnaryOp .Not a pos) (pNot f) := by
  refine PE.imp (pe_not h) fun σ H Q ⟨Z, L, M, R, q⟩ => ⟨Z, L, M, R, ?_⟩
  unfold pNot at q
  cases ef : f (er L) with
  | bad => rw [ef] at q; exact q
  | exc c => rw [ef] at q; exact q
  | ok x =>
    obtain ⟨l, d⟩ := x
    rw [ef] at q
    cases d with
    | bl d =>
      intro v ns H' B'
      exact ⟨d, (rd_bl B'.rd).1, q _ _ H' (blC B'.same (!d))⟩
    | _ => exact q.elim
theorem p_if {t : PB} (hA : ∀ i ∈ A, i ∈ C) (hB : ∀ i ∈ B, i ∈ C) (h : DTP X W c t) (ha : DP X W A a f) (hb : DP X W B b g) : DP X W C (.IfExp c a b pos) (pIf t f g) := by
  refine PE.imp (pe_ifExp h ha hb) fun σ H Q ⟨Z, L, M, R, q⟩ => ⟨Z, L, M, R, ?_⟩
  unfold pIf at q
  cases ef : t (er L) with
  | bad => rw [ef] at q; exact q
  | exc c => rw [ef] at q; exact q
  | ok d =>
    rw [ef] at q
    intro H1 sm
    cases d with
    | true => exact iteT (tDP_then R sm hA q)
    | false => exact iteF (tDP_then R sm hB q)
theorem e_and (h : DE X W a f') (k : DE X W (.BoolOp .And (b :: rest) pos) g') : DE X W (.BoolOp .And (a :: b :: rest) pos) (eAnd f' g') := by
  refine PE.imp (pe_and h k) fun σ H Q ⟨Z, L, M, R, q⟩ => ⟨Z, L, M, R, ?_⟩
  unfold eAnd at q
  cases ef : f' (er L) with
  | bad => rw [ef] at q; exact q
  | exc c Γ' => rw [ef] at q; exact q
  | ok x Γ' =>
    obtain ⟨l, d⟩ := x
    rw [ef] at q
    cases d with
    | bl d =>
      intro v ns H' L' e R' z
      refine ⟨d, (rd_bl (R'.tms _ (List.mem_cons_self ..)).1).1, ?_⟩
      cases d with
      | false => exact iteF (q _ _ H' L' e (blR R'.pop false) fun _ h => nomatch h)
      | true => exact iteT ⟨Z, L', M, R'.pop, by rw [e]; exact q⟩
    | _ => exact q.elim
theorem e_or (h : DE X W a f') (k : DE X W (.BoolOp .Or (b :: rest) pos) g') : DE X W (.BoolOp .Or (a :: b :: rest) pos) (eOr f' g') := by
  refine PE.imp (pe_or h k) fun σ H Q ⟨Z, L, M, R, q⟩ => ⟨Z, L, M, R, ?_⟩
  unfold eOr at q
  cases ef : f' (er L) with
  | bad => rw [ef] at q; exact q
  | exc c Γ' => rw [ef] at q; exact q
  | ok x Γ' =>
    obtain ⟨l, d⟩ := x
    rw [ef] at q
    cases d with
    | bl d =>
      intro v ns H' L' e R' z
      refine ⟨d, (rd_bl (R'.tms _ (List.mem_cons_self ..)).1).1, ?_⟩
      cases d with
      | true => exact iteT (q _ _ H' L' e (blR R'.pop true) fun _ h => nomatch h)
      | false => exact iteF ⟨Z, L', M, R'.pop, by rw [e]; exact q⟩
    | _ => exact q.elim
theorem e_not (h : DE X W a f') : DE X W (.UnaryOp .Not a pos) (eNot f') := by
  refine PE.imp (pe_not h) fun σ H Q ⟨Z, L, M, R, q⟩ => ⟨Z, L, M, R, ?_⟩
  unfold eNot at q
  cases ef : f' (er L) with
  | bad => rw [ef] at q; exact q
  | exc c Γ' => rw [ef] at q; exact q
  | ok x Γ' =>
    obtain ⟨l, d⟩ := x
    rw [ef] at q
    cases d with
    | bl d => exact fun v ns H' L' e R' z => ⟨d, (rd_bl (R'.tms _ (List.mem_cons_self ..)).1).1, q _ _ H' L' e (blR R'.pop (!d)) fun _ h => nomatch h⟩
    | _ => exact q.elim
theorem e_if {t : EB} (h : DT X W c t) (ha : DE X W a f') (hb : DE X W b g') : DE X W (.IfExp c a b pos) (eIf t f' g') := by
  refine PE.imp (pe_ifExp h ha hb) fun σ H Q ⟨Z, L, M, R, q⟩ => ⟨Z, L, M, R, ?_⟩
  unfold eIf at q
  cases ef : t (er L) with
  | bad => rw [ef] at q; exact q
  | exc c Γ' => rw [ef] at q; exact q
  | ok d Γ' =>
    rw [ef] at q
    intro H1 L1 e R1
    cases d with
    | true => exact iteT ⟨Z, L1, M, R1, by rw [e]; exact q⟩
    | false => exact iteF ⟨Z, L1, M, R1, by rw [e]; exact q⟩
end
end DL

/-! DL4: operations by values over data: arithmetic, comparisons, items, slices, displays, some built-ins -/
namespace DL
open L2 PySem PySem.Spec PyProof.Rows

def r2l (r : R2) : List V → Hp → VK → Prop := fun xs H Q => match xs with
  | [x, y] => r x y H Q
  | _ => False
def r1l (r : V → Hp → VK → Prop) : List V → Hp → VK → Prop := fun xs H Q => match xs with
  | [x] => r x H Q
  | _ => False
def gL1 (f : LD → Option LD) : List LD → Option LD
  | [a] => f a
  | _ => none
def gL2 (f : D → D → Option LD) : List LD → Option LD
  | [(_, a), (_, b)] => f a b
  | _ => none
theorem vL1 {K : PySem.W.Frag} {r : V → Hp → VK → Prop} {f : LD → Option LD} (h : ∀ (s : Sl) (H : Hp) (Q : VK), ArgsOk K H [s] → Rd K H s.v s.d s.ns → ∀ l d, f (s.l, s.d) = some (l, d) →
    (∀ v ns H', Same H H' → Rd K H' v d ns → Res [s] H H' ⟨l, d, v, ns⟩ → Q v H') → r s.v H Q) : VOk K (r1l r) (gL1 f) := by
  intro As H Q ok l d hg k
  rcases As with _ | ⟨s, _ | ⟨t, As⟩⟩
  · cases hg
  · exact h s H Q ok (ok.rd _ (List.mem_cons_self ..)) l d hg k
  · cases hg
theorem vL2 {K : PySem.W.Frag} {r : R2} {f : D → D → Option LD} (h : ∀ (s t : Sl) (H : Hp) (Q : VK), ArgsOk K H [s, t] → Rd K H s.v s.d s.ns → Rd K H t.v t.d t.ns → ∀ l d, f s.d t.d = some (l, d) →
    (∀ v ns H', Same H H' → Rd K H' v d ns → Res [s, t] H H' ⟨l, d, v, ns⟩ → Q v H') → r s.v t.v H Q) : VOk K (r2l r) (gL2 f) := by
  intro As H Q ok l d hg k
  rcases As with _ | ⟨s, _ | ⟨t, _ | ⟨u, As⟩⟩⟩
  · cases hg
  · cases hg
  · exact h s t H Q ok (ok.rd _ (List.mem_cons_self ..)) (ok.rd _ (List.mem_cons_of_mem _ (List.mem_cons_self ..))) l d hg k
  · cases hg
section
variable {K : PySem.W.Frag} {As : List Sl} {H H' : Hp}
theorem res_imm {s : Sl} (h : s.ns = []) : Res As H H' s := fun a => by
  have := s.tot a
  rw [h, List.count_nil] at this
  omega
/-- something new at p, over things of the arguments: level 1, or 2 where nothing in it may be changed -/
def lvN (ds : List D) : Nat := if D.imm.immAll ds then 2 else 1
theorem res_lst {ds : List D} {p : Addr} {ns : List Addr} (hp : H p = none) {vs : List V} (hr : Rds K H vs ds ns) (hs : ∀ a ∈ ns, 0 < oL As a + rL As a) (hm : Mut (H' p)) : Res As H H' ⟨lvN ds, .lst ds, .ref p, p :: ns⟩ := by
  have hpn : p ∉ ns := fun h => hr.dom _ _ _ p h hp
  intro a
  by_cases c : D.imm.immAll ds = true
  · have e := hr.imm _ _ _ c
    subst e
    have h1 : (Sl.mk (lvN ds) (.lst ds) (.ref p) [p]).own a = [p].count a := by simp [Sl.own, ownL, lvN, c]
    have h2 : (Sl.mk (lvN ds) (.lst ds) (.ref p) [p]).rst a = 0 := by simp [Sl.rst, rstL, lvN, c]
    rw [h1, h2]
    refine ⟨by rw [List.count_cons, List.count_nil]; split <;> omega, fun h => ?_, fun h => absurd h (Nat.lt_irrefl 0)⟩
    have : a = p := by
      have := List.count_pos_iff.mp h
      exact List.mem_singleton.mp this
    subst this
    exact ⟨rfl, hm, .inl hp⟩
  · have h1 : (Sl.mk (lvN ds) (.lst ds) (.ref p) (p :: ns)).own a = [p].count a := by simp [Sl.own, ownL, lvN, c, D.mut]
    have h2 : (Sl.mk (lvN ds) (.lst ds) (.ref p) (p :: ns)).rst a = ns.count a := by simp [Sl.rst, rstL, lvN, c, D.mut]
    rw [h1, h2]
    refine ⟨by rw [List.count_cons, List.count_nil]; split <;> omega, fun h => ?_, fun h => .inr (hs a (List.count_pos_iff.mp h))⟩
    have : a = p := List.mem_singleton.mp (List.count_pos_iff.mp h)
    subst this
    exact ⟨List.count_eq_zero.mpr hpn, hm, .inl hp⟩
/-- a tuple over things of the arguments: it owns nothing -/
theorem res_tup {ds : List D} {v : V} {ns : List Addr} {vs : List V} (hr : Rds K H vs ds ns) (hs : ∀ a ∈ ns, 0 < oL As a + rL As a) : Res As H H' ⟨if D.imm.immAll ds then 2 else 0, .tup ds, v, ns⟩ := by
  intro a
  by_cases c : D.imm.immAll ds = true
  · have e := hr.imm _ _ _ c
    subst e
    exact res_imm (s := ⟨_, .tup ds, v, []⟩) rfl a
  · have h1 : (Sl.mk (if D.imm.immAll ds then 2 else 0) (.tup ds) v ns).own a = 0 := by simp [Sl.own, ownL, c]
    have h2 : (Sl.mk (if D.imm.immAll ds then 2 else 0) (.tup ds) v ns).rst a = ns.count a := by simp [Sl.rst, rstL, c]
    rw [h1, h2]
    exact ⟨Nat.zero_le _, fun h => absurd h (Nat.lt_irrefl 0), fun h => .inr (hs a (List.count_pos_iff.mp h))⟩
theorem arg_ns {s : Sl} (h : s ∈ As) : ∀ a ∈ s.ns, 0 < oL As a + rL As a := fun a ha => by
  have := oL_mem a h
  have := (s.mem a).mpr ha
  omega
theorem same_upd {p : Addr} {o : HO} (hp : H p = none) : Same H (upd H p o) := fun b q e => by
  rw [upd_ne (ne_of_none e hp)]
  exact e
theorem mut_upd {p : Addr} {o : HO} (h : Mut (some o)) : Mut (upd H p o p) := by rw [upd_same]; exact h
/-- reading a new list -/
theorem rd_new {p : Addr} {vs : List V} {ds : List D} {ns : List Addr} (hp : H p = none) (hr : Rds K H vs ds ns) : Rd K (upd H p (.lst vs)) (.ref p) (.lst ds) (p :: ns) := .lst upd_same (hr.same (same_upd hp))
theorem rd_newT {p : Addr} {vs : List V} {ds : List D} {ns : List Addr} (hp : H p = none) (hr : Rds K H vs ds ns) : Rd K (upd H p (.tup vs)) (.ref p) (.tup ds) ns := .tup (.of upd_same) (hr.same (same_upd hp))
theorem imm_app (xs ys : List D) : D.imm.immAll (xs ++ ys) = (D.imm.immAll xs && D.imm.immAll ys) := by
  induction xs with
  | nil => simp [D.imm.immAll]
  | cons x xs ih => simp [D.imm.immAll, ih, Bool.and_assoc]
end

/-! ### arithmetic -/
def mulOk (i j : Int) : Bool := decide (i.natAbs < 2 ^ 64) || decide (j.natAbs < 2 ^ 64) || decide (i.natAbs.log2 + j.natAbs.log2 < 1000000)
theorem mulOk_ok {i j : Int} (h : mulOk i j = true) : IntMulOk i j := by
  unfold mulOk at h
  simp only [Bool.or_eq_true, decide_eq_true_eq] at h
  rcases h with (h | h) | h
  · exact CMul.ok (.inl (by omega))
  · exact CMul.ok (.inr (by omega))
  · exact CMulW.ok h
/-- lists of at most so many things -/
def szOk (n : Nat) : Bool := decide (n ≤ 16777216)
theorem szOk_ok {n : Nat} (h : szOk n = true) : n ≤ sizeLine := by rw [sizeLine_eq]; exact of_decide_eq_true h
def fAdd : D → D → Option LD
  | .int a, .int b => some (2, .int (a + b))
  | .lst xs, .lst ys => if szOk (xs.length + ys.length) then some (lvN (xs ++ ys), .lst (xs ++ ys)) else none
  | .tup xs, .tup ys => if szOk (xs.length + ys.length) then some (if D.imm.immAll (xs ++ ys) then 2 else 0, .tup (xs ++ ys)) else none
  | .str x, .str y => if szOk (x.length + y.length) then some (2, .str (x ++ y)) else none
  | _, _ => none
abbrev gAdd := gL2 fAdd
theorem mem2 {s t : Sl} {n1 n2 : List Addr} (h1 : s.ns = n1) (h2 : t.ns = n2) : ∀ a ∈ n1 ++ n2, 0 < oL [s, t] a + rL [s, t] a := fun a ha => by
  rcases List.mem_append.mp ha with ha | ha
  · exact arg_ns (s := s) (List.mem_cons_self ..) a (by rw [h1]; exact ha)
  · exact arg_ns (s := t) (List.mem_cons_of_mem _ (List.mem_cons_self ..)) a (by rw [h2]; exact ha)
def rAddAny (K : PySem.W.Frag) : R2 := fun x y H Q => (rI0 (fun i j => .int (i + j)) x y H Q ∨ rCat x y H Q) ∨ (rCatA K x y H Q ∨ ∃ i j, x = .str i ∧ y = .str j ∧ i.length + j.length ≤ sizeLine ∧ Q (.str (i ++ j)) H)
theorem op_addAny {X : Cx} : OpR X (binaryOp .Add) (rAddAny X.K) := (op_add.or op_cat).or (op_catA.or op_add_str)
theorem vAdd {K : PySem.W.Frag} : VOk K (r2l (rAddAny K)) gAdd := vL2 fun s t H Q ok h1 h2 l d hg k => by
  obtain ⟨l1, d1, v1, n1⟩ := s
  obtain ⟨l2, d2, v2, n2⟩ := t
  dsimp only at *
  unfold fAdd at hg
  split at hg
  · obtain ⟨rfl, rfl⟩ := rd_int h1
    obtain ⟨rfl, rfl⟩ := rd_int h2
    cases hg
    exact .inl (.inl ⟨_, _, rfl, rfl, k _ [] H (Same.refl H) (.int _) (res_imm rfl)⟩)
  · split at hg
    · rename_i hz
      cases hg
      cases h1 with
      | lst e1 r1 =>
        cases h2 with
        | lst e2 r2 =>
          have rr := r1.append r2
          refine .inl (.inr ⟨_, _, _, _, rfl, rfl, e1, e2, by rw [r1.length, r2.length]; exact szOk_ok hz, fun p hp => k _ _ _ (same_upd hp) (rd_new hp rr) (res_lst hp rr (fun a ha => ?_) (mut_upd trivial))⟩)
          rcases List.mem_append.mp ha with ha | ha
          · exact arg_ns (List.mem_cons_self ..) a (List.mem_cons_of_mem _ ha)
          · exact arg_ns (List.mem_cons_of_mem _ (List.mem_cons_self ..)) a (List.mem_cons_of_mem _ ha)
    · cases hg
  · split at hg
    · rename_i hz
      cases hg
      cases h1 with
      | tup e1 r1 =>
        cases h2 with
        | tup e2 r2 =>
          have rr := r1.append r2
          refine .inr (.inl ⟨_, _, _, _, rfl, rfl, e1, e2, by rw [r1.length, r2.length]; exact szOk_ok hz, fun hx => ?_, fun hx hy => ?_, fun hx hy p hp => ?_⟩)
          · subst hx
            cases r1
            exact k _ _ _ (Same.refl H) (.tup e2 r2) (res_tup (ds := [] ++ _) (by simpa using r2) (fun a ha => arg_ns (List.mem_cons_of_mem _ (List.mem_cons_self ..)) a ha))
          · subst hy
            cases r2
            exact k _ _ _ (Same.refl H) (by simpa using Rd.tup e1 r1) (res_tup rr (mem2 rfl rfl))
          · exact k _ _ _ (same_upd hp) (rd_newT hp rr) (res_tup rr (mem2 rfl rfl))
    · cases hg
  · split at hg
    · rename_i hz
      cases hg
      obtain ⟨rfl, rfl⟩ := rd_str h1
      obtain ⟨rfl, rfl⟩ := rd_str h2
      exact .inr (.inr ⟨_, _, rfl, rfl, szOk_ok hz, k _ [] H (Same.refl H) (.str _) (res_imm rfl)⟩)
    · cases hg
  · cases hg
/-- an operation of two ints -/
def fI2 (c : Int → Int → Bool) (f : Int → Int → D) : D → D → Option LD
  | .int a, .int b => if c a b then some (2, f a b) else none
  | _, _ => none
abbrev gI2 (c : Int → Int → Bool) (f : Int → Int → D) := gL2 (fI2 c f)
theorem vI2 {K : PySem.W.Frag} {C : Int → Int → Prop} {c : Int → Int → Bool} {f : Int → Int → D} {g : Int → Int → V} (hc : ∀ a b, c a b = true → C a b) (hf : ∀ H a b, c a b = true → Rd K H (g a b) (f a b) []) : VOk K (r2l (rI C g)) (gI2 c f) := vL2 fun s t H Q ok h1 h2 l d hg k => by
  obtain ⟨l1, d1, v1, n1⟩ := s
  obtain ⟨l2, d2, v2, n2⟩ := t
  dsimp only at *
  unfold fI2 at hg
  split at hg
  · split at hg
    · rename_i hz
      obtain ⟨rfl, rfl⟩ := rd_int h1
      obtain ⟨rfl, rfl⟩ := rd_int h2
      cases hg
      exact ⟨_, _, rfl, rfl, hc _ _ hz, k _ [] H (Same.refl H) (hf H _ _ hz) (res_imm rfl)⟩
    · cases hg
  · cases hg
theorem vI20 {K : PySem.W.Frag} {f : Int → Int → D} {g : Int → Int → V} (hf : ∀ H a b, Rd K H (g a b) (f a b) []) : VOk K (r2l (rI0 g)) (gI2 (fun _ _ => true) f) := vL2 fun s t H Q ok h1 h2 l d hg k => by
  obtain ⟨l1, d1, v1, n1⟩ := s
  obtain ⟨l2, d2, v2, n2⟩ := t
  dsimp only at *
  unfold fI2 at hg
  split at hg
  · rw [if_pos rfl] at hg
    obtain ⟨rfl, rfl⟩ := rd_int h1
    obtain ⟨rfl, rfl⟩ := rd_int h2
    cases hg
    exact ⟨_, _, rfl, rfl, k _ [] H (Same.refl H) (hf H _ _) (res_imm rfl)⟩
  · cases hg
abbrev gSub : List LD → Option LD := gI2 (fun _ _ => true) fun a b => .int (a - b)
theorem vSub {K : PySem.W.Frag} : VOk K (r2l (rI0 fun i j => .int (i - j))) gSub := vI20 fun H a b => .int _
def fdOk (_ j : Int) : Bool := decide (0 < j) && decide (j.natAbs.log2 < 9000)
abbrev gFdiv : List LD → Option LD := gI2 fdOk fun a b => .int (a / b)
theorem vFdiv {K : PySem.W.Frag} : VOk K (r2l (rI CDivW fun i j => .int (i / j))) gFdiv := vI2 (fun a b h => by simpa [fdOk, CDivW] using h) fun H a b _ => .int _
abbrev gMod : List LD → Option LD := gI2 (fun _ j => decide (0 < j)) fun a b => .int (a % b)
theorem vMod {K : PySem.W.Frag} : VOk K (r2l (rI (fun _ j => 0 < j) fun i j => .int (i % j))) gMod := vI2 (fun a b h => by simpa using h) fun H a b _ => .int _
def powOk (i j : Int) : Bool := decide (0 ≤ j) && decide (j.natAbs ≤ 1000000) && decide (i.natAbs < 2 ^ 64)
theorem powOk_ok {i j : Int} (h : powOk i j = true) : CPow i j := by
  unfold powOk at h
  simp only [Bool.and_eq_true, decide_eq_true_eq] at h
  exact ⟨h.1.1, by have := h.1.2; have := h.1.1; omega, h.2⟩
abbrev gPow : List LD → Option LD := gI2 powOk fun a b => .int (a ^ b.toNat)
theorem vPow {K : PySem.W.Frag} : VOk K (r2l (rI CPow fun i j => .int (i ^ j.toNat))) gPow := vI2 (fun _ _ => powOk_ok) fun H a b _ => .int _
abbrev gShl : List LD → Option LD := gI2 powOk fun a b => .int (a * 2 ^ b.toNat)
theorem vShl {K : PySem.W.Frag} : VOk K (r2l (rI CPow fun i j => .int (i * 2 ^ j.toNat))) gShl := vI2 (fun _ _ => powOk_ok) fun H a b _ => .int _
abbrev gShr : List LD → Option LD := gI2 (fun _ j => decide (0 ≤ j)) fun a b => .int (a / 2 ^ b.toNat)
theorem vShr {K : PySem.W.Frag} : VOk K (r2l (rI (fun _ j => 0 ≤ j) fun i j => .int (i / 2 ^ j.toNat))) gShr := vI2 (fun a b h => by simpa using h) fun H a b _ => .int _
abbrev gCmp (f : Int → Int → Bool) : List LD → Option LD := gI2 (fun _ _ => true) fun a b => .bl (f a b)
abbrev gLt := gCmp fun a b => decide (a < b)
abbrev gLe := gCmp fun a b => decide (a ≤ b)
abbrev gGt := gCmp fun a b => decide (b < a)
abbrev gGe := gCmp fun a b => decide (b ≤ a)
theorem vCmp {K : PySem.W.Frag} {f : Int → Int → Bool} : VOk K (r2l (rI0 fun i j => .bl (f i j))) (gCmp f) := vI20 fun H a b => .bl _
def fNeg : LD → Option LD
  | (_, .int a) => some (2, .int (-a))
  | _ => none
abbrev gNeg := gL1 fNeg
theorem vNeg {K : PySem.W.Frag} : VOk K (r1l (rU fun i => .int (-i))) gNeg := vL1 fun s H Q ok h1 l d hg k => by
  obtain ⟨l1, d1, v1, n1⟩ := s
  dsimp only at *
  unfold fNeg at hg
  split at hg
  · rename_i e
    cases e
    obtain ⟨rfl, rfl⟩ := rd_int h1
    cases hg
    exact ⟨_, rfl, k _ [] H (Same.refl H) (.int _) (res_imm rfl)⟩
  · cases hg

/-! ### == -/
/-- data of at most so many levels, without dicts -/
def eqd : Nat → D → Bool
  | _, .non => true
  | _, .bl _ => true
  | _, .int _ => true
  | _, .str x => x.cps.all (· < 0x110000)
  | _, .frz _ => true
  | n + 1, .tup xs => xs.all (eqd n)
  | n + 1, .lst xs => xs.all (eqd n)
  | _, _ => false
mutual
def D.py : D → PyData
  | .non => .none
  | .bl b => .bool b
  | .int i => .int i
  | .str x => .str x
  | .frz xs => .list (xs.map .int)
  | .tup xs => .tuple (pyAll xs)
  | .lst xs => .list (pyAll xs)
  | .dk _ => .none
  | .exn _ => .none
def pyAll : List D → List PyData
  | [] => []
  | x :: xs => x.py :: pyAll xs
end
mutual
def deq : D → D → Bool
  | .non, .non => true
  | .bl a, .bl b => a == b
  | .bl a, .int j => (if a then 1 else 0) == j
  | .int i, .bl b => i == (if b then 1 else 0)
  | .int i, .int j => i == j
  | .str x, .str y => x == y
  | .tup xs, .tup ys => deqAll xs ys
  | .lst xs, .lst ys => deqAll xs ys
  | a, b => PyData.eqv a.py b.py
def deqAll : List D → List D → Bool
  | [], [] => true
  | x :: xs, y :: ys => deq x y && deqAll xs ys
  | [], _ :: _ => false
  | _ :: _, [] => false
end
mutual
theorem deq_py : ∀ a b : D, deq a b = PyData.eqv a.py b.py
  | .non, b => by cases b <;> simp [deq, D.py, PyData.eqv]
  | .bl a, b => by cases b <;> simp [deq, D.py, PyData.eqv]
  | .int i, b => by cases b <;> simp [deq, D.py, PyData.eqv]
  | .str x, b => by cases b <;> simp [deq, D.py, PyData.eqv]
  | .frz xs, b => by cases b <;> simp [deq]
  | .dk xs, b => by cases b <;> simp [deq]
  | .exn n, b => by cases b <;> simp [deq]
  | .tup xs, b => by
    cases b with
    | tup ys => simp only [deq, D.py, PyData.eqv]; exact deqAll_py xs ys
    | _ => simp [deq]
  | .lst xs, b => by
    cases b with
    | lst ys => simp only [deq, D.py, PyData.eqv]; exact deqAll_py xs ys
    | _ => simp [deq]
theorem deqAll_py : ∀ xs ys : List D, deqAll xs ys = PyData.eqvAll (pyAll xs) (pyAll ys)
  | [], [] => by simp [deqAll, pyAll, PyData.eqvAll]
  | [], y :: ys => by simp [deqAll, pyAll, PyData.eqvAll]
  | x :: xs, [] => by simp [deqAll, pyAll, PyData.eqvAll]
  | x :: xs, y :: ys => by simp only [deqAll, pyAll, PyData.eqvAll]; rw [deq_py x y, deqAll_py xs ys]
end
section
variable {K : PySem.W.Frag} {H : Hp}
theorem dp_ints : ∀ xs : List Int, DpAll K H (xs.map V.int) (xs.map PyData.int)
  | [] => .nil
  | x :: xs => .cons (.int x) (dp_ints xs)
mutual
theorem Rd.dp : ∀ (n : Nat) (d : D) (v : V) (ns : List Addr), eqd n d = true → Rd K H v d ns → Dp K H v d.py
  | _, .non, _, _, _, .non => .non
  | _, .bl _, _, _, _, .bl _ => .bl _
  | _, .int _, _, _, _, .int _ => .int _
  | _, .str _, _, _, _, .str _ => .str _
  | _, .frz xs, _, _, _, .frz h => .lst h.sq (dp_ints xs)
  | 0, .tup ds, _, _, e, .tup h r => by simp [eqd] at e
  | 0, .lst ds, _, _, e, .lst h r => by simp [eqd] at e
  | n + 1, .tup ds, _, _, e, .tup h r => .tup h (Rds.dp n ds _ _ (by simpa only [eqd] using e) r)
  | n + 1, .lst ds, _, _, e, .lst h r => .lst (.of h) (Rds.dp n ds _ _ (by simpa only [eqd] using e) r)
  | 0, .dk _, _, _, e, _ => by simp [eqd] at e
  | n + 1, .dk _, _, _, e, _ => by simp [eqd] at e
  | 0, .exn _, _, _, e, _ => by simp [eqd] at e
  | n + 1, .exn _, _, _, e, _ => by simp [eqd] at e
theorem Rds.dp : ∀ (n : Nat) (ds : List D) (vs : List V) (ns : List Addr), ds.all (eqd n) = true → Rds K H vs ds ns → DpAll K H vs (pyAll ds)
  | _, [], _, _, _, .nil => .nil
  | n, d :: ds, _, _, e, .cons h r => by
    rw [List.all_cons, Bool.and_eq_true] at e
    exact .cons (Rd.dp n d _ _ e.1 h) (Rds.dp n ds _ _ e.2 r)
end
end
theorem lay_ints : ∀ xs : List Int, PyData.canLayAll0 (xs.map PyData.int) = true ∧ PyData.depthAll (xs.map PyData.int) = 0
  | [] => ⟨rfl, rfl⟩
  | x :: xs => ⟨by simp [PyData.canLayAll0, PyData.canLay0, (lay_ints xs).1], by simp [PyData.depthAll, PyData.depth, (lay_ints xs).2]⟩
mutual
theorem eqd_lay : ∀ (n : Nat) (d : D), eqd n d = true → d.py.canLay0 = true ∧ d.py.depth ≤ n + 1
  | n, .non, _ => by simp [D.py, PyData.canLay0, PyData.depth]
  | n, .bl _, _ => by simp [D.py, PyData.canLay0, PyData.depth]
  | n, .int _, _ => by simp [D.py, PyData.canLay0, PyData.depth]
  | n, .str x, h => by
    have h' : x.cps.all (· < 0x110000) = true := by cases n <;> simpa only [eqd] using h
    exact ⟨by show PyData.canLay0 (.str x) = true; rw [PyData.canLay0]; exact h', by simp [D.py, PyData.depth]⟩
  | n, .frz xs, _ => by simp only [D.py, PyData.canLay0, PyData.depth, (lay_ints xs).1, (lay_ints xs).2]; exact ⟨trivial, by omega⟩
  | 0, .tup xs, h => by simp [eqd] at h
  | 0, .lst xs, h => by simp [eqd] at h
  | n + 1, .tup xs, h => by
    obtain ⟨h1, h2⟩ := eqd_layAll n xs (by simpa only [eqd] using h)
    simp only [D.py, PyData.canLay0, PyData.depth]
    exact ⟨h1, by omega⟩
  | n + 1, .lst xs, h => by
    obtain ⟨h1, h2⟩ := eqd_layAll n xs (by simpa only [eqd] using h)
    simp only [D.py, PyData.canLay0, PyData.depth]
    exact ⟨h1, by omega⟩
  | 0, .dk _, h => by simp [eqd] at h
  | n + 1, .dk _, h => by simp [eqd] at h
  | 0, .exn _, h => by simp [eqd] at h
  | n + 1, .exn _, h => by simp [eqd] at h
theorem eqd_layAll : ∀ (n : Nat) (ds : List D), ds.all (eqd n) = true → PyData.canLayAll0 (pyAll ds) = true ∧ PyData.depthAll (pyAll ds) ≤ n + 1
  | n, [], _ => by simp [pyAll, PyData.canLayAll0, PyData.depthAll]
  | n, d :: ds, h => by
    rw [List.all_cons, Bool.and_eq_true] at h
    obtain ⟨h1, h2⟩ := eqd_lay n d h.1
    obtain ⟨h3, h4⟩ := eqd_layAll n ds h.2
    simp only [pyAll, PyData.canLayAll0, PyData.depthAll, h1, h3]
    exact ⟨rfl, by omega⟩
end
theorem eqd_shaped {d : D} (h : eqd 60 d = true) : SeqAt.shaped d.py = true := by
  obtain ⟨h1, h2⟩ := eqd_lay 60 d h
  unfold SeqAt.shaped
  rw [h1, Bool.true_and]
  exact decide_eq_true (by omega)
def fEq (a b : D) : Option LD := if eqd 60 a && eqd 60 b then some (2, .bl (deq a b)) else none
def fNe (a b : D) : Option LD := if eqd 60 a && eqd 60 b then some (2, .bl (!deq a b)) else none
abbrev gEq := gL2 fEq
abbrev gNe := gL2 fNe
theorem vEq {K : PySem.W.Frag} : VOk K (r2l (rEqD K)) gEq := vL2 fun s t H Q ok h1 h2 l d hg k => by
  unfold fEq at hg
  split at hg
  · rename_i hz
    cases hg
    rw [Bool.and_eq_true] at hz
    refine ⟨_, _, h1.dp 60 _ _ _ hz.1, h2.dp 60 _ _ _ hz.2, eqd_shaped hz.1, eqd_shaped hz.2, ?_⟩
    rw [← deq_py]
    exact k _ [] H (Same.refl H) (.bl _) (res_imm rfl)
  · cases hg
theorem vNe {K : PySem.W.Frag} : VOk K (r2l (rNeD K)) gNe := vL2 fun s t H Q ok h1 h2 l d hg k => by
  unfold fNe at hg
  split at hg
  · rename_i hz
    cases hg
    rw [Bool.and_eq_true] at hz
    refine ⟨_, _, h1.dp 60 _ _ _ hz.1, h2.dp 60 _ _ _ hz.2, eqd_shaped hz.1, eqd_shaped hz.2, ?_⟩
    rw [← deq_py]
    exact k _ [] H (Same.refl H) (.bl _) (res_imm rfl)
  · cases hg
/-- is None -/
def D.isNon : D → Bool
  | .non => true
  | _ => false
theorem rd_isNon {K : PySem.W.Frag} {H : Hp} {v : V} {d : D} {ns : List Addr} (h : Rd K H v d ns) : decide (v = .non) = d.isNon := by
  cases h <;> simp [D.isNon]
def fIsN (p : Bool) (a b : D) : Option LD := if b.isNon then some (2, .bl (a.isNon == p)) else none
abbrev gIsN := gL2 (fIsN true)
abbrev gNotN := gL2 (fIsN false)
theorem rd_ofNon {K : PySem.W.Frag} {H : Hp} {v : V} {d : D} {ns : List Addr} (h : Rd K H v d ns) (e : d.isNon = true) : v = .non := by
  rw [← rd_isNon h] at e
  exact of_decide_eq_true e
theorem vIsN {K : PySem.W.Frag} : VOk K (r2l (fun x y H Q => y = .non ∧ Q (.bl (decide (x = .non))) H)) gIsN := vL2 fun s t H Q ok h1 h2 l d hg k => by
  unfold fIsN at hg
  split at hg
  · rename_i hz
    cases hg
    exact ⟨rd_ofNon h2 hz, k _ [] H (Same.refl H) (by rw [rd_isNon h1]; cases s.d.isNon <;> exact .bl _) (res_imm rfl)⟩
  · cases hg
theorem vNotN {K : PySem.W.Frag} : VOk K (r2l (fun x y H Q => y = .non ∧ Q (.bl (!decide (x = .non))) H)) gNotN := vL2 fun s t H Q ok h1 h2 l d hg k => by
  unfold fIsN at hg
  split at hg
  · rename_i hz
    cases hg
    exact ⟨rd_ofNon h2 hz, k _ [] H (Same.refl H) (by rw [rd_isNon h1]; cases s.d.isNon <;> exact .bl _) (res_imm rfl)⟩
  · cases hg
end DL

/-! DL5: items, slices, displays, membership, lengths, copies -/
namespace DL
open L2 PySem PySem.Spec PyProof.Rows

def gLL2 (f : LD → LD → Option LD) : List LD → Option LD
  | [a, b] => f a b
  | _ => none
theorem vLL2 {K : PySem.W.Frag} {r : R2} {f : LD → LD → Option LD} (h : ∀ (s t : Sl) (H : Hp) (Q : VK), ArgsOk K H [s, t] → Rd K H s.v s.d s.ns → Rd K H t.v t.d t.ns → ∀ l d, f (s.l, s.d) (t.l, t.d) = some (l, d) →
    (∀ v ns H', Same H H' → Rd K H' v d ns → Res [s, t] H H' ⟨l, d, v, ns⟩ → Q v H') → r s.v t.v H Q) : VOk K (r2l r) (gLL2 f) := by
  intro As H Q ok l d hg k
  rcases As with _ | ⟨s, _ | ⟨t, _ | ⟨u, As⟩⟩⟩
  · cases hg
  · cases hg
  · exact h s t H Q ok (ok.rd _ (List.mem_cons_self ..)) (ok.rd _ (List.mem_cons_of_mem _ (List.mem_cons_self ..))) l d hg k
  · cases hg
section
variable {K : PySem.W.Frag} {H H' : Hp} {As : List Sl}
/-- a part of an argument -/
theorem res_part {s : Sl} {d : D} {v : V} {n n1 n2 : List Addr} (ok : ArgsOk K H As) (hs : s ∈ As) (e : s.ns = n1 ++ (n ++ n2)) (hr : Rd K H v d n) : Res As H H ⟨if 2 ≤ s.l % 10 then 2 else 0, d, v, n⟩ := by
  have hn : ∀ a, n.count a ≤ s.ns.count a := fun a => by rw [e, List.count_append, List.count_append]; omega
  intro a
  have hm := oL_mem a hs
  have sp := ok.sep a
  have ht := s.tot a
  by_cases c : 2 ≤ s.l % 10
  · have h1 : (Sl.mk (if 2 ≤ s.l % 10 then 2 else 0) d v n).own a = n.count a := by simp [Sl.own, ownL, c]
    have h2 : (Sl.mk (if 2 ≤ s.l % 10 then 2 else 0) d v n).rst a = 0 := by simp [Sl.rst, rstL, c]
    have h3 : s.rst a = 0 := rst_top (d := s.d) (v := s.v) (ns := s.ns) c a
    have := hn a
    rw [h1, h2]
    exact ⟨by omega, fun h => ⟨rfl, ok.wr a (by omega), .inr (by omega)⟩, fun h => absurd h (Nat.lt_irrefl 0)⟩
  · have h1 : (Sl.mk (if 2 ≤ s.l % 10 then 2 else 0) d v n).own a = 0 := by simp [Sl.own, ownL, c]
    have h2 : (Sl.mk (if 2 ≤ s.l % 10 then 2 else 0) d v n).rst a = n.count a := by simp [Sl.rst, rstL, c]
    have := hn a
    rw [h1, h2]
    exact ⟨Nat.zero_le _, fun h => absurd h (Nat.lt_irrefl 0), fun h => .inr (by omega)⟩
/-- dicts: what stands at a key -/
def dGet (kds : List (Key × D)) (k : Key) : Option D := (kds.find? fun kv => decide (kv.1 = k)).map (·.2)
def dPut (kds : List (Key × D)) (k : Key) (d : D) : List (Key × D) :=
  if (kds.any fun kv => decide (kv.1 = k)) = true then kds.map (fun kv => if kv.1 = k then (kv.1, d) else kv) else kds ++ [(k, d)]
def D.key : D → Option Key
  | .int i => some (.inl i)
  | .str x => some (.inr x)
  | _ => none
theorem rd_key {v : V} {d : D} {ns : List Addr} {k : Key} (h : Rd K H v d ns) (e : d.key = some k) : v = kV k := by
  cases h with
  | int i => cases e; rfl
  | str x => cases e; rfl
  | _ => cases e
theorem dGet_rd {k : Key} : ∀ {kvs : List (Key × V)} {kds : List (Key × D)} {ns : List Addr}, kvs.map (·.1) = kds.map (·.1) → Rds K H (kvs.map (·.2)) (kds.map (·.2)) ns →
    (dGet kds k = none → valV kvs k = none) ∧ ∀ d, dGet kds k = some d → ∃ v n n1 n2, valV kvs k = some v ∧ Rd K H v d n ∧ ns = n1 ++ (n ++ n2)
  | [], [], _, _, .nil => ⟨fun _ => rfl, fun d h => nomatch h⟩
  | [], (_, _) :: _, _, e, _ => by simp at e
  | _ :: _, [], _, e, _ => by simp at e
  | (k1, v) :: kvs, (k2, d) :: kds, _, e, .cons (n := n) (ns := ns) h r => by
    simp only [List.map_cons, List.cons.injEq] at e
    obtain ⟨e1, e2⟩ := e
    subst e1
    obtain ⟨i1, i2⟩ := dGet_rd (k := k) e2 r
    by_cases c : k1 = k
    · have a1 : dGet ((k1, d) :: kds) k = some d := by simp [dGet, List.find?_cons, c]
      have a2 : valV ((k1, v) :: kvs) k = some v := by simp [valV, List.find?_cons, c]
      rw [a1, a2]
      exact ⟨(fun q => nomatch q), fun d' hd => by cases hd; exact ⟨v, n, [], ns, rfl, h, rfl⟩⟩
    · have a1 : dGet ((k1, d) :: kds) k = dGet kds k := by simp [dGet, List.find?_cons, c]
      have a2 : valV ((k1, v) :: kvs) k = valV kvs k := by simp [valV, List.find?_cons, c]
      rw [a1, a2]
      refine ⟨i1, fun d' hd => ?_⟩
      obtain ⟨v', m, m1, m2, h1, h2, h3⟩ := i2 d' hd
      exact ⟨v', m, n ++ m1, m2, h1, h2, by rw [h3, List.append_assoc]⟩
end

/-! ### x[i] -/
def rIxD : R2 := fun x y H Q => ∃ a v, x = .ref a ∧ DGet H a y (some v) ∧ Q v H
theorem ix_dict {X : Cx} (hu : X.A.units + 1 < cLine) : IxR X rIxD := by
  intro value slice pins s σ H x y v u Q I rx ry h hs
  obtain ⟨a, z, rfl, g, q⟩ := h
  obtain rfl : v = Value.ref a := rx
  exact tail_any (dict_typeIs I g) PySem.F.slot_dict_getitem.lookup (d_getItem hu I g ry fun w' s' I' r' => ⟨z, H, I', r', q⟩) hs
def rIxAny (K : PySem.W.Frag) : R2 := fun x y H Q => rIx K x y H Q ∨ rIxD x y H Q
theorem ix_any {X : Cx} (hu : X.A.units + 1 < cLine) : IxR X (rIxAny X.K) := ix_seq.or (ix_dict hu)
def fIx : LD → LD → Option LD
  | (l, .lst xs), (_, .int i) => (atI xs i).map fun d => (if 2 ≤ l % 10 then 2 else 0, d)
  | (l, .tup xs), (_, .int i) => (atI xs i).map fun d => (if 2 ≤ l % 10 then 2 else 0, d)
  | (_, .frz xs), (_, .int i) => (atI xs i).map fun d => (2, .int d)
  | (_, .str z), (_, .int i) => if szOk z.length then (atI z.cps.toList i).map fun c => (2, .str ⟨#[c]⟩) else none
  | (l, .dk kds), (_, k) => match k.key with
    | some k => (dGet kds k).map fun d => (if 2 ≤ l % 10 then 2 else 0, d)
    | none => none
  | _, _ => none
abbrev gIx := gLL2 fIx
section
variable {K : PySem.W.Frag} {H : Hp}
theorem atI_len {α β : Type} {xs : List α} {ys : List β} (h : xs.length = ys.length) {i : Int} {y : β} (e : atI ys i = some y) : ∃ j : Nat, ys[j]? = some y ∧ ∀ x, xs[j]? = some x → atI xs i = some x := by
  unfold atI at e ⊢
  cases q : ixN ys.length i with
  | none => rw [q] at e; cases e
  | some j =>
    rw [q] at e
    exact ⟨j, e, fun x hx => by rw [h, q]; exact hx⟩
theorem Rds.atI {vs : List V} {ds : List D} {ns : List Addr} {i : Int} {d : D} (r : Rds K H vs ds ns) (e : L2.atI ds i = some d) : ∃ v n n1 n2, L2.atI vs i = some v ∧ Rd K H v d n ∧ ns = n1 ++ (n ++ n2) := by
  obtain ⟨j, h1, h2⟩ := atI_len (xs := vs) r.length e
  obtain ⟨v, n, n1, n2, h3, h4, h5⟩ := r.get h1
  exact ⟨v, n, n1, n2, h2 v h3, h4, h5⟩
end
theorem vIx {K : PySem.W.Frag} : VOk K (r2l (rIxAny K)) gIx := vLL2 fun s t H Q ok h1 h2 l d hg k => by
  obtain ⟨l1, d1, v1, n1⟩ := s
  obtain ⟨l2, d2, v2, n2⟩ := t
  dsimp only at *
  unfold fIx at hg
  split at hg
  · rename_i l0 xs l3 i e1 e2
    cases e1
    cases e2
    obtain ⟨rfl, rfl⟩ := rd_int h2
    obtain ⟨x, hx, e⟩ := Option.map_eq_some_iff.mp hg
    cases e
    cases h1 with
    | lst e1 r1 =>
      obtain ⟨v, n, m1, m2, q1, q2, q3⟩ := r1.atI hx
      exact .inl (.inl ⟨_, _, _, _, rfl, rfl, .of e1, q1, k v n H (Same.refl H) q2 (res_part (s := ⟨l1, .lst xs, _, _ :: _⟩) (n1 := _ :: m1) ok (List.mem_cons_self ..) (by rw [q3]; rfl) q2)⟩)
  · rename_i l0 xs l3 i e1 e2
    cases e1
    cases e2
    obtain ⟨rfl, rfl⟩ := rd_int h2
    obtain ⟨x, hx, e⟩ := Option.map_eq_some_iff.mp hg
    cases e
    cases h1 with
    | tup e1 r1 =>
      obtain ⟨v, n, m1, m2, q1, q2, q3⟩ := r1.atI hx
      exact .inl (.inr (.inl ⟨_, _, _, _, rfl, rfl, e1, q1, k v n H (Same.refl H) q2 (res_part (s := ⟨l1, .tup xs, _, _⟩) (n1 := m1) ok (List.mem_cons_self ..) q3 q2)⟩))
  · rename_i l0 xs l3 i e1 e2
    cases e1
    cases e2
    obtain ⟨rfl, rfl⟩ := rd_int h2
    obtain ⟨x, hx, e⟩ := Option.map_eq_some_iff.mp hg
    cases e
    cases h1 with
    | frz e1 =>
      obtain ⟨j, q1, q2⟩ := atI_len (xs := xs.map V.int) (by simp) hx
      exact .inl (.inl ⟨_, _, _, _, rfl, rfl, e1.sq, q2 (.int x) (by simp [q1]), k _ [] H (Same.refl H) (.int x) (res_imm rfl)⟩)
  · rename_i l0 z l3 i e1 e2
    cases e1
    cases e2
    obtain ⟨rfl, rfl⟩ := rd_int h2
    obtain ⟨rfl, rfl⟩ := rd_str h1
    split at hg
    · rename_i hz
      obtain ⟨x, hx, e⟩ := Option.map_eq_some_iff.mp hg
      cases e
      exact .inl (.inr (.inr ⟨_, _, _, rfl, rfl, szOk_ok hz, hx, k _ [] H (Same.refl H) (.str _) (res_imm rfl)⟩))
    · cases hg
  · rename_i l0 kds l3 kk e1 e2
    cases e1
    cases e2
    split at hg
    · rename_i k0 hk
      have hv := rd_key h2 hk
      subst hv
      obtain ⟨x, hx, e⟩ := Option.map_eq_some_iff.mp hg
      cases e
      cases h1 with
      | dk e1 ek r1 =>
        obtain ⟨v, n, m1, m2, q1, q2, q3⟩ := (dGet_rd ek r1).2 _ hx
        refine .inr ⟨_, v, rfl, .inl ⟨_, k0, .inl e1, rfl, q1.symm⟩, k v n H (Same.refl H) q2 (res_part (s := ⟨l1, .dk kds, _, _ :: _⟩) (n1 := _ :: m1) ok (List.mem_cons_self ..) (by rw [q3]; rfl) q2)⟩
    · cases hg
  · cases hg

/-! ### displays -/
def rLst : List V → Hp → VK → Prop := fun xs H Q => xs.length ≤ sizeLine ∧ ∀ p, H p = none → Q (.ref p) (upd H p (.lst xs))
def rTup : List V → Hp → VK → Prop := fun xs H Q => xs.length ≤ sizeLine ∧ ∀ p, H p = none → Q (.ref p) (upd H p (.tup xs))
/-- all that is in them is new, or may not be changed -/
def allTop (lds : List LD) : Bool := lds.all fun x => decide (2 ≤ x.1 % 10) || x.2.imm
def gLstL (lds : List LD) : Option LD := if szOk lds.length then some (if allTop lds then 2 else 1, .lst (lds.map (·.2))) else none
def gTupL (lds : List LD) : Option LD := if szOk lds.length then some (if allTop lds then 2 else 0, .tup (lds.map (·.2))) else none
section
variable {K : PySem.W.Frag} {H H' : Hp}
theorem args_rds : ∀ {As : List Sl}, (∀ s ∈ As, Rd K H s.v s.d s.ns) → Rds K H (As.map Sl.v) (As.map Sl.d) (As.flatMap Sl.ns)
  | [], _ => .nil
  | s :: As, h => .cons (h s (List.mem_cons_self ..)) (args_rds fun t ht => h t (List.mem_cons_of_mem _ ht))
theorem cnt_flat (a : Addr) : ∀ As : List Sl, (As.flatMap Sl.ns).count a = oL As a + rL As a
  | [] => rfl
  | s :: As => by
    rw [List.flatMap_cons, List.count_append, cnt_flat a As, ← s.tot a]
    simp only [oL, rL]
    omega
theorem top_rst {As : List Sl} (h : ∀ s ∈ As, Rd K H s.v s.d s.ns) (ht : allTop (As.map Sl.ld) = true) (a : Addr) : rL As a = 0 := by
  induction As with
  | nil => rfl
  | cons s As ih =>
    simp only [allTop, List.map_cons, List.all_cons, Bool.and_eq_true, Bool.or_eq_true, decide_eq_true_eq, Sl.ld] at ht
    have h1 : s.rst a = 0 := by
      rcases ht.1 with c | c
      · exact rst_top c a
      · exact (imm_cnt (l := s.l) (h s (List.mem_cons_self ..)) c a).1
    have h2 := ih (fun t q => h t (List.mem_cons_of_mem _ q)) ht.2
    simp only [rL, h1, h2]
theorem vLst : VOk K rLst gLstL := by
  intro As H Q ok l d hg k
  unfold gLstL at hg
  split at hg
  · rename_i hz
    cases hg
    refine ⟨by simpa using szOk_ok hz, fun p hp => ?_⟩
    have rr := args_rds ok.rd
    have ed : (As.map Sl.ld).map (·.2) = As.map Sl.d := by rw [List.map_map]; rfl
    rw [ed] at k
    refine k _ _ _ (same_upd hp) (rd_new hp rr) fun a => ?_
    have hpn : p ∉ As.flatMap Sl.ns := fun h => rr.dom _ _ _ p h hp
    have cf := cnt_flat a As
    have sp := ok.sep a
    by_cases c : allTop (As.map Sl.ld) = true
    · have h1 : (Sl.mk (if allTop (As.map Sl.ld) then 2 else 1) (.lst (As.map Sl.d)) (.ref p) (p :: As.flatMap Sl.ns)).own a = (p :: As.flatMap Sl.ns).count a := by simp [Sl.own, ownL, c]
      have h2 : (Sl.mk (if allTop (As.map Sl.ld) then 2 else 1) (.lst (As.map Sl.d)) (.ref p) (p :: As.flatMap Sl.ns)).rst a = 0 := by simp [Sl.rst, rstL, c]
      have h3 := top_rst ok.rd c a
      rw [h1, h2, List.count_cons, cf, h3]
      by_cases hap : a = p
      · subst hap
        have := List.count_eq_zero.mpr hpn
        rw [cf] at this
        refine ⟨by simp; omega, fun _ => ⟨rfl, mut_upd trivial, .inl hp⟩, fun h => absurd h (Nat.lt_irrefl 0)⟩
      · have : (p == a) = false := by simpa using fun e => hap e.symm
        rw [this]
        refine ⟨by simp; omega, fun h => ⟨rfl, ?_, .inr (by simpa using h)⟩, fun h => absurd h (Nat.lt_irrefl 0)⟩
        rw [upd_ne hap]
        exact ok.wr a (by simpa using h)
    · have h1 : (Sl.mk (if allTop (As.map Sl.ld) then 2 else 1) (.lst (As.map Sl.d)) (.ref p) (p :: As.flatMap Sl.ns)).own a = [p].count a := by simp [Sl.own, ownL, c, D.mut]
      have h2 : (Sl.mk (if allTop (As.map Sl.ld) then 2 else 1) (.lst (As.map Sl.d)) (.ref p) (p :: As.flatMap Sl.ns)).rst a = (As.flatMap Sl.ns).count a := by simp [Sl.rst, rstL, c, D.mut]
      rw [h1, h2]
      refine ⟨by rw [List.count_cons, List.count_nil]; split <;> omega, fun h => ?_, fun h => .inr (by omega)⟩
      have : a = p := List.mem_singleton.mp (List.count_pos_iff.mp h)
      subst this
      exact ⟨List.count_eq_zero.mpr hpn, mut_upd trivial, .inl hp⟩
  · cases hg
theorem vTup : VOk K rTup gTupL := by
  intro As H Q ok l d hg k
  unfold gTupL at hg
  split at hg
  · rename_i hz
    cases hg
    refine ⟨by simpa using szOk_ok hz, fun p hp => ?_⟩
    have rr := args_rds ok.rd
    have ed : (As.map Sl.ld).map (·.2) = As.map Sl.d := by rw [List.map_map]; rfl
    rw [ed] at k
    refine k _ _ _ (same_upd hp) (rd_newT hp rr) fun a => ?_
    have cf := cnt_flat a As
    have sp := ok.sep a
    by_cases c : allTop (As.map Sl.ld) = true
    · have h1 : (Sl.mk (if allTop (As.map Sl.ld) then 2 else 0) (.tup (As.map Sl.d)) (.ref p) (As.flatMap Sl.ns)).own a = (As.flatMap Sl.ns).count a := by simp [Sl.own, ownL, c]
      have h2 : (Sl.mk (if allTop (As.map Sl.ld) then 2 else 0) (.tup (As.map Sl.d)) (.ref p) (As.flatMap Sl.ns)).rst a = 0 := by simp [Sl.rst, rstL, c]
      have h3 := top_rst ok.rd c a
      rw [h1, h2, cf, h3]
      refine ⟨by omega, fun h => ⟨rfl, ?_, .inr (by omega)⟩, fun h => absurd h (Nat.lt_irrefl 0)⟩
      have hw := ok.wr a (by omega)
      by_cases hap : a = p
      · rw [hap, hp] at hw; exact hw.elim
      · rw [upd_ne hap]; exact hw
    · have h1 : (Sl.mk (if allTop (As.map Sl.ld) then 2 else 0) (.tup (As.map Sl.d)) (.ref p) (As.flatMap Sl.ns)).own a = 0 := by simp [Sl.own, ownL, c]
      have h2 : (Sl.mk (if allTop (As.map Sl.ld) then 2 else 0) (.tup (As.map Sl.d)) (.ref p) (As.flatMap Sl.ns)).rst a = (As.flatMap Sl.ns).count a := by simp [Sl.rst, rstL, c]
      rw [h1, h2]
      exact ⟨Nat.zero_le _, fun h => absurd h (Nat.lt_irrefl 0), fun h => .inr (by omega)⟩
  · cases hg
end

/-! ### len, list(..), tuple(..) -/
def fLen : LD → Option LD
  | (_, .lst xs) => some (2, .int xs.length)
  | (_, .tup xs) => some (2, .int xs.length)
  | (_, .frz xs) => some (2, .int xs.length)
  | (_, .str x) => if szOk x.length then some (2, .int x.length) else none
  | (_, .dk kds) => some (2, .int kds.length)
  | _ => none
/-- a call's reading of a list of one -/
def gC1 (f : LD → Option LD) : List LD → Option LD := gL1 f
theorem vC1 {K : PySem.W.Frag} {r : List V → Hp → VK → Prop} {f : LD → Option LD} (h : ∀ (s : Sl) (H : Hp) (Q : VK), ArgsOk K H [s] → Rd K H s.v s.d s.ns → ∀ l d, f (s.l, s.d) = some (l, d) →
    (∀ v ns H', Same H H' → Rd K H' v d ns → Res [s] H H' ⟨l, d, v, ns⟩ → Q v H') → r [s.v] H Q) : VOk K r (gL1 f) := by
  intro As H Q ok l d hg k
  rcases As with _ | ⟨s, _ | ⟨t, As⟩⟩
  · cases hg
  · exact h s H Q ok (ok.rd _ (List.mem_cons_self ..)) l d hg k
  · cases hg
abbrev gLen := gL1 fLen
def rLenAny (K : PySem.W.Frag) : List V → Hp → VK → Prop := fun xs H Q => ((∃ p ys, xs = [.ref p] ∧ (SqL K H p ys ∨ SqT K H p ys) ∧ Q (.int ys.length) H) ∨ ∃ z, xs = [.str z] ∧ z.length ≤ sizeLine ∧ Q (.int z.length) H) ∨ ∃ a kvs, xs = [.ref a] ∧ H a = some (.dK kvs) ∧ Q (.int kvs.length) H
theorem call_lenAny {X : Cx} : CallR X (.builtin "len") (rLenAny X.K) := by
  intro pins s σ H xs us Q I r h
  rcases h with h | ⟨a, kvs, rfl, hd, q⟩
  · exact (call_len_seq.or call_len_str) pins s σ H xs us Q I r h
  · exact call_lenD pins s σ H _ us Q I r ⟨a, kvs, rfl, hd, q⟩
theorem vLen {K : PySem.W.Frag} : VOk K (rLenAny K) gLen := vC1 fun s H Q ok h1 l d hg k => by
  obtain ⟨l1, d1, v1, n1⟩ := s
  dsimp only at *
  unfold fLen at hg
  split at hg
  · rename_i xs e
    cases e
    cases hg
    cases h1 with
    | lst e1 r1 => exact .inl (.inl ⟨_, _, rfl, .inl (.of e1), by rw [r1.length]; exact k _ [] H (Same.refl H) (.int _) (res_imm rfl)⟩)
  · rename_i xs e
    cases e
    cases hg
    cases h1 with
    | tup e1 r1 => exact .inl (.inl ⟨_, _, rfl, .inr e1, by rw [r1.length]; exact k _ [] H (Same.refl H) (.int _) (res_imm rfl)⟩)
  · rename_i xs e
    cases e
    cases hg
    cases h1 with
    | frz e1 => exact .inl (.inl ⟨_, _, rfl, .inl e1.sq, by rw [List.length_map]; exact k _ [] H (Same.refl H) (.int _) (res_imm rfl)⟩)
  · rename_i x e
    cases e
    split at hg
    · rename_i hz
      cases hg
      obtain ⟨rfl, rfl⟩ := rd_str h1
      exact .inl (.inr ⟨_, rfl, szOk_ok hz, k _ [] H (Same.refl H) (.int _) (res_imm rfl)⟩)
    · cases hg
  · rename_i kds e
    cases e
    cases hg
    cases h1 with
    | dk e1 ek r1 =>
      have hl := congrArg List.length ek
      simp only [List.length_map] at hl
      exact .inr ⟨_, _, rfl, e1, by rw [hl]; exact k _ [] H (Same.refl H) (.int _) (res_imm rfl)⟩
  · cases hg
def fListOf : LD → Option LD
  | (_, .lst xs) => some (lvN xs, .lst xs)
  | (_, .tup xs) => some (lvN xs, .lst xs)
  | (_, .frz xs) => some (2, .lst (xs.map .int))
  | _ => none
abbrev gListOf := gL1 fListOf
section
variable {K : PySem.W.Frag} {H : Hp}
theorem rds_ints : ∀ xs : List Int, Rds K H (xs.map V.int) (xs.map D.int) []
  | [] => .nil
  | x :: xs => .cons (.int x) (rds_ints xs)
theorem imm_ints : ∀ xs : List Int, D.imm.immAll (xs.map D.int) = true
  | [] => rfl
  | x :: xs => by simp [D.imm.immAll, D.imm, imm_ints xs]
end
theorem vListOf {K : PySem.W.Frag} : VOk K (fun xs H Q => ∃ p ys, xs = [.ref p] ∧ (SqL K H p ys ∨ SqT K H p ys) ∧ ∀ l, H l = none → Q (.ref l) (upd H l (.lst ys))) gListOf := vC1 fun s H Q ok h1 l d hg k => by
  obtain ⟨l1, d1, v1, n1⟩ := s
  dsimp only at *
  unfold fListOf at hg
  split at hg
  · rename_i xs e
    cases e
    cases hg
    cases h1 with
    | lst e1 r1 => exact ⟨_, _, rfl, .inl (.of e1), fun p hp => k _ _ _ (same_upd hp) (rd_new hp r1) (res_lst hp r1 (fun a ha => arg_ns (List.mem_cons_self ..) a (List.mem_cons_of_mem _ ha)) (mut_upd trivial))⟩
  · rename_i xs e
    cases e
    cases hg
    cases h1 with
    | tup e1 r1 => exact ⟨_, _, rfl, .inr e1, fun p hp => k _ _ _ (same_upd hp) (rd_new hp r1) (res_lst hp r1 (fun a ha => arg_ns (List.mem_cons_self ..) a ha) (mut_upd trivial))⟩
  · rename_i xs e
    cases e
    cases hg
    cases h1 with
    | frz e1 =>
      refine ⟨_, _, rfl, .inl e1.sq, fun p hp => k _ _ _ (same_upd hp) (rd_new hp (rds_ints xs)) ?_⟩
      rename_i a0
      have := res_lst (As := [⟨l1, .frz xs, V.ref a0, []⟩]) (H' := upd H p (.lst (xs.map V.int))) hp (rds_ints (K := K) xs) (fun a ha => nomatch ha) (mut_upd trivial)
      rw [lvN, imm_ints, if_pos rfl] at this
      exact this
  · cases hg
def fTupOf : LD → Option LD
  | (_, .lst xs) => some (if D.imm.immAll xs then 2 else 0, .tup xs)
  | (_, .tup xs) => some (if D.imm.immAll xs then 2 else 0, .tup xs)
  | _ => none
abbrev gTupOf := gL1 fTupOf
theorem vTupOf {K : PySem.W.Frag} : VOk K (fun xs H Q => ∃ p ys, xs = [.ref p] ∧ ((SqL K H p ys ∧ ∀ l, H l = none → Q (.ref l) (upd H l (.tup ys))) ∨ (SqT K H p ys ∧ Q (.ref p) H))) gTupOf := vC1 fun s H Q ok h1 l d hg k => by
  obtain ⟨l1, d1, v1, n1⟩ := s
  dsimp only at *
  unfold fTupOf at hg
  split at hg
  · rename_i xs e
    cases e
    cases hg
    cases h1 with
    | lst e1 r1 => exact ⟨_, _, rfl, .inl ⟨.of e1, fun p hp => k _ _ _ (same_upd hp) (rd_newT hp r1) (res_tup r1 (fun a ha => arg_ns (List.mem_cons_self ..) a (List.mem_cons_of_mem _ ha)))⟩⟩
  · rename_i xs e
    cases e
    cases hg
    cases h1 with
    | tup e1 r1 => exact ⟨_, _, rfl, .inr ⟨e1, k _ _ _ (Same.refl H) (.tup e1 r1) (res_tup r1 (fun a ha => arg_ns (List.mem_cons_self ..) a ha))⟩⟩
  · cases hg

/-! ### in -/
def D.flat : D → Bool
  | .non => true
  | .bl _ => true
  | .int _ => true
  | .str x => x.cps.all (· < 0x110000)
  | _ => false
def fIn (p : Bool) : D → D → Option LD
  | a, .lst ys => if eqd 60 a && eqd 60 (.lst ys) then some (2, .bl ((ys.any fun z => deq z a) == p)) else none
  | a, .frz ys => if eqd 60 a then some (2, .bl ((ys.any fun z => deq (.int z) a) == p)) else none
  | a, .tup ys => if a.flat && ys.all D.flat then some (2, .bl ((ys.any fun z => deq z a) == p)) else none
  | a, .dk kds => match a.key with
    | some k => some (2, .bl ((dGet kds k).isSome == p))
    | none => none
  | _, _ => none
abbrev gIn := gL2 (fIn true)
abbrev gNotIn := gL2 (fIn false)
def rInDk (p : Bool) : R2 := fun x y H Q => ∃ a o, y = .ref a ∧ DGet H a x o ∧ Q (.bl (o.isSome == p)) H
theorem op_inDk {X : Cx} (hu : X.A.units + 1 < cLine) : OpR X (compareOp .In) (rInDk true) := by
  intro pins s σ H x y v u Q I rx ry h
  obtain ⟨a, o, rfl, g, q⟩ := h
  obtain rfl : u = Value.ref a := ry
  exact d_in hu I g rx fun s' I' => ⟨.bl o.isSome, H, I', rfl, by cases o <;> exact q⟩
theorem op_notInDk {X : Cx} (hu : X.A.units + 1 < cLine) : OpR X (compareOp .NotIn) (rInDk false) := by
  intro pins s σ H x y v u Q I rx ry h
  obtain ⟨a, o, rfl, g, q⟩ := h
  obtain rfl : u = Value.ref a := ry
  exact d_notIn hu I g rx fun s' I' => ⟨.bl (!o.isSome), H, I', rfl, by cases o <;> exact q⟩
def rInAny (K : PySem.W.Frag) : R2 := fun x y H Q => (rInD K x y H Q ∨ rIn K false x y H Q) ∨ rInDk true x y H Q
def rNotInAny (K : PySem.W.Frag) : R2 := fun x y H Q => (rNotInD K x y H Q ∨ rIn K true x y H Q) ∨ rInDk false x y H Q
theorem op_inAny {X : Cx} (hu : X.A.units + 65 < cLine) : OpR X (compareOp .In) (rInAny X.K) := ((op_inD hu).or op_in_seq).or (op_inDk (by omega))
theorem op_notInAny {X : Cx} (hu : X.A.units + 65 < cLine) : OpR X (compareOp .NotIn) (rNotInAny X.K) := ((op_notInD hu).or op_notIn_seq).or (op_notInDk (by omega))
section
variable {K : PySem.W.Frag} {H : Hp}
theorem any_py (a : D) : ∀ ys : List D, ((pyAll ys).any fun z => PyData.eqv z a.py) = ys.any fun z => deq z a
  | [] => rfl
  | y :: ys => by rw [pyAll, List.any_cons, List.any_cons, any_py a ys, deq_py]
end
theorem flat_rd {K : PySem.W.Frag} {H : Hp} {v w : V} {a b : D} {n m : List Addr} (ha : Rd K H v a n) (hb : Rd K H w b m) (ea : a.flat = true) (eb : b.flat = true) : eqV v w = deq a b ∧ flatV v = true ∧ flatV w = true := by
  cases ha <;> simp only [D.flat] at ea <;> first | cases ea; done | skip
  all_goals (cases hb <;> simp only [D.flat] at eb <;> first | (cases eb; done) | exact ⟨by simp [eqV, deq, D.py, PyData.eqv], rfl, rfl⟩)
end DL
namespace DL
open L2 PySem PySem.Spec PyProof.Rows
section
variable {K : PySem.W.Frag} {H : Hp}
theorem any_flat {v : V} {a : D} {n : List Addr} (ha : Rd K H v a n) (ea : a.flat = true) : ∀ {ws : List V} {ys : List D} {m : List Addr}, Rds K H ws ys m → ys.all D.flat = true → inV v ws = (ys.any fun z => deq z a) ∧ ws.all flatV = true
  | _, _, _, .nil, _ => ⟨rfl, rfl⟩
  | _, _, _, .cons h r, e => by
    rw [List.all_cons, Bool.and_eq_true] at e
    obtain ⟨h1, h2⟩ := any_flat ha ea r e.2
    obtain ⟨q1, q2, q3⟩ := flat_rd h ha e.1 ea
    unfold inV at h1 ⊢
    rw [List.any_cons, List.any_cons, List.all_cons, q1, h1, q2, h2]
    exact ⟨rfl, rfl⟩
theorem flat_V {v : V} {a : D} {n : List Addr} (ha : Rd K H v a n) (ea : a.flat = true) : flatV v = true := (flat_rd ha ha ea ea).2.1
theorem eqd_flat {a : D} (h : a.flat = true) (n : Nat) : eqd n a = true := by
  cases a <;> simp only [D.flat] at h <;> first | (cases h; done) | (cases n <;> simpa only [eqd] using h)
theorem any_frz (a : D) : ∀ ys : List Int, ((ys.map PyData.int).any fun z => PyData.eqv z a.py) = ys.any fun z => deq (.int z) a
  | [] => rfl
  | y :: ys => by rw [List.map_cons, List.any_cons, List.any_cons, any_frz a ys, deq_py]; rfl
end
theorem vInGen {K : PySem.W.Frag} {r : R2} (p : Bool) (hr : ∀ x y H Q, ((∃ d ds, Dp K H x d ∧ Dp K H y (.list ds) ∧ SeqAt.shaped d = true ∧ SeqAt.shaped (.list ds) = true ∧ Q (.bl ((ds.any fun z => PyData.eqv z d) == p)) H) ∨
    (∃ a xs, y = .ref a ∧ (SqL K H a xs ∨ SqT K H a xs) ∧ flatV x = true ∧ xs.all flatV = true ∧ Q (.bl (inV x xs == p)) H) ∨ rInDk p x y H Q) → r x y H Q) : VOk K (r2l r) (gL2 (fIn p)) := vL2 fun s t H Q ok h1 h2 l d hg k => by
  obtain ⟨l1, d1, v1, n1⟩ := s
  obtain ⟨l2, d2, v2, n2⟩ := t
  dsimp only at *
  refine hr _ _ _ _ ?_
  unfold fIn at hg
  split at hg
  · split at hg
    · rename_i ys _ hz
      cases hg
      rw [Bool.and_eq_true] at hz
      refine .inl ⟨_, _, h1.dp 60 _ _ _ hz.1, h2.dp 60 _ _ _ hz.2, eqd_shaped hz.1, eqd_shaped hz.2, ?_⟩
      rw [any_py]
      exact k _ [] H (Same.refl H) (.bl _) (res_imm rfl)
    · cases hg
  · split at hg
    · rename_i ys _ hz
      cases hg
      refine .inl ⟨_, _, h1.dp 60 _ _ _ hz, h2.dp 60 _ _ _ rfl, eqd_shaped hz, eqd_shaped (d := .frz _) rfl, ?_⟩
      rw [any_frz]
      exact k _ [] H (Same.refl H) (.bl _) (res_imm rfl)
    · cases hg
  · split at hg
    · rename_i ys _ hz
      cases hg
      rw [Bool.and_eq_true] at hz
      cases h2 with
      | tup e2 r2 =>
        obtain ⟨q1, q2⟩ := any_flat h1 hz.1 r2 hz.2
        refine .inr (.inl ⟨_, _, rfl, .inr e2, flat_V h1 hz.1, q2, ?_⟩)
        rw [q1]
        exact k _ [] H (Same.refl H) (.bl _) (res_imm rfl)
    · cases hg
  · split at hg
    · rename_i kds _ k0 hk
      cases hg
      have hv := rd_key h1 hk
      subst hv
      cases h2 with
      | @dk a2 kvs2 _ ns2 e2 ek r2 =>
        obtain ⟨q1, q2⟩ := dGet_rd (k := k0) ek r2
        refine .inr (.inr ⟨_, _, rfl, .inl ⟨_, k0, .inl e2, rfl, rfl⟩, ?_⟩)
        have e : (valV kvs2 k0).isSome = (dGet kds k0).isSome := by
          cases c : dGet kds k0 with
          | none => rw [q1 c]; rfl
          | some d =>
            obtain ⟨v, n, m1, m2, c1, _, _⟩ := q2 d c
            rw [c1]; rfl
        rw [e]
        exact k _ [] H (Same.refl H) (.bl _) (res_imm rfl)
    · cases hg
  · cases hg
theorem vIn {K : PySem.W.Frag} : VOk K (r2l (rInAny K)) gIn := vInGen true fun x y H Q h => by
  rcases h with ⟨d, ds, h1, h2, h3, h4, q⟩ | ⟨a, xs, h1, h2, h3, h4, q⟩ | h
  · exact .inl (.inl ⟨d, ds, h1, h2, h3, h4, by rw [beq_true] at q; exact q⟩)
  · exact .inl (.inr ⟨a, xs, h1, h2, h3, h4, by rw [beq_true] at q; exact q⟩)
  · exact .inr h
theorem vNotIn {K : PySem.W.Frag} : VOk K (r2l (rNotInAny K)) gNotIn := vInGen false fun x y H Q h => by
  rcases h with ⟨d, ds, h1, h2, h3, h4, q⟩ | ⟨a, xs, h1, h2, h3, h4, q⟩ | h
  · exact .inl (.inl ⟨d, ds, h1, h2, h3, h4, by rw [beq_false] at q; exact q⟩)
  · exact .inl (.inr ⟨a, xs, h1, h2, h3, h4, by rw [beq_false] at q; exact q⟩)
  · exact .inr h

/-! ### * -/
def fMul : D → D → Option LD
  | .int a, .int b => if mulOk a b then some (2, .int (a * b)) else none
  | .lst xs, .int n => if decide (n.natAbs < 4611686018427387904) && szOk (xs.length * n.toNat) then some (lvN (List.replicate n.toNat xs).flatten, .lst (List.replicate n.toNat xs).flatten) else none
  | _, _ => none
abbrev gMul := gL2 fMul
def rMulAny : R2 := fun x y H Q => rI IntMulOk (fun i j => .int (i * j)) x y H Q ∨ rRep x y H Q
theorem op_mulAny {X : Cx} : OpR X (binaryOp .Mult) rMulAny := (opI fun _ _ _ _ _ _ _ hc q => mul_int q hc).or op_rep
theorem vMul {K : PySem.W.Frag} : VOk K (r2l rMulAny) gMul := vL2 fun s t H Q ok h1 h2 l d hg k => by
  obtain ⟨l1, d1, v1, n1⟩ := s
  obtain ⟨l2, d2, v2, n2⟩ := t
  dsimp only at *
  unfold fMul at hg
  split at hg
  · split at hg
    · rename_i hz
      obtain ⟨rfl, rfl⟩ := rd_int h1
      obtain ⟨rfl, rfl⟩ := rd_int h2
      cases hg
      exact .inl ⟨_, _, rfl, rfl, mulOk_ok hz, k _ [] H (Same.refl H) (.int _) (res_imm rfl)⟩
    · cases hg
  · split at hg
    · rename_i xs n hz
      obtain ⟨rfl, rfl⟩ := rd_int h2
      cases hg
      simp only [Bool.and_eq_true, decide_eq_true_eq] at hz
      cases h1 with
      | @lst a vs ds ns e1 r1 =>
        obtain ⟨m, r, hm⟩ : ∃ m, Rds K H (List.replicate n.toNat vs).flatten (List.replicate n.toNat xs).flatten m ∧ ∀ b ∈ m, b ∈ ns := by
          generalize n.toNat = j
          induction j with
          | zero => exact ⟨[], .nil, fun _ h => nomatch h⟩
          | succ j ih =>
            obtain ⟨m, r, hm⟩ := ih
            refine ⟨ns ++ m, by rw [List.replicate_succ, List.replicate_succ, List.flatten_cons, List.flatten_cons]; exact r1.append r, fun b hb => ?_⟩
            rcases List.mem_append.mp hb with hb | hb
            · exact hb
            · exact hm b hb
        refine .inr ⟨_, n, _, rfl, rfl, e1, by have := hz.1; omega, by have := hz.1; omega, by rw [r1.length]; exact szOk_ok hz.2, fun p hp => k _ _ _ (same_upd hp) (rd_new hp r) (res_lst hp r (fun b hb => ?_) (mut_upd trivial))⟩
        exact arg_ns (List.mem_cons_self ..) b (List.mem_cons_of_mem _ (hm b hb))
    · cases hg
  · cases hg

/-! ### slices -/
def cutD (xs : List D) (lo hi : Option Int) : List D := (xs.drop (HT.sIx xs.length 0 lo)).take (HT.sIx xs.length xs.length hi - HT.sIx xs.length 0 lo)
section
variable {K : PySem.W.Frag} {H : Hp}
theorem Rds.drop : ∀ (n : Nat) {vs : List V} {ds : List D} {ns : List Addr}, Rds K H vs ds ns → ∃ m, Rds K H (vs.drop n) (ds.drop n) m ∧ ∀ a ∈ m, a ∈ ns
  | 0, _, _, _, r => ⟨_, r, fun _ h => h⟩
  | _ + 1, _, _, _, .nil => ⟨[], .nil, fun _ h => h⟩
  | n + 1, _, _, _, .cons h r => by
    obtain ⟨m, q1, q2⟩ := Rds.drop n r
    exact ⟨m, q1, fun a ha => List.mem_append_right _ (q2 a ha)⟩
theorem Rds.take : ∀ (n : Nat) {vs : List V} {ds : List D} {ns : List Addr}, Rds K H vs ds ns → ∃ m, Rds K H (vs.take n) (ds.take n) m ∧ ∀ a ∈ m, a ∈ ns
  | 0, _, _, _, r => ⟨[], .nil, fun _ h => nomatch h⟩
  | _ + 1, _, _, _, .nil => ⟨[], .nil, fun _ h => h⟩
  | n + 1, _, _, _, .cons (n := n0) h r => by
    obtain ⟨m, q1, q2⟩ := Rds.take n r
    refine ⟨n0 ++ m, .cons h q1, fun a ha => ?_⟩
    rcases List.mem_append.mp ha with ha | ha
    · exact List.mem_append_left _ ha
    · exact List.mem_append_right _ (q2 a ha)
theorem Rds.cut {vs : List V} {ds : List D} {ns : List Addr} (r : Rds K H vs ds ns) (lo hi : Option Int) : ∃ m, Rds K H (cutV vs lo hi) (cutD ds lo hi) m ∧ ∀ a ∈ m, a ∈ ns := by
  unfold cutV cutD
  rw [r.length]
  obtain ⟨m, r1, h1⟩ := r.drop (HT.sIx ds.length 0 lo)
  obtain ⟨m2, r2, h2⟩ := r1.take (HT.sIx ds.length ds.length hi - HT.sIx ds.length 0 lo)
  exact ⟨m2, r2, fun a ha => h1 a (h2 a ha)⟩
end
end DL

/-! DL6: the constructs: binary operations, comparisons, items, slices, displays, calls of built-ins -/
namespace DL
open L2 PySem PySem.Spec PyProof.Rows
section
variable {K : PySem.W.Frag} {W : WW} {A : List Nat} {σ : L2.St} {H : Hp}
theorem tDP_mono {f : PF} {Q Q' : VK} (h : tDP K W A f σ H Q) (i : ∀ v H', Q v H' → Q' v H') : tDP K W A f σ H Q' := by
  obtain ⟨Z, L, M, R, q⟩ := h
  refine ⟨Z, L, M, R, ?_⟩
  revert q
  cases f (er L) with
  | bad => exact id
  | exc c => exact id
  | ok x => exact fun q v ns H' B => i v H' (q v ns H' B)
theorem tDE_mono {f : EF} {Q Q' : VK} (h : tDE K W f σ H Q) (i : ∀ v H', Q v H' → Q' v H') : tDE K W f σ H Q' := by
  obtain ⟨Z, L, M, R, q⟩ := h
  refine ⟨Z, L, M, R, ?_⟩
  revert q
  cases f (er L) with
  | bad => exact id
  | exc c Γ' => exact id
  | ok x Γ' => exact fun q v ns H' L' e R' z => i v H' (q v ns H' L' e R' z)
/-- a reckoning that must give an int -/
def pI (f : PF) : PF := fun Γ => match f Γ with
  | .ok (l, .int i) => .ok (l, .int i)
  | .exc c => .exc c
  | _ => .bad
def eI (f : EF) : EF := fun Γ => match f Γ with
  | .ok (l, .int i) Γ' => .ok (l, .int i) Γ'
  | .exc c Γ' => .exc c Γ'
  | _ => .bad
theorem tI_P {f : PF} {Q : VK} (h : tDP K W A (pI f) σ H Q) : tDP K W A f σ H (fun x H1 => ∃ i, x = .int i ∧ Q x H1) := by
  obtain ⟨Z, L, M, R, q⟩ := h
  refine ⟨Z, L, M, R, ?_⟩
  unfold pI at q
  cases ef : f (er L) with
  | bad => rw [ef] at q; exact q
  | exc c => rw [ef] at q; exact q
  | ok x =>
    obtain ⟨l, d⟩ := x
    rw [ef] at q
    cases d with
    | int i => exact fun v ns H' B => ⟨i, (rd_int B.rd).1, q v ns H' B⟩
    | _ => exact q.elim
theorem tI_E {f : EF} {Q : VK} (h : tDE K W (eI f) σ H Q) : tDE K W f σ H (fun x H1 => ∃ i, x = .int i ∧ Q x H1) := by
  obtain ⟨Z, L, M, R, q⟩ := h
  refine ⟨Z, L, M, R, ?_⟩
  unfold eI at q
  cases ef : f (er L) with
  | bad => rw [ef] at q; exact q
  | exc c Γ' => rw [ef] at q; exact q
  | ok x Γ' =>
    obtain ⟨l, d⟩ := x
    rw [ef] at q
    cases d with
    | int i => exact fun v ns H' L' e R' z => ⟨i, (rd_int (R'.tms _ (List.mem_cons_self ..)).1).1, q v ns H' L' e R' z⟩
    | _ => exact q.elim
end

theorem appL {A B : List Nat} : ∀ i ∈ A, i ∈ A ++ B := fun _ h => List.mem_append_left _ h
theorem appR {A B : List Nat} : ∀ i ∈ B, i ∈ A ++ B := fun _ h => List.mem_append_right _ h
theorem mem2l {A B : List Nat} {f g : PF} : ∀ p ∈ [(A, f), (B, g)], ∀ i ∈ p.1, i ∈ A ++ B := fun p hp => by
  rcases List.mem_cons.mp hp with rfl | hp
  · exact appL
  · rw [List.mem_singleton.mp hp]; exact appR
theorem mem3l {A B C : List Nat} {f g h : PF} : ∀ p ∈ [(A, f), (B, g), (C, h)], ∀ i ∈ p.1, i ∈ A ++ (B ++ C) := fun p hp => by
  rcases List.mem_cons.mp hp with rfl | hp
  · exact appL
  · exact fun i hi => appR i (mem2l p hp i hi)
theorem mem1l {A : List Nat} {f : PF} : ∀ p ∈ [(A, f)], ∀ i ∈ p.1, i ∈ A := fun p hp => by
  rw [List.mem_singleton.mp hp]; exact fun _ h => h
section
variable {X : Cx} {W : WW} {A B C : List Nat} {a b c : Expr} {f g h : PF} {f' g' h' : EF} {pos : Pos} {op : Operator} {uop : PySem.UnaryOp} {cop : CmpOp} {r : R2} {q : V → Hp → VK → Prop} {G : List LD → Option LD}
theorem p_bin (ho : OpR X (binaryOp op) r) (hv : VOk X.K (r2l r) G) (ha : DP X W A a f) (hb : DP X W B b g) : DP X W (A ++ B) (.BinOp a op b pos) (pApp G [f, g]) :=
  p_app [(A, f), (B, g)] mem2l hv (pe_op ho ha hb) fun _ _ _ h => h
theorem e_bin (ho : OpR X (binaryOp op) r) (hv : VOk X.K (r2l r) G) (ha : DE X W a f') (hb : DE X W b g') : DE X W (.BinOp a op b pos) (eApp G [f', g']) :=
  e_app [f', g'] hv (pe_op ho ha hb) fun _ _ _ h => h
theorem p_un (ho : UnR X (unaryOp uop) q) (hv : VOk X.K (r1l q) G) (ha : DP X W A a f) : DP X W A (.UnaryOp uop a pos) (pApp G [f]) :=
  p_app [(A, f)] mem1l hv (pe_un ho ha) fun _ _ _ h => h
theorem e_un (ho : UnR X (unaryOp uop) q) (hv : VOk X.K (r1l q) G) (ha : DE X W a f') : DE X W (.UnaryOp uop a pos) (eApp G [f']) :=
  e_app [f'] hv (pe_un ho ha) fun _ _ _ h => h
theorem p_cmp (ho : OpR X (compareOp cop) r) (hv : VOk X.K (r2l r) G) (ha : DP X W A a f) (hb : DP X W B b g) (hm : behindInMarks cop b = false) : DP X W (A ++ B) (.Compare a [cop] [b] pos) (pApp G [f, g]) :=
  p_app [(A, f), (B, g)] mem2l hv (pe_cmpR ho ha hb hm) fun _ _ _ h => h
theorem e_cmp (ho : OpR X (compareOp cop) r) (hv : VOk X.K (r2l r) G) (ha : DE X W a f') (hb : DE X W b g') (hm : behindInMarks cop b = false) : DE X W (.Compare a [cop] [b] pos) (eApp G [f', g']) :=
  e_app [f', g'] hv (pe_cmpR ho ha hb hm) fun _ _ _ h => h
theorem t_cmp (ho : OpR X (compareOp cop) r) (hv : VOk X.K (r2l r) G) (ha : DP X W A a f) (hb : DP X W B b g) (hm : behindInMarks cop b = false) : DTP X W (.Compare a [cop] [b] pos) (pB (pApp G [f, g])) :=
  t_app (A := A ++ B) [(A, f), (B, g)] mem2l hv (pt_cmpR ho ha hb hm) fun _ _ _ h => h
theorem t_cmpE (ho : OpR X (compareOp cop) r) (hv : VOk X.K (r2l r) G) (ha : DE X W a f') (hb : DE X W b g') (hm : behindInMarks cop b = false) : DT X W (.Compare a [cop] [b] pos) (eB (eApp G [f', g'])) :=
  t_appE [f', g'] hv (pt_cmpR ho ha hb hm) fun _ _ _ h => h
theorem p_ix (hu : X.A.units + 100 < cLine) (ha : DP X W A a f) (hb : DP X W B b g) (hs : PlainIx b) : DP X W (A ++ B) (.Subscript a b pos) (pApp gIx [f, g]) :=
  p_app [(A, f), (B, g)] mem2l vIx (pe_ix (ix_any (by omega)) ha hb hs) fun _ _ _ h => h
theorem e_ix (hu : X.A.units + 100 < cLine) (ha : DE X W a f') (hb : DE X W b g') (hs : PlainIx b) : DE X W (.Subscript a b pos) (eApp gIx [f', g']) :=
  e_app [f', g'] vIx (pe_ix (ix_any (by omega)) ha hb hs) fun _ _ _ h => h

/-! lists of arguments -/
/-- reckonings for a written list of arguments -/
inductive PArgL (X : Cx) (W : WW) : List Nat → List Expr → List PF → Prop
  | nil : PArgL X W [] [] []
  | cons {A B : List Nat} {e : Expr} {es : List Expr} {f : PF} {fs : List PF} : DP X W A e f → PArgL X W B es fs → starEach (e :: es) X.env = (false, eval e X.env) :: starEach es X.env → PArgL X W (A ++ B) (e :: es) (f :: fs)
inductive EArgL (X : Cx) (W : WW) : List Expr → List EF → Prop
  | nil : EArgL X W [] []
  | cons {e : Expr} {es : List Expr} {f : EF} {fs : List EF} : DE X W e f → EArgL X W es fs → starEach (e :: es) X.env = (false, eval e X.env) :: starEach es X.env → EArgL X W (e :: es) (f :: fs)
def tAl : List TE → TA
  | [] => tNil
  | t :: ts => tCons t (tAl ts)
theorem PArgL.pa {A : List Nat} {es : List Expr} {fs : List PF} (h : PArgL X W A es fs) : ∃ gs : List (List Nat × PF), gs.map (·.2) = fs ∧ (∀ p ∈ gs, ∀ i ∈ p.1, i ∈ A) ∧ PA X es (tAl (gs.map fun p => tDP X.K W p.1 p.2)) := by
  induction h with
  | nil => exact ⟨[], rfl, fun _ h => (nomatch h), pa_nil⟩
  | @cons A B e es f fs h _ hs ih =>
    obtain ⟨gs, e1, e2, e3⟩ := ih
    refine ⟨(A, f) :: gs, by simp [e1], fun p hp => ?_, pa_cons h e3 hs⟩
    rcases List.mem_cons.mp hp with rfl | hp
    · exact appL
    · exact fun i hi => appR i (e2 p hp i hi)
theorem EArgL.pa {es : List Expr} {fs : List EF} (h : EArgL X W es fs) : PA X es (tAl (fs.map fun f => tDE X.K W f)) := by
  induction h with
  | nil => exact pa_nil
  | cons h _ hs ih => exact pa_cons h ih hs
theorem tAl_args {r : List V → Hp → VK → Prop} : ∀ (ts : List TE) {σ : L2.St} {H : Hp} {Q : VK} (k : List V → Hp → Prop), (∀ xs H', r xs H' Q → k xs H') → (∀ t ∈ ts, ∀ σ H Q Q', (∀ v H', Q v H' → Q' v H') → t σ H Q → t σ H Q') → tArgs ts r σ H Q → tAl ts σ H k
  | [], _, H, _, k, hk, _, h => hk [] H h
  | t :: ts, σ, H, Q, k, hk, hm, h => hm t (List.mem_cons_self ..) σ H _ _ (fun v H' q => tAl_args (r := fun xs => r (v :: xs)) ts (fun xs => k (v :: xs)) (fun xs H2 => hk (v :: xs) H2) (fun t ht => hm t (List.mem_cons_of_mem _ ht)) q) h
theorem monoP (gs : List (List Nat × PF)) : ∀ t ∈ gs.map (fun p => tDP X.K W p.1 p.2), ∀ σ H Q Q', (∀ v H', Q v H' → Q' v H') → t σ H Q → t σ H Q' := fun t ht σ H Q Q' i h => by
  obtain ⟨p, _, rfl⟩ := List.mem_map.mp ht
  exact tDP_mono h i
theorem monoE (fs : List EF) : ∀ t ∈ fs.map (fun f => tDE X.K W f), ∀ σ H Q Q', (∀ v H', Q v H' → Q' v H') → t σ H Q → t σ H Q' := fun t ht σ H Q Q' i h => by
  obtain ⟨p, _, rfl⟩ := List.mem_map.mp ht
  exact tDE_mono h i
theorem p_lst {A : List Nat} {es : List Expr} {fs : List PF} (h : PArgL X W A es fs) : DP X W A (.List es pos) (pApp gLstL fs) := by
  obtain ⟨gs, rfl, e2, e3⟩ := h.pa
  exact p_app gs e2 vLst (pe_lst e3) fun σ H Q q => tAl_args _ _ (fun _ _ h => h) (monoP gs) q
theorem e_lst {es : List Expr} {fs : List EF} (h : EArgL X W es fs) : DE X W (.List es pos) (eApp gLstL fs) :=
  e_app fs vLst (pe_lst h.pa) fun σ H Q q => tAl_args _ _ (fun _ _ h => h) (monoE fs) q
theorem p_tup {A : List Nat} {es : List Expr} {fs : List PF} {x1} (h : PArgL X W A es fs) : DP X W A (.Tuple es x1 pos) (pApp gTupL fs) := by
  obtain ⟨gs, rfl, e2, e3⟩ := h.pa
  exact p_app gs e2 vTup (pe_tup e3) fun σ H Q q => tAl_args _ _ (fun _ _ h => h) (monoP gs) q
theorem e_tup {es : List Expr} {fs : List EF} {x1} (h : EArgL X W es fs) : DE X W (.Tuple es x1 pos) (eApp gTupL fs) :=
  e_app fs vTup (pe_tup h.pa) fun σ H Q q => tAl_args _ _ (fun _ _ h => h) (monoE fs) q
/-- a built-in function, a built-in class, called -/
theorem p_callB {r : List V → Hp → VK → Prop} {x : Str} {id : String} {e : Expr} {es : List Expr} {fs : List PF} {p : Pos} (hc : CallR X (.builtin id) r) (hv : VOk X.K r G) (hg : Gl X x) (hm : X.mg x = none) (hb : bootBuiltins x = some (.builtin id)) (h : PArgL X W A (e :: es) fs)
    (hn : x ≠ "__name__" := by decide) (hdb : (x == ("__debug__" : Str)) = false := by decide) (he : starEach (e :: es) X.env = (false, eval e X.env) :: starEach es X.env := by rfl) (hpl : (backTo pos (starEach es X.env)).any (·.1) = false := by rfl) :
    DP X W A (.Call (.Name x p) (e :: es) [] pos) (pApp G fs) := by
  obtain ⟨gs, rfl, e2, e3⟩ := h.pa
  exact p_app gs e2 hv (pe_callB hc hg hm hb e3 hn hdb he hpl) fun σ H Q q => tAl_args _ _ (fun _ _ h => h) (monoP gs) q
theorem e_callB {r : List V → Hp → VK → Prop} {x : Str} {id : String} {e : Expr} {es : List Expr} {fs : List EF} {p : Pos} (hc : CallR X (.builtin id) r) (hv : VOk X.K r G) (hg : Gl X x) (hm : X.mg x = none) (hb : bootBuiltins x = some (.builtin id)) (h : EArgL X W (e :: es) fs)
    (hn : x ≠ "__name__" := by decide) (hdb : (x == ("__debug__" : Str)) = false := by decide) (he : starEach (e :: es) X.env = (false, eval e X.env) :: starEach es X.env := by rfl) (hpl : (backTo pos (starEach es X.env)).any (·.1) = false := by rfl) :
    DE X W (.Call (.Name x p) (e :: es) [] pos) (eApp G fs) :=
  e_app fs hv (pe_callB hc hg hm hb h.pa hn hdb he hpl) fun σ H Q q => tAl_args _ _ (fun _ _ h => h) (monoE fs) q
theorem p_callTy {r : List V → Hp → VK → Prop} {x : Str} {T : String} {e : Expr} {es : List Expr} {fs : List PF} {p : Pos} (hc : CallR X (.type T) r) (hv : VOk X.K r G) (hg : Gl X x) (hm : X.mg x = none) (hb : bootBuiltins x = some (.type T)) (h : PArgL X W A (e :: es) fs)
    (hn : x ≠ "__name__" := by decide) (hdb : (x == ("__debug__" : Str)) = false := by decide) (he : starEach (e :: es) X.env = (false, eval e X.env) :: starEach es X.env := by rfl) (hpl : (backTo pos (starEach es X.env)).any (·.1) = false := by rfl) :
    DP X W A (.Call (.Name x p) (e :: es) [] pos) (pApp G fs) := by
  obtain ⟨gs, rfl, e2, e3⟩ := h.pa
  exact p_app gs e2 hv (pe_callTy hc hg hm hb e3 hn hdb he hpl) fun σ H Q q => tAl_args _ _ (fun _ _ h => h) (monoP gs) q
theorem e_callTy {r : List V → Hp → VK → Prop} {x : Str} {T : String} {e : Expr} {es : List Expr} {fs : List EF} {p : Pos} (hc : CallR X (.type T) r) (hv : VOk X.K r G) (hg : Gl X x) (hm : X.mg x = none) (hb : bootBuiltins x = some (.type T)) (h : EArgL X W (e :: es) fs)
    (hn : x ≠ "__name__" := by decide) (hdb : (x == ("__debug__" : Str)) = false := by decide) (he : starEach (e :: es) X.env = (false, eval e X.env) :: starEach es X.env := by rfl) (hpl : (backTo pos (starEach es X.env)).any (·.1) = false := by rfl) :
    DE X W (.Call (.Name x p) (e :: es) [] pos) (eApp G fs) :=
  e_app fs hv (pe_callTy hc hg hm hb h.pa hn hdb he hpl) fun σ H Q q => tAl_args _ _ (fun _ _ h => h) (monoE fs) q
end
end DL

/-! DL7: things moved between slots and temps; calls of defs, by their promises over data -/
namespace DL
open L2 PySem PySem.Spec PyProof.Rows

/-- what a def gives: its value, the parameters that it hands back -/
inductive FR where
  | ret (x : LD) (fin : List LD)
  | exc (c : String) (fin : List LD)
  | bad
def Fram (As : List Sl) (H H' : Hp) : Prop := (∀ a o, H a = some o → oL As a = 0 → H' a = some o) ∧ ∀ a, H' a = none → H a = none
def From (As : List Sl) (H : Hp) (Bs : List Sl) : Prop := ∀ a, (0 < oL Bs a → H a = none ∨ 0 < oL As a) ∧ (0 < oL Bs a + rL Bs a → H a = none ∨ 0 < oL As a + rL As a)
/-- the class that is called so -/
def xc (mg : Str → Option Value) (c : String) : Value := (mg (Str.ofString c)).getD .none
/-- those of a list that a mask tells -/
def msk {α : Type} : List Bool → List α → List α
  | true :: bs, x :: xs => x :: msk bs xs
  | false :: bs, _ :: xs => msk bs xs
  | _, _ => []
/-- the promise of a def: n parameters, those that io tells come back -/
def spF (K : PySem.W.Frag) (mg : Str → Option Value) (n : Nat) (io : List Bool) (F : List LD → FR) : Sp := fun vs H Q E => ∃ As : List Sl, vs = As.map Sl.v ∧ As.length = n ∧ ArgsOk K H As ∧ match F (As.map Sl.ld) with
  | .ret (l, d) fin => ∀ v ns (Fs : List Sl) H', Fs.map Sl.ld = fin → Fs.map Sl.v = msk io (As.map Sl.v) → Fram As H H' → ArgsOk K H' (⟨l, d, v, ns⟩ :: Fs) → From As H (⟨l, d, v, ns⟩ :: Fs) → Q v H'
  | .exc c fin => ∀ (Fs : List Sl) H', Fs.map Sl.ld = fin → Fs.map Sl.v = msk io (As.map Sl.v) → Fram As H H' → ArgsOk K H' Fs → From As H Fs → E (xc mg c) none H'
  | .bad => False
theorem spF_len {K : PySem.W.Frag} {mg : Str → Option Value} {n : Nat} {io : List Bool} {F : List LD → FR} {ps : List Str} (hn : ps.length = n) : ∀ vs H Q E, spF K mg n io F vs H Q E → vs.length = ps.length := fun vs H Q E ⟨As, e, hl, _⟩ => by
  rw [e, List.length_map, hl, hn]

section
variable {K : PySem.W.Frag} {Z : Zone} {σ : L2.St} {H H' : Hp} {L : List (Option Sl)} {M : List Tm} {A : List Nat} {W : WW}
theorem Rel.swap {m n : Tm} (R : Rel K Z σ H L (m :: n :: M)) : Rel K Z σ H L (n :: m :: M) where
  len := R.len
  slot := R.slot
  tms := fun t ht => R.tms t (by
    rcases List.mem_cons.mp ht with h | h
    · exact List.mem_cons_of_mem _ (h ▸ List.mem_cons_self ..)
    · rcases List.mem_cons.mp h with h | h
      · exact h ▸ List.mem_cons_self ..
      · exact List.mem_cons_of_mem _ (List.mem_cons_of_mem _ h))
  sep := fun a => by have := R.sep a; simp only [oM, rM] at this ⊢; omega
  wr := fun a ha => R.wr a (by simp only [oM] at ha ⊢; omega)
  zf := R.zf
  pin := R.pin
/-- a slot's content, taken as a temp -/
def Sl.un (s : Sl) : Sl := { s with l := s.l % 10 }
theorem un_own (s : Sl) (a : Addr) : s.un.own a = s.own a := by unfold Sl.un Sl.own ownL; dsimp only; rw [Nat.mod_mod]
theorem un_rst (s : Sl) (a : Addr) : s.un.rst a = s.rst a := by unfold Sl.un Sl.rst rstL; dsimp only; rw [Nat.mod_mod]
theorem Rel.take {i : Nat} {s : Sl} (R : Rel K Z σ H L M) (h1 : L[i]? = some (some s)) : Rel K Z σ H (L.set i none) (s.un.tm K :: M) where
  len := by simpa using R.len
  slot := fun j t hj => by
    by_cases hij : i = j
    · subst hij
      rw [List.getElem?_set_self (List.getElem?_eq_some_iff.mp h1).1] at hj
      cases hj
    · rw [List.getElem?_set_ne hij] at hj
      exact R.slot j t hj
  tms := fun m hm => by
    rcases List.mem_cons.mp hm with rfl | hm
    · have h3 := (R.slot i s h1).2.1
      exact ⟨h3, Sl.stab _ _, fun a ha => h3.dom _ _ _ a ((s.un.mem a).mp ha)⟩
    · exact R.tms m hm
  sep := fun a => by
    have g1 := oS_set (x := none) a h1
    have g2 := rS_set (x := none) a h1
    have sp := R.sep a
    simp only [oO, rO] at g1 g2
    simp only [oM, rM, Sl.tm]
    rw [un_own, un_rst]
    omega
  wr := fun a ha => by
    have g1 := oS_set (x := none) a h1
    simp only [oO] at g1
    simp only [oM, Sl.tm] at ha
    rw [un_own] at ha
    exact R.wr a (by omega)
  zf := R.zf
  pin := fun j t hj hl => by
    by_cases hij : i = j
    · subst hij
      rw [List.getElem?_set_self (List.getElem?_eq_some_iff.mp h1).1] at hj
      cases hj
    · rw [List.getElem?_set_ne hij] at hj
      exact R.pin j t hj hl
/-- a slot is emptied -/
theorem Rel.drop {i : Nat} (R : Rel K Z σ H L M) : Rel K Z σ H (L.set i none) M := by
  cases h : L[i]? with
  | none =>
    have : L.set i none = L := by
      apply List.ext_getElem?
      intro j
      by_cases hij : i = j
      · subst hij
        rw [h, List.getElem?_eq_none_iff]
        simpa using h
      · rw [List.getElem?_set_ne hij]
    rw [this]; exact R
  | some o =>
    cases o with
    | none =>
      have : L.set i none = L := by
        apply List.ext_getElem?
        intro j
        by_cases hij : i = j
        · subst hij
          rw [List.getElem?_set_self (List.getElem?_eq_some_iff.mp h).1, h]
        · rw [List.getElem?_set_ne hij]
      rw [this]; exact R
    | some s => exact (R.take h).pop
/-- a temp goes into an empty slot; the slot's value may be stored with it -/
theorem Rel.put0 {σ' : L2.St} {i : Nat} {s : Sl} (R : Rel K Z σ H L (s.tm K :: M)) (h0 : L[i]? = some none) (hσ : σ'[i]? = some (some s.v)) (hl : σ'.length = σ.length) (hs : ∀ j, j ≠ i → σ'[j]? = σ[j]?) (hz : ∀ a ∈ s.ns, Z a) (hp : 10 ≤ s.l → s.v = Z.pv i) : Rel K Z σ' H (L.set i (some s)) M where
  len := by rw [hl]; simpa using R.len
  slot := fun j t hj => by
    by_cases hij : i = j
    · subst hij
      rw [List.getElem?_set_self (List.getElem?_eq_some_iff.mp h0).1] at hj
      cases hj
      exact ⟨hσ, (R.tms _ (List.mem_cons_self ..)).1, hz⟩
    · rw [List.getElem?_set_ne hij] at hj
      rw [hs j (Ne.symm hij)]
      exact R.slot j t hj
  tms := fun m hm => R.tms m (List.mem_cons_of_mem _ hm)
  sep := fun a => by
    have g1 := oS_set (x := some s) a h0
    have g2 := rS_set (x := some s) a h0
    have sp := R.sep a
    simp only [oO, rO] at g1 g2
    simp only [oM, rM, Sl.tm] at sp
    omega
  wr := fun a ha => by
    have g1 := oS_set (x := some s) a h0
    simp only [oO] at g1
    exact R.wr a (by simp only [oM, Sl.tm]; omega)
  zf := R.zf
  pin := fun j t hj hl => by
    by_cases hij : i = j
    · subst hij
      rw [List.getElem?_set_self (List.getElem?_eq_some_iff.mp h0).1] at hj
      cases hj
      exact hp hl
    · rw [List.getElem?_set_ne hij] at hj
      exact R.pin j t hj hl
theorem set_none_at {i : Nat} (h : i < L.length) : (L.set i none)[i]? = some none := by rw [List.getElem?_set_self h]
theorem set_set {α : Type} (l : List α) (i : Nat) (x y : α) : (l.set i x).set i y = l.set i y := by simp
/-- a temp is stored in a slot -/
theorem Rel.store {i : Nat} {s : Sl} (R : Rel K Z σ H L (s.tm K :: M)) (hi : i < L.length) (hz : ∀ a ∈ s.ns, Z a) (hp : s.l < 10) : Rel K Z (σ.set i (some s.v)) H (L.set i (some s)) M := by
  have h := (R.drop (i := i)).put0 (σ' := σ.set i (some s.v)) (i := i) (s := s) (set_none_at hi) (by rw [List.getElem?_set_self (by rw [← R.len]; exact hi)]) (by simp) (fun j hj => by rw [List.getElem?_set_ne (Ne.symm hj)]) hz (fun q => absurd q (by omega))
  rw [set_set] at h
  exact h
theorem Rel.splitA {s : Sl} {As : List Sl} (R : Rel K Z σ H L (tmA K (s :: As) :: M)) : Rel K Z σ H L (s.tm K :: tmA K As :: M) where
  len := R.len
  slot := R.slot
  tms := fun m hm => by
    obtain ⟨h1, _, h3⟩ := R.tms _ (List.mem_cons_self ..)
    rcases List.mem_cons.mp hm with rfl | hm
    · exact ⟨h1 s (List.mem_cons_self ..), s.stab _, fun a ha => h3 a (by show 0 < (s.own a + oL As a) + (s.rst a + rL As a); have ha : 0 < s.own a + s.rst a := ha; omega)⟩
    · rcases List.mem_cons.mp hm with rfl | hm
      · exact ⟨fun t ht => h1 t (List.mem_cons_of_mem _ ht), tmA_stab _, fun a ha => h3 a (by show 0 < (s.own a + oL As a) + (s.rst a + rL As a); have ha : 0 < oL As a + rL As a := ha; omega)⟩
      · exact R.tms m (List.mem_cons_of_mem _ hm)
  sep := fun a => by
    have := R.sep a
    have e1 : oM (tmA K (s :: As) :: M) a = (s.own a + oL As a) + oM M a := rfl
    have e2 : rM (tmA K (s :: As) :: M) a = (s.rst a + rL As a) + rM M a := rfl
    have e3 : oM (s.tm K :: tmA K As :: M) a = s.own a + (oL As a + oM M a) := rfl
    have e4 : rM (s.tm K :: tmA K As :: M) a = s.rst a + (rL As a + rM M a) := rfl
    rw [e1, e2] at this
    rw [e3, e4]
    omega
  wr := fun a ha => R.wr a (by
    have e1 : oM (tmA K (s :: As) :: M) a = (s.own a + oL As a) + oM M a := rfl
    have e3 : oM (s.tm K :: tmA K As :: M) a = s.own a + (oL As a + oM M a) := rfl
    rw [e3] at ha
    rw [e1]
    omega)
  zf := R.zf
  pin := R.pin
theorem Rel.joinA {s : Sl} {As : List Sl} (R : Rel K Z σ H L (s.tm K :: tmA K As :: M)) : Rel K Z σ H L (tmA K (s :: As) :: M) where
  len := R.len
  slot := R.slot
  tms := fun m hm => by
    rcases List.mem_cons.mp hm with rfl | hm
    · obtain ⟨h1, _, h3⟩ := R.tms (s.tm K) (List.mem_cons_self ..)
      obtain ⟨g1, _, g3⟩ := R.tms (tmA K As) (List.mem_cons_of_mem _ (List.mem_cons_self ..))
      refine ⟨fun t ht => ?_, tmA_stab _, fun a ha => ?_⟩
      · rcases List.mem_cons.mp ht with rfl | ht
        · exact h1
        · exact g1 t ht
      · have ha : 0 < (s.own a + oL As a) + (s.rst a + rL As a) := ha
        by_cases c : 0 < s.own a + s.rst a
        · exact h3 a c
        · exact g3 a (by show 0 < oL As a + rL As a; omega)
    · exact R.tms m (List.mem_cons_of_mem _ (List.mem_cons_of_mem _ hm))
  sep := fun a => by
    have := R.sep a
    have e1 : oM (tmA K (s :: As) :: M) a = (s.own a + oL As a) + oM M a := rfl
    have e2 : rM (tmA K (s :: As) :: M) a = (s.rst a + rL As a) + rM M a := rfl
    have e3 : oM (s.tm K :: tmA K As :: M) a = s.own a + (oL As a + oM M a) := rfl
    have e4 : rM (s.tm K :: tmA K As :: M) a = s.rst a + (rL As a + rM M a) := rfl
    rw [e3, e4] at this
    rw [e1, e2]
    omega
  wr := fun a ha => R.wr a (by
    have e1 : oM (tmA K (s :: As) :: M) a = (s.own a + oL As a) + oM M a := rfl
    have e3 : oM (s.tm K :: tmA K As :: M) a = s.own a + (oL As a + oM M a) := rfl
    rw [e1] at ha
    rw [e3]
    omega)
  zf := R.zf
  pin := R.pin
/-- arguments in another order -/
theorem oL_perm {As Bs : List Sl} (h : As.Perm Bs) (a : Addr) : oL As a = oL Bs a ∧ rL As a = rL Bs a := by
  induction h with
  | nil => exact ⟨rfl, rfl⟩
  | cons x _ ih => simp only [oL, rL]; omega
  | swap x y l => simp only [oL, rL]; omega
  | trans _ _ i1 i2 => omega
theorem ArgsOk.perm {As Bs : List Sl} (h : As.Perm Bs) (k : ArgsOk K H As) : ArgsOk K H Bs :=
  ⟨fun s hs => k.rd s (h.mem_iff.mpr hs), fun a => by have := k.sep a; have := oL_perm h a; omega, fun a ha => k.wr a (by have := oL_perm h a; omega)⟩
/-- behind a call that took the arguments As: the things Bs have come, all else stands -/
theorem Rel.callA {As Bs : List Sl} (R : Rel K Z σ H L (tmA K As :: M)) (fr : Fram As H H') (ok : ArgsOk K H' Bs) (fm : From As H Bs) : Rel K Z σ H' L (tmA K Bs :: M) := by
  have e : ∀ a, oM (tmA K As :: M) a = oL As a + oM M a := fun _ => rfl
  have e' : ∀ a, rM (tmA K As :: M) a = rL As a + rM M a := fun _ => rfl
  have f : ∀ a, oM (tmA K Bs :: M) a = oL Bs a + oM M a := fun _ => rfl
  have f' : ∀ a, rM (tmA K Bs :: M) a = rL Bs a + rM M a := fun _ => rfl
  have sp : ∀ a, oS L a + (oL As a + oM M a) ≤ 1 ∧ (0 < oS L a + (oL As a + oM M a) → rS L a + (rL As a + rM M a) = 0) := fun a => by have := R.sep a; rwa [e, e'] at this
  have tk : TupK H H' := fun a o h n => fr.1 a o h (Nat.eq_zero_of_not_pos fun q => by
    have := R.wr a (by rw [e]; omega)
    rw [h] at this
    exact n this)
  have st : ∀ a, H a ≠ none → oL As a = 0 → H' a = H a := fun a h q => by
    cases c : H a with
    | none => exact absurd c h
    | some o => exact fr.1 a o c q
  have free : ∀ a, H a = none → oS L a = 0 ∧ rS L a = 0 ∧ oM M a = 0 ∧ rM M a = 0 := fun a h => by
    have := R.free h
    rw [e, e'] at this
    omega
  refine ⟨R.len, fun i s h => ?_, fun m hm => ?_, fun a => ?_, fun a ha => ?_, fun a ha => R.zf a (fr.2 a ha), R.pin⟩
  · obtain ⟨h1, h2, h3⟩ := R.slot i s h
    refine ⟨h1, Rd.at tk _ _ _ h2 fun a ha => st a (h2.dom _ _ _ a ha) ?_, h3⟩
    have g := (s.mem a).mpr ha
    have := oS_get a h
    have := rS_get a h
    have := sp a
    omega
  · rcases List.mem_cons.mp hm with rfl | hm
    · exact ⟨ok.rd, tmA_stab _, fun a ha => by
        obtain ⟨s, h1, h2⟩ := oL_pos (As := Bs) (a := a) ha
        exact (ok.rd s h1).dom _ _ _ a h2⟩
    · obtain ⟨h1, h2, h3⟩ := R.tms m (List.mem_cons_of_mem _ hm)
      have k : ∀ a, 0 < m.own a + m.rst a → H' a = H a := fun a ha => st a (h3 a ha) (by
        have := oM_mem a hm
        have := sp a
        omega)
      exact ⟨h2 H H' h1 tk k, h2, fun a ha => by rw [k a ha]; exact h3 a ha⟩
  · rw [f, f']
    have q1 := sp a
    have q2 := ok.sep a
    have q3 := fm a
    by_cases c : 0 < oL Bs a
    · rcases q3.1 c with z | z
      · have := free a z; omega
      · omega
    · by_cases c' : 0 < rL Bs a
      · rcases q3.2 (by omega) with z | z
        · have := free a z; omega
        · omega
      · omega
  · rw [f] at ha
    by_cases c : 0 < oL Bs a
    · exact ok.wr a c
    · have w := R.wr a (by rw [e]; omega)
      have hn : H a ≠ none := fun z => by rw [z] at w; exact w
      have : oL As a = 0 := by have := sp a; omega
      rw [st a hn this]
      exact w
theorem From.zone {As Bs : List Sl} (R : Rel K Z σ H L M) (hz : ∀ t ∈ As, ∀ a ∈ t.ns, Z a) (fm : From As H Bs) : ∀ t ∈ Bs, ∀ a ∈ t.ns, Z a := fun t ht a ha => by
  have h1 := oL_mem a ht
  have h2 := (t.mem a).mpr ha
  rcases (fm a).2 (by omega) with q | q
  · exact Z.sub a (R.zf a q)
  · obtain ⟨u, g1, g2⟩ := oL_pos q
    exact hz u g1 a g2
end

/-! ### a def called with pure arguments, none of which it hands back -/
def wx (X : Cx) (W : WW) : WX := fun cls d σ H => ∃ c, cls = xc X.mg c ∧ d = none ∧ W c σ H
def pCall (F : List LD → FR) (fs : List PF) : PF := fun Γ => match evP fs Γ with
  | .ok xs => (match F xs with
    | .ret x _ => .ok x
    | .exc c _ => .exc c
    | .bad => .bad)
  | .exc c => .exc c
  | .bad => .bad
section
variable {X : Cx} {W : WW} {A : List Nat}
theorem p_call {f : Addr} {fd : FuncData} {ps : List Str} {k n : Nat} {F : List LD → FR} {x : Str} {p pos : Pos} {e : Expr} {es : List Expr} {fs : List PF} (tk : Takes X (wx X W)) (G : FnOk X.prog X.w X.K X.mg X.base (L2.CX X.prog X.w) k f fd ps (spF X.K X.mg n [] F)) (hr : Room k X.A)
    (hg : Gl X x) (hm : X.mg x = some (.ref f)) (hk : PySem.W.keepIn X.K (.ref f) = true) (hb : Binds X.K fd ps []) (hn : fs.length = n) (h : PArgL X W A (e :: es) fs)
    (hdb : (x == ("__debug__" : Str)) = false := by decide) (he : starEach (e :: es) X.env = (false, eval e X.env) :: starEach es X.env := by rfl) (hpl : (backTo pos (starEach es X.env)).any (·.1) = false := by rfl) :
    DP X W A (.Call (.Name x p) (e :: es) [] pos) (pCall F fs) := by
  obtain ⟨gs, rfl, e2, e3⟩ := h.pa
  refine PE.imp (pe_callS G hr hg hm hk hb (fun σ => passAt tk σ) e3 hdb he hpl) fun σ H Q ⟨Z, L, M, R, q⟩ => ?_
  refine tAl_args (r := fun vs H Q => spF X.K X.mg n [] F vs H Q (WE (wx X W) σ)) _ _ (fun _ _ h => h) (monoP gs) ?_
  refine parts (A := A) (r := fun vs H Q => spF X.K X.mg n [] F vs H Q (WE (wx X W) σ)) (fun _ _ _ z => z) gs [] H e2 R (PArgs.nil R) ?_
  unfold pCall at q
  cases ev : evP (gs.map (·.2)) (er L) with
  | bad => rw [ev] at q; exact q
  | exc c => rw [ev] at q; exact q
  | ok xs =>
    rw [ev] at q
    intro Bs H1 e1 p1
    simp only [List.nil_append] at p1 ⊢
    have hlen : Bs.length = n := by
      have h1 : xs.length = (gs.map (·.2)).length := by
        have gen : ∀ (fs : List PF) (ys : List LD), evP fs (er L) = .ok ys → ys.length = fs.length := by
          intro fs
          induction fs with
          | nil => intro ys h; cases h; rfl
          | cons f fs ih =>
            intro ys h
            unfold evP at h
            split at h
            · split at h
              · cases h
                rename_i hh
                simp [ih _ hh]
              · cases h
              · cases h
            · cases h
            · cases h
        exact gen _ _ ev
      rw [← e1, List.length_map] at h1
      rw [h1]; exact hn
    have sm : ∀ {H'}, Fram Bs H1 H' → Same H H' := fun {H'} fr a o ho => fr.1 a o (p1.same a o ho) (Nat.eq_zero_of_not_pos fun z => by
      have := p1.own a z
      rw [ho] at this
      cases this)
    refine ⟨Bs, rfl, hlen, p1.ok, ?_⟩
    rw [e1]
    dsimp only at q
    cases ef : F xs with
    | bad => rw [ef] at q; exact q
    | exc c fin =>
      rw [ef] at q
      exact fun Fs H' _ _ fr _ _ => ⟨c, rfl, rfl, q H' (sm fr)⟩
    | ret x fin =>
      obtain ⟨l, d⟩ := x
      rw [ef] at q
      intro v ns Fs H' _ _ fr ok fm
      refine q v ns H' (p1.res R (sm fr) (ok.rd _ (List.mem_cons_self ..)) fun a => ?_)
      have h1 := ok.sep a
      have h2 := fm a
      have h3 := ok.wr a
      simp only [oL, rL] at h1 h2 h3
      refine ⟨by omega, fun z => ⟨by omega, h3 (by omega), h2.1 (by omega)⟩, fun z => h2.2 (by omega)⟩
end

/-! ### a call that hands slots back -/
abbrev AE := Sum Nat EF
/-- arguments from the left: a slot's stays where it is -/
def evA : List AE → Env → R (List LD)
  | [], Γ => .ok [] Γ
  | .inl i :: as, Γ => (match Γ[i]? with
    | some (some _) => evA as Γ
    | _ => .bad)
  | .inr f :: as, Γ => match f Γ with
    | .ok x Γ1 => (match evA as Γ1 with
      | .ok xs Γ2 => .ok (x :: xs) Γ2
      | .exc c Γ2 => .exc c Γ2
      | .bad => .bad)
    | .exc c Γ1 => .exc c Γ1
    | .bad => .bad
/-- then the slots' contents are taken -/
def tkA : List AE → List LD → Env → Option (List LD × List (Nat × Nat) × Env)
  | [], _, Γ => some ([], [], Γ)
  | .inl i :: as, xs, Γ => (match Γ[i]? with
    | some (some (l, d)) => (tkA as xs (Γ.set i none)).map fun r => ((l % 10, d) :: r.1, (i, l - l % 10) :: r.2.1, r.2.2)
    | _ => none)
  | .inr _ :: as, x :: xs, Γ => (tkA as xs Γ).map fun r => (x :: r.1, r.2)
  | .inr _ :: _, [], _ => none
/-- .. and laid back: a parameter of ours stays ours -/
def ptA : List (Nat × Nat) → List LD → Env → Env
  | (i, p) :: is, (l, d) :: xs, Γ => ptA is xs (Γ.set i (some (l % 10 + p, d)))
  | _, _, Γ => Γ
def mkA : List AE → List Bool
  | [] => []
  | .inl _ :: as => true :: mkA as
  | .inr _ :: as => false :: mkA as
def eCallR (F : List LD → FR) (as : List AE) (xs : List LD) (Γ : Env) : R LD := match tkA as xs Γ with
  | some (ys, ps, Γ1) => (match F ys with
    | .ret x fin => if fin.length = ps.length then .ok x (ptA ps fin Γ1) else .bad
    | .exc c fin => if fin.length = ps.length then .exc c (ptA ps fin Γ1) else .bad
    | .bad => .bad)
  | none => .bad
def eCall (F : List LD → FR) (as : List AE) : EF := fun Γ => match evA as Γ with
  | .ok xs Γ' => eCallR F as xs Γ'
  | .exc c Γ' => .exc c Γ'
  | .bad => .bad
def teA (K : PySem.W.Frag) (W : WW) : AE → TE
  | .inl i => tVar i
  | .inr f => tDE K W f
def vfit (σ : L2.St) : List AE → List Sl → List V → Prop
  | [], [], [] => True
  | .inl i :: as, Bs, v :: vs => σ[i]? = some (some v) ∧ vfit σ as Bs vs
  | .inr _ :: as, b :: Bs, v :: vs => v = b.v ∧ vfit σ as Bs vs
  | _, _, _ => False
section
variable {K : PySem.W.Frag} {Z : Zone} {σ : L2.St} {M : List Tm} {W : WW}
theorem aparts {r : List V → Hp → VK → Prop} {Q : VK} : ∀ (as : List AE) (As : List Sl) (vs0 : List V) (H : Hp) (L : List (Option Sl)), Rel K Z σ H L (tmA K As :: M) → (∀ t ∈ As, ∀ a ∈ t.ns, Z a) →
    (match evA as (er L) with
      | .ok xs Γ' => ∀ Bs vs H' L', er L' = Γ' → Bs.map Sl.ld = xs → Rel K Z σ H' L' (tmA K (As ++ Bs) :: M) → (∀ t ∈ As ++ Bs, ∀ a ∈ t.ns, Z a) → vfit σ as Bs vs → r (vs0 ++ vs) H' Q
      | .exc c Γ' => ∀ H' L', er L' = Γ' → Rel K Z σ H' L' M → W c σ H'
      | .bad => False) →
    tArgs (as.map (teA K W)) (fun xs => r (vs0 ++ xs)) σ H Q
  | [], As, vs0, H, L, R, hz, h => h [] [] H L rfl rfl (by rw [List.append_nil]; exact R) (by rw [List.append_nil]; exact hz) trivial
  | .inl i :: as, As, vs0, H, L, R, hz, h => by
    simp only [evA] at h
    cases el : (er L)[i]? with
    | none => simp only [el] at h
    | some o =>
      cases o with
      | none => simp only [el] at h
      | some x =>
        simp only [el] at h
        obtain ⟨s, h1, _, _⟩ := er_some (l := x.1) (d := x.2) el
        have hs := (R.slot i s h1).1
        refine ⟨s.v, hs, ?_⟩
        have hv : (fun xs => r (vs0 ++ s.v :: xs)) = fun xs => r ((vs0 ++ [s.v]) ++ xs) := by
          funext xs
          simp
        show tArgs (as.map (teA K W)) (fun xs => r (vs0 ++ s.v :: xs)) σ H Q
        rw [hv]
        refine aparts as As _ H L R hz ?_
        cases ev : evA as (er L) with
        | bad => simp only [ev] at h
        | exc c Γ2 => simp only [ev] at h; exact h
        | ok xs Γ2 =>
          simp only [ev] at h
          intro Bs vs H' L' e1 e2 R' z' vf
          have := h Bs (s.v :: vs) H' L' e1 e2 R' z' ⟨hs, vf⟩
          simpa using this
  | .inr f :: as, As, vs0, H, L, R, hz, h => by
    refine ⟨Z, L, _, R, ?_⟩
    simp only [evA] at h
    cases ef : f (er L) with
    | bad => simp only [ef] at h
    | exc c Γ1 =>
      simp only [ef] at h
      exact fun H' L' e R' => h H' L' e R'.pop
    | ok x Γ1 =>
      obtain ⟨l, d⟩ := x
      simp only [ef] at h
      intro v ns H1 L1 e1 R1 z1
      have R2 := R1.argsC
      have hv : (fun xs => r (vs0 ++ v :: xs)) = fun xs => r ((vs0 ++ [v]) ++ xs) := by
        funext xs
        simp
      show tArgs (as.map (teA K W)) (fun xs => r (vs0 ++ v :: xs)) σ H1 Q
      rw [hv]
      refine aparts as _ _ H1 L1 R2 (fun t ht => ?_) ?_
      · rcases List.mem_append.mp ht with ht | ht
        · exact hz t ht
        · rw [List.mem_singleton.mp ht]; exact z1
      rw [e1]
      cases ev : evA as Γ1 with
      | bad => simp only [ev] at h
      | exc c Γ2 => simp only [ev] at h; exact h
      | ok xs Γ2 =>
        simp only [ev] at h
        intro Bs vs H2 L2 e2 eB R3 z3 vf
        have := h (⟨l, d, v, ns⟩ :: Bs) (v :: vs) H2 L2 e2 (by simp [Sl.ld, eB]) (by simpa using R3) (by simpa using z3) ⟨rfl, vf⟩
        simpa using this
theorem Rel.permA {H : Hp} {L : List (Option Sl)} {As Bs : List Sl} (h : As.Perm Bs) (R : Rel K Z σ H L (tmA K As :: M)) : Rel K Z σ H L (tmA K Bs :: M) := by
  have e1 : oL As = oL Bs := funext fun a => (oL_perm h a).1
  have e2 : rL As = rL Bs := funext fun a => (oL_perm h a).2
  have e3 : (fun H => ∀ s ∈ As, Rd K H s.v s.d s.ns) = fun H => ∀ s ∈ Bs, Rd K H s.v s.d s.ns := funext fun H => propext ⟨fun q s hs => q s (h.mem_iff.mpr hs), fun q s hs => q s (h.mem_iff.mp hs)⟩
  have e : tmA K As = tmA K Bs := by unfold tmA; rw [e1, e2, e3]
  rw [← e]; exact R
/-- the slots' contents are taken: their values, which of them are parameters that are kept -/
theorem take_all {H : Hp} : ∀ (as : List AE) (Bs : List Sl) (vs : List V) (L : List (Option Sl)) (Es : List Sl) (ys : List LD) (ps : List (Nat × Nat)) (Γ1 : Env), vfit σ as Bs vs → Rel K Z σ H L (tmA K (Es ++ Bs) :: M) → (∀ t ∈ Es ++ Bs, ∀ a ∈ t.ns, Z a) →
    tkA as (Bs.map Sl.ld) (er L) = some (ys, ps, Γ1) → ∃ (Cs : List Sl) (L1 : List (Option Sl)), er L1 = Γ1 ∧ Cs.map Sl.ld = ys ∧ Cs.map Sl.v = vs ∧ Rel K Z σ H L1 (tmA K (Es ++ Cs) :: M) ∧ (∀ t ∈ Es ++ Cs, ∀ a ∈ t.ns, Z a) ∧ Cs.length = as.length ∧
      (ps.map (·.1)).Nodup ∧ (∀ j : Nat, L[j]? = some none → L1[j]? = some none) ∧ (∀ p ∈ ps, (∃ s : Sl, L[p.1]? = some (some s)) ∧ L1[p.1]? = some none) ∧ Paired (fun (p : Nat × Nat) v => σ[p.1]? = some (some v) ∧ (10 ≤ p.2 → v = Z.pv p.1) ∧ p.2 % 10 = 0) ps (msk (mkA as) vs)
  | [], [], [], L, Es, ys, ps, Γ1, _, R, hz, h => by
    simp only [tkA, List.map_nil, Option.some.injEq, Prod.mk.injEq] at h
    obtain ⟨rfl, rfl, rfl⟩ := h
    exact ⟨[], L, rfl, rfl, rfl, R, hz, rfl, List.nodup_nil, fun _ h => h, (fun _ h => nomatch h), .nil⟩
  | [], [], _ :: _, _, _, _, _, _, vf, _, _, _ => by simp [vfit] at vf
  | [], _ :: _, _, _, _, _, _, _, vf, _, _, _ => by simp [vfit] at vf
  | .inl i :: as, Bs, [], _, _, _, _, _, vf, _, _, _ => by cases Bs <;> simp [vfit] at vf
  | .inr _ :: _, [], _, _, _, _, _, _, vf, _, _, _ => by simp [vfit] at vf
  | .inr _ :: _, _ :: _, [], _, _, _, _, _, vf, _, _, _ => by simp [vfit] at vf
  | .inr f :: as, b :: Bs, v :: vs, L, Es, ys, ps, Γ1, vf, R, hz, h => by
    obtain ⟨hv, vf⟩ := vf
    subst hv
    simp only [tkA, List.map_cons] at h
    obtain ⟨r, hr, e⟩ := Option.map_eq_some_iff.mp h
    obtain ⟨ys', ps', Γ'⟩ := r
    simp only [Prod.mk.injEq] at e
    obtain ⟨rfl, rfl, rfl⟩ := e
    have hb : Es ++ b :: Bs = (Es ++ [b]) ++ Bs := by simp
    rw [hb] at R hz
    obtain ⟨Cs, L1, q1, q2, q3, q4, q5, q6, q7, q8, q9, q10⟩ := take_all as Bs vs L (Es ++ [b]) ys' ps' Γ' vf R hz hr
    have hc : Es ++ b :: Cs = (Es ++ [b]) ++ Cs := by simp
    exact ⟨b :: Cs, L1, q1, by simp [q2], by simp [q3], by rw [hc]; exact q4, by rw [hc]; exact q5, by simp [q6], q7, q8, q9, q10⟩
  | .inl i :: as, Bs, v :: vs, L, Es, ys, ps, Γ1, vf, R, hz, h => by
    have vf' : σ[i]? = some (some v) ∧ vfit σ as Bs vs := by cases Bs <;> exact vf
    obtain ⟨hv, vf⟩ := vf'
    simp only [tkA] at h
    cases el : (er L)[i]? with
    | none => simp only [el] at h; cases h
    | some o =>
      cases o with
      | none => simp only [el] at h; cases h
      | some x =>
        obtain ⟨l, d⟩ := x
        simp only [el] at h
        obtain ⟨r, hr, e⟩ := Option.map_eq_some_iff.mp h
        obtain ⟨ys', ps', Γ'⟩ := r
        simp only [Prod.mk.injEq] at e
        obtain ⟨rfl, rfl, rfl⟩ := e
        obtain ⟨s, h1, e1, e2⟩ := er_some el
        subst e1 e2
        have hsv : s.v = v := by
          have := (R.slot i s h1).1
          rw [hv] at this
          exact (Option.some.inj (Option.some.inj this)).symm
        have R1 := (R.take h1).joinA
        have hp : (s.un :: (Es ++ Bs)).Perm ((Es ++ [s.un]) ++ Bs) := by
          rw [List.append_assoc]
          exact (List.perm_middle (l₁ := Es) (l₂ := Bs) (a := s.un)).symm
        have R2 := R1.permA hp
        have z2 : ∀ t ∈ (Es ++ [s.un]) ++ Bs, ∀ a ∈ t.ns, Z a := fun t ht => by
          rcases List.mem_cons.mp (hp.mem_iff.mpr ht) with rfl | ht
          · exact (R.slot i s h1).2.2
          · exact hz t ht
        have e0 : er (L.set i none) = (er L).set i none := by rw [er_set]; rfl
        rw [← e0] at hr
        obtain ⟨Cs, L1, q1, q2, q3, q4, q5, q6, q7, q8, q9, q10⟩ := take_all as Bs vs (L.set i none) (Es ++ [s.un]) ys' ps' Γ' vf R2 z2 hr
        have hc : Es ++ s.un :: Cs = (Es ++ [s.un]) ++ Cs := by simp
        have hil := (List.getElem?_eq_some_iff.mp h1).1
        have hin : (L.set i none)[i]? = some none := by rw [List.getElem?_set_self hil]
        have hni : ∀ p ∈ ps', p.1 ≠ i := fun p hp e => by
          obtain ⟨⟨t, ht⟩, _⟩ := q9 p hp
          rw [e, hin] at ht
          cases ht
        refine ⟨s.un :: Cs, L1, q1, by simp [q2, Sl.un, Sl.ld], by simp [q3, Sl.un, hsv], by rw [hc]; exact q4, by rw [hc]; exact q5, by simp [q6], ?_, fun j hj => q8 j ?_, fun p hp => ?_, ?_⟩
        · rw [List.map_cons, List.nodup_cons]
          exact ⟨fun hm => by
            obtain ⟨p, hp, e⟩ := List.mem_map.mp hm
            exact hni p hp e, q7⟩
        · by_cases hij : i = j
          · subst hij; exact hin
          · rw [List.getElem?_set_ne hij]; exact hj
        · rcases List.mem_cons.mp hp with rfl | hp
          · exact ⟨⟨s, h1⟩, q8 i hin⟩
          · obtain ⟨⟨t, ht⟩, g⟩ := q9 p hp
            rw [List.getElem?_set_ne (Ne.symm (hni p hp))] at ht
            exact ⟨⟨t, ht⟩, g⟩
        · refine .cons ⟨hv, fun hl => ?_, ?_⟩ q10
          · rw [← hsv]
            exact R.pin i s h1 (by dsimp only at hl; omega)
          · dsimp only; omega
theorem tm_lvl {s t : Sl} (h1 : s.l % 10 = t.l % 10) (h2 : s.d = t.d) (h3 : s.v = t.v) (h4 : s.ns = t.ns) : s.tm K = t.tm K := by
  obtain ⟨l, d, v, ns⟩ := s
  obtain ⟨l', d', v', ns'⟩ := t
  dsimp only at *
  subst h2 h3 h4
  have e1 : (Sl.mk l d v ns).own = (Sl.mk l' d v ns).own := funext fun a => by unfold Sl.own ownL; dsimp only; rw [h1]
  have e2 : (Sl.mk l d v ns).rst = (Sl.mk l' d v ns).rst := funext fun a => by unfold Sl.rst rstL; dsimp only; rw [h1]
  unfold Sl.tm
  rw [e1, e2]
/-- .. and are laid back -/
theorem put_all {H : Hp} : ∀ (ps : List (Nat × Nat)) (Fs : List Sl) (L : List (Option Sl)) (vs : List V), Rel K Z σ H L (tmA K Fs :: M) → (∀ t ∈ Fs, ∀ a ∈ t.ns, Z a) → (ps.map (·.1)).Nodup → (∀ p ∈ ps, L[p.1]? = some none) →
    Paired (fun (p : Nat × Nat) v => σ[p.1]? = some (some v) ∧ (10 ≤ p.2 → v = Z.pv p.1) ∧ p.2 % 10 = 0) ps vs → Fs.map Sl.v = vs → ∃ L', er L' = ptA ps (Fs.map Sl.ld) (er L) ∧ Rel K Z σ H L' M
  | [], _, L, _, R, _, _, _, _, _ => ⟨L, rfl, R.pop⟩
  | _ :: _, [], _, _, _, _, _, _, .cons _ _, e => nomatch e
  | (i, p) :: ps, s :: Fs, L, _, R, hz, nd, hn, .cons (b := v) ⟨h1, h2, h3⟩ pr, e => by
    rw [List.map_cons, List.cons.injEq] at e
    obtain ⟨e1, e2⟩ := e
    have R1 := R.splitA
    have et : s.tm K = (Sl.mk (s.l % 10 + p) s.d s.v s.ns).tm K := tm_lvl (by dsimp only at h3 ⊢; omega) rfl rfl rfl
    rw [et] at R1
    have R2 := R1.swap
    have R1' := R1
    have hi : L[i]? = some none := hn _ (List.mem_cons_self ..)
    have R3 := Rel.put0 (σ' := σ) (i := i) R1 hi (by rw [← e1] at h1; exact h1) rfl (fun _ _ => rfl) (hz s (List.mem_cons_self ..)) (fun hl => by
      show s.v = Z.pv i
      rw [e1]
      exact h2 (by dsimp only at h3 hl ⊢; omega))
    rw [List.map_cons, List.nodup_cons] at nd
    obtain ⟨L', q1, q2⟩ := put_all ps Fs _ _ R3 (fun t ht => hz t (List.mem_cons_of_mem _ ht)) nd.2 (fun q hq => by
      have hne : i ≠ q.1 := fun z => nd.1 (List.mem_map.mpr ⟨q, hq, z.symm⟩)
      rw [List.getElem?_set_ne hne]
      exact hn q (List.mem_cons_of_mem _ hq)) pr e2
    refine ⟨L', ?_, q2⟩
    rw [q1, er_set]
    rfl
end
/-- what a call that hands slots back asks of its reading -/
theorem call_core {K : PySem.W.Frag} {mg : Str → Option Value} {W : WW} {n : Nat} {io : List Bool} {F : List LD → FR} {as : List AE} {σ : L2.St} {H : Hp} {Q : VK} {r : List V → Hp → VK → Prop} {E : XK} (hr : ∀ vs H Q, spF K mg n io F vs H Q E → r vs H Q) (hE : ∀ c H', W c σ H' → E (xc mg c) none H')
    (hio : io = mkA as) (hn : as.length = n) (h : tDE K W (eCall F as) σ H Q) : tArgs (as.map (teA K W)) r σ H Q := by
  obtain ⟨Z, L, M, R, q⟩ := h
  refine aparts (r := r) (M := M) as [] [] H L R.args0 (fun _ h => (nomatch h)) ?_
  unfold eCall at q
  cases ev : evA as (er L) with
  | bad => rw [ev] at q; exact q
  | exc c Γ' => rw [ev] at q; exact q
  | ok xs Γ' =>
    rw [ev] at q
    intro Bs vs H1 L1 e1 eB R1 z1 vf
    simp only [List.nil_append] at R1 z1 ⊢
    dsimp only at q
    unfold eCallR at q
    cases et : tkA as xs Γ' with
    | none => rw [et] at q; exact q.elim
    | some r0 =>
      obtain ⟨ys, ps, Γ1⟩ := r0
      rw [et] at q
      dsimp only at q
      obtain ⟨Cs, L2', q1, q2, q3, q4, q5, q6, q7, q8, q9, q10⟩ := take_all as Bs vs L1 [] ys ps Γ1 vf (by simpa using R1) (by simpa using z1) (by rw [eB, e1]; exact et)
      simp only [List.nil_append] at q4 q5
      refine hr vs H1 Q ⟨Cs, q3.symm, by rw [q6, hn], q4.argsOk, ?_⟩
      rw [q2]
      have plen : ∀ {Fs : List Sl}, Fs.map Sl.v = msk io (Cs.map Sl.v) → Paired (fun (p : Nat × Nat) v => σ[p.1]? = some (some v) ∧ (10 ≤ p.2 → v = Z.pv p.1) ∧ p.2 % 10 = 0) ps (Fs.map Sl.v) := fun {Fs} e => by rw [e, hio, q3]; exact q10
      cases ef : F ys with
      | bad => rw [ef] at q; exact q
      | exc c fin =>
        rw [ef] at q
        dsimp only at q ⊢
        intro Fs H' eF eV fr ok fm
        by_cases hl : fin.length = ps.length
        · rw [if_pos hl] at q
          have R5 := q4.callA fr ok fm
          have z5 := From.zone q4 q5 fm
          obtain ⟨L', g1, g2⟩ := put_all ps Fs L2' _ R5 z5 q7 (fun p hp => (q9 p hp).2) (plen eV) rfl
          exact hE c H' (q H' L' (by rw [g1, eF, q1]) g2)
        · rw [if_neg hl] at q; exact q.elim
      | ret x fin =>
        obtain ⟨l, d⟩ := x
        rw [ef] at q
        dsimp only at q ⊢
        intro v ns Fs H' eF eV fr ok fm
        by_cases hl : fin.length = ps.length
        · rw [if_pos hl] at q
          have R5 := ((q4.callA fr ok fm).splitA).swap
          have z5 := From.zone q4 q5 fm
          obtain ⟨L', g1, g2⟩ := put_all ps Fs L2' _ R5 (fun t ht => z5 t (List.mem_cons_of_mem _ ht)) q7 (fun p hp => (q9 p hp).2) (plen eV) rfl
          exact q v ns H' L' (by rw [g1, eF, q1]) g2 (z5 _ (List.mem_cons_self ..))
        · rw [if_neg hl] at q; exact q.elim
/-- arguments of a written list, slots among them -/
inductive AArgL (X : Cx) (W : WW) : List Expr → List AE → Prop
  | nil : AArgL X W [] []
  | slot {e : Expr} {es : List Expr} {i : Nat} {as : List AE} : PE X e (tVar i) → AArgL X W es as → starEach (e :: es) X.env = (false, eval e X.env) :: starEach es X.env → AArgL X W (e :: es) (.inl i :: as)
  | ex {e : Expr} {es : List Expr} {f : EF} {as : List AE} : DE X W e f → AArgL X W es as → starEach (e :: es) X.env = (false, eval e X.env) :: starEach es X.env → AArgL X W (e :: es) (.inr f :: as)
section
variable {X : Cx} {W : WW}
theorem AArgL.pa {es : List Expr} {as : List AE} (h : AArgL X W es as) : PA X es (tAl (as.map (teA X.K W))) := by
  induction h with
  | nil => exact pa_nil
  | slot h _ hs ih => exact pa_cons h ih hs
  | ex h _ hs ih => exact pa_cons h ih hs
theorem monoA (as : List AE) : ∀ t ∈ as.map (teA X.K W), ∀ σ H Q Q', (∀ v H', Q v H' → Q' v H') → t σ H Q → t σ H Q' := fun t ht σ H Q Q' i h => by
  obtain ⟨p, _, rfl⟩ := List.mem_map.mp ht
  cases p with
  | inl j =>
    obtain ⟨v, e, q⟩ := h
    exact ⟨v, e, i v H q⟩
  | inr f => exact tDE_mono h i
theorem e_call {f : Addr} {fd : FuncData} {ps : List Str} {k n : Nat} {io : List Bool} {F : List LD → FR} {x : Str} {p pos : Pos} {e : Expr} {es : List Expr} {as : List AE} (tk : Takes X (wx X W)) (G : FnOk X.prog X.w X.K X.mg X.base (L2.CX X.prog X.w) k f fd ps (spF X.K X.mg n io F)) (hr : Room k X.A)
    (hg : Gl X x) (hm : X.mg x = some (.ref f)) (hk : PySem.W.keepIn X.K (.ref f) = true) (hb : Binds X.K fd ps []) (hio : io = mkA as) (hn : as.length = n) (h : AArgL X W (e :: es) as)
    (hdb : (x == ("__debug__" : Str)) = false := by decide) (he : starEach (e :: es) X.env = (false, eval e X.env) :: starEach es X.env := by rfl) (hpl : (backTo pos (starEach es X.env)).any (·.1) = false := by rfl) :
    DE X W (.Call (.Name x p) (e :: es) [] pos) (eCall F as) := by
  refine PE.imp (pe_callS G hr hg hm hk hb (fun σ => passAt tk σ) h.pa hdb he hpl) fun σ H Q q => ?_
  exact tAl_args (r := fun vs H Q => spF X.K X.mg n io F vs H Q (WE (wx X W) σ)) _ _ (fun _ _ h => h) (monoA as) (call_core (fun _ _ _ h => h) (fun c H' w => ⟨c, rfl, rfl, w⟩) hio hn q)
end
end DL

/-! DL8: statements, loops, the body of a def -/
namespace DL
open L2 PySem PySem.Spec PyProof.Rows

/-- what a statement gives -/
inductive O where
  | nx (Γ : Env)
  | rt (x : LD) (Γ : Env)
  | bk (Γ : Env)
  | ct (Γ : Env)
  | exc (c : String) (Γ : Env)
  | bad
abbrev SF := Env → O
/-- what is wanted of what a statement gives -/
def oW (K : PySem.W.Frag) (W : WW) (Z : Zone) (M : List Tm) (D : Ends) : O → Prop
  | .nx Γ' => ∀ σ' H' L', er L' = Γ' → Rel K Z σ' H' L' M → D.nx σ' H'
  | .rt (l, d) Γ' => ∀ v ns σ' H' L', er L' = Γ' → Rel K Z σ' H' L' (Sl.tm K ⟨l, d, v, ns⟩ :: M) → (∀ a ∈ ns, Z a) → D.rt v H'
  | .bk Γ' => ∀ σ' H' L', er L' = Γ' → Rel K Z σ' H' L' M → D.bk σ' H'
  | .ct Γ' => ∀ σ' H' L', er L' = Γ' → Rel K Z σ' H' L' M → D.ct σ' H'
  | .exc c Γ' => ∀ σ' H' L', er L' = Γ' → Rel K Z σ' H' L' M → W c σ' H'
  | .bad => False
def tDS (K : PySem.W.Frag) (W : WW) (f : SF) : TS := fun D σ H => ∃ Z L M, Rel K Z σ H L M ∧ oW K W Z M D (f (er L))
def DS (X : Cx) (W : WW) (st : Stmt) (f : SF) : Prop := PS X st (tDS X.K W f)
def DSs (X : Cx) (W : WW) (st : List Stmt) (f : SF) : Prop := PSs X st (tDS X.K W f)
def sSeq (f g : SF) : SF := fun Γ => match f Γ with
  | .nx Γ' => g Γ'
  | o => o
def sNil : SF := fun Γ => .nx Γ
def sBrk : SF := fun Γ => .bk Γ
def sCnt : SF := fun Γ => .ct Γ
def sRet (f : EF) : SF := fun Γ => match f Γ with
  | .ok x Γ' => .rt x Γ'
  | .exc c Γ' => .exc c Γ'
  | .bad => .bad
def sRetN : SF := fun Γ => .rt (2, .non) Γ
def sExpr (f : EF) : SF := fun Γ => match f Γ with
  | .ok _ Γ' => .nx Γ'
  | .exc c Γ' => .exc c Γ'
  | .bad => .bad
def sIf (t : EB) (f g : SF) : SF := fun Γ => match t Γ with
  | .ok true Γ' => f Γ'
  | .ok false Γ' => g Γ'
  | .exc c Γ' => .exc c Γ'
  | .bad => .bad
def sRaise (c : String) : SF := fun Γ => .exc c Γ
section
variable {X : Cx} {W : WW} {st : Stmt} {sts a b : List Stmt} {e c : Expr} {f g : SF} {h : EF} {pos : Pos}
theorem ss_nil : DSs X W [] sNil := PSs.imp pss_nil fun D σ H ⟨Z, L, M, R, q⟩ => q σ H L rfl R
theorem ss_one (h : DS X W st f) : DSs X W [st] f := pss_one h
theorem ss_cons (h : DS X W st f) (k : DSs X W sts g) : DSs X W (st :: sts) (sSeq f g) := by
  refine PSs.imp (pss_cons h k) fun D σ H ⟨Z, L, M, R, q⟩ => ⟨Z, L, M, R, ?_⟩
  unfold sSeq at q
  cases ef : f (er L) with
  | nx Γ' =>
    rw [ef] at q
    intro σ' H' L' e R'
    exact ⟨Z, L', M, R', by rw [e]; exact q⟩
  | rt x Γ' => rw [ef] at q; exact q
  | bk Γ' => rw [ef] at q; exact q
  | ct Γ' => rw [ef] at q; exact q
  | exc c Γ' => rw [ef] at q; exact q
  | bad => rw [ef] at q; exact q
theorem s_pass : DS X W (.Pass pos) sNil := PS.imp ps_pass fun D σ H ⟨Z, L, M, R, q⟩ => q σ H L rfl R
theorem s_break : DS X W (.Break pos) sBrk := PS.imp ps_break fun D σ H ⟨Z, L, M, R, q⟩ => q σ H L rfl R
theorem s_cont : DS X W (.Continue pos) sCnt := PS.imp ps_continue fun D σ H ⟨Z, L, M, R, q⟩ => q σ H L rfl R
theorem s_ret (he : DE X W e h) : DS X W (.Return (some e) pos) (sRet h) := by
  refine PS.imp (ps_ret he) fun D σ H ⟨Z, L, M, R, q⟩ => ⟨Z, L, M, R, ?_⟩
  unfold sRet at q
  cases ef : h (er L) with
  | bad => rw [ef] at q; exact q
  | exc c Γ' => rw [ef] at q; exact fun H' L' e R' => q σ H' L' e R'
  | ok x Γ' => rw [ef] at q; exact fun v ns H' L' e R' z => q v ns σ H' L' e R' z
theorem s_retN : DS X W (.Return none pos) sRetN := by
  refine PS.imp ps_retN fun D σ H ⟨Z, L, M, R, q⟩ => ?_
  exact q .non [] σ H L rfl (R.push (m := (Sl.mk 2 .non .non []).tm X.K) .non (Sl.stab _ _) (fun a h => by simp [Sl.tm, Sl.own, Sl.rst, ownL, rstL] at h) (fun a => by simp [Sl.tm, Sl.own, Sl.rst, ownL, rstL]) (fun a h => by simp [Sl.tm, Sl.own, ownL] at h) fun a h => by simp [Sl.tm, Sl.rst, rstL] at h) fun _ h => nomatch h
theorem s_expr (he : DE X W e h) (hs : swapsWith e none pos.line X.env = pure false := by rfl) : DS X W (.Expr e pos) (sExpr h) := by
  refine PS.imp (ps_expr he hs) fun D σ H ⟨Z, L, M, R, q⟩ => ⟨Z, L, M, R, ?_⟩
  unfold sExpr at q
  cases ef : h (er L) with
  | bad => rw [ef] at q; exact q
  | exc c Γ' => rw [ef] at q; exact fun H' L' e R' => q σ H' L' e R'
  | ok x Γ' => rw [ef] at q; exact fun v ns H' L' e R' z => q σ H' L' e R'.pop
theorem s_doc {x j pos'} : DS X W (.Expr (.Constant (.str x) j pos) pos') sNil := PS.imp ps_doc fun D σ H ⟨Z, L, M, R, q⟩ => q σ H L rfl R
theorem s_if {t : EB} (hc : DT X W c t) (ha : DSs X W a f) (hb : DSs X W b g) : DS X W (.If c a b pos) (sIf t f g) := by
  refine PS.imp (ps_if hc ha hb) fun D σ H ⟨Z, L, M, R, q⟩ => ⟨Z, L, M, R, ?_⟩
  unfold sIf at q
  cases ef : t (er L) with
  | bad => rw [ef] at q; exact q
  | exc c Γ' => rw [ef] at q; exact fun H' L' e R' => q σ H' L' e R'
  | ok k Γ' =>
    rw [ef] at q
    intro H' L' e R'
    cases k with
    | true => exact iteT ⟨Z, L', M, R', by rw [e]; exact q⟩
    | false => exact iteF ⟨Z, L', M, R', by rw [e]; exact q⟩
/-- code that is never come to -/
theorem s_never : DS X W st (fun _ => .bad) := PS.imp ps_never fun D σ H ⟨Z, L, M, R, q⟩ => q.elim
theorem s_raise {C : Addr} {x m : Str} {c : String} {j : Nat} {p p2 pos2 : Pos} (hc : X.calm = true) (tk : Takes X (wx X W)) (hx : x = Str.ofString c) (q : PySem.W.excIn X.K C [.type "ValueError", .type "Exception", .type "BaseException", .type "object"] "ValueError.__new__" = true)
    (gC : X.mg x = some (.ref C)) (kC : PySem.W.keepIn X.K (.ref C) = true) (r : Raises X (.ref C)) (hg : Gl X x) (hdb : (x == ("__debug__" : Str)) = false := by decide) :
    DS X W (.Raise (some (.Call (.Name x p) [.Constant (.str m) j p2] [] pos2)) none pos) (sRaise c) := by
  refine PS.imp (ps_raise hc tk (pmk_own PySem.F.excBase_ValueError q gC kC r hg hdb)) fun D σ H ⟨Z, L, M, R, q⟩ => ?_
  subst hx
  refine ⟨c, ?_, rfl, q σ H L rfl R⟩
  unfold xc
  rw [gC]; rfl
end

/-! ### targets -/
abbrev BF := LD → Env → Option Env
/-- a target over data: s the value that comes -/
def But (js : List Nat) (σ σ' : L2.St) (L L' : List (Option Sl)) : Prop := σ'.length = σ.length ∧ ∀ k, k ∉ js → σ'[k]? = σ[k]? ∧ L'[k]? = L[k]?
theorem But.trans {js : List Nat} {σ σ1 σ2 : L2.St} {L L1 L2 : List (Option Sl)} (a : But js σ σ1 L L1) (b : But js σ1 σ2 L1 L2) : But js σ σ2 L L2 := ⟨b.1.trans a.1, fun k h => ⟨(b.2 k h).1.trans (a.2 k h).1, (b.2 k h).2.trans (a.2 k h).2⟩⟩
def TgOk (K : PySem.W.Frag) (js : List Nat) (g : TG) (bd : BF) : Prop := ∀ (Z : Zone) (s : Sl) (σ : L2.St) (H : Hp) (L : List (Option Sl)) (M : List Tm) (Γ' : Env) (Q : L2.St → Hp → Prop), Rel K Z σ H L (s.tm K :: M) → (∀ a ∈ s.ns, Z a) → bd (s.l, s.d) (er L) = some Γ' →
  (∀ σ' L', er L' = Γ' → Rel K Z σ' H L' M → But js σ σ' L L' → Q σ' H) → g s.v σ H Q
def bName (i : Nat) : BF := fun x Γ => if i < Γ.length then some (Γ.set i (some (x.1 % 10, x.2))) else none
theorem tg_name {K : PySem.W.Frag} {i : Nat} : TgOk K [i] (gName i) (bName i) := by
  intro Z s σ H L M Γ' Q R hz hb k
  unfold bName at hb
  split at hb
  · rename_i hi
    cases hb
    rw [er_length] at hi
    have e : s.tm K = s.un.tm K := tm_lvl (by simp [Sl.un]) rfl rfl rfl
    rw [e] at R
    exact k _ _ (by rw [er_set]; rfl) (R.store hi hz (by simp [Sl.un]; omega)) ⟨by simp, fun j hj => ⟨by rw [List.getElem?_set_ne (fun e => hj (List.mem_singleton.mpr e.symm))], by rw [List.getElem?_set_ne (fun e => hj (List.mem_singleton.mpr e.symm))]⟩⟩
  · cases hb
/-- names one behind the other -/
def gNs : List Nat → TGs
  | [] => gNil
  | i :: is => gCons (gName i) (gNs is)
def bNs : List Nat → List LD → Env → Option Env
  | [], [], Γ => some Γ
  | i :: is, x :: xs, Γ => (bName i x Γ).bind (bNs is xs)
  | _, _, _ => none
section
variable {K : PySem.W.Frag} {Z : Zone} {σ : L2.St} {H : Hp} {L : List (Option Sl)} {M : List Tm}
theorem Rel.one {s : Sl} (R : Rel K Z σ H L (s.tm K :: M)) : Rel K Z σ H L (tmA K [s] :: M) := by
  have h := R.args0
  exact h.swap.joinA
theorem Fram.refl {As : List Sl} : Fram As H H := ⟨fun _ _ h _ => h, fun _ h => h⟩
/-- the parts of a thing -/
theorem parts_of (l : Nat) (hl : l = 0 ∨ l = 2) : ∀ {vs : List V} {ds : List D} {ns : List Addr}, Rds K H vs ds ns → ∃ ts : List Sl, ts.map Sl.v = vs ∧ ts.map Sl.ld = ds.map (fun d => (l, d)) ∧ (∀ t ∈ ts, Rd K H t.v t.d t.ns) ∧ (∀ t ∈ ts, ∀ a ∈ t.ns, a ∈ ns) ∧ ∀ a, oL ts a = (if l = 2 then ns.count a else 0) ∧ rL ts a = (if l = 2 then 0 else ns.count a)
  | _, _, _, .nil => ⟨[], rfl, rfl, fun _ h => (nomatch h), fun _ h => (nomatch h), fun a => by simp [oL, rL]⟩
  | _, _, _, .cons (v := v) (d := d) (n := n) (ns := ns) h r => by
    obtain ⟨ts, h1, h2, h3, h4, h5⟩ := parts_of l hl r
    refine ⟨⟨l, d, v, n⟩ :: ts, by simp [h1], by simp [h2, Sl.ld], fun t ht => ?_, fun t ht a ha => ?_, fun a => ?_⟩
    · rcases List.mem_cons.mp ht with rfl | ht
      · exact h
      · exact h3 t ht
    · rcases List.mem_cons.mp ht with rfl | ht
      · exact List.mem_append_left _ ha
      · exact List.mem_append_right _ (h4 t ht a ha)
    · obtain ⟨q1, q2⟩ := h5 a
      rcases hl with rfl | rfl
      · simp only [oL, rL, q1, q2, Sl.own, Sl.rst, ownL, rstL, List.count_append]
        simp
      · simp only [oL, rL, q1, q2, Sl.own, Sl.rst, ownL, rstL, List.count_append]
        simp
/-- a thing comes apart -/
theorem Rel.apart {s : Sl} {vs : List V} {ds : List D} {ns : List Addr} (R : Rel K Z σ H L (s.tm K :: M)) (hz : ∀ a ∈ s.ns, Z a) (r : Rds K H vs ds ns) (hc : ∀ a, ns.count a ≤ s.ns.count a) :
    ∃ ts : List Sl, ts.map Sl.v = vs ∧ ts.map Sl.ld = ds.map (fun d => (if 2 ≤ s.l % 10 then 2 else 0, d)) ∧ Rel K Z σ H L (tmA K ts :: M) ∧ ∀ t ∈ ts, ∀ a ∈ t.ns, Z a := by
  obtain ⟨ts, h1, h2, h3, h4, h5⟩ := parts_of (if 2 ≤ s.l % 10 then 2 else 0) (by split <;> simp) r
  have R1 := R.one
  have ok := R1.argsOk
  have e1 : ∀ a, oL [s] a = s.own a := fun a => by simp [oL]
  have e2 : ∀ a, rL [s] a = s.rst a := fun a => by simp [rL]
  have key : ∀ a, oL ts a ≤ s.own a ∧ oL ts a + rL ts a ≤ s.own a + s.rst a := fun a => by
    obtain ⟨q1, q2⟩ := h5 a
    have := hc a
    have t := s.tot a
    by_cases c : 2 ≤ s.l % 10
    · have z : s.rst a = 0 := rst_top (d := s.d) (v := s.v) (ns := s.ns) c a
      simp only [c, if_true] at q1 q2
      omega
    · simp only [c, if_false] at q1 q2
      have h0 : ¬ (0 : Nat) = 2 := by decide
      simp only [h0, if_false] at q1 q2
      omega
  refine ⟨ts, h1, h2, R1.callA Fram.refl ⟨h3, fun a => ?_, fun a ha => ok.wr a ?_⟩ (fun a => ?_), fun t ht a ha => ?_⟩
  · have := key a
    have := ok.sep a
    rw [e1, e2] at this
    obtain ⟨q1, q2⟩ := h5 a
    by_cases c : 2 ≤ s.l % 10
    · simp only [c, if_true] at q1 q2
      omega
    · simp only [c, if_false] at q1 q2
      have h0 : ¬ (0 : Nat) = 2 := by decide
      simp only [h0, if_false] at q1 q2
      omega
  · have := key a
    rw [e1]
    omega
  · have := key a
    rw [e1, e2]
    exact ⟨fun h => .inr (by omega), fun h => .inr (by omega)⟩
  · have := h4 t ht a ha
    have c := hc a
    have : 0 < ns.count a := List.count_pos_iff.mpr this
    exact hz a (List.count_pos_iff.mp (by omega))
theorem tg_names : ∀ (is : List Nat) (ts : List Sl) (σ : L2.St) (L : List (Option Sl)) (Γ' : Env) (Q : L2.St → Hp → Prop), Rel K Z σ H L (tmA K ts :: M) → (∀ t ∈ ts, ∀ a ∈ t.ns, Z a) → bNs is (ts.map Sl.ld) (er L) = some Γ' →
    (∀ σ' L', er L' = Γ' → Rel K Z σ' H L' M → But is σ σ' L L' → Q σ' H) → gNs is (ts.map Sl.v) σ H Q
  | [], [], σ, L, Γ', Q, R, hz, hb, k => ⟨rfl, k σ L (by cases hb; rfl) R.pop ⟨rfl, fun _ _ => ⟨rfl, rfl⟩⟩⟩
  | [], _ :: _, _, _, _, _, _, _, hb, _ => by simp [bNs] at hb
  | _ :: _, [], _, _, _, _, _, _, hb, _ => by simp [bNs] at hb
  | i :: is, t :: ts, σ, L, Γ', Q, R, hz, hb, k => by
    simp only [bNs, List.map_cons] at hb
    obtain ⟨Γ1, h1, h2⟩ := Option.bind_eq_some_iff.mp hb
    refine ⟨t.v, ts.map Sl.v, rfl, ?_⟩
    exact tg_name Z t σ H L (tmA K ts :: M) Γ1 _ R.splitA (hz t (List.mem_cons_self ..)) h1 fun σ' L' e R' b1 => tg_names is ts σ' L' Γ' Q R' (fun u hu => hz u (List.mem_cons_of_mem _ hu)) (by rw [e]; exact h2) fun σ2 L2 e2 R2 b2 => k σ2 L2 e2 R2 (But.trans (js := i :: is) ⟨b1.1, fun j hj => b1.2 j fun z => hj (by rw [List.mem_singleton.mp z]; exact List.mem_cons_self ..)⟩ ⟨b2.1, fun j hj => b2.2 j fun z => hj (List.mem_cons_of_mem _ z)⟩)
end
def bUn (is : List Nat) : BF := fun x Γ => match x with
  | (l, .tup ds) => bNs is (ds.map fun d => (if 2 ≤ l % 10 then 2 else 0, d)) Γ
  | (l, .lst ds) => bNs is (ds.map fun d => (if 2 ≤ l % 10 then 2 else 0, d)) Γ
  | _ => none
def gUn (K : PySem.W.Frag) (n : Nat) (t : TGs) : TG := fun v σ H Q => gTup K n t v σ H Q ∨ gLst K n t v σ H Q
theorem pg_un {X : Cx} {es : List Expr} {k : Nat} {t : TGs} {n : Nat} {pos : Pos} (hc : X.calm = true) (h : PGs X es t) (hn : (assignEach es X.env).length = n := by rfl) (hst : (assignEach es X.env).findIdx? (·.1) = none := by rfl) : PG X (.Tuple es k pos) (gUn X.K n t) := by
  refine ⟨fun pins s σ H v u Q I r h0 => ?_⟩
  rcases h0 with h0 | h0
  · exact (pg_tup hc h hn hst).run pins s σ H v u Q I r h0
  · exact (pg_lst hc h hn hst).run pins s σ H v u Q I r h0
theorem bNs_len {is : List Nat} {xs : List LD} {Γ Γ' : Env} (h : bNs is xs Γ = some Γ') : xs.length = is.length := by
  induction is generalizing xs Γ with
  | nil => cases xs with
    | nil => rfl
    | cons x xs => simp [bNs] at h
  | cons i is ih => cases xs with
    | nil => simp [bNs] at h
    | cons x xs =>
      simp only [bNs] at h
      obtain ⟨Γ1, h1, h2⟩ := Option.bind_eq_some_iff.mp h
      simp [ih h2]
theorem tg_un {K : PySem.W.Frag} {is : List Nat} {n : Nat} (hn : is.length = n) : TgOk K is (gUn K n (gNs is)) (bUn is) := by
  intro Z s σ H L M Γ' Q R hz hb k
  obtain ⟨l, d, v, ns⟩ := s
  dsimp only at *
  have rd := (R.tms _ (List.mem_cons_self ..)).1
  unfold bUn at hb
  split at hb
  · rename_i l0 ds e
    cases e
    cases rd with
    | tup h r =>
      obtain ⟨ts, h1, h2, R1, z1⟩ := R.apart hz r (fun a => Nat.le_refl _)
      refine .inl ⟨_, _, rfl, h, ?_, ?_⟩
      · rw [r.length, ← hn, ← bNs_len hb, List.length_map]
      · rw [← h1]
        exact tg_names is ts σ L Γ' Q R1 z1 (by rw [h2]; exact hb) k
  · rename_i l0 ds e
    cases e
    cases rd with
    | lst h r =>
      obtain ⟨ts, h1, h2, R1, z1⟩ := R.apart hz r (fun a => by show _ ≤ (_ :: _ : List Addr).count a; rw [List.count_cons]; omega)
      refine .inr ⟨_, _, rfl, .of h, ?_, ?_⟩
      · rw [r.length, ← hn, ← bNs_len hb, List.length_map]
      · rw [← h1]
        exact tg_names is ts σ L Γ' Q R1 z1 (by rw [h2]; exact hb) k
  · cases hb
def sAsg (f : EF) (bd : BF) : SF := fun Γ => match f Γ with
  | .ok x Γ' => (match bd x Γ' with
    | some Γ2 => .nx Γ2
    | none => .bad)
  | .exc c Γ' => .exc c Γ'
  | .bad => .bad
theorem asg_core {K : PySem.W.Frag} {W : WW} {f : EF} {js : List Nat} {bd : BF} {g : TG} (hg : TgOk K js g bd) {D : Ends} {σ : L2.St} {H : Hp} (h : tDS K W (sAsg f bd) D σ H) : tAsg (tDE K W f) g D σ H := by
  obtain ⟨Z, L, M, R, q⟩ := h
  refine ⟨Z, L, M, R, ?_⟩
  unfold sAsg at q
  cases ef : f (er L) with
  | bad => rw [ef] at q; exact q
  | exc c Γ' => rw [ef] at q; exact fun H' L' e R' => q σ H' L' e R'
  | ok x Γ' =>
    obtain ⟨l, d⟩ := x
    rw [ef] at q
    dsimp only at q ⊢
    intro v ns H' L' e R' z
    cases eb : bd (l, d) Γ' with
    | none => rw [eb] at q; exact q.elim
    | some Γ2 =>
      rw [eb] at q
      exact hg Z ⟨l, d, v, ns⟩ σ H' L' M Γ2 D.nx R' z (by rw [e]; exact eb) fun σ2 L2 e2 R2 _ => q σ2 H' L2 e2 R2
section
variable {X : Cx} {W : WW} {e : Expr} {h : EF} {pos pos' : Pos}
theorem s_set {i : Nat} {x : Str} (hN : X.N.Nodup) (hi : X.N[i]? = some x) (hx : Loc X.env.scope x) (he : DE X W e h) (hs : swapsWith e (some (.Name x pos')) pos.line X.env = pure false := by rfl) (hf : X.fn x = true ∨ X.env.scope.names.lookup x = some .local := by first | exact .inl rfl | exact .inr rfl | assumption) :
    DS X W (.Assign [.Name x pos'] e pos) (sAsg h (bName i)) :=
  PS.imp (ps_set hN hi hx he hs hf) fun D σ H q => asg_core tg_name q
theorem s_un {es : List Expr} {k : Nat} {is : List Nat} {n : Nat} {pos2 : Pos} (hc : X.calm = true) (hl : is.length = n) (he : DE X W e h) (hg : PGs X es (gNs is)) (hn : (assignEach es X.env).length = n := by rfl) (hst : (assignEach es X.env).findIdx? (·.1) = none := by rfl)
    (hs : swapsWithSole [.Tuple es k pos2] e pos.line X.env = pure false := by rfl) (hw : swappedStores [.Tuple es k pos2] e X.env = pure none := by rfl) (h1 : (assignEach [.Tuple es k pos2] X.env).map (·.2) = [assign (.Tuple es k pos2) X.env] := by rfl) :
    DS X W (.Assign [.Tuple es k pos2] e pos) (sAsg h (bUn is)) :=
  PS.imp (ps_asg he (pg_un hc hg hn hst) hs hw h1) fun D σ H q => asg_core (tg_un hl) q
end
/-- name op= e, of ints -/
def sAug (i : Nat) (c : Int → Int → Bool) (f : Int → Int → Int) (h : EF) : SF := fun Γ => match Γ[i]? with
  | some (some (_, .int a)) => (match h Γ with
    | .ok (_, .int b) Γ' => if c a b && decide (i < Γ'.length) then .nx (Γ'.set i (some (2, .int (f a b)))) else .bad
    | .exc x Γ' => .exc x Γ'
    | _ => .bad)
  | _ => .bad
theorem int_tm {K : PySem.W.Frag} {Z : Zone} {σ : L2.St} {H : Hp} {L : List (Option Sl)} {M : List Tm} (R : Rel K Z σ H L M) (i : Int) : Rel K Z σ H L ((Sl.mk 2 (.int i) (.int i) []).tm K :: M) :=
  R.push (m := (Sl.mk 2 (.int i) (.int i) []).tm K) (.int i) (Sl.stab _ _) (fun a h => by simp [Sl.tm, Sl.own, Sl.rst, ownL, rstL] at h) (fun a => by simp [Sl.tm, Sl.own, Sl.rst, ownL, rstL]) (fun a h => by simp [Sl.tm, Sl.own, ownL] at h) fun a h => by simp [Sl.tm, Sl.rst, rstL] at h
theorem s_aug {X : Cx} {W : WW} {i : Nat} {x : Str} {e : Expr} {h : EF} {op : Operator} {C : Int → Int → Prop} {c : Int → Int → Bool} {f : Int → Int → Int} {pos pos' : Pos} (hN : X.N.Nodup) (hi : X.N[i]? = some x) (hx : Loc X.env.scope x) (he : DE X W e h) (ho : OpR X (inplaceOp op) (rI C fun i j => .int (f i j))) (hC : ∀ a b, c a b = true → C a b)
    (hf : X.fn x = true ∨ X.env.scope.names.lookup x = some .local := by first | exact .inl rfl | exact .inr rfl | assumption) : DS X W (.AugAssign (.Name x pos') op e pos) (sAug i c f h) := by
  refine PS.imp (ps_aug hN hi hx he ho hf) fun D σ H ⟨Z, L, M, R, q⟩ => ?_
  unfold sAug at q
  cases el : (er L)[i]? with
  | none => rw [el] at q; exact q.elim
  | some o =>
    cases o with
    | none => rw [el] at q; exact q.elim
    | some x =>
      obtain ⟨l, d⟩ := x
      rw [el] at q
      obtain ⟨s, h1, e1, e2⟩ := er_some el
      obtain ⟨h2, h3, h4⟩ := R.slot i s h1
      cases d with
      | int a0 =>
        dsimp only at q
        rw [e2] at h3
        refine ⟨_, h2, Z, L, M, R, ?_⟩
        cases ef : h (er L) with
        | bad => rw [ef] at q; exact q
        | exc c Γ' => rw [ef] at q; exact fun H' L' e R' => q σ H' L' e R'
        | ok x Γ' =>
          obtain ⟨l2, d2⟩ := x
          rw [ef] at q
          cases d2 with
          | int b0 =>
            dsimp only at q ⊢
            intro v ns H' L' e R' z
            have rv := (R'.tms _ (List.mem_cons_self ..)).1
            by_cases hc : (c a0 b0 && decide (i < Γ'.length)) = true
            · rw [if_pos hc] at q
              rw [Bool.and_eq_true, decide_eq_true_eq] at hc
              refine ⟨a0, b0, (rd_int h3).1, (rd_int rv).1, hC _ _ hc.1, ?_⟩
              have hl : i < L'.length := by rw [← er_length, e]; exact hc.2
              exact q _ H' _ (by rw [er_set, e]; rfl) ((int_tm R'.pop (f a0 b0)).store hl (fun _ h => nomatch h) (by show 2 < 10; decide))
            · rw [if_neg hc] at q
              exact q.elim
          | _ => exact q.elim
      | _ => exact q.elim

/-! ### loops -/
/-- what is walked, as data: m what is kept at each turn -/
structure WalkD (K : PySem.W.Frag) (Z : Zone) (J : It) (xs : List LD) (m : Nat → Tm) : Prop where
  goes : ∀ i H, i < xs.length → (m i).P H → J.go i H
  stops : ∀ H, (m xs.length).P H → J.stop xs.length H
  stab : ∀ i, (m i).Stab K
  step : ∀ i x H v H', xs[i]? = some x → (m i).P H → J.yld i H v H' → Same H H' ∧ ∃ ns, Rd K H' v x.2 ns ∧ (∀ a ∈ ns, Z a) ∧ (m (i + 1)).P H' ∧ (∀ a, 0 < (m (i + 1)).own a + (m (i + 1)).rst a → H' a ≠ none) ∧
    ∀ a, (Sl.mk x.1 x.2 v ns).own a + (m (i + 1)).own a ≤ (m i).own a ∧ (0 < (Sl.mk x.1 x.2 v ns).rst a + (m (i + 1)).rst a → 0 < (m i).own a + (m i).rst a) ∧
      (0 < (Sl.mk x.1 x.2 v ns).own a + (m (i + 1)).own a → (Sl.mk x.1 x.2 v ns).rst a + (m (i + 1)).rst a = 0)
abbrev IF' := Env → R (List LD)
/-- an iterable over data -/
def DI (X : Cx) (W : WW) (tg iter : Expr) (src : IF') : Prop := ∃ wi, PI X tg iter wi ∧ ∀ σ H R, (∃ Z L M, Rel X.K Z σ H L M ∧ match src (er L) with
    | .ok xs Γ' => ∀ H' L' J m, er L' = Γ' → Rel X.K Z σ H' L' (m 0 :: M) → WalkD X.K Z J xs m → R J H'
    | .exc c Γ' => ∀ H' L', er L' = Γ' → Rel X.K Z σ H' L' M → W c σ H'
    | .bad => False) → wi σ H R
def forL (bd : BF) (body : SF) : List LD → Env → O
  | [], Γ => .nx Γ
  | x :: xs, Γ => match bd x Γ with
    | none => .bad
    | some Γ1 => match body Γ1 with
      | .nx Γ2 => forL bd body xs Γ2
      | .ct Γ2 => forL bd body xs Γ2
      | .bk Γ2 => .nx Γ2
      | o => o
def sFor (src : IF') (bd : BF) (body : SF) : SF := fun Γ => match src Γ with
  | .ok xs Γ' => forL bd body xs Γ'
  | .exc c Γ' => .exc c Γ'
  | .bad => .bad
section
variable {K : PySem.W.Frag} {Z : Zone} {σ : L2.St} {H H' : Hp} {L : List (Option Sl)} {M : List Tm}
theorem Rel.turn {s : Sl} {m m' : Tm} (R : Rel K Z σ H L (m :: M)) (sm : Same H H') (rd : Rd K H' s.v s.d s.ns) (hP : m'.P H') (hS : m'.Stab K) (hd : ∀ a, 0 < m'.own a + m'.rst a → H' a ≠ none)
    (hc : ∀ a, s.own a + m'.own a ≤ m.own a ∧ (0 < s.rst a + m'.rst a → 0 < m.own a + m.rst a) ∧ (0 < s.own a + m'.own a → s.rst a + m'.rst a = 0)) : Rel K Z σ H' L (s.tm K :: m' :: M) := by
  have R0 := R.pop.same sm
  have sp : ∀ a, oS L a + (m.own a + oM M a) ≤ 1 ∧ (0 < oS L a + (m.own a + oM M a) → rS L a + (m.rst a + rM M a) = 0) := fun a => R.sep a
  have w : ∀ a, 0 < m.own a → Mut (H' a) := fun a ha => by
    have := R.wr a (by simp only [oM]; omega)
    cases e : H a with
    | none => rw [e] at this; exact this.elim
    | some o => rw [e] at this; rw [sm a o e]; exact this
  have R1 : Rel K Z σ H' L (m' :: M) := R0.push hP hS hd (fun a => ⟨by have := hc a; have := sp a; omega, fun h => by have := (hc a).2.2 (by omega); omega⟩) (fun a ha => ⟨w a (by have := hc a; omega), by have := hc a; have := sp a; omega⟩) fun a ha => by
    have := (hc a).2.1 (by omega)
    have := sp a
    omega
  refine R1.push rd (s.stab K) (fun a ha => rd.dom _ _ _ a ((s.mem a).mp ha)) (fun a => ⟨by have := hc a; have := sp a; show s.own a ≤ 1; omega, fun h => by have h : 0 < s.own a := h; have := (hc a).2.2 (by omega); show s.rst a = 0; omega⟩) (fun a ha => ?_) fun a ha => ?_
  · have ha : 0 < s.own a := ha
    have h1 := hc a
    have h2 := sp a
    have h3 := (hc a).2.2 (by omega)
    exact ⟨w a (by omega), by omega, by omega, by show m'.own a + oM M a = 0; omega, by show m'.rst a + rM M a = 0; omega⟩
  · have ha : 0 < s.rst a := ha
    have h1 := hc a
    have h2 := sp a
    have h3 := (hc a).2.1 (by omega)
    exact ⟨by omega, by show m'.own a + oM M a = 0; omega⟩
end
theorem s_for {X : Cx} {W : WW} {tg iter : Expr} {body : List Stmt} {src : IF'} {g : TG} {js : List Nat} {bd : BF} {f : SF} {pos : Pos} (hp : PassesOwn (model X.prog X.w) X.A X.env X.xe) (hc : X.calm = true) (hi : DI X W tg iter src) (hg : PG X tg g) (ht : TgOk X.K js g bd) (hb : DSs X W body f)
    (hs : ∀ x, foldedSetIterable iter X.env x = pure x := by intro _; rfl) : DS X W (.For tg iter body [] pos) (sFor src bd f) := by
  obtain ⟨wi, hi, hw⟩ := hi
  refine PS.imp (ps_for hp hc hi hg hb hs) fun D σ H ⟨Z, L, M, R, q⟩ => hw σ H _ ⟨Z, L, M, R, ?_⟩
  unfold sFor at q
  cases ef : src (er L) with
  | bad => rw [ef] at q; exact q
  | exc c Γ' => rw [ef] at q; exact fun H' L' e R' => q σ H' L' e R'
  | ok xs Γ' =>
    rw [ef] at q
    dsimp only at q ⊢
    intro H1 L1 J m e1 R1 wk
    refine ⟨fun i n σ H => n = xs.length - i ∧ i ≤ xs.length ∧ ∃ L', Rel X.K Z σ H L' (m i :: M) ∧ oW X.K W Z M D (forL bd f (xs.drop i) (er L')), ⟨xs.length, by simp, Nat.zero_le _, L1, R1, by rw [e1]; simpa using q⟩, ?_⟩
    rintro i n σ2 H2 ⟨rfl, hil, L2', R2, q2⟩
    by_cases hlt : i < xs.length
    · refine .inr ⟨wk.goes i H2 hlt (R2.tms _ (List.mem_cons_self ..)).1, fun σ' H' => i + 1 ≤ xs.length ∧ ∃ L', Rel X.K Z σ' H' L' (m (i + 1) :: M) ∧ oW X.K W Z M D (forL bd f (xs.drop (i + 1)) (er L')), fun σ' H' h => ⟨xs.length - (i + 1), by omega, rfl, h.1, h.2⟩, fun v H' y => ?_⟩
      have hx : xs[i]? = some xs[i] := by simp [hlt]
      obtain ⟨sm, ns, rd, hz, hP, hd, hcn⟩ := wk.step i _ H2 v H' hx (R2.tms _ (List.mem_cons_self ..)).1 y
      have R3 := Rel.turn (s := ⟨xs[i].1, xs[i].2, v, ns⟩) R2 sm rd hP (wk.stab _) hd hcn
      have ed : xs.drop i = xs[i] :: xs.drop (i + 1) := by simp
      rw [ed] at q2
      simp only [forL] at q2
      cases eb : bd xs[i] (er L2') with
      | none => rw [eb] at q2; exact q2.elim
      | some Γ1 =>
        rw [eb] at q2
        dsimp only at q2
        refine ht Z ⟨xs[i].1, xs[i].2, v, ns⟩ σ2 H' L2' (m (i + 1) :: M) Γ1 _ R3 hz eb fun σ4 L4 e4 R4 _ => ⟨Z, L4, m (i + 1) :: M, R4, ?_⟩
        rw [e4]
        cases eo : f Γ1 with
        | nx Γ2 => rw [eo] at q2; exact fun σ5 H5 L5 e5 R5 => ⟨by omega, L5, R5, by rw [e5]; exact q2⟩
        | ct Γ2 => rw [eo] at q2; exact fun σ5 H5 L5 e5 R5 => ⟨by omega, L5, R5, by rw [e5]; exact q2⟩
        | bk Γ2 => rw [eo] at q2; exact fun σ5 H5 L5 e5 R5 => q2 σ5 H5 L5 e5 R5.pop
        | rt x Γ2 => rw [eo] at q2; exact fun v ns σ5 H5 L5 e5 R5 z => q2 v ns σ5 H5 L5 e5 R5.swap.pop z
        | exc c Γ2 => rw [eo] at q2; exact fun σ5 H5 L5 e5 R5 => q2 σ5 H5 L5 e5 R5.pop
        | bad => rw [eo] at q2; exact q2
    · have e : i = xs.length := by omega
      subst e
      refine .inl ⟨wk.stops H2 (R2.tms _ (List.mem_cons_self ..)).1, ?_⟩
      rw [List.drop_length] at q2
      exact q2 σ2 H2 L2' rfl R2.pop
def whileN (t : EB) (f : SF) : Nat → SF
  | 0, _ => .bad
  | n + 1, Γ => match t Γ with
    | .ok false Γ' => .nx Γ'
    | .ok true Γ' => (match f Γ' with
      | .nx Γ2 => whileN t f n Γ2
      | .ct Γ2 => whileN t f n Γ2
      | .bk Γ2 => .nx Γ2
      | o => o)
    | .exc c Γ' => .exc c Γ'
    | .bad => .bad
theorem s_while {X : Cx} {W : WW} {c : Expr} {body : List Stmt} {t : EB} {f : SF} {pos : Pos} (n : Nat) (hp : PassesOwn (model X.prog X.w) X.A X.env X.xe) (hc : DT X W c t) (hb : DSs X W body f) : DS X W (.While c body [] pos) (whileN t f n) := by
  refine PS.imp (ps_while hp hc hb) fun D σ H ⟨Z, L, M, R, q⟩ => ?_
  refine ⟨fun m σ H => ∃ L', Rel X.K Z σ H L' M ∧ oW X.K W Z M D (whileN t f m (er L')), ⟨n, L, R, q⟩, ?_⟩
  rintro m σ1 H1 ⟨L1, R1, q1⟩
  refine ⟨Z, L1, M, R1, ?_⟩
  cases m with
  | zero => exact q1.elim
  | succ m =>
    simp only [whileN] at q1
    cases et : t (er L1) with
    | bad => rw [et] at q1; exact q1
    | exc c Γ' => rw [et] at q1; exact fun H' L' e R' => q1 σ1 H' L' e R'
    | ok k Γ' =>
      rw [et] at q1
      intro H' L' e R'
      cases k with
      | false => exact iteF (q1 σ1 H' L' e R')
      | true =>
        dsimp only at q1
        refine iteT ⟨fun σ2 H2 => ∃ L2', Rel X.K Z σ2 H2 L2' M ∧ oW X.K W Z M D (whileN t f m (er L2')), fun σ2 H2 h => ⟨m, Nat.lt_succ_self _, h⟩, Z, L', M, R', ?_⟩
        rw [e]
        cases eo : f Γ' with
        | nx Γ2 => rw [eo] at q1; exact fun σ5 H5 L5 e5 R5 => ⟨L5, R5, by rw [e5]; exact q1⟩
        | ct Γ2 => rw [eo] at q1; exact fun σ5 H5 L5 e5 R5 => ⟨L5, R5, by rw [e5]; exact q1⟩
        | bk Γ2 => rw [eo] at q1; exact q1
        | rt x Γ2 => rw [eo] at q1; exact q1
        | exc c Γ2 => rw [eo] at q1; exact q1
        | bad => rw [eo] at q1; exact q1

/-! ### a def -/
def mkS : List Bool → List LD → Env
  | b :: bs, (l, d) :: xs => some (l % 10 + (if b then 10 else 0), d) :: mkS bs xs
  | [], (l, d) :: xs => some (l % 10, d) :: mkS [] xs
  | _, [] => []
def finS : List Bool → Env → Option (List LD)
  | [], _ => some []
  | true :: bs, some (l, d) :: Γ => if 10 ≤ l then (finS bs Γ).map ((l % 10, d) :: ·) else none
  | false :: bs, _ :: Γ => finS bs Γ
  | _, _ => none
def runF (n N : Nat) (io : List Bool) (body : SF) : List LD → FR := fun xs =>
  if xs.length = n then match body (mkS io xs ++ List.replicate (N - n) none) with
    | .nx Γ => (match finS io Γ with
      | some fs => .ret (2, .non) fs
      | none => .bad)
    | .rt x Γ => (match finS io Γ with
      | some fs => .ret x fs
      | none => .bad)
    | .exc c Γ => (match finS io Γ with
      | some fs => .exc c fs
      | none => .bad)
    | _ => .bad
  else .bad
end DL

/-! DL9: the rule for a def; what loops walk -/
namespace DL
open L2 PySem PySem.Spec PyProof.Rows

/-- a parameter's slot at the entry -/
def pinL (b : Bool) (s : Sl) : Sl := { s with l := s.l % 10 + (if b then 10 else 0) }
def sls : List Bool → List Sl → List (Option Sl)
  | b :: bs, s :: xs => some (pinL b s) :: sls bs xs
  | [], s :: xs => some (pinL false s) :: sls [] xs
  | _, [] => []
section
variable {K : PySem.W.Frag} {H H' : Hp}
theorem pin_own (b : Bool) (s : Sl) (a : Addr) : (pinL b s).own a = s.own a ∧ (pinL b s).rst a = s.rst a := by
  have e : (s.l % 10 + (if b then 10 else 0)) % 10 = s.l % 10 := by cases b <;> simp <;> omega
  unfold pinL Sl.own Sl.rst ownL rstL
  dsimp only
  rw [e]
  exact ⟨rfl, rfl⟩
theorem sls_len : ∀ (bs : List Bool) (As : List Sl), (sls bs As).length = As.length
  | _, [] => by unfold sls; split <;> simp_all
  | [], s :: As => by simp [sls, sls_len [] As]
  | b :: bs, s :: As => by simp [sls, sls_len bs As]
theorem sls_cnt (a : Addr) : ∀ (bs : List Bool) (As : List Sl), oS (sls bs As) a = oL As a ∧ rS (sls bs As) a = rL As a
  | bs, [] => by cases bs <;> exact ⟨rfl, rfl⟩
  | [], s :: As => by
    obtain ⟨h1, h2⟩ := sls_cnt a [] As
    obtain ⟨q1, q2⟩ := pin_own false s a
    simp only [sls, oS, rS, oL, rL, h1, h2, q1, q2]
    exact ⟨trivial, trivial⟩
  | b :: bs, s :: As => by
    obtain ⟨h1, h2⟩ := sls_cnt a bs As
    obtain ⟨q1, q2⟩ := pin_own b s a
    simp only [sls, oS, rS, oL, rL, h1, h2, q1, q2]
    exact ⟨trivial, trivial⟩
theorem sls_get : ∀ (bs : List Bool) (As : List Sl) (i : Nat) (t : Sl), (sls bs As)[i]? = some (some t) → ∃ s, As[i]? = some s ∧ t.v = s.v ∧ t.d = s.d ∧ t.ns = s.ns
  | bs, [], i, t, h => by cases bs <;> simp [sls] at h
  | [], s :: As, 0, t, h => by
    simp only [sls, List.getElem?_cons_zero, Option.some.injEq] at h
    subst h
    exact ⟨s, rfl, rfl, rfl, rfl⟩
  | [], s :: As, i + 1, t, h => by
    simp only [sls, List.getElem?_cons_succ] at h
    exact sls_get [] As i t h
  | b :: bs, s :: As, 0, t, h => by
    simp only [sls, List.getElem?_cons_zero, Option.some.injEq] at h
    subst h
    exact ⟨s, rfl, rfl, rfl, rfl⟩
  | b :: bs, s :: As, i + 1, t, h => by
    simp only [sls, List.getElem?_cons_succ] at h
    exact sls_get bs As i t h
theorem er_sls : ∀ (bs : List Bool) (As : List Sl), er (sls bs As) = mkS bs (As.map Sl.ld)
  | bs, [] => by cases bs <;> rfl
  | [], s :: As => by
    have h := er_sls [] As
    simp only [er, sls, List.map_cons, mkS, Sl.ld, pinL] at h ⊢
    rw [h]; rfl
  | b :: bs, s :: As => by
    have h := er_sls bs As
    simp only [er, sls, List.map_cons, mkS, Sl.ld, pinL] at h ⊢
    rw [h]; rfl
theorem er_append (L1 L2 : List (Option Sl)) : er (L1 ++ L2) = er L1 ++ er L2 := by unfold er; simp
theorem er_rep (n : Nat) : er (List.replicate n none) = List.replicate n none := by unfold er; simp
theorem oS_append (L1 L2 : List (Option Sl)) (a : Addr) : oS (L1 ++ L2) a = oS L1 a + oS L2 a := by
  induction L1 with
  | nil => simp [oS]
  | cons x L1 ih => cases x <;> simp only [List.cons_append, oS, ih] <;> omega
theorem rS_append (L1 L2 : List (Option Sl)) (a : Addr) : rS (L1 ++ L2) a = rS L1 a + rS L2 a := by
  induction L1 with
  | nil => simp [rS]
  | cons x L1 ih => cases x <;> simp only [List.cons_append, rS, ih] <;> omega
theorem oS_rep (n : Nat) (a : Addr) : oS (List.replicate n none) a = 0 ∧ rS (List.replicate n none) a = 0 := by
  induction n with
  | zero => exact ⟨rfl, rfl⟩
  | succ n ih => simpa only [List.replicate_succ, oS, rS] using ih
/-- what is handed back -/
theorem fin_of {Z : Zone} {σ : L2.St} {M : List Tm} : ∀ (bs : List Bool) (L : List (Option Sl)) (fs : List LD) (j : Nat) (L0 : List (Option Sl)), finS bs (er L) = some fs → Rel K Z σ H (L0 ++ L) M → L0.length = j →
    ∃ Fs : List Sl, Fs.map Sl.ld = fs ∧ (∀ t ∈ Fs, Rd K H t.v t.d t.ns ∧ ∀ a ∈ t.ns, Z a) ∧ (∀ a, oL Fs a ≤ oS L a ∧ rL Fs a ≤ rS L a) ∧ Fs.map Sl.v = msk bs ((List.range bs.length).map fun i => Z.pv (j + i))
  | [], L, fs, j, L0, h, R, hj => by
    simp only [finS, Option.some.injEq] at h
    subst h
    exact ⟨[], rfl, (fun _ h => nomatch h), fun a => ⟨Nat.zero_le _, Nat.zero_le _⟩, rfl⟩
  | true :: bs, [], fs, j, L0, h, R, hj => by simp [finS, er] at h
  | true :: bs, none :: L, fs, j, L0, h, R, hj => by simp [finS, er] at h
  | true :: bs, some s :: L, fs, j, L0, h, R, hj => by
    simp only [er, List.map_cons, Option.map_some, Sl.ld, finS] at h
    split at h
    · rename_i hl
      obtain ⟨gs, h1, h2⟩ := Option.map_eq_some_iff.mp h
      subst h2
      have e0 : L0 ++ some s :: L = (L0 ++ [some s]) ++ L := by simp
      rw [e0] at R
      obtain ⟨Fs, q1, q2, q3, q4⟩ := fin_of bs L gs (j + 1) (L0 ++ [some s]) h1 R (by simp [hj])
      have hs : ((L0 ++ [some s]) ++ L)[j]? = some (some s) := by
        rw [← hj]
        simp
      obtain ⟨r1, r2, r3⟩ := R.slot j s hs
      refine ⟨s.un :: Fs, by simp [q1, Sl.un, Sl.ld], fun t ht => ?_, fun a => ?_, ?_⟩
      · rcases List.mem_cons.mp ht with rfl | ht
        · exact ⟨r2, r3⟩
        · exact q2 t ht
      · have := q3 a
        simp only [oL, rL, oS, rS, un_own, un_rst]
        omega
      · rw [List.map_cons, q4, List.length_cons, List.range_succ_eq_map, List.map_cons, msk]
        have hp := R.pin j s hs hl
        congr 1
        rw [List.map_map]
        congr 1
        apply List.map_congr_left
        intro i _
        show Z.pv (j + 1 + i) = Z.pv (j + (i + 1))
        congr 1
        omega
    · cases h
  | false :: bs, [], fs, j, L0, h, R, hj => by simp [finS, er] at h
  | false :: bs, x :: L, fs, j, L0, h, R, hj => by
    simp only [er, List.map_cons, finS] at h
    have e0 : L0 ++ x :: L = (L0 ++ [x]) ++ L := by simp
    rw [e0] at R
    obtain ⟨Fs, q1, q2, q3, q4⟩ := fin_of bs L fs (j + 1) (L0 ++ [x]) h R (by simp [hj])
    refine ⟨Fs, q1, q2, fun a => ?_, ?_⟩
    · have := q3 a
      cases x <;> simp only [oS, rS] <;> omega
    · rw [q4, List.length_cons, List.range_succ_eq_map, List.map_cons, msk]
      rw [List.map_map]
      congr 1
      apply List.map_congr_left
      intro i _
      show Z.pv (j + 1 + i) = Z.pv (j + (i + 1))
      congr 1
      omega
theorem msk_pv : ∀ (bs : List Bool) (vs : List V), bs.length ≤ vs.length → msk bs ((List.range bs.length).map fun i => (vs[0 + i]?).getD .non) = msk bs vs := by
  have gen : ∀ (bs : List Bool) (vs ws : List V), bs.length ≤ vs.length → msk bs ((List.range bs.length).map fun i => ((ws ++ vs)[ws.length + i]?).getD .non) = msk bs vs := by
    intro bs
    induction bs with
    | nil => intro vs ws _; rfl
    | cons b bs ih =>
      intro vs ws h
      cases vs with
      | nil => simp at h
      | cons v vs =>
        have h' : bs.length ≤ vs.length := by simpa using h
        have e := ih vs (ws ++ [v]) h'
        rw [List.length_cons, List.range_succ_eq_map, List.map_cons, List.map_map]
        have e2 : (List.map ((fun i => (((ws ++ v :: vs)[ws.length + i]?).getD .non)) ∘ Nat.succ) (List.range bs.length)) = (List.range bs.length).map fun i => (((ws ++ [v]) ++ vs)[(ws ++ [v]).length + i]?).getD .non := by
          apply List.map_congr_left
          intro i _
          show (((ws ++ v :: vs)[ws.length + (i + 1)]?).getD .non) = _
          have e3 : ws ++ v :: vs = (ws ++ [v]) ++ vs := by simp
          have e4 : ws.length + (i + 1) = (ws ++ [v]).length + i := by simp; omega
          rw [e3, e4]
        rw [e2]
        cases b with
        | true =>
          simp only [msk]
          rw [e]
          simp
        | false =>
          simp only [msk]
          rw [e]
  intro bs vs h
  have := gen bs vs [] h
  simpa using this
end
/-- THE RULE for a def: its body, as a statement over data -/
theorem def_ok {P : Program} {w : World} {K : PySem.W.Frag} {mg : Str → Option Value} {base : Heap} {x qual : Str} {st : Stmt} {f : Addr} {fd : FuncData} {N ps : List Str} {k : Nat} (n m : Nat) (io : List Bool) (body : SF) (F : Fun K x qual st f fd) (S : FnScope N ps (defScope st))
    (hps : ps.length = n) (hN : N.length = m) (hio : io.length ≤ n) (hnm : n ≤ m)
    (hb : ∀ (cdv : Value) (A : Around) (outer : List PySem.Env) (s : Shared) (H : Hp) (E : XK) (W : WW), Room k (A.deeper (envOfC qual (defScope st) s.heap.objs.size f cdv)) → Takes (cxOf (L2.CX P w) P w K mg base N qual (defScope st) f cdv A outer s H E) (wx (cxOf (L2.CX P w) P w K mg base N qual (defScope st) f cdv A outer s H E) W) →
      DSs (cxOf (L2.CX P w) P w K mg base N qual (defScope st) f cdv A outer s H E) W (defBody st) body) : FnOk P w K mg base (L2.CX P w) (k + 1) f fd ps (spF K mg n io (runF n m io body)) := by
  refine F.okX S (spF_len hps) fun cdv A outer s H vs Q E hr h => ?_
  obtain ⟨As, ev, hl, ok, q⟩ := h
  have tk : Takes (cxOf (L2.CX P w) P w K mg base N qual (defScope st) f cdv A outer s H E) (wx (cxOf (L2.CX P w) P w K mg base N qual (defScope st) f cdv A outer s H E) (fun c _ H' => E (xc mg c) none H')) :=
    Takes.imp (takes_of rfl rfl rfl rfl) fun cls d σ H' ⟨c, h1, h2, h3⟩ => by
      subst h1 h2
      exact h3
  refine ⟨_, hb cdv A outer s H E _ hr tk, ?_⟩
  subst ev
  have hz : ∀ a, H a = none → H a = none ∨ ∃ s ∈ As, a ∈ s.ns := fun a h => .inl h
  let Z : Zone := ⟨fun a => H a = none ∨ ∃ s ∈ As, a ∈ s.ns, fun a => H a = none, hz, fun i => ((As.map Sl.v)[i]?).getD .non⟩
  let pr : Tm := ⟨fun _ => 0, fun a => if (H a).isSome = true ∧ oL As a = 0 then 1 else 0, fun H' => ∀ a o, H a = some o → oL As a = 0 → H' a = some o⟩
  have prs : pr.Stab K := fun H1 H2 h1 _ e a o ho h0 => by
    rw [e a (by show 0 < 0 + (if (H a).isSome = true ∧ oL As a = 0 then 1 else 0); rw [if_pos ⟨by rw [ho]; rfl, h0⟩]; decide)]
    exact h1 a o ho h0
  have R : Rel K Z (start N (As.map Sl.v)) H (sls io As ++ List.replicate (m - n) none) [pr] := by
    refine ⟨?_, fun i t ht => ?_, fun t ht => ?_, fun a => ?_, fun a ha => ?_, fun a h => h, fun i t ht hp => ?_⟩
    · unfold L2.start
      simp [sls_len, hN, hl]
    · by_cases hi : i < As.length
      · rw [List.getElem?_append_left (by rw [sls_len]; exact hi)] at ht
        obtain ⟨u, h1, e1, e2, e3⟩ := sls_get io As i t ht
        have hu : u ∈ As := List.mem_of_getElem? h1
        refine ⟨?_, by rw [e1, e2, e3]; exact ok.rd u hu, fun a ha => .inr ⟨u, hu, by rw [← e3]; exact ha⟩⟩
        unfold L2.start
        rw [List.getElem?_append_left (by simpa using hi)]
        simp [h1, e1]
      · rw [List.getElem?_append_right (by rw [sls_len]; omega), List.getElem?_replicate] at ht
        split at ht <;> cases ht
    · rw [List.mem_singleton.mp ht]
      refine ⟨fun a o h _ => h, prs, fun a ha => ?_⟩
      have ha : 0 < 0 + (if (H a).isSome = true ∧ oL As a = 0 then 1 else 0) := ha
      split at ha
      · rename_i c
        intro z
        rw [z] at c
        exact absurd c.1 (by simp)
      · omega
    · have h1 := ok.sep a
      obtain ⟨q1, q2⟩ := sls_cnt a io As
      obtain ⟨q3, q4⟩ := oS_rep (m - n) a
      rw [oS_append, rS_append, q1, q2, q3, q4]
      show oL As a + 0 + (0 + 0) ≤ 1 ∧ (0 < oL As a + 0 + (0 + 0) → rL As a + 0 + ((if (H a).isSome = true ∧ oL As a = 0 then 1 else 0) + 0) = 0)
      refine ⟨by omega, fun c => ?_⟩
      rw [if_neg (by omega)]
      omega
    · obtain ⟨q1, q2⟩ := sls_cnt a io As
      obtain ⟨q3, q4⟩ := oS_rep (m - n) a
      rw [oS_append, q1, q3] at ha
      exact ok.wr a (by have ha : 0 < oL As a + 0 + (0 + 0) := ha; omega)
    · by_cases hi : i < As.length
      · rw [List.getElem?_append_left (by rw [sls_len]; exact hi)] at ht
        obtain ⟨u, h1, e1, _, _⟩ := sls_get io As i t ht
        show t.v = ((As.map Sl.v)[i]?).getD .non
        simp [h1, e1]
      · rw [List.getElem?_append_right (by rw [sls_len]; omega), List.getElem?_replicate] at ht
        split at ht <;> cases ht
  have e0 : er (sls io As ++ List.replicate (m - n) none) = mkS io (As.map Sl.ld) ++ List.replicate (m - n) none := by rw [er_append, er_sls, er_rep]
  -- the end of it: what has come
  have endd : ∀ {σ' : L2.St} {H' : Hp} {L' : List (Option Sl)} {xs : List Sl} {M : List Tm} {fs : List LD}, Rel K Z σ' H' L' (tmA K xs :: pr :: M) → (∀ t ∈ xs, ∀ a ∈ t.ns, Z a) → finS io (er L') = some fs →
      ∃ Fs : List Sl, Fs.map Sl.ld = fs ∧ Fs.map Sl.v = msk io (As.map Sl.v) ∧ Fram As H H' ∧ ArgsOk K H' (xs ++ Fs) ∧ From As H (xs ++ Fs) := fun {σ' H' L' xs M fs} R' zx hf => by
    obtain ⟨Fs, f1, f2, f3, f4⟩ := fin_of io L' fs 0 [] hf (by simpa using R') rfl
    have hprm : pr ∈ tmA K xs :: pr :: M := List.mem_cons_of_mem _ (List.mem_cons_self ..)
    obtain ⟨p1, _, _⟩ := R'.tms pr hprm
    obtain ⟨x1, _, _⟩ := R'.tms _ (List.mem_cons_self ..)
    have sp : ∀ a, oS L' a + (oL xs a + (0 + oM M a)) ≤ 1 ∧ (0 < oS L' a + (oL xs a + (0 + oM M a)) → rS L' a + (rL xs a + ((if (H a).isSome = true ∧ oL As a = 0 then 1 else 0) + rM M a)) = 0) := fun a => R'.sep a
    have oldOr : ∀ a, 0 < oS L' a + oL xs a → H a = none ∨ 0 < oL As a := fun a ha => by
      have h1 := (sp a).2 (by omega)
      by_cases c : (H a).isSome = true ∧ oL As a = 0
      · rw [if_pos c] at h1; omega
      · by_cases c2 : oL As a = 0
        · left
          cases e : H a with
          | none => rfl
          | some o => exact absurd ⟨by rw [e]; rfl, c2⟩ c
        · right; omega
    have zone : ∀ a, Z a → H a = none ∨ 0 < oL As a + rL As a := fun a ha => by
      rcases ha with ha | ⟨u, h1, h2⟩
      · exact .inl ha
      · have := oL_mem a h1
        have := (u.mem a).mpr h2
        exact .inr (by omega)
    refine ⟨Fs, f1, by rw [f4]; exact msk_pv io (As.map Sl.v) (by simpa [hl] using hio), ⟨p1, fun a h => R'.zf a h⟩, ⟨fun t ht => ?_, fun a => ?_, fun a ha => ?_⟩, fun a => ?_⟩
    · rcases List.mem_append.mp ht with ht | ht
      · exact x1 t ht
      · exact (f2 t ht).1
    · rw [oL_append, rL_append]
      have h1 := sp a
      have h2 := f3 a
      omega
    · rw [oL_append] at ha
      have h2 := f3 a
      exact R'.wr a (by show 0 < oS L' a + (oL xs a + (0 + oM M a)); omega)
    · rw [oL_append, rL_append]
      have h2 := f3 a
      refine ⟨fun h => oldOr a (by omega), fun h => zone a ?_⟩
      by_cases c : 0 < oL xs a + rL xs a
      · obtain ⟨t, g1, g2⟩ := oL_pos c
        exact zx t g1 a g2
      · obtain ⟨t, g1, g2⟩ := oL_pos (As := Fs) (a := a) (by omega)
        exact (f2 t g1).2 a g2
  refine ⟨Z, _, _, R, ?_⟩
  rw [e0]
  unfold runF at q
  rw [List.length_map, if_pos hl] at q
  cases eb : body (mkS io (As.map Sl.ld) ++ List.replicate (m - n) none) with
  | bad => rw [eb] at q; exact q
  | bk Γ => rw [eb] at q; exact q.elim
  | ct Γ => rw [eb] at q; exact q.elim
  | nx Γ =>
    rw [eb] at q
    dsimp only at q
    intro σ' H' L' e R'
    cases ef : finS io Γ with
    | none => rw [ef] at q; exact q.elim
    | some fs =>
      rw [ef] at q
      dsimp only at q
      obtain ⟨Fs, f1, f2, f3, f4, f5⟩ := endd (R'.push (m := (Sl.mk 2 .non .non []).tm K) .non (Sl.stab _ _) (fun a h => by simp [Sl.tm, Sl.own, Sl.rst, ownL, rstL] at h) (fun a => by simp [Sl.tm, Sl.own, Sl.rst, ownL, rstL]) (fun a h => by simp [Sl.tm, Sl.own, ownL] at h) fun a h => by simp [Sl.tm, Sl.rst, rstL] at h).one
        (fun t ht a ha => by rw [List.mem_singleton.mp ht] at ha; cases ha) (by rw [e]; exact ef)
      exact q .non [] Fs H' f1 f2 f3 f4 f5
  | rt x Γ =>
    obtain ⟨l, d⟩ := x
    rw [eb] at q
    dsimp only at q
    intro v ns σ' H' L' e R' z
    cases ef : finS io Γ with
    | none => rw [ef] at q; exact q.elim
    | some fs =>
      rw [ef] at q
      dsimp only at q
      obtain ⟨Fs, f1, f2, f3, f4, f5⟩ := endd R'.one (fun t ht a ha => by rw [List.mem_singleton.mp ht] at ha; exact z a ha) (by rw [e]; exact ef)
      exact q v ns Fs H' f1 f2 f3 f4 f5
  | exc c Γ =>
    rw [eb] at q
    dsimp only at q
    intro σ' H' L' e R'
    cases ef : finS io Γ with
    | none => rw [ef] at q; exact q.elim
    | some fs =>
      rw [ef] at q
      dsimp only at q
      obtain ⟨Fs, f1, f2, f3, f4, f5⟩ := endd R'.args0 (fun t ht => nomatch ht) (by rw [e]; exact ef)
      exact q Fs H' f1 f2 f3 (by simpa using f4) (by simpa using f5)
end DL

/-! DL10: what loops and comprehensions walk -/
namespace DL
open L2 PySem PySem.Spec PyProof.Rows

/-- a walk over data that leans on the arguments As -/
structure WalkV (K : PySem.W.Frag) (As : List Sl) (J : It) (ds : List D) : Prop where
  goes : ∀ i H, i < ds.length → (∀ s ∈ As, Rd K H s.v s.d s.ns) → J.go i H
  stops : ∀ H, (∀ s ∈ As, Rd K H s.v s.d s.ns) → J.stop ds.length H
  step : ∀ (i : Nat) d H v H', ds[i]? = some d → (∀ s ∈ As, Rd K H s.v s.d s.ns) → J.yld i H v H' → Same H H' ∧ ∃ ns, Rd K H' v d ns ∧ ∀ a ∈ ns, 0 < oL As a + rL As a
abbrev WR := List V → Hp → (It → Hp → Prop) → Prop
def SV (K : PySem.W.Frag) (w : WR) (g : List LD → Option (List D)) : Prop := ∀ (As : List Sl) (H : Hp) (R : It → Hp → Prop) (ds : List D), ArgsOk K H As → g (As.map Sl.ld) = some ds → (∀ J, WalkV K As J ds → R J H) → w (As.map Sl.v) H R

/-! lists, tuples -/
def fItems : LD → Option (List D)
  | (_, .lst xs) => some xs
  | (_, .tup xs) => some xs
  | (_, .frz xs) => some (xs.map .int)
  | _ => none
def g1S (f : LD → Option (List D)) : List LD → Option (List D)
  | [x] => f x
  | _ => none
def wSeq (K : PySem.W.Frag) : WR := fun vs H R => match vs with
  | [x] => (∃ a, x = .ref a ∧ (∃ xs, SqL K H a xs) ∧ R (Itl K a) H) ∨ (∃ a, x = .ref a ∧ (∃ xs, SqT K H a xs) ∧ R (Itt K a) H)
  | _ => False
theorem sv1 {K : PySem.W.Frag} {w : WR} {f : LD → Option (List D)} (h : ∀ (s : Sl) (H : Hp) (R : It → Hp → Prop) (ds : List D), ArgsOk K H [s] → Rd K H s.v s.d s.ns → f (s.l, s.d) = some ds → (∀ J, WalkV K [s] J ds → R J H) → w [s.v] H R) : SV K w (g1S f) := by
  intro As H R ds ok hg k
  rcases As with _ | ⟨s, _ | ⟨t, As⟩⟩
  · cases hg
  · exact h s H R ds ok (ok.rd _ (List.mem_cons_self ..)) hg k
  · cases hg
theorem one_ns {s : Sl} {a : Addr} (h : a ∈ s.ns) : 0 < oL [s] a + rL [s] a := arg_ns (List.mem_cons_self ..) a h
theorem sv_seq {K : PySem.W.Frag} : SV K (wSeq K) (g1S fItems) := sv1 fun s H R ds ok h1 hg k => by
  obtain ⟨l1, d1, v1, n1⟩ := s
  dsimp only at *
  unfold fItems at hg
  split at hg
  · rename_i xs e
    cases e
    cases hg
    cases h1 with
    | @lst a vs _ ns e1 r1 =>
      refine .inl ⟨a, rfl, ⟨vs, .of e1⟩, k _ ⟨fun i H i' q => ?_, fun H q => ?_, fun i d H v H' hd q y => ?_⟩⟩
      · have := q _ (List.mem_cons_self ..)
        cases this with
        | @lst _ ws _ _ e2 r2 => exact ⟨ws, ws[i]'(by rw [r2.length]; exact i'), .of e2, by simp⟩
      · have := q _ (List.mem_cons_self ..)
        cases this with
        | @lst _ ws _ _ e2 r2 => exact ⟨ws, .of e2, by rw [r2.length]; exact Nat.le_refl _⟩
      · have := q _ (List.mem_cons_self ..)
        cases this with
        | @lst _ ws _ _ e2 r2 =>
          obtain ⟨v', n, m1, m2, g1, g2, g3⟩ := r2.get hd
          obtain ⟨y1, y2⟩ := y
          subst y1
          have := y2 ws (.of e2)
          rw [g1] at this
          cases this
          exact ⟨Same.refl _, n, g2, fun b hb => one_ns (s := ⟨l1, .lst _, V.ref a, a :: _⟩) (List.mem_cons_of_mem _ (by rw [g3]; exact List.mem_append_right _ (List.mem_append_left _ hb)))⟩
  · rename_i xs e
    cases e
    cases hg
    cases h1 with
    | @tup a vs _ ns e1 r1 =>
      refine .inr ⟨a, rfl, ⟨vs, e1⟩, k _ ⟨fun i H i' q => ?_, fun H q => ?_, fun i d H v H' hd q y => ?_⟩⟩
      · have := q _ (List.mem_cons_self ..)
        cases this with
        | @tup _ ws _ _ e2 r2 => exact ⟨ws, ws[i]'(by rw [r2.length]; exact i'), e2, by simp⟩
      · have := q _ (List.mem_cons_self ..)
        cases this with
        | @tup _ ws _ _ e2 r2 => exact ⟨ws, e2, by rw [r2.length]; exact Nat.le_refl _⟩
      · have := q _ (List.mem_cons_self ..)
        cases this with
        | @tup _ ws _ _ e2 r2 =>
          obtain ⟨v', n, m1, m2, g1, g2, g3⟩ := r2.get hd
          obtain ⟨y1, y2⟩ := y
          subst y1
          have := y2 ws e2
          rw [g1] at this
          cases this
          exact ⟨Same.refl _, n, g2, fun b hb => one_ns (s := ⟨l1, .tup _, V.ref a, _⟩) (by rw [g3]; exact List.mem_append_right _ (List.mem_append_left _ hb))⟩
  · rename_i xs e
    cases e
    cases hg
    cases h1 with
    | @frz a _ e1 =>
      refine .inl ⟨a, rfl, ⟨_, e1.sq⟩, k _ ⟨fun i H i' q => ?_, fun H q => ?_, fun i d H v H' hd q y => ?_⟩⟩
      · have := q _ (List.mem_cons_self ..)
        cases this with
        | @frz _ _ e2 => exact ⟨_, (xs.map V.int)[i]'(by simpa using i'), e2.sq, by simp⟩
      · have := q _ (List.mem_cons_self ..)
        cases this with
        | @frz _ _ e2 => exact ⟨_, e2.sq, by simp⟩
      · have := q _ (List.mem_cons_self ..)
        cases this with
        | @frz _ _ e2 =>
          obtain ⟨y1, y2⟩ := y
          subst y1
          have := y2 _ (e2.sq)
          rw [List.getElem?_map] at hd this
          cases ex : xs[i]? with
          | none => rw [ex] at hd; cases hd
          | some x =>
            rw [ex] at hd this
            cases hd
            cases this
            exact ⟨Same.refl _, [], .int x, fun b hb => nomatch hb⟩
  · cases hg

/-! ranges -/
def bd62 (i : Int) : Bool := decide (i.natAbs < 4611686018427387904)
theorem bd62_ok {i : Int} (h : bd62 i = true) : -(2 ^ 62) ≤ i ∧ i < 2 ^ 62 := by
  unfold bd62 at h
  have h := of_decide_eq_true h
  omega
def rngD (lo : Int) (n : Nat) : List D := (List.range n).map fun (k : Nat) => D.int (lo + k)
def g2S (f : D → D → Option (List D)) : List LD → Option (List D)
  | [x, y] => f x.2 y.2
  | _ => none
def g3S (f : D → D → D → Option (List D)) : List LD → Option (List D)
  | [x, y, z] => f x.2 y.2 z.2
  | _ => none
def fR1 : LD → Option (List D)
  | (_, .int j) => if bd62 j then some (rngD 0 j.toNat) else none
  | _ => none
def fR2 : D → D → Option (List D)
  | .int i, .int j => if bd62 i && bd62 j then some (rngD i (j - i).toNat) else none
  | _, _ => none
/-- downward by ones -/
def fR3 : D → D → D → Option (List D)
  | .int i, .int j, .int c => if bd62 i && bd62 j && c == -1 then some ((List.range (i - j).toNat).map fun (k : Nat) => D.int (i - k)) else none
  | _, _, _ => none
abbrev gR1 := g1S fR1
abbrev gR2 := g2S fR2
abbrev gR3 := g3S fR3
def wR1 : WR := fun vs H R => ∃ j : Int, vs = [.int j] ∧ -(2 ^ 62) ≤ j ∧ j < 2 ^ 62 ∧ R (Itr 0 j.toNat) H
def wR2 : WR := fun vs H R => ∃ i j : Int, vs = [.int i, .int j] ∧ (-(2 ^ 62) ≤ i ∧ i < 2 ^ 62 ∧ -(2 ^ 62) ≤ j ∧ j < 2 ^ 62) ∧ R (Itr i (j - i).toNat) H
def wR3 : WR := fun vs H R => ∃ (i j c : Int) (n : Nat), vs = [.int i, .int j, .int c] ∧ RgC i j c n ∧ R (Itc i c n) H
theorem walk_rng {K : PySem.W.Frag} {As : List Sl} {lo : Int} {n : Nat} : WalkV K As (Itr lo n) (rngD lo n) := by
  have hl : (rngD lo n).length = n := by simp [rngD]
  refine ⟨fun i H hi _ => by rw [hl] at hi; exact hi, fun H _ => by rw [hl]; exact Nat.le_refl _, fun i d H v H' hd _ y => ?_⟩
  obtain ⟨y1, y2⟩ := y
  subst y1 y2
  unfold rngD at hd
  rw [List.getElem?_map] at hd
  obtain ⟨k, h1, h2⟩ := Option.map_eq_some_iff.mp hd
  have : k = i := by
    rw [List.getElem?_range] at h1
    · exact (Option.some.inj h1).symm
    · have := (List.getElem?_eq_some_iff.mp h1).1
      simpa using this
  subst this
  subst h2
  exact ⟨Same.refl _, [], .int _, fun b hb => nomatch hb⟩
theorem sv_r1 {K : PySem.W.Frag} : SV K wR1 gR1 := sv1 fun s H R ds ok h1 hg k => by
  obtain ⟨l1, d1, v1, n1⟩ := s
  dsimp only at *
  unfold fR1 at hg
  split at hg
  · rename_i j e
    cases e
    split at hg
    · rename_i hz
      cases hg
      obtain ⟨rfl, rfl⟩ := rd_int h1
      obtain ⟨q1, q2⟩ := bd62_ok hz
      exact ⟨_, rfl, q1, q2, k _ walk_rng⟩
    · cases hg
  · cases hg
theorem sv_r2 {K : PySem.W.Frag} : SV K wR2 gR2 := by
  intro As H R ds ok hg k
  rcases As with _ | ⟨⟨l1, d1, v1, n1⟩, _ | ⟨⟨l2, d2, v2, n2⟩, _ | ⟨t, As⟩⟩⟩
  · cases hg
  · cases hg
  · have h1 := ok.rd _ (List.mem_cons_self ..)
    have h2 := ok.rd _ (List.mem_cons_of_mem _ (List.mem_cons_self ..))
    change fR2 d1 d2 = some ds at hg
    unfold fR2 at hg
    split at hg
    · split at hg
      · rename_i i j hz
        cases hg
        rw [Bool.and_eq_true] at hz
        obtain ⟨rfl, rfl⟩ := rd_int h1
        obtain ⟨rfl, rfl⟩ := rd_int h2
        obtain ⟨q1, q2⟩ := bd62_ok hz.1
        obtain ⟨q3, q4⟩ := bd62_ok hz.2
        exact ⟨i, j, rfl, ⟨q1, q2, q3, q4⟩, k _ walk_rng⟩
      · cases hg
    · cases hg
  · cases hg
theorem walk_dn {K : PySem.W.Frag} {As : List Sl} {i : Int} {n : Nat} : WalkV K As (Itc i (-1) n) ((List.range n).map fun (k : Nat) => D.int (i - k)) := by
  have hl : ((List.range n).map fun (k : Nat) => D.int (i - k)).length = n := by simp
  refine ⟨fun j H hi _ => by rw [hl] at hi; exact hi, fun H _ => by rw [hl]; exact Nat.le_refl _, fun j d H v H' hd _ y => ?_⟩
  obtain ⟨y1, y2⟩ := y
  subst y1 y2
  rw [List.getElem?_map] at hd
  obtain ⟨k, h1, h2⟩ := Option.map_eq_some_iff.mp hd
  have : k = j := by
    rw [List.getElem?_range] at h1
    · exact (Option.some.inj h1).symm
    · have := (List.getElem?_eq_some_iff.mp h1).1
      simpa using this
  subst this
  subst h2
  have e : i + (k : Nat) * (-1 : Int) = i - (k : Int) := by omega
  exact ⟨Same.refl _, [], by rw [e]; exact .int _, fun b hb => nomatch hb⟩
theorem sv_r3 {K : PySem.W.Frag} : SV K wR3 gR3 := by
  intro As H R ds ok hg k
  rcases As with _ | ⟨⟨l1, d1, v1, n1⟩, _ | ⟨⟨l2, d2, v2, n2⟩, _ | ⟨⟨l3, d3, v3, n3⟩, _ | ⟨t, As⟩⟩⟩⟩
  · cases hg
  · cases hg
  · cases hg
  · have h1 := ok.rd _ (List.mem_cons_self ..)
    have h2 := ok.rd _ (List.mem_cons_of_mem _ (List.mem_cons_self ..))
    have h3 := ok.rd _ (List.mem_cons_of_mem _ (List.mem_cons_of_mem _ (List.mem_cons_self ..)))
    change fR3 d1 d2 d3 = some ds at hg
    unfold fR3 at hg
    split at hg
    · split at hg
      · rename_i i j c hz
        cases hg
        simp only [Bool.and_eq_true, beq_iff_eq] at hz
        obtain ⟨⟨z1, z2⟩, z3⟩ := hz
        subst z3
        obtain ⟨rfl, rfl⟩ := rd_int h1
        obtain ⟨rfl, rfl⟩ := rd_int h2
        obtain ⟨rfl, rfl⟩ := rd_int h3
        obtain ⟨q1, q2⟩ := bd62_ok z1
        obtain ⟨q3, q4⟩ := bd62_ok z2
        exact ⟨i, j, -1, _, rfl, RgC.neg q1 q2 q3 q4, k _ walk_dn⟩
      · cases hg
    · cases hg
  · cases hg

/-! enumerate, zip: of lists -/
def fEnum : LD → Option (List D)
  | (_, .lst xs) => some (xs.zipIdx.map fun p => .tup [.int p.2, p.1])
  | (_, .frz xs) => some (xs.zipIdx.map fun p => .tup [.int p.2, .int p.1])
  | _ => none
def wEnum (K : PySem.W.Frag) : WR := fun vs H R => ∃ a xs, vs = [.ref a] ∧ SqL K H a xs ∧ R (Ite K a) H
theorem rds2 {K : PySem.W.Frag} {H : Hp} {v1 v2 : V} {d1 d2 : D} {n1 n2 : List Addr} (h1 : Rd K H v1 d1 n1) (h2 : Rd K H v2 d2 n2) : Rds K H [v1, v2] [d1, d2] (n1 ++ n2) := by
  have := Rds.cons h1 (Rds.cons h2 .nil)
  simpa using this
theorem sv_enum {K : PySem.W.Frag} : SV K (wEnum K) (g1S fEnum) := sv1 fun s H R ds ok h1 hg k => by
  obtain ⟨l1, d1, v1, n1⟩ := s
  dsimp only at *
  unfold fEnum at hg
  split at hg
  · rename_i xs e
    cases e
    cases hg
    cases h1 with
    | @lst a vs _ ns e1 r1 =>
      have hl : (xs.zipIdx.map fun p => D.tup [.int p.2, p.1]).length = xs.length := by simp
      refine ⟨a, vs, rfl, .of e1, k _ ⟨fun i H i' q => ?_, fun H q => ?_, fun i d H v H' hd q y => ?_⟩⟩
      · have := q _ (List.mem_cons_self ..)
        rw [hl] at i'
        cases this with
        | @lst _ ws _ _ e2 r2 => exact ⟨ws, ws[i]'(by rw [r2.length]; exact i'), .of e2, by simp⟩
      · have := q _ (List.mem_cons_self ..)
        cases this with
        | @lst _ ws _ _ e2 r2 => exact ⟨ws, .of e2, by rw [r2.length, hl]; exact Nat.le_refl _⟩
      · have := q _ (List.mem_cons_self ..)
        cases this with
        | @lst _ ws _ _ e2 r2 =>
          rw [List.getElem?_map, List.getElem?_zipIdx] at hd
          cases ex : xs[i]? with
          | none => rw [ex] at hd; cases hd
          | some x =>
            rw [ex] at hd
            cases hd
            obtain ⟨v', n, m1, m2, g1, g2, g3⟩ := r2.get ex
            obtain ⟨T, x', y1, y2, y3, y4⟩ := y
            subst y1 y3
            have := y4 ws (.of e2)
            rw [g1] at this
            cases this
            have e0 : (0 : Nat) + i = i := Nat.zero_add i
            refine ⟨same_upd y2, n, ?_, fun b hb => one_ns (s := ⟨l1, .lst _, V.ref a, a :: _⟩) (List.mem_cons_of_mem _ (by rw [g3]; exact List.mem_append_right _ (List.mem_append_left _ hb)))⟩
            have := rd_newT (K := K) y2 (rds2 (.int (i : Nat)) g2)
            simpa [e0] using this
  · rename_i xs e
    cases e
    cases hg
    cases h1 with
    | @frz a _ e1 =>
      have hl : (xs.zipIdx.map fun p => D.tup [.int p.2, .int p.1]).length = xs.length := by simp
      refine ⟨a, _, rfl, e1.sq, k _ ⟨fun i H i' q => ?_, fun H q => ?_, fun i d H v H' hd q y => ?_⟩⟩
      · have := q _ (List.mem_cons_self ..)
        rw [hl] at i'
        cases this with
        | @frz _ _ e2 => exact ⟨_, (xs.map V.int)[i]'(by simpa using i'), e2.sq, by simp⟩
      · have := q _ (List.mem_cons_self ..)
        cases this with
        | @frz _ _ e2 => exact ⟨_, e2.sq, by simp⟩
      · have := q _ (List.mem_cons_self ..)
        cases this with
        | @frz _ _ e2 =>
          rw [List.getElem?_map, List.getElem?_zipIdx] at hd
          cases ex : xs[i]? with
          | none => rw [ex] at hd; cases hd
          | some x =>
            rw [ex] at hd
            cases hd
            obtain ⟨T, x', y1, y2, y3, y4⟩ := y
            subst y1 y3
            have := y4 _ (e2.sq)
            rw [List.getElem?_map, ex] at this
            cases this
            have e0 : (0 : Nat) + i = i := Nat.zero_add i
            refine ⟨same_upd y2, [], ?_, fun b hb => nomatch hb⟩
            have := rd_newT (K := K) y2 (rds2 (H := H) (.int (i : Nat)) (.int x))
            simpa [e0] using this
  · cases hg
def fZip : D → D → Option (List D)
  | .lst xs, .lst ys => some ((xs.zip ys).map fun p => .tup [p.1, p.2])
  | _, _ => none
abbrev gZip := g2S fZip
def wZip (K : PySem.W.Frag) : WR := fun vs H R => ∃ a b xs ys, vs = [.ref a, .ref b] ∧ SqL K H a xs ∧ SqL K H b ys ∧ R (Itz K a b) H
theorem sv_zip {K : PySem.W.Frag} : SV K (wZip K) gZip := by
  intro As H R ds ok hg k
  rcases As with _ | ⟨⟨l1, d1, v1, n1⟩, _ | ⟨⟨l2, d2, v2, n2⟩, _ | ⟨t, As⟩⟩⟩
  · cases hg
  · cases hg
  · have h1 := ok.rd _ (List.mem_cons_self ..)
    have h2 := ok.rd _ (List.mem_cons_of_mem _ (List.mem_cons_self ..))
    change fZip d1 d2 = some ds at hg
    unfold fZip at hg
    split at hg
    · rename_i xs ys
      cases hg
      cases h1 with
      | @lst a vs _ ns e1 r1 =>
        cases h2 with
        | @lst b us _ ms e2 r2 =>
          have hl : ((xs.zip ys).map fun p => D.tup [p.1, p.2]).length = min xs.length ys.length := by simp
          have memA : ∀ c ∈ ns, 0 < oL [⟨l1, .lst xs, V.ref a, a :: ns⟩, ⟨l2, .lst ys, V.ref b, b :: ms⟩] c + rL [⟨l1, .lst xs, V.ref a, a :: ns⟩, ⟨l2, .lst ys, V.ref b, b :: ms⟩] c := fun c hc => arg_ns (s := ⟨l1, .lst xs, V.ref a, a :: ns⟩) (List.mem_cons_self ..) c (List.mem_cons_of_mem _ hc)
          have memB : ∀ c ∈ ms, 0 < oL [⟨l1, .lst xs, V.ref a, a :: ns⟩, ⟨l2, .lst ys, V.ref b, b :: ms⟩] c + rL [⟨l1, .lst xs, V.ref a, a :: ns⟩, ⟨l2, .lst ys, V.ref b, b :: ms⟩] c := fun c hc => arg_ns (s := ⟨l2, .lst ys, V.ref b, b :: ms⟩) (List.mem_cons_of_mem _ (List.mem_cons_self ..)) c (List.mem_cons_of_mem _ hc)
          have get : ∀ {H' : Hp}, (∀ s ∈ [(⟨l1, .lst xs, V.ref a, a :: ns⟩ : Sl), ⟨l2, .lst ys, V.ref b, b :: ms⟩], Rd K H' s.v s.d s.ns) → ∃ ws zs, H' a = some (.lst ws) ∧ H' b = some (.lst zs) ∧ Rds K H' ws xs ns ∧ Rds K H' zs ys ms := fun {H'} q => by
            have q1 := q _ (List.mem_cons_self ..)
            have q2 := q _ (List.mem_cons_of_mem _ (List.mem_cons_self ..))
            cases q1 with
            | lst f1 s1 =>
              cases q2 with
              | lst f2 s2 => exact ⟨_, _, f1, f2, s1, s2⟩
          refine ⟨a, b, vs, us, rfl, .of e1, .of e2, k _ ⟨fun i H i' q => ?_, fun H q => ?_, fun i d H v H' hd q y => ?_⟩⟩
          · rw [hl] at i'
            obtain ⟨ws, zs, f1, f2, s1, s2⟩ := get q
            exact ⟨ws, zs, ws[i]'(by rw [s1.length]; omega), zs[i]'(by rw [s2.length]; omega), .of f1, .of f2, by simp, by simp⟩
          · obtain ⟨ws, zs, f1, f2, s1, s2⟩ := get q
            exact ⟨ws, zs, .of f1, .of f2, by rw [s1.length, s2.length, hl]; omega⟩
          · obtain ⟨ws, zs, f1, f2, s1, s2⟩ := get q
            rw [List.getElem?_map] at hd
            obtain ⟨p, hp, e⟩ := Option.map_eq_some_iff.mp hd
            subst e
            obtain ⟨px, py⟩ := p
            rw [List.getElem?_zip_eq_some] at hp
            obtain ⟨v1, n1, m1, m2, g1, g2, g3⟩ := s1.get hp.1
            obtain ⟨v2, n2, k1, k2, g4, g5, g6⟩ := s2.get hp.2
            obtain ⟨T, x', z', y1, y2, y3, y4, y5⟩ := y
            subst y1 y3
            have a1 := y4 ws (.of f1)
            have a2 := y5 zs (.of f2)
            rw [g1] at a1
            rw [g4] at a2
            cases a1
            cases a2
            refine ⟨same_upd y2, n1 ++ n2, rd_newT y2 (rds2 g2 g5), fun c hc => ?_⟩
            rcases List.mem_append.mp hc with hc | hc
            · exact memA c (by rw [g3]; exact List.mem_append_right _ (List.mem_append_left _ hc))
            · exact memB c (by rw [g6]; exact List.mem_append_right _ (List.mem_append_left _ hc))
    · cases hg
  · cases hg

/-! ### as the source of a loop -/
def srcE (g : List LD → Option (List D)) (fs : List EF) : IF' := fun Γ => match evE fs Γ with
  | .ok xs Γ' => (match g xs with
    | some ds => .ok (ds.map fun d => (0, d)) Γ'
    | none => .bad)
  | .exc c Γ' => .exc c Γ'
  | .bad => .bad
section
variable {K : PySem.W.Frag} {Z : Zone} {σ : L2.St} {H H' : Hp} {L : List (Option Sl)} {M : List Tm}
/-- a temp told otherwise -/
theorem Rel.conv {m m' : Tm} (R : Rel K Z σ H L (m :: M)) (hP : m'.P H) (hS : m'.Stab K) (hc : ∀ a, m'.own a ≤ m.own a ∧ (0 < m'.rst a → 0 < m.own a + m.rst a) ∧ (0 < m'.own a → m'.rst a = 0)) : Rel K Z σ H L (m' :: M) := by
  have sp : ∀ a, oS L a + (m.own a + oM M a) ≤ 1 ∧ (0 < oS L a + (m.own a + oM M a) → rS L a + (m.rst a + rM M a) = 0) := fun a => R.sep a
  obtain ⟨_, _, hd⟩ := R.tms m (List.mem_cons_self ..)
  exact R.pop.push hP hS (fun a ha => hd a (by have := hc a; by_cases c : 0 < m'.rst a; exact (hc a).2.1 c; omega)) (fun a => ⟨by have := hc a; have := sp a; omega, fun h => (hc a).2.2 h⟩)
    (fun a ha => ⟨R.wr a (by show 0 < oS L a + (m.own a + oM M a); have := hc a; omega), by have := hc a; have := sp a; omega⟩) fun a ha => by
    have := (hc a).2.1 ha
    have := sp a
    omega
end
theorem di_gen {X : Cx} {W : WW} {tg iter : Expr} {w : WR} {g : List LD → Option (List D)} {fs : List EF} {wi : TI} (hv : SV X.K w g) (hi : PI X tg iter wi) (ht : ∀ σ H R, tArgs (fs.map fun f => tDE X.K W f) (fun vs H _ => w vs H R) σ H (fun _ _ => True) → wi σ H R) : DI X W tg iter (srcE g fs) := by
  refine ⟨wi, hi, fun σ H R' ⟨Z, L, M, R, q⟩ => ht σ H R' ?_⟩
  refine eparts (r := fun vs H _ => w vs H R') (M := M) fs [] H L R.args0 (fun _ h => (nomatch h)) ?_
  unfold srcE at q
  cases ev : evE fs (er L) with
  | bad => rw [ev] at q; exact q
  | exc c Γ' => rw [ev] at q; exact q
  | ok xs Γ' =>
    rw [ev] at q
    intro Bs H1 L1 e1 eB R1 z1
    simp only [List.nil_append] at R1 z1 ⊢
    dsimp only at q
    cases eg : g xs with
    | none => rw [eg] at q; exact q.elim
    | some ds =>
      rw [eg] at q
      dsimp only at q
      refine hv Bs H1 R' ds R1.argsOk (by rw [eB]; exact eg) fun J wk => ?_
      -- the arguments are kept, nothing of them is owned
      have stb : (⟨fun _ => 0, fun a => oL Bs a + rL Bs a, fun H => ∀ s ∈ Bs, Rd X.K H s.v s.d s.ns⟩ : Tm).Stab X.K := fun H H' h t e s hs => Rd.at t _ _ _ (h s hs) fun a ha => e a (by
        have := oL_mem a hs
        have := (s.mem a).mpr ha
        show 0 < 0 + (oL Bs a + rL Bs a)
        omega)
      have R2 := R1.conv (m' := ⟨fun _ => 0, fun a => oL Bs a + rL Bs a, fun H => ∀ s ∈ Bs, Rd X.K H s.v s.d s.ns⟩) R1.argsOk.rd stb fun a => ⟨Nat.zero_le _, fun h => h, fun h => absurd h (Nat.lt_irrefl 0)⟩
      refine q H1 L1 J (fun _ => ⟨fun _ => 0, fun a => oL Bs a + rL Bs a, fun H => ∀ s ∈ Bs, Rd X.K H s.v s.d s.ns⟩) e1 R2 ⟨fun i H hi h => wk.goes i H (by simpa using hi) h, fun H h => by simpa using wk.stops H h, fun _ => stb, fun i x H v H' hx h y => ?_⟩
      rw [List.getElem?_map] at hx
      obtain ⟨d, hd, e⟩ := Option.map_eq_some_iff.mp hx
      subst e
      obtain ⟨sm, ns, rd, hn⟩ := wk.step i d H v H' hd h y
      have h' : ∀ s ∈ Bs, Rd X.K H' s.v s.d s.ns := fun s hs => (h s hs).same sm
      refine ⟨sm, ns, rd, fun a ha => ?_, h', fun a ha => ?_, fun a => ?_⟩
      · obtain ⟨t, g1, g2⟩ := oL_pos (hn a ha)
        exact z1 t g1 a g2
      · obtain ⟨t, g1, g2⟩ := oL_pos (As := Bs) (a := a) (by have ha : 0 < 0 + (oL Bs a + rL Bs a) := ha; omega)
        exact (h' t g1).dom _ _ _ a g2
      · have e1 : (Sl.mk 0 d v ns).own a = 0 := by simp [Sl.own, ownL]
        have e2 : (Sl.mk 0 d v ns).rst a = ns.count a := by simp [Sl.rst, rstL]
        dsimp only
        rw [e1, e2]
        refine ⟨Nat.le_refl _, fun c => ?_, fun c => absurd c (by omega)⟩
        by_cases c2 : 0 < ns.count a
        · have := hn a (List.count_pos_iff.mp c2)
          omega
        · omega
end DL

/-! DL11: things that are changed: lists by their methods, items stored -/
namespace DL
open L2 PySem PySem.Spec PyProof.Rows
section
variable {K : PySem.W.Frag} {H H' : Hp}
theorem tot_cnt (As : List Sl) (a : Addr) : oL As a + rL As a = (As.flatMap Sl.ns).count a := (cnt_flat a As).symm
/-- a list that is owned: its own object stands in it once, and nowhere else -/
theorem top_own {As : List Sl} {l : Nat} {d : D} {v : V} {p : Addr} {ns : List Addr} (ok : ArgsOk K H As) (hs : (⟨l, d, v, p :: ns⟩ : Sl) ∈ As) (hl : 1 ≤ l % 10) (hm : d.mut = true) : (As.flatMap Sl.ns).count p = 1 ∧ 0 < oL As p := by
  have h1 : 0 < (Sl.mk l d v (p :: ns)).own p := by
    unfold Sl.own ownL
    dsimp only
    split
    · omega
    · rw [if_pos hm]; simp
    · simp [List.count_cons]
  have h2 := oL_mem p hs
  have h3 := ok.sep p
  have h4 := tot_cnt As p
  omega
theorem flat_cnt {As : List Sl} {s : Sl} (h : s ∈ As) (a : Addr) : s.ns.count a ≤ (As.flatMap Sl.ns).count a := by
  induction As with
  | nil => cases h
  | cons t As ih =>
    rw [List.flatMap_cons, List.count_append]
    rcases List.mem_cons.mp h with rfl | h
    · omega
    · have := ih h; omega
theorem tupk_upd {p : Addr} {o o' : HO} (hp : H p = some o) (hm : Mut (some o)) : TupK H (upd H p o') := fun a q e n => by
  by_cases c : a = p
  · subst c
    rw [hp] at e
    cases e
    exact absurd hm n
  · rw [upd_ne c]; exact e
/-- readings that do not lean on the object that is written -/
theorem Rds.upd {vs : List V} {ds : List D} {ns : List Addr} {p : Addr} {o o' : HO} (h : Rds K H vs ds ns) (hp : H p = some o) (hm : Mut (some o)) (hn : p ∉ ns) : Rds K (upd H p o') vs ds ns :=
  Rds.at (tupk_upd hp hm) _ _ _ h fun a ha => upd_ne fun e => hn (e ▸ ha)
theorem Rd.upd {v : V} {d : D} {ns : List Addr} {p : Addr} {o o' : HO} (h : Rd K H v d ns) (hp : H p = some o) (hm : Mut (some o)) (hn : p ∉ ns) : Rd K (upd H p o') v d ns :=
  Rd.at (tupk_upd hp hm) _ _ _ h fun a ha => upd_ne fun e => hn (e ▸ ha)
theorem Fram.upd {As : List Sl} {p : Addr} {o : HO} (h : 0 < oL As p) : Fram As H (upd H p o) := ⟨fun a q e z => by
    rw [upd_ne (fun c => by rw [c] at z; omega)]
    exact e, fun a e => by
    unfold L2.upd at e
    split at e
    · cases e
    · exact e⟩
end
/-- a call by values that keeps a promise over data -/
def MOk (K : PySem.W.Frag) (mg : Str → Option Value) (n : Nat) (io : List Bool) (r : List V → Hp → VK → Prop) (G : List LD → FR) : Prop := ∀ vs H Q E, spF K mg n io G vs H Q E → r vs H Q
def r1a (r : V → List V → Hp → VK → Prop) : List V → Hp → VK → Prop := fun xs H Q => match xs with
  | x :: ys => r x ys H Q
  | _ => False
/-- the level of a list behind a thing that was put into it -/
def lvP (l : Nat) (x : LD) : Nat := if 2 ≤ l % 10 ∧ (2 ≤ x.1 % 10 ∨ x.2.imm = true) then 2 else 1
/-- a list's content is changed by one thing: xs to ys, the things of ys those of xs and d's -/
def G2 (f : List D → LD → Option (List D)) : List LD → FR
  | [(l, .lst xs), x] => if 1 ≤ l % 10 then (match f xs x with
    | some ys => .ret (2, .non) [(lvP l x, .lst ys)]
    | none => .bad) else .bad
  | _ => .bad
section
variable {K : PySem.W.Frag} {mg : Str → Option Value} {H : Hp}
/-- behind a change of an object that is owned: what there is now; t: what is given -/
theorem chg {As : List Sl} {l' : Nat} {d' : D} {t : Sl} {p : Addr} {o o' : HO} {ms : List Addr} (ok : ArgsOk K H As) (h1 : (As.flatMap Sl.ns).count p = 1) (h2 : 0 < oL As p) (hp : H p = some o) (hm' : Mut (some o')) (hr : Rd K (upd H p o') (.ref p) d' (p :: ms)) (hd : d'.mut = true)
    (hrt : Rd K (upd H p o') t.v t.d t.ns) (hm : ∀ a, (p :: (ms ++ t.ns)).count a ≤ (As.flatMap Sl.ns).count a) (hl' : l' = 1 ∨ (l' = 2 ∧ ∀ a, 0 < ms.count a → 0 < oL As a)) (ht : t.l = 0 ∨ (t.l = 2 ∧ ∀ a, 0 < t.ns.count a → 0 < oL As a)) :
    Fram As H (upd H p o') ∧ ArgsOk K (upd H p o') [t, ⟨l', d', .ref p, p :: ms⟩] ∧ From As H [t, ⟨l', d', .ref p, p :: ms⟩] := by
  have tot := fun a => tot_cnt As a
  have cn : ∀ a, (if p = a then 1 else 0) + ms.count a + t.ns.count a ≤ oL As a + rL As a := fun a => by
    have := hm a
    rw [← tot a, List.count_cons, List.count_append] at this
    by_cases c : p = a
    · simp only [c, beq_self_eq_true, if_true] at this ⊢; omega
    · simp only [c, beq_iff_eq, if_false] at this ⊢; omega
  have hp' := tot p
  have sO : ∀ a, (Sl.mk l' d' (.ref p) (p :: ms)).own a = (if p = a then 1 else 0) + (if l' = 2 then ms.count a else 0) ∧ (Sl.mk l' d' (.ref p) (p :: ms)).rst a = (if l' = 2 then 0 else ms.count a) := fun a => by
    rcases hl' with e | ⟨e, _⟩
    · subst e
      simp only [Sl.own, Sl.rst, ownL, rstL, hd, if_true, List.take_succ_cons, List.take_zero, List.drop_succ_cons, List.drop_zero, List.count_cons, List.count_nil, beq_iff_eq]
      simp
    · subst e
      simp only [Sl.own, Sl.rst, ownL, rstL, List.count_cons, List.count_nil, beq_iff_eq]
      simp; omega
  have tO : ∀ a, t.own a = (if t.l = 2 then t.ns.count a else 0) ∧ t.rst a = (if t.l = 2 then 0 else t.ns.count a) := fun a => by
    obtain ⟨l, d, v, ns⟩ := t
    dsimp only at *
    rcases ht with e | ⟨e, _⟩
    · subst e; simp [Sl.own, Sl.rst, ownL, rstL]
    · subst e; simp [Sl.own, Sl.rst, ownL, rstL]
  have B : ∀ a, oL [t, ⟨l', d', .ref p, p :: ms⟩] a = (if t.l = 2 then t.ns.count a else 0) + ((if p = a then 1 else 0) + (if l' = 2 then ms.count a else 0)) ∧ rL [t, ⟨l', d', .ref p, p :: ms⟩] a = (if t.l = 2 then 0 else t.ns.count a) + (if l' = 2 then 0 else ms.count a) := fun a => by
    simp only [oL, rL, (sO a).1, (sO a).2, (tO a).1, (tO a).2, Nat.add_zero]
    simp
  have C : ∀ a, ∃ m1 m2 t1 t2 b : Nat, m1 + m2 = ms.count a ∧ t1 + t2 = t.ns.count a ∧ (a = p → b = 1) ∧ ((b = 0 ∧ a ≠ p) ∨ (a = p ∧ b = 1)) ∧ b + ms.count a + t.ns.count a ≤ oL As a + rL As a ∧ oL [t, ⟨l', d', .ref p, p :: ms⟩] a = t1 + (b + m1) ∧ rL [t, ⟨l', d', .ref p, p :: ms⟩] a = t2 + m2 ∧ (0 < m1 → 0 < oL As a) ∧ (0 < t1 → 0 < oL As a) := fun a => by
    refine ⟨if l' = 2 then ms.count a else 0, if l' = 2 then 0 else ms.count a, if t.l = 2 then t.ns.count a else 0, if t.l = 2 then 0 else t.ns.count a, if p = a then 1 else 0, by split <;> simp, by split <;> simp, fun e => if_pos e.symm, ?_, cn a, (B a).1, (B a).2, ?_, ?_⟩
    · by_cases c : p = a
      · exact .inr ⟨c.symm, if_pos c⟩
      · exact .inl ⟨if_neg c, fun e => c e.symm⟩
    · rcases hl' with e | ⟨e, k⟩
      · rw [e]; exact fun h => absurd h (by simp)
      · rw [if_pos e]; exact k a
    · rcases ht with e | ⟨e, k⟩
      · rw [e]; exact fun h => absurd h (by simp)
      · rw [if_pos e]; exact k a
  -- what is owned now was owned
  have ow : ∀ a, 0 < oL [t, ⟨l', d', .ref p, p :: ms⟩] a → 0 < oL As a := fun a ha => by
    obtain ⟨m1, m2, t1, t2, b, c1, c2, c3, c4, c5, c6, c7, c8, c9⟩ := C a
    by_cases e : a = p
    · exact e ▸ h2
    · by_cases f : 0 < m1
      · exact c8 f
      · rcases c4 with c4 | c4
        · exact c9 (by omega)
        · exact absurd c4.1 e
  refine ⟨.upd h2, ⟨fun s hs => ?_, fun a => ?_, fun a ha => ?_⟩, fun a => ⟨fun h => .inr (ow a h), fun h => .inr ?_⟩⟩
  · rcases List.mem_cons.mp hs with rfl | hs
    · exact hrt
    · rw [List.mem_singleton.mp hs]; exact hr
  · have k := ow a
    have s := ok.sep a
    obtain ⟨m1, m2, t1, t2, b, c1, c2, c3, c4, c5, c6, c7, c8, c9⟩ := C a
    rw [c6] at k ⊢
    rw [c7]
    by_cases f : 0 < t1 + (b + m1)
    · have f2 := k f
      have f3 := s.2 f2
      have f4 := s.1
      exact ⟨by omega, fun _ => by omega⟩
    · exact ⟨by omega, fun z => absurd z f⟩
  · have k := ow a ha
    by_cases e : a = p
    · subst e; rw [upd_same]; exact hm'
    · rw [upd_ne e]; exact ok.wr a k
  · obtain ⟨m1, m2, t1, t2, b, c1, c2, c3, c4, c5, c6, c7, c8, c9⟩ := C a
    omega

def fullS (s : Sl) : Prop := 2 ≤ s.l % 10 ∨ s.ns = []
theorem full_own {s : Sl} (h : fullS s) (a : Addr) : s.own a = s.ns.count a := by
  rcases h with h | h
  · have h1 := s.tot a
    have h2 := rst_top (d := s.d) (v := s.v) (ns := s.ns) h a
    have h3 : s.rst a = 0 := h2
    omega
  · have h1 := s.tot a
    rw [h] at h1 ⊢
    simp at h1 ⊢
    omega
theorem fulls_own {a : Addr} : ∀ {Xs : List Sl}, (∀ x ∈ Xs, fullS x) → oL Xs a = (Xs.flatMap Sl.ns).count a
  | [], _ => rfl
  | x :: Xs, h => by
    rw [List.flatMap_cons, List.count_append, ← fulls_own fun y hy => h y (List.mem_cons_of_mem _ hy), ← full_own (h x (List.mem_cons_self ..))]
    rfl
/-- an object that is owned has other content now -/
theorem obj_chg {l l' : Nat} {d d' : D} {p : Addr} {o o' : HO} {ns ms : List Addr} {Xs : List Sl} {t : Sl} (ok : ArgsOk K H (⟨l, d, .ref p, p :: ns⟩ :: Xs)) (hd : d.mut = true) (hd' : d'.mut = true) (hl : 1 ≤ l % 10) (hp : H p = some o) (hm : Mut (some o)) (hm' : Mut (some o')) (rd : p ∉ ms → Rd K (upd H p o') (.ref p) d' (p :: ms)) (rt : Rd K H t.v t.d t.ns)
    (cnt : ∀ a, ms.count a + t.ns.count a ≤ ns.count a + (Xs.flatMap Sl.ns).count a) (hl' : l' = 1 ∨ (l' = 2 ∧ 2 ≤ l % 10 ∧ ∀ x ∈ Xs, fullS x)) (ht : t.l = 0 ∨ (t.l = 2 ∧ (t.ns = [] ∨ (2 ≤ l % 10 ∧ ∀ x ∈ Xs, fullS x)))) :
    Fram (⟨l, d, .ref p, p :: ns⟩ :: Xs) H (upd H p o') ∧ ArgsOk K (upd H p o') [t, ⟨l', d', .ref p, p :: ms⟩] ∧ From (⟨l, d, .ref p, p :: ns⟩ :: Xs) H [t, ⟨l', d', .ref p, p :: ms⟩] := by
  obtain ⟨h1, h2⟩ := top_own ok (List.mem_cons_self ..) hl hd
  have h1' := h1
  rw [List.flatMap_cons, List.count_append] at h1'
  simp only [List.count_cons, beq_self_eq_true, if_true] at h1'
  have cp := cnt p
  have hpm : p ∉ ms := fun c => by have := List.count_pos_iff.mpr c; omega
  have hpt : p ∉ t.ns := fun c => by have := List.count_pos_iff.mpr c; omega
  have full : 2 ≤ l % 10 → (∀ x ∈ Xs, fullS x) → ∀ a, 0 < ns.count a + (Xs.flatMap Sl.ns).count a → 0 < oL (⟨l, d, .ref p, p :: ns⟩ :: Xs) a := fun g1 g2 a ha => by
    have := full_own (s := ⟨l, d, .ref p, p :: ns⟩) (.inl g1) a
    have := fulls_own (a := a) g2
    show 0 < (Sl.mk l d (.ref p) (p :: ns)).own a + oL Xs a
    have : ns.count a ≤ (p :: ns).count a := by rw [List.count_cons]; omega
    simp only at *
    omega
  refine chg ok h1 h2 hp hm' (rd hpm) hd' (rt.upd hp hm hpt) (fun a => ?_) ?_ ?_
  · have := cnt a
    rw [List.flatMap_cons, List.count_append]
    simp only [List.count_cons, List.count_append]
    omega
  · rcases hl' with e | ⟨e, g1, g2⟩
    · exact .inl e
    · exact .inr ⟨e, fun a ha => full g1 g2 a (by have := cnt a; omega)⟩
  · rcases ht with e | ⟨e, g⟩
    · exact .inl e
    · refine .inr ⟨e, fun a ha => ?_⟩
      rcases g with g | ⟨g1, g2⟩
      · rw [g] at ha; simp at ha
      · exact full g1 g2 a (by have := cnt a; omega)
theorem rd_mut {d : D} {v : V} {ns : List Addr} (h : Rd K H v d ns) (hd : d.mut = true) : ∃ p o ms, v = .ref p ∧ ns = p :: ms ∧ H p = some o ∧ Mut (some o) := by
  cases h with
  | lst h r => exact ⟨_, _, _, rfl, rfl, h, trivial⟩
  | dk h k r => exact ⟨_, _, _, rfl, rfl, h, trivial⟩
  | _ => cases hd
/-- the level of a thing whose things are all ours, of one whose things are not -/
def l12 (b : Bool) : Nat := if b then 2 else 1
def l02 (b : Bool) : Nat := if b then 2 else 0
def ful (x : LD) : Bool := decide (2 ≤ x.1 % 10) || x.2.imm
theorem ful_ok {s : Sl} (h : ful s.ld = true) (r : Rd K H s.v s.d s.ns) : fullS s := by
  unfold ful at h
  rw [Bool.or_eq_true, decide_eq_true_eq] at h
  rcases h with h | h
  · exact .inl h
  · exact .inr (r.imm _ _ _ h)
/-- what changes an object: from it and the other arguments to the value and what it is then -/
def GL (f : D → List LD → Option (Option D × D)) : List LD → FR
  | (l, d) :: as => if 1 ≤ l % 10 then (if d.mut then (match f d as with
    | some (some x, d') => .ret (l02 (decide (2 ≤ l % 10) && as.all ful || x.imm), x) [(l12 (decide (2 ≤ l % 10) && as.all ful), d')]
    | some (none, d') => .ret (2, .non) [(l12 (decide (2 ≤ l % 10) && as.all ful), d')]
    | none => .bad) else .bad) else .bad
  | _ => .bad
/-- what such a method is to be -/
def LOk (K : PySem.W.Frag) (r : V → List V → Hp → VK → Prop) (f : D → List LD → Option (Option D × D)) : Prop := ∀ (d : D) (p : Addr) (ns : List Addr) (Xs : List Sl) (H : Hp) (Q : VK) (od : Option D) (d' : D), d.mut = true → Rd K H (.ref p) d (p :: ns) → (∀ s ∈ Xs, Rd K H s.v s.d s.ns) → f d (Xs.map Sl.ld) = some (od, d') →
  (∀ v nv o' ms, d'.mut = true → Mut (some o') → (∀ o, H p = some o → Mut (some o) → p ∉ ms → Rd K (upd H p o') (.ref p) d' (p :: ms)) → Rd K H v (od.getD .non) nv → (∀ a, ms.count a + nv.count a ≤ ns.count a + (Xs.flatMap Sl.ns).count a) → Q v (upd H p o')) → r (.ref p) (Xs.map Sl.v) H Q
theorem MOk.of {r : V → List V → Hp → VK → Prop} {f : D → List LD → Option (Option D × D)} {n : Nat} (h : LOk K r f) : MOk K mg (n + 1) (true :: List.replicate n false) (r1a r) (GL f) := by
  rintro _ H Q E ⟨As, rfl, hn, ok, q⟩
  rcases As with _ | ⟨⟨l, d, v, ns⟩, Xs⟩
  · cases hn
  · have rs := ok.rd ⟨l, d, v, ns⟩ (List.mem_cons_self ..)
    have rX : ∀ s ∈ Xs, Rd K H s.v s.d s.ns := fun s hs => ok.rd s (List.mem_cons_of_mem _ hs)
    have mk : msk (true :: List.replicate n false) (v :: Xs.map Sl.v) = [v] := by
      have : ∀ (n : Nat) (vs : List V), msk (List.replicate n false) vs = [] := fun n => by
        induction n with
        | zero => intro vs; rfl
        | succ n ih =>
          intro vs
          cases vs with
          | nil => rfl
          | cons v vs => exact ih vs
      show v :: msk (List.replicate n false) _ = _
      rw [this]
    simp only [List.map_cons, Sl.ld] at q
    unfold GL at q
    dsimp only at rs q
    by_cases hl : 1 ≤ l % 10
    · rw [if_pos hl] at q
      by_cases hd : d.mut = true
      · rw [if_pos hd] at q
        obtain ⟨p, o, ms0, rfl, rfl, hp, hm⟩ := rd_mut rs hd
        show r (.ref p) (Xs.map Sl.v) H Q
        have fl : ∀ b, (decide (2 ≤ l % 10) && (Xs.map Sl.ld).all ful) = b → l12 b = 1 ∨ (l12 b = 2 ∧ 2 ≤ l % 10 ∧ ∀ x ∈ Xs, fullS x) := fun b hb => by
          subst hb
          cases hb : (decide (2 ≤ l % 10) && (Xs.map Sl.ld).all ful) with
          | false => exact .inl rfl
          | true =>
            rw [Bool.and_eq_true, decide_eq_true_eq, List.all_eq_true] at hb
            exact .inr ⟨rfl, hb.1, fun x hx => ful_ok (hb.2 _ (List.mem_map.mpr ⟨x, hx, rfl⟩)) (rX x hx)⟩
        cases ef : f d (Xs.map Sl.ld) with
        | none =>
          have q : False := by simpa [ef] using q
          exact q.elim
        | some z =>
          obtain ⟨od, d'⟩ := z
          refine h d p ms0 Xs H Q od d' hd rs rX ef fun v nv o' ms hd' hm' r1 r2 cn => ?_
          cases od with
          | none =>
            have q := q
            simp only [ef] at q
            have e2 : nv = [] := by cases r2; rfl
            have e3 : v = .non := by cases r2; rfl
            subst e2 e3
            obtain ⟨g1, g2, g3⟩ := obj_chg (t := ⟨2, .non, .non, []⟩) ok hd hd' hl hp hm hm' (r1 o hp hm) r2 cn (fl _ rfl) (.inr ⟨rfl, .inl rfl⟩)
            exact q _ _ [⟨_, _, _, _⟩] _ rfl mk.symm g1 g2 g3
          | some x =>
            have q := q
            simp only [ef] at q
            simp only [Option.getD_some] at r2
            obtain ⟨g1, g2, g3⟩ := obj_chg (t := ⟨l02 (decide (2 ≤ l % 10) && (Xs.map Sl.ld).all ful || x.imm), x, v, nv⟩) ok hd hd' hl hp hm hm' (r1 o hp hm) r2 cn (fl _ rfl) (by
              dsimp only
              cases e1 : x.imm with
              | true => exact .inr ⟨by simp [l02], .inl (r2.imm _ _ _ e1)⟩
              | false =>
                rw [Bool.or_false]
                rcases fl _ rfl with g | ⟨g, g1, g2⟩
                · left
                  revert g
                  cases (decide (2 ≤ l % 10) && (Xs.map Sl.ld).all ful) <;> simp [l12, l02]
                · right
                  revert g
                  cases (decide (2 ≤ l % 10) && (Xs.map Sl.ld).all ful) <;> simp [l12, l02, g1]
                  exact .inr g2)
            exact q _ _ [⟨_, _, _, _⟩] _ rfl mk.symm g1 g2 g3
      · rw [if_neg hd] at q; exact q.elim
    · rw [if_neg hl] at q; exact q.elim
/-- a store: the value, the object, the place -/
def GS (f : D → List LD → Option (Option D × D)) : List LD → FR
  | [x, s, k] => GL f [s, x, k]
  | _ => .bad
def r3s (r : V → List V → Hp → VK → Prop) : List V → Hp → VK → Prop := fun xs H Q => match xs with
  | [v, o, i] => r o [v, i] H Q
  | _ => False
theorem MOk.store {r : V → List V → Hp → VK → Prop} {f : D → List LD → Option (Option D × D)} (h : LOk K r f) : MOk K mg 3 [false, true, false] (r3s r) (GS f) := by
  rintro _ H Q E ⟨As, rfl, hn, ok, q⟩
  rcases As with _ | ⟨x, _ | ⟨s, _ | ⟨k, _ | ⟨y, As⟩⟩⟩⟩
  · cases hn
  · cases hn
  · cases hn
  rotate_left
  · simp at hn
  have pm : [x, s, k].Perm [s, x, k] := .swap ..
  refine (MOk.of (mg := mg) (n := 2) h) [s.v, x.v, k.v] H Q E ⟨[s, x, k], rfl, rfl, ok.perm pm, ?_⟩
  have eo : ∀ a, oL [x, s, k] a = oL [s, x, k] a ∧ rL [x, s, k] a = rL [s, x, k] a := fun a => oL_perm pm a
  have e1 : ∀ {H'}, Fram [s, x, k] H H' → Fram [x, s, k] H H' := fun g => ⟨fun a o h1 h2 => g.1 a o h1 (by rw [← (eo a).1]; exact h2), g.2⟩
  have e2 : ∀ {Bs}, From [s, x, k] H Bs → From [x, s, k] H Bs := fun g a => by rw [(eo a).1, (eo a).2]; exact g a
  simp only [List.map_cons, List.map_nil, GS] at q ⊢
  cases eg : GL f [s.ld, x.ld, k.ld] with
  | bad => rw [eg] at q; exact q
  | exc c fin =>
    rw [eg] at q
    exact fun Fs H' g1 g2 g3 g4 g5 => q Fs H' g1 g2 (e1 g3) g4 (e2 g5)
  | ret y fin =>
    rw [eg] at q
    exact fun v ns Fs H' g1 g2 g3 g4 g5 => q v ns Fs H' g1 g2 (e1 g3) g4 (e2 g5)
end
end DL

/-! DL12: the methods that change a list, stores -/
namespace DL
open L2 PySem PySem.Spec PyProof.Rows
section
variable {K : PySem.W.Frag}
theorem LOk.lst {r : V → List V → Hp → VK → Prop} {f : D → List LD → Option (Option D × D)} (hn : ∀ d as, d.mut = true → (∀ xs, d ≠ .lst xs) → f d as = none) (h : ∀ (xs : List D) (p : Addr) (vs : List V) (ns : List Addr) (Xs : List Sl) (H : Hp) (Q : VK) (od : Option D) (d' : D), H p = some (.lst vs) → Rds K H vs xs ns → (∀ s ∈ Xs, Rd K H s.v s.d s.ns) → f (.lst xs) (Xs.map Sl.ld) = some (od, d') →
    (∀ v nv ys ws ms, d' = .lst ys → Rds K H ws ys ms → Rd K H v (od.getD .non) nv → (∀ a, ms.count a + nv.count a ≤ ns.count a + (Xs.flatMap Sl.ns).count a) → Q v (upd H p (.lst ws))) → r (.ref p) (Xs.map Sl.v) H Q) : LOk K r f := by
  intro d p ns Xs H Q od d' hd rd rX hf k
  cases rd with
  | lst hp rs =>
    exact h _ p _ ns Xs H Q od d' hp rs rX hf fun v nv ys ws ms e g1 g2 g3 => k v nv (.lst ws) ms (by rw [e]; rfl) trivial (fun o ho hm hq => e ▸ .lst upd_same (g1.upd ho hm hq)) g2 g3
  | dk h1 h2 h3 => rw [hn _ _ rfl (fun _ e => by cases e)] at hf; cases hf
  | tup h r => cases hd
def fApp : D → List LD → Option (Option D × D)
  | .lst xs, [x] => if szOk (xs.length + 1) then some (none, .lst (xs ++ [x.2])) else none
  | _, _ => none
theorem lone {Xs : List Sl} {P : Prop} (h : ∀ x, Xs = [x] → P) (n : Xs.length = 1) : P := by
  rcases Xs with _ | ⟨x, _ | ⟨y, Xs⟩⟩
  · cases n
  · exact h x rfl
  · simp at n
theorem l_append : LOk K rAppend fApp := LOk.lst (fun d as hd hn => by
    cases d <;> first | rfl | exact absurd rfl (hn _)) fun xs p vs ns Xs H Q od d' hp rs rX hf k => by
  rcases Xs with _ | ⟨x, _ | ⟨y, Xs⟩⟩
  · cases hf
  · simp only [List.map_cons, List.map_nil, fApp] at hf
    split at hf
    · next hz =>
      cases hf
      refine ⟨p, vs, x.v, rfl, rfl, hp, ?_, k .non [] _ _ _ rfl (rs.append (.cons (rX x (List.mem_cons_self ..)) .nil)) .non fun a => ?_⟩
      · have := szOk_ok hz
        rw [rs.length]
        omega
      · simp [List.count_append]
    · cases hf
  · cases hf
def fIns : D → List LD → Option (Option D × D)
  | .lst xs, [(_, .int i), x] => if szOk (xs.length + 1) && decide (0 ≤ i) && decide (i.natAbs < 9223372036854775808) then some (none, .lst (xs.take i.toNat ++ [x.2] ++ xs.drop i.toNat)) else none
  | _, _ => none
theorem Rds.split {H : Hp} : ∀ (n : Nat) {vs : List V} {ds : List D} {ns : List Addr}, Rds K H vs ds ns → ∃ n1 n2, ns = n1 ++ n2 ∧ Rds K H (vs.take n) (ds.take n) n1 ∧ Rds K H (vs.drop n) (ds.drop n) n2
  | 0, _, _, ns, r => ⟨[], ns, rfl, .nil, r⟩
  | _ + 1, _, _, _, .nil => ⟨[], [], rfl, .nil, .nil⟩
  | n + 1, _, _, _, .cons (n := n0) h r => by
    obtain ⟨n1, n2, e, q1, q2⟩ := Rds.split n r
    exact ⟨n0 ++ n1, n2, by rw [e, List.append_assoc], .cons h q1, q2⟩
def rIns : V → List V → Hp → VK → Prop := fun x vs H Q => ∃ (l : Addr) (xs : List V) (i : Int) (y : V), x = .ref l ∧ vs = [.int i, y] ∧ H l = some (.lst xs) ∧ xs.length < sizeLine ∧ 0 ≤ i ∧ i < 2 ^ 63 ∧
    Q .non (upd H l (.lst (xs.take i.toNat ++ [y] ++ xs.drop i.toNat)))
theorem l_insert : LOk K rIns fIns := LOk.lst (fun d as hd hn => by
    cases d <;> first | rfl | exact absurd rfl (hn _)) fun xs p vs ns Xs H Q od d' hp rs rX hf k => by
  rcases Xs with _ | ⟨⟨l1, d1, v1, n1⟩, _ | ⟨x, _ | ⟨y, Xs⟩⟩⟩
  · cases hf
  · simp only [List.map_cons, List.map_nil, Sl.ld] at hf
    cases d1 <;> cases hf
  · have r1 := rX ⟨l1, d1, v1, n1⟩ (List.mem_cons_self ..)
    simp only [List.map_cons, List.map_nil, Sl.ld] at hf r1
    cases r1 with
    | int i =>
      simp only [fIns] at hf
      split at hf
      · next hz =>
        cases hf
        simp only [Bool.and_eq_true, decide_eq_true_eq] at hz
        obtain ⟨m1, m2, e, q1, q2⟩ := rs.split i.toNat
        refine ⟨p, vs, i, x.v, rfl, rfl, hp, ?_, hz.1.2, by have := hz.2; have := hz.1.2; omega, k .non [] _ _ _ rfl ((q1.append (.cons (rX x (List.mem_cons_of_mem _ (List.mem_cons_self ..))) .nil)).append q2) .non fun a => ?_⟩
        · have := szOk_ok hz.1.1
          rw [rs.length]
          omega
        · subst e
          simp [List.count_append]
          omega
      · cases hf
    | _ => cases hf
  · simp only [List.map_cons, Sl.ld] at hf
    cases d1 <;> cases hf
def fPopI (i : Int) (xs : List D) : Option (Option D × D) := if decide (i.natAbs < 9223372036854775808) then (match seqIndex? i xs.length with
    | some k => (match xs[k]? with
      | some d => some (some d, .lst (xs.eraseIdx k))
      | none => none)
    | none => none) else none
def fPop : D → List LD → Option (Option D × D)
  | .lst xs, [] => (match xs[xs.length - 1]? with
    | some d => some (some d, .lst xs.dropLast)
    | none => none)
  | _, _ => none
def fPopA : D → List LD → Option (Option D × D)
  | .lst xs, [(_, .int i)] => fPopI i xs
  | _, _ => none
theorem Rds.erase {H : Hp} : ∀ {ds : List D} {k : Nat} {d : D} {vs : List V} {ns : List Addr}, Rds K H vs ds ns → ds[k]? = some d → ∃ v n m, vs[k]? = some v ∧ Rd K H v d n ∧ Rds K H (vs.eraseIdx k) (ds.eraseIdx k) m ∧ ∀ a, m.count a + n.count a = ns.count a := by
  intro ds
  induction ds with
  | nil => intro k d vs ns h e; simp at e
  | cons d0 ds ih =>
    intro k d vs ns h e
    cases h with
    | cons h r =>
      cases k with
      | zero =>
        simp only [List.getElem?_cons_zero, Option.some.injEq] at e
        subst e
        exact ⟨_, _, _, rfl, h, r, fun a => by rw [List.count_append]; omega⟩
      | succ k =>
        obtain ⟨v, n, m, q1, q2, q3, q4⟩ := ih r (by simpa using e)
        exact ⟨v, n, _, by simpa using q1, q2, .cons h q3, fun a => by have := q4 a; rw [List.count_append, List.count_append]; omega⟩
theorem erase_last {α : Type} (l : List α) : l.eraseIdx (l.length - 1) = l.dropLast := by
  induction l with
  | nil => rfl
  | cons x l ih =>
    cases l with
    | nil => rfl
    | cons y l => simpa using ih
theorem l_pop : LOk K rPop fPop := LOk.lst (fun d as hd hn => by
    cases d <;> first | rfl | exact absurd rfl (hn _)) fun xs p vs ns Xs H Q od d' hp rs rX hf k => by
  rcases Xs with _ | ⟨⟨l1, d1, v1, n1⟩, Xs⟩
  · simp only [List.map_nil, fPop] at hf
    split at hf
    · next d e =>
      cases hf
      obtain ⟨v, n, m, q1, q2, q3, q4⟩ := rs.erase e
      refine ⟨p, vs, v, rfl, rfl, hp, by rw [rs.length]; exact q1, k v n _ _ m rfl ?_ q2 fun a => by have := q4 a; simp; omega⟩
      rw [← erase_last, ← erase_last, rs.length]; exact q3
    · cases hf
  · simp [fPop] at hf
theorem l_popAt : LOk K rPopAt fPopA := LOk.lst (fun d as hd hn => by
    cases d <;> first | rfl | exact absurd rfl (hn _)) fun xs p vs ns Xs H Q od d' hp rs rX hf k => by
  rcases Xs with _ | ⟨⟨l1, d1, v1, n1⟩, _ | ⟨y, Xs⟩⟩
  · cases hf
  · have r1 := rX ⟨l1, d1, v1, n1⟩ (List.mem_cons_self ..)
    simp only [List.map_cons, List.map_nil, Sl.ld] at hf r1
    cases r1 with
    | int i =>
      simp only [fPopA, fPopI] at hf
      split at hf
      · next hz =>
        simp only [decide_eq_true_eq] at hz
        split at hf
        · next j ej =>
          split at hf
          · next d e =>
            cases hf
            obtain ⟨v, n, m, q1, q2, q3, q4⟩ := rs.erase e
            exact ⟨p, vs, i, j, v, rfl, rfl, hp, by omega, by omega, by rw [rs.length]; exact ej, q1, k v n _ _ m rfl q3 q2 fun a => by have := q4 a; simp; omega⟩
          · cases hf
        · cases hf
      · cases hf
    | _ => cases hf
  · simp only [List.map_cons, Sl.ld] at hf
    cases d1 <;> cases hf
def fClr : D → List LD → Option (Option D × D)
  | .lst _, [] => some (none, .lst [])
  | _, _ => none
theorem l_clear : LOk K rClear fClr := LOk.lst (fun d as hd hn => by
    cases d <;> first | rfl | exact absurd rfl (hn _)) fun xs p vs ns Xs H Q od d' hp rs rX hf k => by
  rcases Xs with _ | ⟨⟨l1, d1, v1, n1⟩, Xs⟩
  · cases hf
    exact ⟨p, vs, rfl, rfl, hp, k .non [] [] [] [] rfl .nil .non fun a => by simp⟩
  · cases hf
def fRev : D → List LD → Option (Option D × D)
  | .lst xs, [] => some (none, .lst xs.reverse)
  | _, _ => none
theorem Rds.rev {H : Hp} : ∀ {ds : List D} {vs : List V} {ns : List Addr}, Rds K H vs ds ns → ∃ m, Rds K H vs.reverse ds.reverse m ∧ ∀ a, m.count a = ns.count a := by
  intro ds
  induction ds with
  | nil => intro vs ns h; cases h; exact ⟨[], .nil, fun _ => rfl⟩
  | cons d ds ih =>
    intro vs ns h
    cases h with
    | cons h r =>
      obtain ⟨m, q, c⟩ := ih r
      exact ⟨_, by rw [List.reverse_cons, List.reverse_cons]; exact q.append (.cons h .nil), fun a => by have := c a; simp only [List.count_append, List.count_nil]; omega⟩
theorem l_reverse : LOk K rReverse fRev := LOk.lst (fun d as hd hn => by
    cases d <;> first | rfl | exact absurd rfl (hn _)) fun xs p vs ns Xs H Q od d' hp rs rX hf k => by
  rcases Xs with _ | ⟨⟨l1, d1, v1, n1⟩, Xs⟩
  · cases hf
    obtain ⟨m, q, c⟩ := rs.rev
    exact ⟨p, vs, rfl, rfl, hp, k .non [] _ _ m rfl q .non fun a => by have := c a; simp; omega⟩
  · cases hf
def fExt : D → List LD → Option (Option D × D)
  | .lst xs, [(_, .lst ys)] => if szOk (xs.length + ys.length) then some (none, .lst (xs ++ ys)) else none
  | _, _ => none
theorem l_extend : LOk K rExtend fExt := LOk.lst (fun d as hd hn => by
    cases d <;> first | rfl | exact absurd rfl (hn _)) fun xs p vs ns Xs H Q od d' hp rs rX hf k => by
  rcases Xs with _ | ⟨⟨l1, d1, v1, n1⟩, _ | ⟨y, Xs⟩⟩
  · cases hf
  · have r1 := rX ⟨l1, d1, v1, n1⟩ (List.mem_cons_self ..)
    simp only [List.map_cons, List.map_nil, Sl.ld] at hf r1
    cases r1 with
    | lst hb rb =>
      simp only [fExt] at hf
      split at hf
      · next hz =>
        cases hf
        exact ⟨p, _, vs, _, rfl, rfl, hp, hb, by rw [rs.length, rb.length]; exact szOk_ok hz, k .non [] _ _ _ rfl (rs.append rb) .non fun a => by simp [List.count_append, List.count_cons]⟩
      · cases hf
    | _ => cases hf
  · simp only [List.map_cons, Sl.ld] at hf
    cases d1 <;> cases hf
/-- x[i] = v: the value, the place -/
def fPut : D → List LD → Option (Option D × D)
  | .lst xs, [x, (_, .int i)] => (match ixN xs.length i with
    | some j => some (none, .lst (xs.set j x.2))
    | none => none)
  | .dk kvs, [x, (_, d)] => (match d.key with
    | some k => if szOk (kvs.length + 1) && (x.2.imm || decide ((kvs.map (·.1)).Nodup)) then some (none, .dk (dPut kvs k x.2)) else none
    | none => none)
  | _, _ => none
def rPut : V → List V → Hp → VK → Prop := fun o vs H Q => match vs with
  | [v, i] => rSetL o i v H (fun H' => Q .non H') ∨ rSetD o i v H (fun H' => Q .non H')
  | _ => False
theorem Rds.set {H : Hp} {d1 : D} {v1 : V} {n1 : List Addr} : ∀ {ds : List D} {k : Nat} {vs : List V} {ns : List Addr}, Rds K H vs ds ns → Rd K H v1 d1 n1 → ∃ m, Rds K H (vs.set k v1) (ds.set k d1) m ∧ ∀ a, m.count a ≤ ns.count a + n1.count a := by
  intro ds
  induction ds with
  | nil => intro k vs ns h _; cases h; exact ⟨[], .nil, fun a => by simp⟩
  | cons d ds ih =>
    intro k vs ns h r1
    cases h with
    | cons h r =>
      cases k with
      | zero => exact ⟨_, .cons r1 r, fun a => by simp only [List.count_append]; omega⟩
      | succ k =>
        obtain ⟨m, q, c⟩ := ih (k := k) r r1
        exact ⟨_, .cons h q, fun a => by have := c a; simp only [List.count_append]; omega⟩
theorem repl_no {α : Type} {k : Key} {x : α} : ∀ {l : List (Key × α)}, k ∉ l.map (·.1) → (l.map fun kv => if kv.1 = k then (kv.1, x) else kv) = l
  | [], _ => rfl
  | (j, y) :: l, h => by
    simp only [List.map_cons, List.mem_cons, not_or] at h ⊢
    rw [if_neg (fun e => h.1 e.symm), repl_no h.2]
/-- the things behind a key's new value -/
theorem Rds.replK {H : Hp} {k : Key} {d1 : D} {v1 : V} {n1 : List Addr} (r1 : Rd K H v1 d1 n1) : ∀ {kds : List (Key × D)} {kvs : List (Key × V)} {ns : List Addr}, (kvs.map (·.1)) = (kds.map (·.1)) → (n1 = [] ∨ (kds.map (·.1)).Nodup) → Rds K H (kvs.map (·.2)) (kds.map (·.2)) ns →
    ∃ m, Rds K H ((kvs.map fun kv => if kv.1 = k then (kv.1, v1) else kv).map (·.2)) ((kds.map fun kv => if kv.1 = k then (kv.1, d1) else kv).map (·.2)) m ∧ ∀ a, m.count a ≤ ns.count a + n1.count a := by
  intro kds
  induction kds with
  | nil =>
    intro kvs ns e _ r
    rcases kvs with _ | ⟨p, kvs⟩
    · exact ⟨[], .nil, fun a => by simp⟩
    · simp at e
  | cons q kds ih =>
    intro kvs ns e nd r
    rcases kvs with _ | ⟨p, kvs⟩
    · simp at e
    · obtain ⟨j, w⟩ := p
      obtain ⟨j', d⟩ := q
      simp only [List.map_cons, List.cons.injEq] at e
      obtain ⟨rfl, e⟩ := e
      cases r with
      | cons h r =>
        rename_i na nb
        have nd' : n1 = [] ∨ (kds.map (·.1)).Nodup := nd.imp id fun h => (List.nodup_cons.mp h).2
        obtain ⟨m, g, c⟩ := ih e nd' r
        simp only [List.map_cons]
        by_cases ej : j = k
        · simp only [ej, if_true]
          rcases nd with nd | nd
          · exact ⟨_, .cons r1 g, fun a => by have := c a; rw [nd] at this ⊢; simp at this ⊢; omega⟩
          · have hk : k ∉ kds.map (·.1) := by rw [← ej]; exact (List.nodup_cons.mp nd).1
            have hk2 : k ∉ kvs.map (·.1) := by rw [e]; exact hk
            rw [repl_no hk, repl_no hk2]
            exact ⟨_, .cons r1 r, fun a => by simp only [List.count_append]; omega⟩
        · simp only [ej, if_false]
          exact ⟨_, .cons h g, fun a => by have := c a; simp only [List.count_append]; omega⟩
theorem repl_keys {α : Type} {k : Key} {x : α} (l : List (Key × α)) : (l.map fun kv => if kv.1 = k then (kv.1, x) else kv).map (·.1) = l.map (·.1) := by
  rw [List.map_map]
  refine List.map_congr_left fun p _ => ?_
  dsimp only [Function.comp]
  split <;> rfl
theorem any_keys {α : Type} {k : Key} : ∀ (l : List (Key × α)), (l.any fun kv => decide (kv.1 = k)) = (l.map (·.1)).any fun j => decide (j = k)
  | [] => rfl
  | p :: l => by simp [any_keys l]
theorem Rds.dput {H : Hp} {k : Key} {d1 : D} {v1 : V} {n1 : List Addr} {kds : List (Key × D)} {kvs : List (Key × V)} {ns : List Addr} (r1 : Rd K H v1 d1 n1) (hk : (kvs.map (·.1)) = (kds.map (·.1))) (nd : n1 = [] ∨ (kds.map (·.1)).Nodup) (rs : Rds K H (kvs.map (·.2)) (kds.map (·.2)) ns) :
    (putK kvs k v1).map (·.1) = (dPut kds k d1).map (·.1) ∧ ∃ m, Rds K H ((putK kvs k v1).map (·.2)) ((dPut kds k d1).map (·.2)) m ∧ ∀ a, m.count a ≤ ns.count a + n1.count a := by
  unfold putK dPut
  rw [any_keys kvs, any_keys kds, hk]
  by_cases c : ((kds.map (·.1)).any fun j => decide (j = k)) = true
  · rw [if_pos c, if_pos c]
    exact ⟨by rw [repl_keys, repl_keys, hk], Rds.replK r1 hk nd rs⟩
  · rw [if_neg c, if_neg c]
    refine ⟨by simp [hk], _, by rw [List.map_append, List.map_append]; exact rs.append (.cons r1 .nil), fun a => by simp [List.count_append]⟩
theorem l_put : LOk K rPut fPut := by
  intro d p ns Xs H Q od d' hd rd rX hf k
  rcases Xs with _ | ⟨x, _ | ⟨⟨l2, d2, v2, n2⟩, _ | ⟨y, Xs⟩⟩⟩
  · cases d <;> cases hf
  · cases d <;> cases hf
  · have r1 := rX x (List.mem_cons_self ..)
    have r2 := rX ⟨l2, d2, v2, n2⟩ (List.mem_cons_of_mem _ (List.mem_cons_self ..))
    simp only [List.map_cons, List.map_nil, Sl.ld] at hf r2
    cases rd with
    | tup h r => cases hd
    | lst hp rs =>
      cases r2 with
      | int i =>
        simp only [fPut] at hf
        split at hf
        · next j ej =>
          cases hf
          obtain ⟨m, g, c⟩ := rs.set (k := j) r1
          exact .inl ⟨p, _, i, j, rfl, rfl, hp, by rw [rs.length]; exact ej, k .non [] _ m rfl trivial (fun o ho hm hq => .lst upd_same (g.upd ho hm hq)) .non fun a => by have := c a; simp [List.count_append]; omega⟩
        · cases hf
      | _ => cases hf
    | dk hp hk rs =>
      have ey : ∃ kk, d2.key = some kk := by
        simp only [fPut] at hf
        split at hf
        · next kk e => exact ⟨kk, e⟩
        · cases hf
      obtain ⟨kk, ek⟩ := ey
      have ev := rd_key r2 ek
      subst ev
      simp only [fPut, ek] at hf
      split at hf
      · next hz =>
        cases hf
        rw [Bool.and_eq_true, Bool.or_eq_true, decide_eq_true_eq] at hz
        have hsz := szOk_ok hz.1
        have hl := congrArg List.length hk
        simp only [List.length_map] at hl
        refine .inr ⟨p, _, rfl, .k hp (by omega), ?_⟩
        obtain ⟨e, m, g, c⟩ := Rds.dput (k := kk) r1 hk (hz.2.imp (fun h => r1.imm _ _ _ h) id) rs
        exact k .non [] _ m rfl trivial (fun o ho hm hq => .dk upd_same e (g.upd ho hm hq)) .non fun a => by have := c a; simp [List.count_append]; omega
      · cases hf
  · cases d
    all_goals try cases hf
    all_goals simp [fPut] at hf
end
end DL

/-! DL13: methods called, stores -/
namespace DL
open L2 PySem PySem.Spec PyProof.Rows
/-- the type's name that a method is looked up in -/
def D.ty : D → String
  | .lst _ => "list"
  | .dk _ => "dict"
  | .str _ => "str"
  | .int _ => "int"
  | _ => ""
theorem ty_of {K : PySem.W.Frag} {H : Hp} {v : V} {d : D} {ns : List Addr} {T : String} (h : Rd K H v d ns) (e : d.ty = T) (hT : (T == "") = false) : tyV K T v H := by
  subst e
  cases h with
  | lst h r => exact .inl ⟨rfl, _, .of h⟩
  | dk h k r => exact .inr (.inr (.inl ⟨rfl, .inl ⟨_, h⟩⟩))
  | str x => exact rfl
  | int i => exact rfl
  | _ => cases hT
def pTy (T : String) (f : PF) : PF := fun Γ => match f Γ with
  | .ok x => if x.2.ty == T then .ok x else .bad
  | o => o
def eTy (T : String) (f : EF) : EF := fun Γ => match f Γ with
  | .ok x Γ' => if x.2.ty == T then .ok x Γ' else .bad
  | o => o
section
variable {X : Cx} {W : WW} {A : List Nat} {T id : String} {name : Str} {r : V → List V → Hp → VK → Prop} {o : Expr} {es : List Expr} {apos cpos : Pos}
theorem pTy_ok {K : PySem.W.Frag} {f : PF} {σ : L2.St} {H : Hp} {Q : VK} (hT : (T == "") = false) (h : tDP K W A (pTy T f) σ H Q) : tDP K W A f σ H fun v H' => tyV K T v H' ∧ Q v H' := by
  obtain ⟨Z, L, M, R, q⟩ := h
  refine ⟨Z, L, M, R, ?_⟩
  unfold pTy at q
  cases ef : f (er L) with
  | bad => rw [ef] at q; exact q
  | exc c => rw [ef] at q; exact q
  | ok x =>
    obtain ⟨l, d⟩ := x
    rw [ef] at q
    dsimp only at q ⊢
    by_cases c : (d.ty == T) = true
    · rw [if_pos c] at q
      exact fun v ns H' B => ⟨ty_of B.rd (beq_iff_eq.mp c) hT, q v ns H' B⟩
    · rw [if_neg c] at q; exact q.elim
theorem eTy_ok {K : PySem.W.Frag} {f : EF} {σ : L2.St} {H : Hp} {Q : VK} (hT : (T == "") = false) (h : tDE K W (eTy T f) σ H Q) : tDE K W f σ H fun v H' => tyV K T v H' ∧ Q v H' := by
  obtain ⟨Z, L, M, R, q⟩ := h
  refine ⟨Z, L, M, R, ?_⟩
  unfold eTy at q
  cases ef : f (er L) with
  | bad => rw [ef] at q; exact q
  | exc c Γ => rw [ef] at q; exact q
  | ok x Γ =>
    obtain ⟨l, d⟩ := x
    rw [ef] at q
    dsimp only at q ⊢
    by_cases c : (d.ty == T) = true
    · rw [if_pos c] at q
      exact fun v ns H' L' e R' z => ⟨ty_of (R'.tms _ (List.mem_cons_self ..)).1 (beq_iff_eq.mp c) hT, q v ns H' L' e R' z⟩
    · rw [if_neg c] at q; exact q.elim
theorem tyMono {t : TE} {K : PySem.W.Frag} {rest : V → Hp → Prop} {k : V → Hp → Prop} {σ : L2.St} {H : Hp} (hm : ∀ σ H Q Q', (∀ v H', Q v H' → Q' v H') → t σ H Q → t σ H Q') (hi : ∀ v H', rest v H' → k v H') (h : t σ H fun v H' => tyV K T v H' ∧ rest v H') : t σ H fun v H' => tyV K T v H' ∧ k v H' :=
  hm σ H _ _ (fun v H' q => ⟨q.1, hi v H' q.2⟩) h
/-- a method that only looks: pure -/
theorem p_meth {g : List LD → Option LD} {f0 : PF} {fs : List PF} {A0 : List Nat} {e : Expr} (pa : PlainAttrs T) (slot : Slot T name id) (hty : typeOf (.builtin id) = pure (.type "method_descriptor")) (hm : MtR X id r) (hv : VOk X.K (r1a r) g) (h0 : A0 ⊆ A) (ho : DP X W A0 o f0) (h : PArgL X W A (e :: es) fs)
    (hT : (T == "") = false := by decide) (hbase : attributeBase o name X.env (eval o X.env) = eval o X.env := by rfl)
    (hfew : ((backTo cpos (starEach (e :: es) X.env)).all (fun x => !x.1) && (backToKw cpos (keywordEach [] X.env)).all (fun x => x.1.isSome)
      && decide ((e :: es).length + ([] : List Keyword).length + (if ([] : List Keyword).isEmpty then 0 else 1) < 30)) = true := by rfl)
    (hline : (apos.endLine == cpos.line) = true := by rfl) (hs : starEach (e :: es) X.env = (false, eval e X.env) :: starEach es X.env := by rfl) (hplain : (backTo cpos (starEach es X.env)).any (·.1) = false := by rfl) :
    DP X W A (.Call (.Attribute o name apos) (e :: es) [] cpos) (pApp g (pTy T f0 :: fs)) := by
  obtain ⟨gs, rfl, e2, e3⟩ := h.pa
  exact p_app (fs := (A0, pTy T f0) :: gs) (fun p hp => by
    rcases List.mem_cons.mp hp with rfl | hp
    · exact h0
    · exact e2 p hp) hv (pe_bm pa slot hty hm ho e3 hbase hfew hline hs hplain) fun σ H Q q => by
      have q1 : tDP X.K W A0 (pTy T f0) σ H fun x H1 => tArgs (gs.map fun p => tDP X.K W p.1 p.2) (fun xs => r1a r (x :: xs)) σ H1 Q := q
      exact tyMono (t := tDP X.K W A0 f0) (σ := σ) (H := H) (fun _ _ _ _ i h => tDP_mono h i) (fun x H1 g => tAl_args (r := fun xs => r1a r (x :: xs)) _ _ (fun _ _ h => h) (monoP gs) g) (pTy_ok hT q1)
theorem p_meth0 {g : List LD → Option LD} {f0 : PF} {A0 : List Nat} (pa : PlainAttrs T) (slot : Slot T name id) (hty : typeOf (.builtin id) = pure (.type "method_descriptor")) (hm : MtR X id r) (hv : VOk X.K (r1a r) g) (h0 : A0 ⊆ A) (ho : DP X W A0 o f0)
    (hT : (T == "") = false := by decide) (hbase : attributeBase o name X.env (eval o X.env) = eval o X.env := by rfl) (hline : (apos.endLine == cpos.line) = true := by rfl) :
    DP X W A (.Call (.Attribute o name apos) [] [] cpos) (pApp g [pTy T f0]) :=
  p_app (fs := [(A0, pTy T f0)]) (fun p hp => by rw [List.mem_singleton.mp hp]; exact h0) hv (pe_bm0 pa slot hty hm ho hbase hline) fun σ H Q q => pTy_ok hT q
theorem e_meth {g : List LD → Option LD} {f0 : EF} {fs : List EF} {e : Expr} (pa : PlainAttrs T) (slot : Slot T name id) (hty : typeOf (.builtin id) = pure (.type "method_descriptor")) (hm : MtR X id r) (hv : VOk X.K (r1a r) g) (ho : DE X W o f0) (h : EArgL X W (e :: es) fs)
    (hT : (T == "") = false := by decide) (hbase : attributeBase o name X.env (eval o X.env) = eval o X.env := by rfl)
    (hfew : ((backTo cpos (starEach (e :: es) X.env)).all (fun x => !x.1) && (backToKw cpos (keywordEach [] X.env)).all (fun x => x.1.isSome)
      && decide ((e :: es).length + ([] : List Keyword).length + (if ([] : List Keyword).isEmpty then 0 else 1) < 30)) = true := by rfl)
    (hline : (apos.endLine == cpos.line) = true := by rfl) (hs : starEach (e :: es) X.env = (false, eval e X.env) :: starEach es X.env := by rfl) (hplain : (backTo cpos (starEach es X.env)).any (·.1) = false := by rfl) :
    DE X W (.Call (.Attribute o name apos) (e :: es) [] cpos) (eApp g (eTy T f0 :: fs)) :=
  e_app (eTy T f0 :: fs) hv (pe_bm pa slot hty hm ho h.pa hbase hfew hline hs hplain) fun σ H Q q => by
    have q1 : tDE X.K W (eTy T f0) σ H fun x H1 => tArgs (fs.map fun f => tDE X.K W f) (fun xs => r1a r (x :: xs)) σ H1 Q := q
    exact tyMono (t := tDE X.K W f0) (σ := σ) (H := H) (fun _ _ _ _ i h => tDE_mono h i) (fun x H1 g => tAl_args (r := fun xs => r1a r (x :: xs)) _ _ (fun _ _ h => h) (monoE fs) g) (eTy_ok hT q1)
theorem e_meth0 {g : List LD → Option LD} {f0 : EF} (pa : PlainAttrs T) (slot : Slot T name id) (hty : typeOf (.builtin id) = pure (.type "method_descriptor")) (hm : MtR X id r) (hv : VOk X.K (r1a r) g) (ho : DE X W o f0)
    (hT : (T == "") = false := by decide) (hbase : attributeBase o name X.env (eval o X.env) = eval o X.env := by rfl) (hline : (apos.endLine == cpos.line) = true := by rfl) :
    DE X W (.Call (.Attribute o name apos) [] [] cpos) (eApp g [eTy T f0]) :=
  e_app [eTy T f0] hv (pe_bm0 pa slot hty hm ho hbase hline) fun σ H Q q => eTy_ok hT q
/-- a method that changes what a slot holds -/
def eMeth (T : String) (G : List LD → FR) (i : Nat) (as : List AE) : EF := fun Γ => match Γ[i]? with
  | some (some (_, d)) => if d.ty == T then eCall G (.inl i :: as) Γ else .bad
  | _ => .bad
theorem eMeth_ok {K : PySem.W.Frag} {mg : Str → Option Value} {G : List LD → FR} {i n : Nat} {as : List AE} {io : List Bool} {σ : L2.St} {H : Hp} {Q : VK} (hM : MOk K mg n io (r1a r) G) (hio : io = true :: mkA as) (hn : as.length + 1 = n) (hT : (T == "") = false) (h : tDE K W (eMeth T G i as) σ H Q) :
    tVar i σ H fun x H1 => tyV K T x H1 ∧ tArgs (as.map (teA K W)) (fun xs => r x xs) σ H1 Q := by
  obtain ⟨Z, L, M, R, q⟩ := h
  unfold eMeth at q
  cases el : (er L)[i]? with
  | none => simp only [el] at q
  | some ox =>
    cases ox with
    | none => simp only [el] at q
    | some ld =>
      obtain ⟨l, d⟩ := ld
      simp only [el] at q
      by_cases c : (d.ty == T) = true
      · rw [if_pos c] at q
        obtain ⟨s, hs, e1, e2⟩ := er_some el
        obtain ⟨g1, g2, _⟩ := R.slot i s hs
        have q2 : tArgs (((.inl i : AE) :: as).map (teA K W)) (r1a r) σ H Q := call_core (W := W) (mg := mg) (n := n) (io := io) (F := G) (E := fun c _ H' => ∃ d, c = xc mg d ∧ W d σ H') (fun vs H Q p => hM vs H Q _ p) (fun c H' w => ⟨c, rfl, w⟩) hio hn ⟨Z, L, M, R, q⟩
        obtain ⟨v, g3, g4⟩ := (show tVar i σ H fun x H1 => tArgs (as.map (teA K W)) (fun xs => r1a r (x :: xs)) σ H1 Q from q2)
        rw [g1] at g3
        simp only [Option.some.injEq] at g3
        exact ⟨s.v, g1, ty_of g2 (by rw [e2]; exact beq_iff_eq.mp c) hT, by rw [g3]; exact g4⟩
      · rw [if_neg c] at q; exact q.elim
theorem e_methM {G : List LD → FR} {i n : Nat} {as : List AE} {io : List Bool} {e : Expr} (pa : PlainAttrs T) (slot : Slot T name id) (hty : typeOf (.builtin id) = pure (.type "method_descriptor")) (hm : MtR X id r) (hM : MOk X.K X.mg n io (r1a r) G) (ho : PE X o (tVar i)) (h : AArgL X W (e :: es) as) (hio : io = true :: mkA as := by rfl) (hn : as.length + 1 = n := by rfl)
    (hT : (T == "") = false := by decide) (hbase : attributeBase o name X.env (eval o X.env) = eval o X.env := by rfl)
    (hfew : ((backTo cpos (starEach (e :: es) X.env)).all (fun x => !x.1) && (backToKw cpos (keywordEach [] X.env)).all (fun x => x.1.isSome)
      && decide ((e :: es).length + ([] : List Keyword).length + (if ([] : List Keyword).isEmpty then 0 else 1) < 30)) = true := by rfl)
    (hline : (apos.endLine == cpos.line) = true := by rfl) (hs : starEach (e :: es) X.env = (false, eval e X.env) :: starEach es X.env := by rfl) (hplain : (backTo cpos (starEach es X.env)).any (·.1) = false := by rfl) :
    DE X W (.Call (.Attribute o name apos) (e :: es) [] cpos) (eMeth T G i as) :=
  PE.imp (pe_bm pa slot hty hm ho h.pa hbase hfew hline hs hplain) fun σ H Q q => by
    obtain ⟨v, g1, g2, g3⟩ := eMeth_ok hM hio hn hT q
    exact ⟨v, g1, g2, tAl_args (r := fun xs => r v xs) _ _ (fun _ _ h => h) (monoA as) g3⟩
theorem e_methM0 {G : List LD → FR} {i n : Nat} {io : List Bool} (pa : PlainAttrs T) (slot : Slot T name id) (hty : typeOf (.builtin id) = pure (.type "method_descriptor")) (hm : MtR X id r) (hM : MOk X.K X.mg n io (r1a r) G) (ho : PE X o (tVar i)) (hio : io = [true] := by rfl) (hn : 1 = n := by rfl)
    (hT : (T == "") = false := by decide) (hbase : attributeBase o name X.env (eval o X.env) = eval o X.env := by rfl) (hline : (apos.endLine == cpos.line) = true := by rfl) :
    DE X W (.Call (.Attribute o name apos) [] [] cpos) (eMeth T G i []) :=
  PE.imp (pe_bm0 pa slot hty hm ho hbase hline) fun σ H Q q => by
    obtain ⟨v, g1, g2, g3⟩ := eMeth_ok (as := []) hM hio hn hT q
    exact ⟨v, g1, g2, g3⟩
/-- x[i] = v -/
def sPut (G : List LD → FR) (fv : EF) (i : Nat) (fk : EF) : SF := sExpr (eCall G [.inr fv, .inl i, .inr fk])
theorem expr_core {K : PySem.W.Frag} {h : EF} {D : Ends} {σ : L2.St} {H : Hp} (q : tDS K W (sExpr h) D σ H) (hx : ∀ c H', W c σ H' → True) : tDE K W h σ H fun _ H' => D.nx σ H' := by
  obtain ⟨Z, L, M, R, q⟩ := q
  refine ⟨Z, L, M, R, ?_⟩
  unfold sExpr at q
  cases ef : h (er L) with
  | bad => rw [ef] at q; exact q
  | exc c Γ' => rw [ef] at q; exact fun H' L' e R' => q σ H' L' e R'
  | ok x Γ' => rw [ef] at q; exact fun v ns H' L' e R' z => q σ H' L' e R'.pop
theorem set_put (hu : X.A.units + 1 < cLine) : PSet X fun o i v H Q => rPut o [v, i] H fun _ H' => Q H' := fun pins s σ H o i v ov iv u Q I ro ri rv h => by
  rcases h with h | h
  · exact set_list pins s σ H o i v ov iv u Q I ro ri rv h
  · exact set_dict hu pins s σ H o i v ov iv u Q I ro ri rv h
theorem s_put {i : Nat} {ix value : Expr} {fv fk : EF} {pos pos' : Pos} (hu : X.A.units + 1 < cLine) (hv : DE X W value fv) (ho : PE X o (tVar i)) (hi : DE X W ix fk)
    (hs : swapsWithSole [.Subscript o ix pos'] value pos.line X.env = pure false := by rfl) (hw : swappedStores [.Subscript o ix pos'] value X.env = pure none := by rfl)
    (h1 : (assignEach [.Subscript o ix pos'] X.env).map (·.2) = [assign (.Subscript o ix pos') X.env] := by rfl)
    (ha : ∀ v, assign (.Subscript o ix pos') X.env v = (do
      let ov ← holding [v] (eval o X.env)
      let iv ← holding [v, ov] (eval ix X.env)
      standAt pos'
      holding [v, ov, iv] (setItem ov iv v)
      release [v, ov, iv] []) := by intro _; rfl) :
    DS X W (.Assign [.Subscript o ix pos'] value pos) (sPut (GS fPut) fv i fk) :=
  PS.imp (ps_asg hv (pg_sub ho hi (set_put hu) ha) hs hw h1) fun D σ H q => by
    have q1 := expr_core q fun _ _ _ => trivial
    have q2 := call_core (W := W) (mg := X.mg) (n := 3) (io := [false, true, false]) (F := GS fPut) (r := r3s rPut) (E := fun c _ H' => ∃ d, c = xc X.mg d ∧ W d σ H') (fun vs H Q p => MOk.store l_put vs H Q _ p) (fun c H' w => ⟨c, rfl, w⟩) (as := [.inr fv, .inl i, .inr fk]) rfl rfl q1
    exact q2
end
end DL

/-! DL14: comprehensions -/
namespace DL
open L2 PySem PySem.Spec PyProof.Rows
section
variable {K : PySem.W.Frag} {Z : Zone} {σ σ' : L2.St} {H H' : Hp} {L L' : List (Option Sl)} {M : List Tm}
/-- other slots that own no more and lean on no more -/
theorem Rel.with (R : Rel K Z σ H L M) (len : L'.length = σ'.length) (slot : ∀ (i : Nat) (s : Sl), L'[i]? = some (some s) → σ'[i]? = some (some s.v) ∧ Rd K H s.v s.d s.ns ∧ ∀ a ∈ s.ns, Z a)
    (cnt : ∀ a, oS L' a ≤ oS L a ∧ rS L' a ≤ rS L a) (pin : ∀ (i : Nat) (s : Sl), L'[i]? = some (some s) → 10 ≤ s.l → s.v = Z.pv i) : Rel K Z σ' H L' M where
  len := len
  slot := slot
  tms := R.tms
  sep := fun a => by have := R.sep a; have := cnt a; omega
  wr := fun a ha => R.wr a (by have := cnt a; omega)
  zf := R.zf
  pin := pin
end
/-- slots emptied -/
def clr {α : Type} (L : List (Option α)) : List Nat → List (Option α)
  | [] => L
  | v :: vs => (clr L vs).set v none
theorem clr_length {α : Type} (L : List (Option α)) : ∀ vs, (clr L vs).length = L.length
  | [] => rfl
  | v :: vs => by unfold clr; rw [List.length_set, clr_length L vs]
theorem clr_out {α : Type} {L : List (Option α)} {i : Nat} : ∀ {vs : List Nat}, i ∉ vs → (clr L vs)[i]? = L[i]?
  | [], _ => rfl
  | v :: vs, h => by
    simp only [List.mem_cons, not_or] at h
    unfold clr
    rw [List.getElem?_set_ne (fun e => h.1 e.symm), clr_out h.2]
theorem clr_in {α : Type} {L : List (Option α)} {i : Nat} {x : α} : ∀ {vs : List Nat}, i ∈ vs → (clr L vs)[i]? ≠ some (some x)
  | v :: vs, h => by
    unfold clr
    by_cases e : v = i
    · subst e
      by_cases hv : v < (clr L vs).length
      · rw [List.getElem?_set_self hv]; simp
      · rw [List.getElem?_eq_none (by simpa using hv)]; simp
    · rw [List.getElem?_set_ne e]
      rcases List.mem_cons.mp h with h | h
      · exact absurd h.symm e
      · exact clr_in h
theorem er_clr (L : List (Option Sl)) : ∀ vs, er (clr L vs) = clr (er L) vs
  | [] => rfl
  | v :: vs => by unfold clr; rw [er_set, er_clr L vs]; rfl
theorem wipe_eq (σ : L2.St) : ∀ vs, wipe σ vs = clr σ vs
  | [] => rfl
  | v :: vs => by unfold wipe clr; rw [wipe_eq σ vs]
theorem cnt_set {L : List (Option Sl)} {i : Nat} {x : Option Sl} (a : Addr) (h : oO x a = 0 ∧ rO x a = 0) : oS (L.set i x) a ≤ oS L a ∧ rS (L.set i x) a ≤ rS L a := by
  cases e : L[i]? with
  | none =>
    have : L.set i x = L := List.set_eq_of_length_le (by simpa using e)
    rw [this]
    exact ⟨Nat.le_refl _, Nat.le_refl _⟩
  | some s =>
    have := oS_set (x := x) a e
    have := rS_set (x := x) a e
    omega
theorem cnt_clr (L : List (Option Sl)) (a : Addr) : ∀ vs, oS (clr L vs) a ≤ oS L a ∧ rS (clr L vs) a ≤ rS L a
  | [] => ⟨Nat.le_refl _, Nat.le_refl _⟩
  | v :: vs => by
    have := cnt_clr L a vs
    have := cnt_set (L := clr L vs) (i := v) (x := none) a ⟨rfl, rfl⟩
    unfold clr
    omega
section
variable {K : PySem.W.Frag} {Z : Zone} {σ σ' : L2.St} {H H' : Hp} {L L' : List (Option Sl)} {M : List Tm}
theorem Rel.wipe (R : Rel K Z σ H L M) (vs : List Nat) : Rel K Z (wipe σ vs) H (clr L vs) M := by
  refine R.with (by rw [clr_length, wipe_length, R.len]) (fun i s h => ?_) (fun a => cnt_clr L a vs) fun i s h => ?_
  · by_cases hi : i ∈ vs
    · exact absurd h (clr_in hi)
    · rw [clr_out hi] at h
      rw [wipe_eq, clr_out hi]
      exact R.slot i s h
  · by_cases hi : i ∈ vs
    · exact absurd h (clr_in hi)
    · rw [clr_out hi] at h
      exact R.pin i s h
end
/-- what a slot that was emptied for a while is again: only what may not be changed -/
def kpE : Option (Option LD) → Option LD
  | some (some x) => if x.2.imm then some x else none
  | _ => none
def kpS : Option (Option Sl) → Option Sl
  | some (some s) => if s.d.imm then some s else none
  | _ => none
def bakE (Γ0 : Env) (Γ : Env) : List Nat → Env
  | [] => Γ
  | v :: vs => (bakE Γ0 Γ vs).set v (kpE Γ0[v]?)
def bakS (L0 : List (Option Sl)) (L : List (Option Sl)) : List Nat → List (Option Sl)
  | [] => L
  | v :: vs => (bakS L0 L vs).set v (kpS L0[v]?)
theorem er_bak (L0 L : List (Option Sl)) : ∀ vs, er (bakS L0 L vs) = bakE (er L0) (er L) vs
  | [] => rfl
  | v :: vs => by
    unfold bakS bakE
    rw [er_set, er_bak L0 L vs]
    congr 1
    rw [er_get]
    cases L0[v]? with
    | none => rfl
    | some o =>
      cases o with
      | none => rfl
      | some s =>
        simp only [kpS, kpE, Option.map_some, Sl.ld]
        split <;> rfl
theorem bak_length (L0 L : List (Option Sl)) : ∀ vs, (bakS L0 L vs).length = L.length
  | [] => rfl
  | v :: vs => by unfold bakS; rw [List.length_set, bak_length L0 L vs]
theorem bak_get {L0 L : List (Option Sl)} {i : Nat} {s : Sl} : ∀ {vs : List Nat}, (bakS L0 L vs)[i]? = some (some s) → (i ∈ vs ∧ L0[i]? = some (some s) ∧ s.d.imm = true) ∨ (i ∉ vs ∧ L[i]? = some (some s))
  | [], h => .inr ⟨by simp, h⟩
  | v :: vs, h => by
    unfold bakS at h
    by_cases e : v = i
    · subst e
      by_cases hv : v < (bakS L0 L vs).length
      · rw [List.getElem?_set_self hv] at h
        simp only [Option.some.injEq] at h
        refine .inl ⟨List.mem_cons_self .., ?_⟩
        unfold kpS at h
        split at h
        · next t e =>
          split at h
          · next hi => cases h; exact ⟨e, hi⟩
          · cases h
        · cases h
      · rw [List.getElem?_eq_none (by simpa using hv)] at h; cases h
    · rw [List.getElem?_set_ne e] at h
      rcases bak_get h with ⟨h1, h2⟩ | ⟨h1, h2⟩
      · exact .inl ⟨List.mem_cons_of_mem _ h1, h2⟩
      · exact .inr ⟨by simp only [List.mem_cons, not_or]; exact ⟨fun z => e z.symm, h1⟩, h2⟩
section
variable {K : PySem.W.Frag} {Z : Zone} {σ σ' : L2.St} {H H' H0 : Hp} {L L' L0 : List (Option Sl)} {M : List Tm}
theorem cnt_bak (R0 : Rel K Z σ H0 L0 M) (a : Addr) : ∀ vs, oS (bakS L0 L vs) a ≤ oS L a ∧ rS (bakS L0 L vs) a ≤ rS L a
  | [] => ⟨Nat.le_refl _, Nat.le_refl _⟩
  | v :: vs => by
    have := cnt_bak R0 a vs
    have := cnt_set (L := bakS L0 L vs) (i := v) (x := kpS L0[v]?) a (by
      cases e : L0[v]? with
      | none => exact ⟨rfl, rfl⟩
      | some o =>
        cases o with
        | none => exact ⟨rfl, rfl⟩
        | some s =>
          simp only [kpS]
          split
          · next hi =>
            have h := imm_cnt (l := s.l) (R0.slot v s e).2.1 hi a
            exact ⟨h.2, h.1⟩
          · exact ⟨rfl, rfl⟩)
    unfold bakS
    omega
/-- what may not be changed in the slots vs, kept -/
def keepT (K : PySem.W.Frag) (L0 : List (Option Sl)) : Tm := ⟨fun _ => 0, fun _ => 0, fun H => ∀ (i : Nat) (s : Sl), L0[i]? = some (some s) → s.d.imm = true → Rd K H s.v s.d s.ns⟩
theorem keepT_stab (R0 : Rel K Z σ H0 L0 M) : (keepT K L0).Stab K := fun H H' h t _ i s h1 h2 => by
  have h : ∀ (i : Nat) (s : Sl), L0[i]? = some (some s) → s.d.imm = true → Rd K H s.v s.d s.ns := h
  refine Rd.at t _ _ _ (h i s h1 h2) fun a ha => ?_
  rw [(R0.slot i s h1).2.1.imm _ _ _ h2] at ha
  cases ha
theorem Rel.keepT (R : Rel K Z σ H L M) : Rel K Z σ H L (keepT K L :: M) :=
  R.push (m := DL.keepT K L) (fun i s h _ => (R.slot i s h).2.1) (keepT_stab R) (fun a h => absurd h (Nat.lt_irrefl 0)) (fun a => ⟨Nat.zero_le _, fun _ => rfl⟩) (fun a h => absurd h (Nat.lt_irrefl 0)) fun a h => absurd h (Nat.lt_irrefl 0)
theorem Rel.back {vs : List Nat} {N : List Tm} (R0 : Rel K Z σ H0 L0 N) (R : Rel K Z (L2.wipe σ vs) H L M) (k : (DL.keepT K L0).P H) : Rel K Z σ H (bakS L0 L vs) M := by
  refine R.with (by rw [bak_length, R.len, wipe_length]) (fun i s h => ?_) (fun a => cnt_bak R0 a vs) fun i s h hl => ?_
  · rcases bak_get h with ⟨h1, h2, h3⟩ | ⟨h1, h2⟩
    · obtain ⟨g1, g2, g3⟩ := R0.slot i s h2
      exact ⟨g1, k i s h2 h3, g3⟩
    · obtain ⟨g1, g2, g3⟩ := R.slot i s h2
      rw [wipe_eq, clr_out h1] at g1
      exact ⟨g1, g2, g3⟩
  · rcases bak_get h with ⟨h1, h2, h3⟩ | ⟨h1, h2⟩
    · exact R0.pin i s h2 hl
    · exact R.pin i s h2 hl
end
def W0 : WW := fun _ _ _ => False
/-- the turns of a comprehension -/
def lcL (bd : BF) (tt : EB) (te : EF) (vs : List Nat) : List LD → Bool → List D → Env → R LD
  | [], b, ds, Γ => .ok (l12 b, .lst ds) Γ
  | x :: xs, b, ds, Γ => match bd x Γ with
    | none => .bad
    | some Γ1 => match tt Γ1 with
      | .ok true Γ2 => (match te Γ2 with
        | .ok y Γ3 => lcL bd tt te vs xs (b && ful y) (ds ++ [y.2]) (clr Γ3 vs)
        | _ => .bad)
      | .ok false Γ2 => lcL bd tt te vs xs b ds (clr Γ2 vs)
      | _ => .bad
def eLc (src : IF') (bd : BF) (tt : EB) (te : EF) (vs : List Nat) : EF := fun Γ => match src Γ with
  | .ok xs Γ1 => if szOk xs.length then (match lcL bd tt te vs xs true [] (clr Γ1 vs) with
    | .ok x Γ2 => .ok x (bakE Γ1 Γ2 vs)
    | _ => .bad) else .bad
  | .exc c Γ1 => .exc c Γ1
  | .bad => .bad
def ebT : EB := fun Γ => .ok true Γ
section
variable {K : PySem.W.Frag} {Z : Zone} {σ σ' : L2.St} {H H' H0 : Hp} {L L' L0 : List (Option Sl)} {M : List Tm}
/-- the second and the third, the other way about -/
theorem Rel.under {m n k : Tm} (R : Rel K Z σ H L (m :: n :: k :: M)) : Rel K Z σ H L (m :: k :: n :: M) where
  len := R.len
  slot := R.slot
  tms := fun t ht => R.tms t (by
    simp only [List.mem_cons] at ht ⊢
    rcases ht with h | h | h | h
    · exact .inl h
    · exact .inr (.inr (.inl h))
    · exact .inr (.inl h)
    · exact .inr (.inr (.inr h)))
  sep := fun a => by have := R.sep a; simp only [oM, rM] at this ⊢; omega
  wr := fun a ha => R.wr a (by simp only [oM] at ha ⊢; omega)
  zf := R.zf
  pin := R.pin
theorem Rel.un1 {s : Sl} (R : Rel K Z σ H L (tmA K [s] :: M)) : Rel K Z σ H L (s.tm K :: M) := R.splitA.swap.pop
/-- the new thing laid behind the others -/
theorem Rel.snoc {s : Sl} {b : Bool} {ds : List D} {p : Addr} {ns : List Addr} (R : Rel K Z σ H L (s.tm K :: (Sl.mk (l12 b) (.lst ds) (.ref p) (p :: ns)).tm K :: M)) : ∃ vs, H p = some (.lst vs) ∧ vs.length = ds.length ∧
    Rel K Z σ (upd H p (.lst (vs ++ [s.v]))) L ((Sl.mk (l12 (b && ful s.ld)) (.lst (ds ++ [s.d])) (.ref p) (p :: (ns ++ (s.ns ++ [])))).tm K :: M) := by
  have rs := (R.tms _ (List.mem_cons_self ..)).1
  have ra := (R.tms _ (List.mem_cons_of_mem _ (List.mem_cons_self ..))).1
  obtain ⟨p', vs, ms, e1, e2, hp, rd⟩ : ∃ p' vs ms, V.ref p = .ref p' ∧ p :: ns = p' :: ms ∧ H p' = some (.lst vs) ∧ Rds K H vs ds ms := by
    cases (show Rd K H (.ref p) (.lst ds) (p :: ns) from ra) with
    | lst h r => exact ⟨_, _, _, rfl, rfl, h, r⟩
  cases e1
  cases e2
  have R1 : Rel K Z σ H L (tmA K [⟨l12 b, .lst ds, .ref p, p :: ns⟩, s] :: M) := by
    have := (R.swap : Rel K Z σ H L ((Sl.mk (l12 b) (.lst ds) (.ref p) (p :: ns)).tm K :: s.tm K :: M))
    exact Rel.joinA (As := [s]) (by
      have R2 := R.swap
      exact (Rel.swap (Rel.one R2.swap)))
  have rs' : Rd K H s.v s.d s.ns := rs
  obtain ⟨g1, g2, g3⟩ := obj_chg (l' := l12 (b && ful s.ld)) (t := ⟨2, .non, .non, []⟩) (Xs := [s]) (d' := .lst (ds ++ [s.d])) (o' := .lst (vs ++ [s.v])) (ms := ns ++ (s.ns ++ [])) R1.argsOk rfl rfl (by cases b <;> decide) hp trivial trivial (fun h => .lst upd_same ((rd.append (.cons rs' .nil)).upd hp trivial h)) .non (fun a => by simp [List.count_append]) (by
    cases h1 : b with
    | false => exact .inl rfl
    | true =>
      cases h2 : ful s.ld with
      | false => exact .inl rfl
      | true => exact .inr ⟨rfl, by decide, fun x hx => by rw [List.mem_singleton.mp hx]; exact ful_ok h2 rs'⟩) (.inr ⟨rfl, .inl rfl⟩)
  exact ⟨vs, hp, rd.length, (R1.callA g1 g2 g3).splitA.pop.un1⟩
end
theorem wipe_but {vs js : List Nat} {σ σ2 : L2.St} {La Lb : List (Option Sl)} (hj : ∀ j ∈ js, j ∈ vs) (b : But js (L2.wipe σ vs) σ2 La Lb) : L2.wipe σ2 vs = L2.wipe σ vs := by
  have hl : σ2.length = σ.length := by rw [b.1, wipe_length]
  apply List.ext_getElem?
  intro i
  by_cases hi : i ∈ vs
  · have e : ∀ σ : L2.St, (L2.wipe σ vs)[i]? = if i < σ.length then some none else none := fun σ => by
      rw [wipe_eq]
      split
      · next h =>
        have h' : i < (clr σ vs).length := by rw [clr_length]; exact h
        have := List.getElem?_eq_getElem h'
        cases ec : (clr σ vs)[i] with
        | none => rw [this, ec]
        | some x => rw [ec] at this; exact absurd this (clr_in hi)
      · next h => exact List.getElem?_eq_none (by rw [clr_length]; omega)
    rw [e, e, hl]
  · rw [wipe_eq σ2, clr_out hi]
    exact (b.2 i fun h => hi (hj i h)).1
/-- a comprehension over data -/
theorem lc_ok {K : PySem.W.Frag} {W : WW} {src : IF'} {js vs : List Nat} {bd : BF} {g : TG} {tt : EB} {te : EF} {wi : TI} {σ : L2.St} {H : Hp} {Q : VK} (hj : ∀ j ∈ js, j ∈ vs) (hg : TgOk K js g bd)
    (hw : ∀ σ H R, (∃ Z L M, Rel K Z σ H L M ∧ match src (er L) with
    | .ok xs Γ' => ∀ H' L' J m, er L' = Γ' → Rel K Z σ H' L' (m 0 :: M) → WalkD K Z J xs m → R J H'
    | .exc c Γ' => ∀ H' L', er L' = Γ' → Rel K Z σ H' L' M → W c σ H'
    | .bad => False) → wi σ H R) (h : tDE K W (eLc src bd tt te vs) σ H Q) : tLc wi g (tDT K W0 tt) (tDE K W0 te) vs σ H Q := by
  obtain ⟨Z, L, M, R, q⟩ := h
  refine hw σ H _ ⟨Z, L, M, R, ?_⟩
  unfold eLc at q
  cases es : src (er L) with
  | bad => rw [es] at q; exact q
  | exc c Γ1 => rw [es] at q; exact q
  | ok xs Γ1 =>
    rw [es] at q
    dsimp only at q ⊢
    intro H1 L1 J m e1 R1 wk D hD
    by_cases hz : szOk xs.length = true
    rotate_left
    · rw [if_neg hz] at q; exact q.elim
    rw [if_pos hz] at q
    have hsz := szOk_ok hz
    -- the start
    have mk := (R1.zf D hD)
    have Rk : Rel K Z σ H1 L1 (m 0 :: keepT K L1 :: M) := R1.keepT.swap
    have fr := Rk.free hD
    have sm : Same H1 (upd H1 D (.lst [])) := same_upd hD
    have Ra : Rel K Z σ (upd H1 D (.lst [])) L1 ((Sl.mk (l12 true) (.lst []) (.ref D) [D]).tm K :: m 0 :: keepT K L1 :: M) := by
      have c1 : ∀ a, (Sl.mk (l12 true) (.lst []) (.ref D) [D]).own a = if D = a then 1 else 0 := fun a => by simp [Sl.own, ownL, l12, List.count_cons]
      have c2 : ∀ a, (Sl.mk (l12 true) (.lst []) (.ref D) [D]).rst a = 0 := fun a => by simp [Sl.rst, rstL, l12]
      have c3 : ∀ a, 0 < (Sl.mk (l12 true) (.lst []) (.ref D) [D]).own a → D = a := fun a h => by
        rw [c1] at h
        by_cases e : D = a
        · exact e
        · rw [if_neg e] at h; exact absurd h (Nat.lt_irrefl 0)
      refine (Rk.same sm).push (m := (Sl.mk (l12 true) (.lst []) (.ref D) [D]).tm K) (.lst upd_same .nil) (Sl.stab _ _) (fun a ha => ?_) (fun a => ⟨?_, fun _ => c2 a⟩) (fun a ha => ?_) fun a ha => ?_
      · have ha : 0 < (Sl.mk (l12 true) (.lst []) (.ref D) [D]).own a + (Sl.mk (l12 true) (.lst []) (.ref D) [D]).rst a := ha
        rw [c2] at ha
        rw [← c3 a ha, upd_same]
        exact fun z => nomatch z
      · show (Sl.mk (l12 true) (.lst []) (.ref D) [D]).own a ≤ 1
        rw [c1]; split <;> omega
      · rw [← c3 a ha]
        exact ⟨by rw [upd_same]; trivial, fr.1, fr.2.1, fr.2.2.1, fr.2.2.2⟩
      · have ha : 0 < (Sl.mk (l12 true) (.lst []) (.ref D) [D]).rst a := ha
        rw [c2] at ha
        exact absurd ha (Nat.lt_irrefl 0)
    let Fin : DL.R LD → Prop := fun r => match r with
      | .ok (l, d) Γ2 => ∀ v ns H' L', er L' = bakE Γ1 Γ2 vs → Rel K Z σ H' L' (Sl.tm K ⟨l, d, v, ns⟩ :: M) → (∀ a ∈ ns, Z a) → Q v H'
      | _ => False
    have q0 : Fin (lcL bd tt te vs xs true [] (clr Γ1 vs)) := by
      revert q
      cases lcL bd tt te vs xs true [] (clr Γ1 vs) with
      | ok x Γ2 => exact fun q => q
      | exc c Γ2 => exact fun q => q
      | bad => exact fun q => q
    refine ⟨fun i n H => n = xs.length - i ∧ i ≤ xs.length ∧ ∃ L' b ds ns, Rel K Z (L2.wipe σ vs) H L' ((Sl.mk (l12 b) (.lst ds) (.ref D) (D :: ns)).tm K :: m i :: keepT K L1 :: M) ∧ (∀ a ∈ D :: ns, Z a) ∧ ds.length ≤ i ∧ Fin (lcL bd tt te vs (xs.drop i) b ds (er L')), ⟨xs.length, by simp, Nat.zero_le _, clr L1 vs, true, [], [], Ra.wipe vs, fun a ha => by rw [List.mem_singleton.mp ha]; exact Z.sub _ mk, Nat.le_refl _, by rw [er_clr, e1]; simpa using q0⟩, ?_⟩
    rintro i n H2 ⟨rfl, hil, L2', b, ds, ns, R2, z2, hds, q2⟩
    have pm := (R2.tms _ (List.mem_cons_of_mem _ (List.mem_cons_self ..))).1
    by_cases hlt : i < xs.length
    · refine .inr ⟨wk.goes i H2 hlt pm, fun H' => i + 1 ≤ xs.length ∧ ∃ L' b ds ns, Rel K Z (L2.wipe σ vs) H' L' ((Sl.mk (l12 b) (.lst ds) (.ref D) (D :: ns)).tm K :: m (i + 1) :: keepT K L1 :: M) ∧ (∀ a ∈ D :: ns, Z a) ∧ ds.length ≤ i + 1 ∧ Fin (lcL bd tt te vs (xs.drop (i + 1)) b ds (er L')), fun H' h => ⟨xs.length - (i + 1), by omega, rfl, h.1, h.2⟩, fun v H3 y => ?_⟩
      have hx : xs[i]? = some xs[i] := by simp [hlt]
      obtain ⟨sm2, nx, rd, hzx, hP, hd, hcn⟩ := wk.step i _ H2 v H3 hx pm y
      have R3 := Rel.turn (s := ⟨xs[i].1, xs[i].2, v, nx⟩) R2.swap sm2 rd hP (wk.stab _) hd hcn
      have ed : xs.drop i = xs[i] :: xs.drop (i + 1) := by simp
      rw [ed] at q2
      simp only [lcL] at q2
      cases eb : bd xs[i] (er L2') with
      | none => rw [eb] at q2; exact q2.elim
      | some Γ2 =>
        rw [eb] at q2
        dsimp only at q2
        refine hg Z ⟨xs[i].1, xs[i].2, v, nx⟩ _ H3 L2' _ Γ2 _ R3 hzx eb fun σ4 L4 e4 R4 bt => ⟨wipe_but hj bt, Z, L4, _, R4, ?_⟩
        rw [e4]
        cases et : tt Γ2 with
        | bad => rw [et] at q2; exact q2
        | exc c Γ3 => rw [et] at q2; exact q2.elim
        | ok k Γ3 =>
          rw [et] at q2
          dsimp only
          intro H5 L5 e5 R5
          cases k with
          | false =>
            dsimp only at q2 ⊢
            rw [if_neg (by decide)]
            refine ⟨by omega, clr L5 vs, b, ds, ns, ?_, z2, by omega, by rw [er_clr, e5]; exact q2⟩
            have := (R5.wipe vs).swap
            rw [wipe_but hj bt] at this
            exact this
          | true =>
            dsimp only at q2 ⊢
            rw [if_pos rfl]
            refine ⟨Z, L5, _, R5, ?_⟩
            rw [e5]
            cases ey : te Γ3 with
            | bad => rw [ey] at q2; exact q2
            | exc c Γ4 => rw [ey] at q2; exact q2.elim
            | ok y Γ4 =>
              obtain ⟨ly, dy⟩ := y
              rw [ey] at q2
              dsimp only at q2 ⊢
              intro vy ny H6 L6 e6 R6 zy
              -- the thing, the list, the source
              have R7 : Rel K Z σ4 H6 L6 ((Sl.mk ly dy vy ny).tm K :: (Sl.mk (l12 b) (.lst ds) (.ref D) (D :: ns)).tm K :: m (i + 1) :: keepT K L1 :: M) := Rel.under R6
              obtain ⟨us, hD6, hlen, R8⟩ := R7.snoc
              refine ⟨us, hD6, by omega, by omega, clr L6 vs, b && ful (ly, dy), ds ++ [dy], ns ++ (ny ++ []), ?_, fun a ha => ?_, by simp; omega, by rw [er_clr, e6]; exact q2⟩
              · have := R8.wipe vs
                rw [wipe_but hj bt] at this
                exact this
              · rcases List.mem_cons.mp ha with rfl | ha
                · exact z2 _ (List.mem_cons_self ..)
                · rcases List.mem_append.mp ha with ha | ha
                  · exact z2 a (List.mem_cons_of_mem _ ha)
                  · rw [List.append_nil] at ha; exact zy a ha
    · have e : i = xs.length := by omega
      subst e
      refine .inl ⟨wk.stops H2 pm, ?_⟩
      rw [List.drop_length] at q2
      have R9 := R2.swap.pop
      have kp := (R9.tms _ (List.mem_cons_of_mem _ (List.mem_cons_self ..))).1
      have R10 := Rel.back (N := m 0 :: M) R1 (R9.swap.pop) kp
      exact q2 (.ref D) (D :: ns) H2 _ (by rw [er_bak, e1]) R10 z2
section
variable {X : Cx} {W : WW} {elt tg iter : Expr} {ifs : List Expr} {scope : Scope} {own : List (Str × Nat)} {pos : Pos} {src : IF'} {js : List Nat} {bd : BF} {g : TG} {tt : EB} {te : EF}
theorem pts0 {X : Cx} : PTs X [] (tDT X.K W0 ebT) := by
  have := pts_nil (X := X)
  exact ⟨fun pins s σ H Q I h => this.run pins s σ H Q I (by
    obtain ⟨Z, L, M, R, q⟩ := h
    exact q H L rfl R)⟩
theorem pts1 {X : Cx} {c : Expr} {t : EB} (h : DT X W0 c t) : PTs X [c] (tDT X.K W0 t) := pts_one h
theorem e_lc (hc : X.calm = true) (hN : X.N.Nodup) (hi : DI X W tg iter src) (ok : BlkOk X.N X.env.scope scope own) (hj : ∀ j ∈ js, j ∈ own.map (·.2)) (htg : TgOk X.K js g bd)
    (hg : ∀ (s : Shared) (H : Hp) (C : Addr) (cl : List (Str × Addr)) (fp : List Addr), PG (X.blk s H scope (compEnvC scope cl C X.env) fp) tg g) (ht : ∀ (s : Shared) (H : Hp) (C : Addr) (cl : List (Str × Addr)) (fp : List Addr), PTs (X.blk s H scope (compEnvC scope cl C X.env) fp) ifs (tDT X.K W0 tt))
    (he : ∀ (s : Shared) (H : Hp) (C : Addr) (cl : List (Str × Addr)) (fp : List Addr), DE (X.blk s H scope (compEnvC scope cl C X.env) fp) W0 elt te) (hs : ∀ x, foldedSetIterable iter X.env x = pure x := by intro _; rfl) :
    DE X W (.ListComp elt [⟨tg, iter, ifs, 0⟩] scope pos) (eLc src bd tt te (own.map (·.2))) := by
  obtain ⟨wi, hi, hw⟩ := hi
  exact PE.imp (pe_lc (te := tDE X.K W0 te) hc hN hi ok hg ht he hs) fun σ H Q q => lc_ok hj htg hw q
/-- name = [..], on one line -/
theorem s_setLc {i : Nat} {y : Str} {py spos : Pos} (hc : X.calm = true) (hN : X.N.Nodup) (hy : X.N[i]? = some y) (hyl : X.env.scope.names.lookup y = some .local)
    (hsw : swapsWith (.ListComp elt [⟨tg, iter, ifs, 0⟩] scope pos) (some (.Name y py)) spos.line X.env = pure true) (hi : DI X W tg iter src) (ok : BlkOk X.N X.env.scope scope own) (hj : ∀ j ∈ js, j ∈ own.map (·.2)) (htg : TgOk X.K js g bd)
    (hg : ∀ (s : Shared) (H : Hp) (C : Addr) (cl : List (Str × Addr)) (fp : List Addr), PG (X.blk s H scope (compEnvC scope cl C X.env) fp) tg g) (ht : ∀ (s : Shared) (H : Hp) (C : Addr) (cl : List (Str × Addr)) (fp : List Addr), PTs (X.blk s H scope (compEnvC scope cl C X.env) fp) ifs (tDT X.K W0 tt))
    (he : ∀ (s : Shared) (H : Hp) (C : Addr) (cl : List (Str × Addr)) (fp : List Addr), DE (X.blk s H scope (compEnvC scope cl C X.env) fp) W0 elt te) (hs : ∀ x, foldedSetIterable iter X.env x = pure x := by intro _; rfl) :
    DS X W (.Assign [.Name y py] (.ListComp elt [⟨tg, iter, ifs, 0⟩] scope pos) spos) (sAsg (eLc src bd tt te (own.map (·.2))) (bName i)) := by
  obtain ⟨wi, hi, hw⟩ := hi
  refine PS.imp (ps_setLc (te := tDE X.K W0 te) hc hN hy hyl hsw hi ok hg ht he hs) fun D σ H q => ?_
  have q1 := asg_core (tg_name (i := i)) q
  exact lc_ok hj htg hw q1
end
end DL

/-! DL15: built-in functions over data -/
namespace DL
open L2 PySem PySem.Spec PyProof.Rows
def dInts : List D → Option (List Int)
  | [] => some []
  | .int i :: xs => (dInts xs).map (i :: ·)
  | _ => none
theorem dInts_map : ∀ (ns : List Int), dInts (ns.map .int) = some ns
  | [] => rfl
  | n :: ns => by simp [dInts, dInts_map ns]
theorem dInts_is : ∀ {ds : List D} {ns : List Int}, dInts ds = some ns → ds = ns.map .int
  | [], _, h => by cases h; rfl
  | d :: ds, ns, h => by
    cases d <;> simp only [dInts] at h <;> try cases h
    obtain ⟨ms, h1, rfl⟩ := Option.map_eq_some_iff.mp h
    rw [dInts_is h1]
    rfl
/-- a list of ints -/
def D.seqI : D → Option (List Int)
  | .lst xs => dInts xs
  | .frz xs => some xs
  | _ => none
section
variable {K : PySem.W.Frag} {H H' : Hp} {As : List Sl}
theorem rds_intsV : ∀ {ns : List Int} {vs : List V} {as : List Addr}, Rds K H vs (ns.map .int) as → vs = ns.map V.int ∧ as = []
  | [], _, _, h => by cases h; exact ⟨rfl, rfl⟩
  | n :: ns, _, _, h => by
    cases h with
    | cons h r =>
      obtain ⟨rfl, rfl⟩ := rd_int h
      obtain ⟨rfl, rfl⟩ := rds_intsV r
      exact ⟨rfl, rfl⟩
theorem seqI_is {d : D} {v : V} {ns : List Addr} {is : List Int} (h : Rd K H v d ns) (e : d.seqI = some is) : ∃ a, v = .ref a ∧ SqL K H a (is.map V.int) := by
  cases h with
  | lst h r =>
    have := dInts_is e
    subst this
    obtain ⟨rfl, rfl⟩ := rds_intsV r
    exact ⟨_, rfl, .of h⟩
  | frz h => cases e; exact ⟨_, rfl, h.sq⟩
  | _ => cases e
theorem res_ints (K : PySem.W.Frag) {p : Addr} {is : List Int} (hp : H p = none) : Res As H (upd H p (.lst (is.map V.int))) ⟨2, .lst (is.map .int), .ref p, [p]⟩ := by
  have := res_lst (As := As) (H' := upd H p (.lst (is.map V.int))) hp (rds_ints (K := K) is) (fun a ha => nomatch ha) (mut_upd trivial)
  rw [lvN, imm_ints, if_pos rfl] at this
  exact this
/-- what a call gives that takes a list of ints -/
def fInts (f : List Int → Option D) : LD → Option LD := fun x => match x.2.seqI with
  | some is => (f is).map fun d => (2, d)
  | none => none
def sortI (is : List Int) : List Int := is.mergeSort fun a b => decide (a ≤ b)
theorem sortI_perm (is : List Int) : (sortI is).Perm is := List.mergeSort_perm ..
theorem sortI_sorted (is : List Int) : (sortI is).Pairwise (· ≤ ·) := by
  have := List.pairwise_mergeSort (le := fun (a b : Int) => decide (a ≤ b)) (fun a b c h1 h2 => by simp at *; omega) (fun a b => by simp; omega) is
  exact this.imp fun h => by simpa using h
abbrev gSortI := gL1 (fInts fun is => some (.lst ((sortI is).map .int)))
theorem vSortI : VOk K (rSortedI K) gSortI := vC1 fun s H Q ok h1 l d hg k => by
  obtain ⟨l1, d1, v1, n1⟩ := s
  dsimp only at *
  unfold fInts at hg
  cases e : d1.seqI with
  | none => simp [e] at hg
  | some is =>
    simp only [e, Option.map_some, Option.some.injEq, Prod.mk.injEq] at hg
    obtain ⟨rfl, rfl⟩ := hg
    obtain ⟨a, rfl, hs⟩ := seqI_is h1 e
    refine ⟨a, is, rfl, hs, fun ns' p hp hsrt hn => ?_⟩
    have : ns' = sortI is := (hp.trans (sortI_perm is).symm).eq_of_pairwise (fun x y _ _ h1 h2 => Int.le_antisymm h1 h2) hsrt (sortI_sorted is)
    subst this
    exact k _ _ _ (same_upd hn) (rd_new hn (rds_ints _)) (res_ints K hn)
theorem vInts {r : List V → Hp → VK → Prop} {f : List Int → Option D} (hf : ∀ is d, f is = some d → ∃ v, (∀ H, Rd K H v d []) ∧ ∀ (a : Addr) (H : Hp) (Q : VK), SqL K H a (is.map V.int) → Q v H → r [.ref a] H Q) : VOk K r (gL1 (fInts f)) := vC1 fun s H Q ok h1 l d hg k => by
  obtain ⟨l1, d1, v1, n1⟩ := s
  dsimp only at *
  unfold fInts at hg
  cases e : d1.seqI with
  | none => simp [e] at hg
  | some is =>
    simp only [e] at hg
    obtain ⟨x, hx, e2⟩ := Option.map_eq_some_iff.mp hg
    cases e2
    obtain ⟨a, rfl, hs⟩ := seqI_is h1 e
    obtain ⟨v, q1, q2⟩ := hf is d hx
    exact q2 a H Q hs (k v [] H (Same.refl H) (q1 H) (res_imm rfl))
abbrev gSumI := gL1 (fInts fun is => some (.int is.sum))
theorem vSumI : VOk K (rSum K) gSumI := vInts fun is d h => by
  cases h
  exact ⟨.int _, fun _ => .int _, fun a H Q hs q => ⟨a, is, rfl, hs, q⟩⟩
def mxI : List Int → Option Int
  | [] => none
  | x :: xs => some (xs.foldl max x)
def mnI : List Int → Option Int
  | [] => none
  | x :: xs => some (xs.foldl min x)
theorem foldl_max (xs : List Int) : ∀ x, x ≤ xs.foldl max x ∧ (∀ y ∈ xs, y ≤ xs.foldl max x) ∧ (xs.foldl max x = x ∨ xs.foldl max x ∈ xs) := by
  induction xs with
  | nil => intro x; simp
  | cons y xs ih =>
    intro x
    obtain ⟨h1, h2, h3⟩ := ih (max x y)
    simp only [List.foldl_cons]
    refine ⟨by omega, fun z hz => ?_, ?_⟩
    · rcases List.mem_cons.mp hz with rfl | hz
      · omega
      · exact h2 z hz
    · rcases h3 with h3 | h3
      · rw [h3]
        rcases Int.le_total x y with h | h
        · right; rw [Int.max_eq_right h]; exact List.mem_cons_self ..
        · left; exact Int.max_eq_left h
      · exact .inr (List.mem_cons_of_mem _ h3)
theorem foldl_min (xs : List Int) : ∀ x, xs.foldl min x ≤ x ∧ (∀ y ∈ xs, xs.foldl min x ≤ y) ∧ (xs.foldl min x = x ∨ xs.foldl min x ∈ xs) := by
  induction xs with
  | nil => intro x; simp
  | cons y xs ih =>
    intro x
    obtain ⟨h1, h2, h3⟩ := ih (min x y)
    simp only [List.foldl_cons]
    refine ⟨by omega, fun z hz => ?_, ?_⟩
    · rcases List.mem_cons.mp hz with rfl | hz
      · omega
      · exact h2 z hz
    · rcases h3 with h3 | h3
      · rw [h3]
        rcases Int.le_total x y with h | h
        · left; exact Int.min_eq_left h
        · right; rw [Int.min_eq_right h]; exact List.mem_cons_self ..
      · exact .inr (List.mem_cons_of_mem _ h3)
abbrev gMaxL := gL1 (fInts fun is => (mxI is).map .int)
theorem vMaxL : VOk K (rMax K) gMaxL := vC1 fun s H Q ok h1 l d hg k => by
  obtain ⟨l1, d1, v1, n1⟩ := s
  dsimp only at *
  unfold fInts at hg
  cases e : d1.seqI with
  | none => simp [e] at hg
  | some is =>
    obtain ⟨a, rfl, hs⟩ := seqI_is h1 e
    cases is with
    | nil => simp [e, mxI] at hg
    | cons x xs =>
      simp only [e, mxI, Option.map_some, Option.some.injEq, Prod.mk.injEq] at hg
      obtain ⟨rfl, rfl⟩ := hg
      obtain ⟨f1, f2, f3⟩ := foldl_max xs x
      refine ⟨a, x :: xs, rfl, hs, by simp, fun m hm hy => ?_⟩
      have : m = xs.foldl max x := by
        have h1 := hy (xs.foldl max x) (by rcases f3 with f | f; rw [f]; exact List.mem_cons_self ..; exact List.mem_cons_of_mem _ f)
        rcases List.mem_cons.mp hm with rfl | hm
        · omega
        · have := f2 m hm; omega
      subst this
      exact k _ [] H (Same.refl H) (.int _) (res_imm rfl)
abbrev gMinL := gL1 (fInts fun is => (mnI is).map .int)
theorem vMinL : VOk K (rMin K) gMinL := vC1 fun s H Q ok h1 l d hg k => by
  obtain ⟨l1, d1, v1, n1⟩ := s
  dsimp only at *
  unfold fInts at hg
  cases e : d1.seqI with
  | none => simp [e] at hg
  | some is =>
    obtain ⟨a, rfl, hs⟩ := seqI_is h1 e
    cases is with
    | nil => simp [e, mnI] at hg
    | cons x xs =>
      simp only [e, mnI, Option.map_some, Option.some.injEq, Prod.mk.injEq] at hg
      obtain ⟨rfl, rfl⟩ := hg
      obtain ⟨f1, f2, f3⟩ := foldl_min xs x
      refine ⟨a, x :: xs, rfl, hs, by simp, fun m hm hy => ?_⟩
      have : m = xs.foldl min x := by
        have h1 := hy (xs.foldl min x) (by rcases f3 with f | f; rw [f]; exact List.mem_cons_self ..; exact List.mem_cons_of_mem _ f)
        rcases List.mem_cons.mp hm with rfl | hm
        · omega
        · have := f2 m hm; omega
      subst this
      exact k _ [] H (Same.refl H) (.int _) (res_imm rfl)
/-! two ints, one -/
theorem vC2I {r : List V → Hp → VK → Prop} {f : Int → Int → Int} (hr : ∀ i j H (Q : VK), Q (.int (f i j)) H → r [.int i, .int j] H Q) : VOk K r (gL2 fun a b => match a, b with
    | .int i, .int j => some (2, .int (f i j))
    | _, _ => none) := by
  intro As H Q ok l d hg k
  rcases As with _ | ⟨⟨l1, d1, v1, n1⟩, _ | ⟨⟨l2, d2, v2, n2⟩, _ | ⟨u, As⟩⟩⟩
  · cases hg
  · cases hg
  · have h1 := ok.rd _ (List.mem_cons_self ..)
    have h2 := ok.rd _ (List.mem_cons_of_mem _ (List.mem_cons_self ..))
    dsimp only at h1 h2
    simp only [List.map_cons, List.map_nil, Sl.ld, gL2] at hg
    split at hg
    · cases hg
      obtain ⟨rfl, rfl⟩ := rd_int h1
      obtain ⟨rfl, rfl⟩ := rd_int h2
      exact hr _ _ _ _ (k _ [] H (Same.refl H) (.int _) (res_imm rfl))
    · cases hg
  · cases hg
def gMax2 : List LD → Option LD := gL2 fun a b => match a, b with
    | .int i, .int j => some (2, .int (if j > i then j else i))
    | _, _ => none
def gMin2 : List LD → Option LD := gL2 fun a b => match a, b with
    | .int i, .int j => some (2, .int (if j < i then j else i))
    | _, _ => none
theorem vMax2 : VOk K (fun xs H Q => ∃ i j, xs = [.int i, .int j] ∧ Q (.int (if j > i then j else i)) H) gMax2 := vC2I fun i j H Q q => ⟨i, j, rfl, q⟩
theorem vMin2 : VOk K (fun xs H Q => ∃ i j, xs = [.int i, .int j] ∧ Q (.int (if j < i then j else i)) H) gMin2 := vC2I fun i j H Q q => ⟨i, j, rfl, q⟩
def fAbs : LD → Option LD
  | (_, .int i) => some (2, .int (if i < 0 then -i else i))
  | _ => none
theorem vAbs : VOk K (fun xs H Q => ∃ i, xs = [.int i] ∧ Q (.int (if i < 0 then -i else i)) H) (gL1 fAbs) := vC1 fun s H Q ok h1 l d hg k => by
  obtain ⟨l1, d1, v1, n1⟩ := s
  dsimp only at *
  unfold fAbs at hg
  split at hg
  · rename_i e
    cases e
    cases hg
    obtain ⟨rfl, rfl⟩ := rd_int h1
    exact ⟨_, rfl, k _ [] H (Same.refl H) (.int _) (res_imm rfl)⟩
  · cases hg
def fInt1 : LD → Option LD
  | (_, .int i) => some (2, .int i)
  | (_, .bl b) => some (2, .int (if b then 1 else 0))
  | _ => none
theorem vInt1 : VOk K (fun xs H Q => (∃ i, xs = [.int i] ∧ Q (.int i) H) ∨ ∃ k, xs = [.bl k] ∧ Q (.int (if k then 1 else 0)) H) (gL1 fInt1) := vC1 fun s H Q ok h1 l d hg k => by
  obtain ⟨l1, d1, v1, n1⟩ := s
  dsimp only at *
  unfold fInt1 at hg
  split at hg
  · rename_i e
    cases e
    cases hg
    obtain ⟨rfl, rfl⟩ := rd_int h1
    exact .inl ⟨_, rfl, k _ [] H (Same.refl H) (.int _) (res_imm rfl)⟩
  · rename_i e
    cases e
    cases hg
    obtain ⟨rfl, rfl⟩ := rd_bl h1
    exact .inr ⟨_, rfl, k _ [] H (Same.refl H) (.int _) (res_imm rfl)⟩
  · cases hg
end
end DL

/-! DL16: len(set(xs)), list(range(..)), isinstance, slices, chains, dict(pairs); what is walked -/
namespace DL
open L2 PySem PySem.Spec PyProof.Rows
section
variable {X : Cx} {W : WW} {A B C : List Nat} {f g h : PF} {f' g' h' : EF} {pos : Pos} {a b c e : Expr}
/-! ### len(set(xs)), ints -/
def rLenSet (K : PySem.W.Frag) : V → Hp → VK → Prop := fun x H Q => ∃ (l : Addr) (ns : List Int), x = V.ref l ∧ SqL K H l (ns.map V.int) ∧ ns.length < 4000 ∧ Q (.int (firstMet (fun i => ns.getD i 0) ns.length).length) H
theorem pe_lenSet {ta : TE} {p p2 q : Pos} (hc : X.calm = true) (hg : Gl X "len") (hm : X.mg "len" = none) (hg2 : Gl X "set") (hm2 : X.mg "set" = none) (ha : PE X a ta)
    (na : starEach [a] X.env = (false, eval a X.env) :: starEach [] X.env := by rfl) : PE X (.Call (.Name "len" p) [.Call (.Name "set" p2) [a] [] q] [] pos) (fun σ H Q => ta σ H fun x H1 => rLenSet X.K x H1 Q) := by
  refine ⟨fun pins s σ H Q I h => ?_⟩
  refine Call_ (ld_blt I hg hm PySem.boot_len ?_)
  refine PyProof.Rows.callWith_builtin1 (PyProof.Rows.args_cons ?_ rfl) rfl rfl
  refine Call_ (ld_blt I hg2 hm2 PyProof.Rows.boot_set ?_)
  refine PyProof.Rows.callWith_type1 (PyProof.Rows.args_cons (thn (ha.run pins s σ H _ I h) fun v s1 ⟨x, H1, I1, r1, q1⟩ => PyProof.Rows.args_nil ?_) na) na rfl
  obtain ⟨l, ns, rfl, hq, h1, q1⟩ := q1
  cases r1
  obtain ⟨its, r, pl, hz⟩ := I1.list hq
  have hl : its.toArray.size = ns.length := by rw [List.size_toArray, ← r.length, List.length_map]
  refine call_set_list (I1.ok.hd hc) pl.isList (ns := ns) (by simpa using r.ints) (by unfold scanBound; omega) fun h' tk hS hk => ?_
  rw [hl] at hS
  refine PyProof.Rows.args_nil ?_
  have hle := firstMet_length_le (fun i => ns.getD i 0) ns.length
  obtain ⟨o, es, ep, t, ho, hex, hd, _, _, _, hf, hn⟩ := hS
  have I2 : Inv X pins σ H1 { s1 with heap := h', toks := tk } := I1.kept fun b o e => hk b o (Heap.lt_size e) e
  refine call_len_set ho hex hd hf (by rw [hn] <;> omega) ⟨.int _, H1, I2.tok _, ⟨_, by rw [hn]⟩, q1⟩
def fLenSet : LD → Option LD := fInts fun is => if is.length < 4000 then some (.int (firstMet (fun i => is.getD i 0) is.length).length) else none
theorem vLenSet {K : PySem.W.Frag} : VOk K (r1l (rLenSet K)) (gL1 fLenSet) := vInts fun is d h => by
  split at h
  · next hz =>
    cases h
    exact ⟨.int _, fun _ => .int _, fun a H Q hs q => ⟨a, is, rfl, hs, hz, q⟩⟩
  · cases h
theorem p_lenSet {p p2 q : Pos} (hc : X.calm = true) (hg : Gl X "len") (hm : X.mg "len" = none) (hg2 : Gl X "set") (hm2 : X.mg "set" = none) (ha : DP X W A a f)
    (na : starEach [a] X.env = (false, eval a X.env) :: starEach [] X.env := by rfl) : DP X W A (.Call (.Name "len" p) [.Call (.Name "set" p2) [a] [] q] [] pos) (pApp (gL1 fLenSet) [f]) :=
  p_app [(A, f)] mem1l vLenSet (pe_lenSet hc hg hm hg2 hm2 ha na) fun _ _ _ h => h
theorem e_lenSet {p p2 q : Pos} (hc : X.calm = true) (hg : Gl X "len") (hm : X.mg "len" = none) (hg2 : Gl X "set") (hm2 : X.mg "set" = none) (ha : DE X W a f')
    (na : starEach [a] X.env = (false, eval a X.env) :: starEach [] X.env := by rfl) : DE X W (.Call (.Name "len" p) [.Call (.Name "set" p2) [a] [] q] [] pos) (eApp (gL1 fLenSet) [f']) :=
  e_app [f'] vLenSet (pe_lenSet hc hg hm hg2 hm2 ha na) fun _ _ _ h => h
/-! ### list(range(..)) -/
def rgI (i j : Int) : List Int := (List.range (j - i).toNat).map fun (k : Nat) => i + k
def rgOk (i j : Int) : Bool := decide (i.natAbs < 4611686018427387904) && decide (j.natAbs < 4611686018427387904) && decide ((j - i).toNat ≤ 16777216)
theorem rgOk_ok {i j : Int} (h : rgOk i j = true) : RgOk i j := by
  unfold rgOk at h
  simp only [Bool.and_eq_true, decide_eq_true_eq] at h
  have h1 := h.1.1
  have h2 := h.1.2
  exact ⟨by omega, by omega, by omega, by omega, h.2⟩
theorem rgV_is (i j : Int) : rgV i j = (rgI i j).map V.int := by unfold rgV rgI; rw [List.map_map]; rfl
def fLR (i j : Int) : Option LD := if rgOk i j then some (2, .lst ((rgI i j).map .int)) else none
def fLR1 : LD → Option LD
  | (_, .int j) => fLR 0 j
  | _ => none
def gLR2 : List LD → Option LD := gL2 fun a b => match a, b with
  | .int i, .int j => fLR i j
  | _, _ => none
def rLR (i j : Int) : Hp → VK → Prop := fun H Q => RgOk i j ∧ ∀ q, H q = none → Q (.ref q) (upd H q (.lst (rgV i j)))
theorem vLR {K : PySem.W.Frag} {As : List Sl} {i j : Int} {H : Hp} {Q : VK} {l : Nat} {d : D} (hg : fLR i j = some (l, d)) (k : ∀ v ns H', Same H H' → Rd K H' v d ns → Res As H H' ⟨l, d, v, ns⟩ → Q v H') : rLR i j H Q := by
  unfold fLR at hg
  split at hg
  · next hz =>
    cases hg
    refine ⟨rgOk_ok hz, fun q hq => ?_⟩
    rw [rgV_is]
    exact k _ _ _ (same_upd hq) (rd_new hq (rds_ints _)) (res_ints K hq)
  · cases hg
theorem vLR1 {K : PySem.W.Frag} : VOk K (r1l fun x H Q => ∃ n, x = .int n ∧ rLR 0 n H Q) (gL1 fLR1) := vL1 fun s H Q ok h1 l d hg k => by
  obtain ⟨l1, d1, v1, n1⟩ := s
  dsimp only at *
  cases h1 with
  | int n => exact ⟨n, rfl, vLR hg k⟩
  | _ => cases hg
theorem vLR2 {K : PySem.W.Frag} : VOk K (r2l fun x y H Q => ∃ i j, x = .int i ∧ y = .int j ∧ rLR i j H Q) gLR2 := vL2 fun s t H Q ok h1 h2 l d hg k => by
  obtain ⟨l1, d1, v1, n1⟩ := s
  obtain ⟨l2, d2, v2, n2⟩ := t
  dsimp only at *
  split at hg
  · obtain ⟨rfl, rfl⟩ := rd_int h1
    obtain ⟨rfl, rfl⟩ := rd_int h2
    exact ⟨_, _, rfl, rfl, vLR hg k⟩
  · cases hg
section
variable {p p2 q : Pos}
theorem p_lr1 (hc : X.calm = true) (hg : Gl X "list") (hm : X.mg "list" = none) (hg2 : Gl X "range") (hm2 : X.mg "range" = none) (ha : DP X W A a f) (na : starEach [a] X.env = (false, eval a X.env) :: starEach [] X.env := by rfl) (nb : starEach [.Call (.Name "range" p2) [a] [] q] X.env = (false, eval (.Call (.Name "range" p2) [a] [] q) X.env) :: starEach [] X.env := by rfl) :
    DP X W A (.Call (.Name "list" p) [.Call (.Name "range" p2) [a] [] q] [] pos) (pApp (gL1 fLR1) [f]) :=
  p_app [(A, f)] mem1l vLR1 (pe_listRg hc hg hm (prg_1 hg2 hm2 ha na) nb) fun _ _ _ h => h
theorem e_lr1 (hc : X.calm = true) (hg : Gl X "list") (hm : X.mg "list" = none) (hg2 : Gl X "range") (hm2 : X.mg "range" = none) (ha : DE X W a f') (na : starEach [a] X.env = (false, eval a X.env) :: starEach [] X.env := by rfl) (nb : starEach [.Call (.Name "range" p2) [a] [] q] X.env = (false, eval (.Call (.Name "range" p2) [a] [] q) X.env) :: starEach [] X.env := by rfl) :
    DE X W (.Call (.Name "list" p) [.Call (.Name "range" p2) [a] [] q] [] pos) (eApp (gL1 fLR1) [f']) :=
  e_app [f'] vLR1 (pe_listRg hc hg hm (prg_1 hg2 hm2 ha na) nb) fun _ _ _ h => h
theorem p_lr2 (hc : X.calm = true) (hg : Gl X "list") (hm : X.mg "list" = none) (hg2 : Gl X "range") (hm2 : X.mg "range" = none) (ha : DP X W A a f) (hb : DP X W B b g) (na : starEach [a, b] X.env = (false, eval a X.env) :: starEach [b] X.env := by rfl) (nb : starEach [b] X.env = (false, eval b X.env) :: starEach [] X.env := by rfl) (hp : (backTo q (starEach [b] X.env)).any (·.1) = false := by rfl)
    (nc : starEach [.Call (.Name "range" p2) [a, b] [] q] X.env = (false, eval (.Call (.Name "range" p2) [a, b] [] q) X.env) :: starEach [] X.env := by rfl) :
    DP X W (A ++ B) (.Call (.Name "list" p) [.Call (.Name "range" p2) [a, b] [] q] [] pos) (pApp gLR2 [f, g]) :=
  p_app [(A, f), (B, g)] mem2l vLR2 (pe_listRg hc hg hm (prg_2 hg2 hm2 ha hb na nb hp) nc) fun _ _ _ h => h
theorem e_lr2 (hc : X.calm = true) (hg : Gl X "list") (hm : X.mg "list" = none) (hg2 : Gl X "range") (hm2 : X.mg "range" = none) (ha : DE X W a f') (hb : DE X W b g') (na : starEach [a, b] X.env = (false, eval a X.env) :: starEach [b] X.env := by rfl) (nb : starEach [b] X.env = (false, eval b X.env) :: starEach [] X.env := by rfl) (hp : (backTo q (starEach [b] X.env)).any (·.1) = false := by rfl)
    (nc : starEach [.Call (.Name "range" p2) [a, b] [] q] X.env = (false, eval (.Call (.Name "range" p2) [a, b] [] q) X.env) :: starEach [] X.env := by rfl) :
    DE X W (.Call (.Name "list" p) [.Call (.Name "range" p2) [a, b] [] q] [] pos) (eApp gLR2 [f', g']) :=
  e_app [f', g'] vLR2 (pe_listRg hc hg hm (prg_2 hg2 hm2 ha hb na nb hp) nc) fun _ _ _ h => h
end
/-! ### isinstance -/
def D.tyN : D → String
  | .non => "NoneType"
  | .bl _ => "bool"
  | .int _ => "int"
  | .str _ => "str"
  | .frz _ => "list"
  | .tup _ => "tuple"
  | .lst _ => "list"
  | .dk _ => "dict"
  | .exn _ => "exn"
def D.isX : D → Bool
  | .exn _ => true
  | _ => false
def isT (a T : String) : Bool := a == T || (a == "bool" && T == "int")
theorem kits : ∀ a ∈ ["NoneType", "bool", "int", "str", "list", "tuple", "dict"], ∀ T ∈ ["bool", "int", "str", "list", "tuple"], kitB a T = some (isT a T) := by decide +kernel
theorem tyN_mem (d : D) (hx : d.isX = false) : d.tyN ∈ ["NoneType", "bool", "int", "str", "list", "tuple", "dict"] := by cases d <;> simp [D.tyN, D.isX] at hx ⊢
theorem tyx {K : PySem.W.Frag} {H : Hp} {v : V} {d : D} {ns : List Addr} (h : Rd K H v d ns) (hx : d.isX = false) : TyX K H v (.type d.tyN) := by
  cases h with
  | non => exact .base .non
  | bl b => exact .base (.bl b)
  | int i => exact .base (.int i)
  | str x => exact .base (.str x)
  | tup h r =>
    rcases h with (h | ⟨o, h⟩) | ⟨o, its, n, h1, h2, _⟩
    · exact .base (.tup h)
    · exact .fTuple h
    · exact .kTuple h1 h2
  | frz h =>
    rcases h with ⟨o, h⟩ | ⟨o, its, n, h1, h2, _⟩
    · exact .base (.frz h)
    · exact .kList h1 h2
  | lst h r => exact .base (.lst h)
  | dk h k r => exact .base (.dK h)
  | exn h c => cases hx
def fIsi (T : String) : LD → Option LD := fun x => if x.2.isX then none else some (2, .bl (isT x.2.tyN T))
theorem vIsi {K : PySem.W.Frag} {T : String} (hT : T ∈ ["bool", "int", "str", "list", "tuple"]) : VOk K (r1l fun x H Q => rIsi K [x, .ty T] H Q) (gL1 (fIsi T)) := vL1 fun s H Q ok h1 l d hg k => by
  obtain ⟨l1, d1, v1, n1⟩ := s
  unfold fIsi at hg
  split at hg
  · cases hg
  rename_i hx
  have hx := Bool.eq_false_iff.mpr hx
  cases hg
  exact ⟨_, _, _, _, _, rfl, .ty T, tyx h1 hx, kit_ty (kits _ (tyN_mem d1 hx) _ hT), k _ [] H (Same.refl H) (.bl _) (res_imm rfl)⟩
def fIsiT (T T2 : String) : LD → Option LD := fun x => if x.2.isX then none else some (2, .bl (isT x.2.tyN T || isT x.2.tyN T2))
theorem vIsiT {K : PySem.W.Frag} {T T2 : String} (hT : T ∈ ["bool", "int", "str", "list", "tuple"]) (hT2 : T2 ∈ ["bool", "int", "str", "list", "tuple"]) :
    VOk K (r1l fun x H Q => ∀ p, H p = none → rIsiT K [x, .ref p] (upd H p (.tup [.ty T, .ty T2])) Q) (gL1 (fIsiT T T2)) := vL1 fun s H Q ok h1 l d hg k => by
  obtain ⟨l1, d1, v1, n1⟩ := s
  unfold fIsiT at hg
  split at hg
  · cases hg
  rename_i hx
  have hx := Bool.eq_false_iff.mpr hx
  cases hg
  intro p hp
  refine ⟨_, p, _, _, _, _, rfl, upd_same, .cons (.ty T) (.cons (.ty T2) .nil), tyx (h1.same (same_upd hp)) hx, kitAny_cons (kit_ty (kits _ (tyN_mem d1 hx) _ hT)) (fun e1 => kitAny_cons (r := isT d1.tyN T || isT d1.tyN T2) (kit_ty (kits _ (tyN_mem d1 hx) _ hT2)) (fun e2 => by rw [e1, e2]; exact kitAny_nil) fun e2 => by rw [e2, Bool.or_true]) fun e1 => by rw [e1, Bool.true_or], k _ [] _ (same_upd hp) (.bl _) (res_imm rfl)⟩
section
variable {T T2 : String} {xT xT2 : Str} {p p2 p3 p4 : Pos} {kk : Nat}
theorem pe_ty (hg : Gl X xT) (hm : X.mg xT = none) (hb : bootBuiltins xT = some (.type T)) (hn : xT ≠ "__name__" := by decide) (hd : (xT == ("__debug__" : Str)) = false := by decide) : PE X (.Name xT p) (tC (.ty T)) := pe_bltn hg hm hb rfl hn hd
theorem p_isi (hg : Gl X "isinstance") (hm : X.mg "isinstance" = none) (hT : T ∈ ["bool", "int", "str", "list", "tuple"]) (ht : PE X e (tC (.ty T))) (ha : DP X W A a f)
    (na : starEach [a, e] X.env = (false, eval a X.env) :: starEach [e] X.env := by rfl) (nb : starEach [e] X.env = (false, eval e X.env) :: starEach [] X.env := by rfl) (hp : (backTo pos (starEach [e] X.env)).any (·.1) = false := by rfl) :
    DP X W A (.Call (.Name "isinstance" p) [a, e] [] pos) (pApp (gL1 (fIsi T)) [f]) :=
  p_app [(A, f)] mem1l (vIsi hT) (pe_callB call_isi hg hm (by rfl) (pa_cons ha (pa_cons ht pa_nil nb) na) (by decide) (by decide) na hp) fun _ _ _ h => h
theorem e_isi (hg : Gl X "isinstance") (hm : X.mg "isinstance" = none) (hT : T ∈ ["bool", "int", "str", "list", "tuple"]) (ht : PE X e (tC (.ty T))) (ha : DE X W a f')
    (na : starEach [a, e] X.env = (false, eval a X.env) :: starEach [e] X.env := by rfl) (nb : starEach [e] X.env = (false, eval e X.env) :: starEach [] X.env := by rfl) (hp : (backTo pos (starEach [e] X.env)).any (·.1) = false := by rfl) :
    DE X W (.Call (.Name "isinstance" p) [a, e] [] pos) (eApp (gL1 (fIsi T)) [f']) :=
  e_app [f'] (vIsi hT) (pe_callB call_isi hg hm (by rfl) (pa_cons ha (pa_cons ht pa_nil nb) na) (by decide) (by decide) na hp) fun _ _ _ h => h
theorem p_isiT {e2 : Expr} (hg : Gl X "isinstance") (hm : X.mg "isinstance" = none) (hT : T ∈ ["bool", "int", "str", "list", "tuple"]) (hT2 : T2 ∈ ["bool", "int", "str", "list", "tuple"]) (ht : PE X e (tC (.ty T))) (ht2 : PE X e2 (tC (.ty T2))) (ha : DP X W A a f)
    (na : starEach [a, .Tuple [e, e2] kk p2] X.env = (false, eval a X.env) :: starEach [.Tuple [e, e2] kk p2] X.env := by rfl) (nb : starEach [.Tuple [e, e2] kk p2] X.env = (false, eval (.Tuple [e, e2] kk p2) X.env) :: starEach [] X.env := by rfl) (hp : (backTo pos (starEach [.Tuple [e, e2] kk p2] X.env)).any (·.1) = false := by rfl)
    (nc : starEach [e, e2] X.env = (false, eval e X.env) :: starEach [e2] X.env := by rfl) (nd : starEach [e2] X.env = (false, eval e2 X.env) :: starEach [] X.env := by rfl) :
    DP X W A (.Call (.Name "isinstance" p) [a, .Tuple [e, e2] kk p2] [] pos) (pApp (gL1 (fIsiT T T2)) [f]) :=
  p_app [(A, f)] mem1l (vIsiT hT hT2) (pe_callB call_isiT hg hm (by rfl) (pa_cons ha (pa_cons (pe_tup (pa_cons ht (pa_cons ht2 pa_nil nd) nc)) pa_nil nb) na) (by decide) (by decide) na hp) fun σ H Q h =>
    tDP_mono h fun v H1 q => ⟨by rw [sizeLine_eq]; show 2 ≤ 16777216; decide, q⟩
end
end
end DL

/-! DL17: slices, chains, dict(pairs), what is walked -/
namespace DL
open L2 PySem PySem.Spec PyProof.Rows
/-! ### slices -/
def fSl (x : LD) (lo hi : Option Int) : Option LD := match x with
  | (_, .lst xs) => some (lvN (cutD xs lo hi), .lst (cutD xs lo hi))
  | (_, .frz xs) => some (lvN (cutD (xs.map .int) lo hi), .lst (cutD (xs.map .int) lo hi))
  | (_, .tup xs) => some (if D.imm.immAll (cutD xs lo hi) then 2 else 0, .tup (cutD xs lo hi))
  | _ => none
def rSl (K : PySem.W.Frag) : V → Option Int → Option Int → Hp → VK → Prop := fun x lo hi H Q => rSlL K x lo hi H Q ∨ rSlA K x lo hi H Q
theorem sl_any {X : Cx} : SlR X (rSl X.K) := sl_list.or sl_tupA
section
variable {K : PySem.W.Frag} {H : Hp} {Q : VK} {As : List Sl} {s : Sl} {l : Nat} {d : D}
theorem cut_whole {α : Type} (xs : List α) {lo hi : Option Int} (h : HT.sIx xs.length 0 lo = 0 ∧ HT.sIx xs.length xs.length hi = xs.length) : (xs.drop (HT.sIx xs.length 0 lo)).take (HT.sIx xs.length xs.length hi - HT.sIx xs.length 0 lo) = xs := by
  rw [h.1, h.2]; simp
theorem vSl {lo hi : Option Int} (hm : s ∈ As) (h1 : Rd K H s.v s.d s.ns) (hg : fSl (s.l, s.d) lo hi = some (l, d)) (k : ∀ v ns H', Same H H' → Rd K H' v d ns → Res As H H' ⟨l, d, v, ns⟩ → Q v H') : rSl K s.v lo hi H Q := by
  obtain ⟨l1, d1, v1, n1⟩ := s
  dsimp only at *
  cases h1 with
  | lst e1 r1 =>
    simp only [fSl] at hg
    cases hg
    obtain ⟨m, r2, hm2⟩ := r1.cut lo hi
    exact .inl ⟨_, _, rfl, .of e1, fun p hp => k _ _ _ (same_upd hp) (rd_new hp r2) (res_lst hp r2 (fun a ha => arg_ns hm a (List.mem_cons_of_mem _ (hm2 a ha))) (mut_upd trivial))⟩
  | frz e1 =>
    simp only [fSl] at hg
    cases hg
    obtain ⟨m, r2, hm2⟩ := (rds_ints (K := K) (H := H) _).cut lo hi
    exact .inl ⟨_, _, rfl, e1.sq, fun p hp => k _ _ _ (same_upd hp) (rd_new hp r2) (res_lst hp r2 (fun a ha => absurd (hm2 a ha) (by simp)) (mut_upd trivial))⟩
  | tup e1 r1 =>
    simp only [fSl] at hg
    cases hg
    obtain ⟨m, r2, hm2⟩ := r1.cut lo hi
    refine .inr ⟨_, _, rfl, e1, fun w => ?_, fun w p hp => k _ _ _ (same_upd hp) (rd_newT hp r2) (res_tup r2 (fun a ha => arg_ns hm a (hm2 a ha)))⟩
    have r1' := r1
    have e2 : cutD _ lo hi = _ := cut_whole _ (by rw [← r1.length]; exact w)
    rw [e2] at k
    exact k _ _ _ (Same.refl H) (.tup e1 r1) (res_tup r1 (fun a ha => arg_ns hm a ha))
  | _ => cases hg
def gSlN : List LD → Option LD
  | [x] => fSl x none none
  | _ => none
def gSlH : List LD → Option LD
  | [x, (_, .int j)] => fSl x none (some j)
  | _ => none
def gSlL : List LD → Option LD
  | [x, (_, .int i)] => fSl x (some i) none
  | _ => none
def gSlB : List LD → Option LD
  | [x, (_, .int i), (_, .int j)] => fSl x (some i) (some j)
  | _ => none
def rSlN (K : PySem.W.Frag) : List V → Hp → VK → Prop := fun xs H Q => match xs with
  | [x] => rSl K x none none H Q
  | _ => False
def rSlH (K : PySem.W.Frag) : List V → Hp → VK → Prop := fun xs H Q => match xs with
  | [x, y] => ∃ j, y = .int j ∧ rSl K x none (some j) H Q
  | _ => False
def rSlo (K : PySem.W.Frag) : List V → Hp → VK → Prop := fun xs H Q => match xs with
  | [x, y] => ∃ i, y = .int i ∧ rSl K x (some i) none H Q
  | _ => False
def rSlB (K : PySem.W.Frag) : List V → Hp → VK → Prop := fun xs H Q => match xs with
  | [x, y, z] => ∃ i j, y = .int i ∧ z = .int j ∧ rSl K x (some i) (some j) H Q
  | _ => False
theorem vSlN : VOk K (rSlN K) gSlN := by
  intro As H Q ok l d hg k
  rcases As with _ | ⟨s, _ | ⟨t, As⟩⟩
  · cases hg
  · exact vSl (List.mem_cons_self ..) (ok.rd s (List.mem_cons_self ..)) hg k
  · cases hg
theorem vSlH : VOk K (rSlH K) gSlH := by
  intro As H Q ok l d hg k
  rcases As with _ | ⟨s, _ | ⟨⟨l2, d2, v2, n2⟩, _ | ⟨u, As⟩⟩⟩
  · cases hg
  · cases hg
  · have h2 := ok.rd ⟨l2, d2, v2, n2⟩ (List.mem_cons_of_mem _ (List.mem_cons_self ..))
    dsimp only at h2
    cases h2 with
    | int j => exact ⟨j, rfl, vSl (List.mem_cons_self ..) (ok.rd s (List.mem_cons_self ..)) hg k⟩
    | _ => cases hg
  · cases d2 <;> cases hg
theorem vSlL : VOk K (rSlo K) gSlL := by
  intro As H Q ok l d hg k
  rcases As with _ | ⟨s, _ | ⟨⟨l2, d2, v2, n2⟩, _ | ⟨u, As⟩⟩⟩
  · cases hg
  · cases hg
  · have h2 := ok.rd ⟨l2, d2, v2, n2⟩ (List.mem_cons_of_mem _ (List.mem_cons_self ..))
    dsimp only at h2
    cases h2 with
    | int j => exact ⟨j, rfl, vSl (List.mem_cons_self ..) (ok.rd s (List.mem_cons_self ..)) hg k⟩
    | _ => cases hg
  · cases d2 <;> cases hg
theorem vSlB : VOk K (rSlB K) gSlB := by
  intro As H Q ok l d hg k
  rcases As with _ | ⟨s, _ | ⟨⟨l2, d2, v2, n2⟩, _ | ⟨⟨l3, d3, v3, n3⟩, _ | ⟨u, As⟩⟩⟩⟩
  · cases hg
  · cases hg
  · cases d2 <;> cases hg
  · have h2 := ok.rd ⟨l2, d2, v2, n2⟩ (List.mem_cons_of_mem _ (List.mem_cons_self ..))
    have h3 := ok.rd ⟨l3, d3, v3, n3⟩ (List.mem_cons_of_mem _ (List.mem_cons_of_mem _ (List.mem_cons_self ..)))
    dsimp only at h2 h3
    cases h2 with
    | int i =>
      cases h3 with
      | int j => exact ⟨i, j, rfl, rfl, vSl (List.mem_cons_self ..) (ok.rd s (List.mem_cons_self ..)) hg k⟩
      | _ => cases hg
    | _ => cases d3 <;> cases hg
  · cases d2 <;> cases d3 <;> cases hg
end
section
variable {X : Cx} {W : WW} {A B C : List Nat} {f g h : PF} {f' g' h' : EF} {pos p2 : Pos} {a b c e : Expr}
theorem p_slN (ha : DP X W A a f) : DP X W A (.Subscript a (.Slice none none none p2) pos) (pApp gSlN [f]) :=
  p_app [(A, f)] mem1l vSlN (pe_slice sl_any ha po_none po_none) fun _ _ _ h => h
theorem p_slH (ha : DP X W A a f) (hb : DP X W B b g) : DP X W (A ++ B) (.Subscript a (.Slice none (some b) none p2) pos) (pApp gSlH [f, pI g]) :=
  p_app [(A, f), (B, pI g)] mem2l vSlH (pe_slice sl_any ha po_none (po_some hb)) fun σ H Q q =>
    tDP_mono (show tDP X.K W A f σ H fun x H1 => tDP X.K W B (pI g) σ H1 fun y H2 => rSlH X.K [x, y] H2 Q from q) fun x H1 q1 => tDP_mono (tI_P q1) fun y H2 ⟨i, e, q2⟩ => ⟨i, e, by
      obtain ⟨j, e2, q3⟩ := q2
      rw [e] at e2
      cases e2
      exact q3⟩
theorem p_slL (ha : DP X W A a f) (hb : DP X W B b g) : DP X W (A ++ B) (.Subscript a (.Slice (some b) none none p2) pos) (pApp gSlL [f, pI g]) :=
  p_app [(A, f), (B, pI g)] mem2l vSlL (pe_slice sl_any ha (po_some hb) po_none) fun σ H Q q =>
    tDP_mono (show tDP X.K W A f σ H fun x H1 => tDP X.K W B (pI g) σ H1 fun y H2 => rSlo X.K [x, y] H2 Q from q) fun x H1 q1 => tDP_mono (tI_P q1) fun y H2 ⟨i, e, q2⟩ => ⟨i, e, by
      obtain ⟨j, e2, q3⟩ := q2
      rw [e] at e2
      cases e2
      exact q3⟩
theorem p_slB (ha : DP X W A a f) (hb : DP X W B b g) (hc : DP X W C c h) : DP X W (A ++ (B ++ C)) (.Subscript a (.Slice (some b) (some c) none p2) pos) (pApp gSlB [f, pI g, pI h]) :=
  p_app [(A, f), (B, pI g), (C, pI h)] mem3l vSlB (pe_slice sl_any ha (po_some hb) (po_some hc)) fun σ H Q q =>
    tDP_mono (show tDP X.K W A f σ H fun x H1 => tDP X.K W B (pI g) σ H1 fun y H2 => tDP X.K W C (pI h) σ H2 fun z H3 => rSlB X.K [x, y, z] H3 Q from q) fun x H1 q1 => tDP_mono (tI_P q1) fun y H2 ⟨i, e, q2⟩ => ⟨i, e, tDP_mono (tI_P q2) fun z H3 ⟨j, e2, q3⟩ => ⟨j, e2, by
      obtain ⟨i', j', e3, e4, q4⟩ := q3
      rw [e] at e3
      rw [e2] at e4
      cases e3
      cases e4
      exact q4⟩⟩
theorem e_slN (ha : DE X W a f') : DE X W (.Subscript a (.Slice none none none p2) pos) (eApp gSlN [f']) :=
  e_app [f'] vSlN (pe_slice sl_any ha po_none po_none) fun _ _ _ h => h
theorem e_slH (ha : DE X W a f') (hb : DE X W b g') : DE X W (.Subscript a (.Slice none (some b) none p2) pos) (eApp gSlH [f', eI g']) :=
  e_app [f', eI g'] vSlH (pe_slice sl_any ha po_none (po_some hb)) fun σ H Q q =>
    tDE_mono (show tDE X.K W f' σ H fun x H1 => tDE X.K W (eI g') σ H1 fun y H2 => rSlH X.K [x, y] H2 Q from q) fun x H1 q1 => tDE_mono (tI_E q1) fun y H2 ⟨i, e, q2⟩ => ⟨i, e, by
      obtain ⟨j, e2, q3⟩ := q2
      rw [e] at e2
      cases e2
      exact q3⟩
theorem e_slL (ha : DE X W a f') (hb : DE X W b g') : DE X W (.Subscript a (.Slice (some b) none none p2) pos) (eApp gSlL [f', eI g']) :=
  e_app [f', eI g'] vSlL (pe_slice sl_any ha (po_some hb) po_none) fun σ H Q q =>
    tDE_mono (show tDE X.K W f' σ H fun x H1 => tDE X.K W (eI g') σ H1 fun y H2 => rSlo X.K [x, y] H2 Q from q) fun x H1 q1 => tDE_mono (tI_E q1) fun y H2 ⟨i, e, q2⟩ => ⟨i, e, by
      obtain ⟨j, e2, q3⟩ := q2
      rw [e] at e2
      cases e2
      exact q3⟩
theorem e_slB (ha : DE X W a f') (hb : DE X W b g') (hc : DE X W c h') : DE X W (.Subscript a (.Slice (some b) (some c) none p2) pos) (eApp gSlB [f', eI g', eI h']) :=
  e_app [f', eI g', eI h'] vSlB (pe_slice sl_any ha (po_some hb) (po_some hc)) fun σ H Q q =>
    tDE_mono (show tDE X.K W f' σ H fun x H1 => tDE X.K W (eI g') σ H1 fun y H2 => tDE X.K W (eI h') σ H2 fun z H3 => rSlB X.K [x, y, z] H3 Q from q) fun x H1 q1 => tDE_mono (tI_E q1) fun y H2 ⟨i, e, q2⟩ => ⟨i, e, tDE_mono (tI_E q2) fun z H3 ⟨j, e2, q3⟩ => ⟨j, e2, by
      obtain ⟨i', j', e3, e4, q4⟩ := q3
      rw [e] at e3
      rw [e2] at e4
      cases e3
      cases e4
      exact q4⟩⟩
/-! ### a op b op c, ints, pure -/
def pChain (k k' : Int → Int → Bool) (f g h : PF) : PF := fun Γ => match f Γ with
  | .ok (_, .int i) => (match g Γ with
    | .ok (_, .int j) => if k i j then (match h Γ with
      | .ok (_, .int m) => .ok (2, .bl (k' j m))
      | .exc c => .exc c
      | _ => .bad) else .ok (2, .bl false)
    | .exc c => .exc c
    | _ => .bad)
  | .exc c => .exc c
  | _ => .bad
theorem pChain_ok {K : PySem.W.Frag} {k k' : Int → Int → Bool} {σ : L2.St} {H : Hp} {Q : VK} (q : tDP K W (A ++ (B ++ C)) (pChain k k' f g h) σ H Q) : tChain (rI0 fun i j => .bl (k i j)) (rI0 fun i j => .bl (k' i j)) (tDP K W A f) (tDP K W B g) (tDP K W C h) σ H Q := by
  obtain ⟨Z, L, M, R, q⟩ := q
  unfold pChain at q
  refine tDP_then (B := A) R (Same.refl H) (fun _ h => h) ?_
  cases ef : f (er L) with
  | bad => rw [ef] at q; exact q
  | exc c => rw [ef] at q; exact q
  | ok x =>
    obtain ⟨l1, d1⟩ := x
    rw [ef] at q
    intro v n1 H1 B1
    cases d1 with
    | int i =>
      obtain ⟨e1, _⟩ := rd_int B1.rd
      dsimp only at q e1
      refine tDP_then (B := B) R B1.same (fun _ h => h) ?_
      cases eg : g (er L) with
      | bad => rw [eg] at q; exact q
      | exc c => rw [eg] at q; exact q
      | ok y =>
        obtain ⟨l2, d2⟩ := y
        rw [eg] at q
        intro u n2 H2 B2
        cases d2 with
        | int j =>
          obtain ⟨e2, _⟩ := rd_int B2.rd
          dsimp only at q e2
          refine ⟨i, j, e1, e2, k i j, rfl, ?_⟩
          by_cases c : k i j = true
          · rw [if_pos c] at q ⊢
            refine tDP_then (B := C) R B2.same (fun _ h => h) ?_
            cases eh : h (er L) with
            | bad => rw [eh] at q; exact q
            | exc c => rw [eh] at q; exact q
            | ok z =>
              obtain ⟨l3, d3⟩ := z
              rw [eh] at q
              intro w n3 H3 B3
              cases d3 with
              | int m =>
                obtain ⟨e3, _⟩ := rd_int B3.rd
                exact ⟨j, m, e2, e3, q _ [] H3 (blC B3.same _)⟩
              | _ => exact False.elim q
          · rw [if_neg c] at q
            simp only [Bool.not_eq_true] at c
            rw [c, if_neg Bool.false_ne_true]
            exact q _ [] H2 (blC B2.same _)
        | _ => exact False.elim q
    | _ => exact False.elim q
theorem p_chain {op op' : CmpOp} {k k' : Int → Int → Bool} (ho : OpR X (compareOp op) (rI0 fun i j => .bl (k i j))) (ho' : OpR X (compareOp op') (rI0 fun i j => .bl (k' i j))) (ha : DP X W A a f) (hb : DP X W B b g) (hc : DP X W C c h)
    (hm : lastMarks [op, op'] [b, c] = false := by with_unfolding_all rfl) : DP X W (A ++ (B ++ C)) (.Compare a [op, op'] [b, c] pos) (pChain k k' f g h) :=
  PE.imp (pe_chain ho ho' ha hb hc hm) fun σ H Q q => pChain_ok q
theorem t_chain {op op' : CmpOp} {k k' : Int → Int → Bool} (ho : OpR X (compareOp op) (rI0 fun i j => .bl (k i j))) (ho' : OpR X (compareOp op') (rI0 fun i j => .bl (k' i j))) (ha : DP X W A a f) (hb : DP X W B b g) (hc : DP X W C c h)
    (hm : lastMarks [op, op'] [b, c] = false := by with_unfolding_all rfl) : DTP X W (.Compare a [op, op'] [b, c] pos) (pB (pChain k k' f g h)) :=
  PT.imp (pt_chain ho ho' ha hb hc hm) fun σ H Q q => pChain_ok (tB_P q)
/-! ### dict([(k, v), ..]), the values such as may not be changed -/
def dPairs : List D → Option (List (Key × D))
  | [] => some []
  | .tup [a, d] :: xs => (match a.key with
    | some k => if d.imm then (dPairs xs).map ((k, d) :: ·) else none
    | none => none)
  | _ => none
def dMerge (kds more : List (Key × D)) : List (Key × D) := more.foldl (fun acc kv => dPut acc kv.1 kv.2) kds
def fDict : LD → Option LD
  | (_, .lst xs) => (dPairs xs).map fun kds => (2, .dk (dMerge [] kds))
  | _ => none
theorem dPairs_is {K : PySem.W.Frag} {H : Hp} : ∀ {ds : List D} {kds : List (Key × D)} {vs : List V} {ns : List Addr}, Rds K H vs ds ns → dPairs ds = some kds → ∃ (ps : List Addr) (kvs : List (Key × V)), vs = ps.map V.ref ∧ Paired (fun p (kv : Key × V) => SqT K H p [kV kv.1, kv.2]) ps kvs ∧
    Paired (fun (kv : Key × V) (kd : Key × D) => kv.1 = kd.1 ∧ Rd K H kv.2 kd.2 []) kvs kds
  | [], _, _, _, .nil, h => by cases h; exact ⟨[], [], rfl, .nil, .nil⟩
  | d :: ds, kds, _, _, .cons h1 r, h => by
    cases h1 with
    | @tup a vs1 ds1 n1 s1 r1 =>
      unfold dPairs at h
      split at h
      · next e => cases e
      · next a1 d1 xs e =>
        cases e
        split at h
        · next k ek =>
          split at h
          · next hi =>
            obtain ⟨kds', h2, rfl⟩ := Option.map_eq_some_iff.mp h
            obtain ⟨ps, kvs, g1, g2, g3⟩ := dPairs_is r h2
            cases r1 with
            | cons q1 r1 =>
              cases r1 with
              | cons q2 r1 =>
                cases r1
                have e1 := rd_key q1 ek
                subst e1
                have e2 := q2.imm _ _ _ hi
                subst e2
                exact ⟨_ :: ps, (k, _) :: kvs, by rw [g1]; rfl, .cons s1 g2, .cons ⟨rfl, q2⟩ g3⟩
          · cases h
        · cases h
      · cases h
    | _ => cases h
theorem merge_is {K : PySem.W.Frag} {H : Hp} {kvs : List (Key × V)} {kds : List (Key × D)} (h : Paired (fun (kv : Key × V) (kd : Key × D) => kv.1 = kd.1 ∧ Rd K H kv.2 kd.2 []) kvs kds) : ∀ {av : List (Key × V)} {ad : List (Key × D)}, av.map (·.1) = ad.map (·.1) → Rds K H (av.map (·.2)) (ad.map (·.2)) [] →
    (mergeK av kvs).map (·.1) = (dMerge ad kds).map (·.1) ∧ Rds K H ((mergeK av kvs).map (·.2)) ((dMerge ad kds).map (·.2)) [] := by
  induction h with
  | nil => exact fun e r => ⟨e, r⟩
  | @cons kv kd kvs kds p _ ih =>
    intro av ad e r
    obtain ⟨k, v⟩ := kv
    obtain ⟨k', d⟩ := kd
    obtain ⟨e1, e2⟩ := p
    dsimp only at e1 e2
    subst e1
    obtain ⟨g1, m, g2, g3⟩ := Rds.dput (k := k) e2 e (.inl rfl) r
    have : m = [] := by
      cases m with
      | nil => rfl
      | cons b m => have := g3 b; simp at this
    subst this
    exact ih g1 g2
theorem vDict {K : PySem.W.Frag} : VOk K (fun xs H Q => ∃ (a : Addr) (ps : List Addr) (kvs : List (Key × V)), xs = [.ref a] ∧ SqL K H a (ps.map V.ref) ∧ Paired (fun p kv => SqT K H p [kV kv.1, kv.2]) ps kvs ∧
    ∀ p, H p = none → Q (.ref p) (upd H p (.dK (mergeK [] kvs)))) (gL1 fDict) := vC1 fun s H Q ok h1 l d hg k => by
  obtain ⟨l1, d1, v1, n1⟩ := s
  dsimp only at *
  cases h1 with
  | lst e1 r1 =>
    simp only [fDict] at hg
    obtain ⟨kds, h2, e⟩ := Option.map_eq_some_iff.mp hg
    cases e
    obtain ⟨ps, kvs, g1, g2, g3⟩ := dPairs_is r1 h2
    obtain ⟨m1, m2⟩ := merge_is g3 (av := []) (ad := []) rfl .nil
    refine ⟨_, ps, kvs, rfl, .of (by rw [← g1]; exact e1), g2, fun p hp => k _ [p] _ (same_upd hp) (.dk upd_same m1 (m2.same (same_upd hp))) fun b => ?_⟩
    by_cases c : p = b
    · subst c
      simp [Sl.own, Sl.rst, ownL, rstL, hp, upd_same]
      trivial
    · simp [Sl.own, Sl.rst, ownL, rstL, List.count_cons, c]
  | _ => cases hg
end
end DL

/-! DL18: what for and comprehensions walk -/
namespace DL
open L2 PySem PySem.Spec PyProof.Rows
section
variable {X : Cx} {W : WW} {tg : Expr}
theorem pi_seq {l : Expr} {tl : TE} (hl : PE X l tl) : PI X tg l fun σ H R => tl σ H fun x H1 => wSeq X.K [x] H1 R := by
  refine ⟨fun pins s σ H R I h => ?_⟩
  refine thn (hl.run pins s σ H _ I h) fun v s1 ⟨x, H1, I1, r1, q1⟩ => ?_
  rcases q1 with ⟨a, e, ⟨xs, hq⟩, q⟩ | ⟨a, e, ⟨xs, hq⟩, q⟩
  · subst e
    cases r1
    obtain ⟨its, rv, p, hz⟩ := I1.list hq
    refine wpAny_pyIter_list p.isList ?_
    refine ⟨s1.heap.objs.size, [s1.heap.objs.size], _, _, H1, rfl, I1.kept (t' := s1.toks) fun b o e => Heap.get?_push_of_some _ e, turn_list a _, ⟨_, Heap.get?_push_size _ rfl, rfl, rfl⟩, fun b hb => ?_, q⟩
    have e : b = s1.heap.objs.size := by simpa using hb
    subst e
    exact I1.fpOk (Nat.le_refl _) (I1.hok.fresh (Nat.le_refl _))
  · subst e
    cases r1
    obtain ⟨its, rv, p, hz⟩ := I1.tuple hq
    refine wpAny_pyIter_tuple (show s1.heap.IsTuple a its.toArray from p) ?_
    refine ⟨s1.heap.objs.size, [s1.heap.objs.size], _, _, H1, rfl, I1.kept (t' := s1.toks) fun b o e => Heap.get?_push_of_some _ e, turn_tuple a _, ⟨_, Heap.get?_push_size _ rfl, rfl, rfl⟩, fun b hb => ?_, q⟩
    have e : b = s1.heap.objs.size := by simpa using hb
    subst e
    exact I1.fpOk (Nat.le_refl _) (I1.hok.fresh (Nat.le_refl _))
theorem di_seq {l : Expr} {f : EF} (h : DE X W l f) : DI X W tg l (srcE (g1S fItems) [f]) := di_gen sv_seq (pi_seq h) fun σ H R q => q
variable {a b c : Expr} {f g h : EF} {p pos : Pos}
theorem di_r1 (hg : Gl X "range") (hm : X.mg "range" = none) (ha : DE X W a f) (hs : starEach [a] X.env = [(false, eval a X.env)] := by rfl) : DI X W tg (.Call (.Name "range" p) [a] [] pos) (srcE gR1 [f]) :=
  di_gen sv_r1 (pi_range1 hg hm (pa_cons ha pa_nil (by rw [hs]; rfl)) hs) fun σ H R q => tAl_args (r := fun vs H _ => wR1 vs H R) [tDE X.K W f] _ (fun _ _ h => h) (monoE [f]) q
theorem di_r2 (hg : Gl X "range") (hm : X.mg "range" = none) (ha : DE X W a f) (hb : DE X W b g) (hs : starEach [a, b] X.env = [(false, eval a X.env), (false, eval b X.env)] := by rfl) (hs2 : starEach [b] X.env = [(false, eval b X.env)] := by rfl) : DI X W tg (.Call (.Name "range" p) [a, b] [] pos) (srcE gR2 [f, g]) :=
  di_gen sv_r2 (pi_range2 hg hm (pa_cons ha (pa_cons hb pa_nil (by rw [hs2]; rfl)) (by rw [hs, hs2])) hs hs2) fun σ H R q => tAl_args (r := fun vs H _ => wR2 vs H R) [tDE X.K W f, tDE X.K W g] _ (fun _ _ h => h) (monoE [f, g]) q
theorem di_enum {elts : List Expr} {kk : Nat} {tpos : Pos} (hg : Gl X "enumerate") (hm : X.mg "enumerate" = none) (ha : DE X W a f) (hs : starEach [a] X.env = [(false, eval a X.env)] := by rfl) : DI X W (.Tuple elts kk tpos) (.Call (.Name "enumerate" p) [a] [] pos) (srcE (g1S fEnum) [f]) :=
  di_gen sv_enum (pi_enum hg hm (pa_cons ha pa_nil (by rw [hs]; rfl)) hs) fun σ H R q => tAl_args (r := fun vs H _ => wEnum X.K vs H R) [tDE X.K W f] _ (fun _ _ h => h) (monoE [f]) q
theorem di_zip {elts : List Expr} {kk : Nat} {tpos : Pos} (hg : Gl X "zip") (hm : X.mg "zip" = none) (ha : DE X W a f) (hb : DE X W b g) (hs : starEach [a, b] X.env = (false, eval a X.env) :: starEach [b] X.env := by rfl) (hs2 : starEach [b] X.env = (false, eval b X.env) :: starEach [] X.env := by rfl)
    (hpl : (backTo pos (starEach [b] X.env)).any (·.1) = false := by rfl) : DI X W (.Tuple elts kk tpos) (.Call (.Name "zip" p) [a, b] [] pos) (srcE gZip [f, g]) :=
  di_gen sv_zip (pi_zip hg hm (pa_cons ha (pa_cons hb pa_nil hs2) hs) hs hpl) fun σ H R q => tAl_args (r := fun vs H _ => wZip X.K vs H R) [tDE X.K W f, tDE X.K W g] _ (fun _ _ h => h) (monoE [f, g]) q
/-- a name of the module that holds an int -/
theorem p_gl {x : Str} {i : Int} (hg : Gl X x) (hm : ∃ t, X.mg x = some (.int i t)) (hd : (x == ("__debug__" : Str)) = false := by decide) : DP X W [] (.Name x pos) (pC (.int i)) := by
  obtain ⟨t, hm⟩ := hm
  exact p_C (v := .int i) (pe_glob hg hm ⟨t, rfl⟩ hd) fun _ => .int i
end
end DL

/-! DL19: the rules in short, for terms that are printed -/
namespace DL
open L2 PySem PySem.Spec PyProof.Rows
theorem room100 {k : Nat} {A : Around} (hr : Room k A) : A.units + 100 < cLine := by have := hr.un; omega
theorem room64 {k : Nat} {A : Around} (hr : Room k A) : A.units + 64 < cLine := by have := hr.un; omega
theorem room65 {k : Nat} {A : Around} (hr : Room k A) : A.units + 65 < cLine := by have := hr.un; omega
theorem room1 {k : Nat} {A : Around} (hr : Room k A) : A.units + 1 < cLine := by have := hr.un; omega
/-- a def of the module, by its promise over data -/
def DCal (P : Program) (w : World) (K : PySem.W.Frag) (mg : Str → Option Value) (base : Heap) (k : Nat) (x : Str) (ps : List Str) (n : Nat) (io : List Bool) (F : List LD → FR) : Prop :=
  ∃ f fd, FnOk P w K mg base (L2.CX P w) k f fd ps (spF K mg n io F) ∧ mg x = some (.ref f) ∧ PySem.W.keepIn K (.ref f) = true ∧ Binds K fd ps []
/-- a class of errors, own, behind ValueError -/
def XCls (K : PySem.W.Frag) (mg : Str → Option Value) (x : Str) : Prop := ∃ C, PySem.W.excIn K C [.type "ValueError", .type "Exception", .type "BaseException", .type "object"] "ValueError.__new__" = true ∧ mg x = some (.ref C) ∧ PySem.W.keepIn K (.ref C) = true ∧
  PySem.W.subIn K (.ref C) (.type "BaseException") = some true ∧ PySem.W.typeIn K (.ref C) = some (.type "type")
section
variable {X : Cx} {W : WW} {A : List Nat}
theorem tkB : Takes X (wx X W0) := Takes.imp takes0 fun cls d σ H ⟨c, _, _, h⟩ => h
theorem p_v (i : Nat) {x : Str} {pos : Pos} (hN : X.N[i]? = some x := by rfl) (hv : Vis X.env.scope x := by first | exact Or.inl rfl | exact Or.inr (Or.inl rfl) | exact Or.inr (Or.inr rfl)) (hd : (x == ("__debug__" : Str)) = false := by decide)
    (hcd : (x == ("__classdict__" : Str)) = false := by decide) : DP X W [i] (.Name x pos) (pVar i) := p_var (pv i hN hv hd hcd)
theorem e_v (i : Nat) {x : Str} {pos : Pos} (hN : X.N[i]? = some x := by rfl) (hv : Vis X.env.scope x := by first | exact Or.inl rfl | exact Or.inr (Or.inl rfl) | exact Or.inr (Or.inr rfl)) (hd : (x == ("__debug__" : Str)) = false := by decide)
    (hcd : (x == ("__classdict__" : Str)) = false := by decide) : DE X W (.Name x pos) (eMove i) := e_move (pv i hN hv hd hcd)
theorem g_n (i : Nat) {x : Str} {pos : Pos} (nd : X.N.Nodup) (hi : X.N[i]? = some x := by rfl) (hx : Loc X.env.scope x := by first | exact Or.inl rfl | exact Or.inr rfl) (hf : X.fn x = true ∨ X.env.scope.names.lookup x = some .local := by first | exact .inl rfl | exact .inr rfl | assumption) : PG X (.Name x pos) (gName i) := pg_name nd hi hx hf
theorem s_st (i : Nat) {x : Str} {pos pos' : Pos} {e : Expr} {h : EF} (nd : X.N.Nodup) (he : DE X W e h) (hi : X.N[i]? = some x := by rfl) (hx : Loc X.env.scope x := by first | exact Or.inl rfl | exact Or.inr rfl) (hs : swapsWith e (some (.Name x pos')) pos.line X.env = pure false := by rfl) (hf : X.fn x = true ∨ X.env.scope.names.lookup x = some .local := by first | exact .inl rfl | exact .inr rfl | assumption) :
    DS X W (.Assign [.Name x pos'] e pos) (sAsg h (bName i)) := s_set nd hi hx he hs hf
theorem s_ag (i : Nat) {x : Str} {e : Expr} {h : EF} {op : Operator} {C : Int → Int → Prop} {c : Int → Int → Bool} {f : Int → Int → Int} {pos pos' : Pos} (nd : X.N.Nodup) (ho : OpR X (inplaceOp op) (rI C fun i j => .int (f i j))) (hC : ∀ a b, c a b = true → C a b) (he : DE X W e h) (hi : X.N[i]? = some x := by rfl) (hx : Loc X.env.scope x := by first | exact Or.inl rfl | exact Or.inr rfl)
    (hf : X.fn x = true ∨ X.env.scope.names.lookup x = some .local := by first | exact .inl rfl | exact .inr rfl | assumption) : DS X W (.AugAssign (.Name x pos') op e pos) (sAug i c f h) := s_aug nd hi hx he ho hC hf
theorem p_c {k n : Nat} {ps : List Str} {F : List LD → FR} {x : Str} {p pos : Pos} {e : Expr} {es : List Expr} {fs : List PF} (tk : Takes X (wx X W)) (C : DCal X.prog X.w X.K X.mg X.base k x ps n [] F) (hr : Room k X.A) (h : PArgL X W A (e :: es) fs) (hg : Gl X x := by rfl) (hn : fs.length = n := by rfl)
    (hdb : (x == ("__debug__" : Str)) = false := by decide) (he : starEach (e :: es) X.env = (false, eval e X.env) :: starEach es X.env := by rfl) (hpl : (backTo pos (starEach es X.env)).any (·.1) = false := by rfl) : DP X W A (.Call (.Name x p) (e :: es) [] pos) (pCall F fs) := by
  obtain ⟨f, fd, G, hm, hk, hb⟩ := C
  exact p_call tk G hr hg hm hk hb hn h hdb he hpl
theorem e_c {k n : Nat} {ps : List Str} {io : List Bool} {F : List LD → FR} {x : Str} {p pos : Pos} {e : Expr} {es : List Expr} {as : List AE} (tk : Takes X (wx X W)) (C : DCal X.prog X.w X.K X.mg X.base k x ps n io F) (hr : Room k X.A) (h : AArgL X W (e :: es) as) (hg : Gl X x := by rfl) (hio : io = mkA as := by rfl) (hn : as.length = n := by rfl)
    (hdb : (x == ("__debug__" : Str)) = false := by decide) (he : starEach (e :: es) X.env = (false, eval e X.env) :: starEach es X.env := by rfl) (hpl : (backTo pos (starEach es X.env)).any (·.1) = false := by rfl) : DE X W (.Call (.Name x p) (e :: es) [] pos) (eCall F as) := by
  obtain ⟨f, fd, G, hm, hk, hb⟩ := C
  exact e_call tk G hr hg hm hk hb hio hn h hdb he hpl
theorem s_rs {x m : Str} {c : String} {j : Nat} {p p2 pos2 pos : Pos} (tk : Takes X (wx X W)) (q : XCls X.K X.mg x) (hc : X.calm = true := by rfl) (hx : x = Str.ofString c := by rfl) (hg : Gl X x := by rfl) (hdb : (x == ("__debug__" : Str)) = false := by decide) :
    DS X W (.Raise (some (.Call (.Name x p) [.Constant (.str m) j p2] [] pos2)) none pos) (sRaise c) := by
  obtain ⟨C, q1, q2, q3, q4, q5⟩ := q
  exact s_raise hc tk hx q1 q2 q3 (raises_own q4 q5) hg hdb
end
end DL

/-! DL20: the law's promise, the end -/
namespace DL
open L2 PySem PySem.Spec PyProof.Rows
theorem bad_fn {P : Program} {w : World} {K : PySem.W.Frag} {mg : Str → Option Value} {base : Heap} {CX : CXT} {k : Nat} {f : Addr} {fd : FuncData} {ps : List Str} {n : Nat} {io : List Bool} {F : List LD → FR} (h : F = fun _ => .bad) : FnOk P w K mg base CX k f fd ps (spF K mg n io F) := by
  subst h
  exact ⟨fun vs H Q E ⟨_, _, _, _, z⟩ => z.elim, fun A outer s H args us vs Q E _ _ _ _ ⟨_, _, _, _, z⟩ => z.elim⟩
/-- the law's promise, whatever the module's names hold -/
def spLaw (K : PySem.W.Frag) (F : List LD → FR) : Sp := fun vs H Q E => ∀ mg, spF K mg 1 [] F vs H Q E
theorem spLaw_of {K : PySem.W.Frag} {F : List LD → FR} {H : Hp} {a : Addr} {ns : List Int} (law : ∀ ns : List Int, ns.length ≤ 63 → ∃ l, F [(0, .frz ns)] = .ret (l, .bl true) []) (hl : ns.length ≤ 63) (hO : Only H) (hS : SqL K H a (ns.map V.int)) :
    spLaw K F [.ref a] H (fun v _ => v = .bl true) fun _ _ _ => False := by
  intro mg
  obtain ⟨l, e⟩ := law ns hl
  have fz : FzL K H a (ns.map V.int) := by
    rcases hS with (h | ⟨o, h⟩) | h
    · rcases hO a with z | ⟨o, xs, z⟩
      · rw [z] at h; cases h
      · rw [z] at h; cases h
    · exact .inl ⟨o, h⟩
    · exact .inr h
  refine ⟨[⟨0, .frz ns, .ref a, []⟩], rfl, rfl, ⟨fun s hs => ?_, fun b => ?_, fun b hb => ?_⟩, ?_⟩
  · rw [List.mem_singleton.mp hs]; exact .frz fz
  · simp [oL, rL, Sl.own, Sl.rst, ownL, rstL]
  · simp [oL, Sl.own, ownL] at hb
  · show match F [(0, .frz ns)] with
      | .ret (l, d) fin => _
      | .exc c fin => _
      | .bad => False
    rw [e]
    intro v ns' Fs H' _ _ _ ok _
    exact (rd_bl (ok.rd _ (List.mem_cons_self ..))).1
theorem cx_false {P : Program} {w : World} {H : Hp} {s s' : Shared} {e : Value} (c : L2.CX P w [] H s (fun _ _ _ => False) e s') : False := by
  obtain ⟨_, _, _, _, _, _, _, _, _, _, _, _, z⟩ := c
  exact z
end DL

/-! DL21: mirrors told by simp -/
namespace DL
open L2 PySem PySem.Spec PyProof.Rows
/-- what a def gives behind its body -/
def outF (io : List Bool) (o : O) : FR := match o with
  | .nx Γ => (match finS io Γ with
    | some fs => .ret (2, .non) fs
    | none => .bad)
  | .rt x Γ => (match finS io Γ with
    | some fs => .ret x fs
    | none => .bad)
  | .exc c Γ => (match finS io Γ with
    | some fs => .exc c fs
    | none => .bad)
  | _ => .bad
theorem runF_out {n N : Nat} {io : List Bool} {body : SF} {xs : List LD} {Γ : DL.Env} (h : xs.length = n) (e : mkS io xs ++ List.replicate (N - n) none = Γ) : runF n N io body xs = outF io (body Γ) := by
  unfold runF
  rw [if_pos h, e]
  rfl
@[simp] theorem mulOk_r {a b : Int} (h : b.natAbs < 18446744073709551616) : mulOk a b = true := by
  unfold mulOk
  simp [mkS, finS, bNs, gL1, gL2, gLL2, fI2, tkA, ptA, GS, GL, fPut, ful, l12, l02, DL.D.mut, DL.D.imm, DL.D.imm.immAll, fdOk, fIx, fMul, fAdd, powOk, gLstL, gTupL, DL.D.ty, lvN, szOk, fLen, fListOf, fTupOf, fSl, gSlN, gSlH, gSlL, gSlB, fIsi, fIsiT, isT, DL.D.tyN, DL.D.isX, fInts, DL.D.seqI, fLenSet, fLR, fLR1, gLR2, rgOk, fDict, fAbs, fInt1, gMax2, gMin2, g1S, g2S, fItems, fR1, fR2, bd62, lowE, clr, bakE, kpE, fApp, fIns, fPop, fPopA, fPopI, fClr, fRev, fExt, h]
@[simp] theorem mulOk_l {a b : Int} (h : a.natAbs < 18446744073709551616) : mulOk a b = true := by
  unfold mulOk
  simp [mkS, finS, bNs, gL1, gL2, gLL2, fI2, tkA, ptA, GS, GL, fPut, ful, l12, l02, DL.D.mut, DL.D.imm, DL.D.imm.immAll, fdOk, fIx, fMul, fAdd, powOk, gLstL, gTupL, DL.D.ty, lvN, szOk, fLen, fListOf, fTupOf, fSl, gSlN, gSlH, gSlL, gSlB, fIsi, fIsiT, isT, DL.D.tyN, DL.D.isX, fInts, DL.D.seqI, fLenSet, fLR, fLR1, gLR2, rgOk, fDict, fAbs, fInt1, gMax2, gMin2, g1S, g2S, fItems, fR1, fR2, bd62, lowE, clr, bakE, kpE, fApp, fIns, fPop, fPopA, fPopI, fClr, fRev, fExt, h]
theorem mulOk_lt {a b : Int} (ha : a.natAbs < 2 ^ 4000) (hb : b.natAbs < 2 ^ 4000) : mulOk a b = true := by
  have h : ∀ n : Nat, n < 2 ^ 4000 → n.log2 < 4001 := fun n h => by
    by_cases c : n = 0
    · subst c; decide
    · have := (Nat.log2_lt c).mpr h; omega
  have h1 := h _ ha
  have h2 := h _ hb
  unfold mulOk
  simp only [Bool.or_eq_true, decide_eq_true_eq]
  right
  omega
@[simp] theorem log2_ok {n : Nat} (h : n < 10000000000000000000000000000000000000000000000000000000000000000000000000000000000000000000000000000) : n.log2 < 9000 := by
  by_cases c : n = 0
  · subst c; decide
  · have : n < 2 ^ 9000 := Nat.lt_of_lt_of_le h (by decide +kernel)
    exact (Nat.log2_lt c).mpr this
@[simp] theorem forL_nil {bd : BF} {f : SF} {Γ : Env} : forL bd f [] Γ = .nx Γ := rfl
@[simp] theorem imm_ints' (ns : List Int) : D.imm.immAll (ns.map .int) = true := imm_ints ns
@[simp] theorem dInts_map' (ns : List Int) : dInts (ns.map .int) = some ns := dInts_map ns
@[simp] theorem eqd_int (i : Int) : eqd 60 (.int i) = true := rfl
@[simp] theorem eqd_bl (i : Bool) : eqd 60 (.bl i) = true := rfl
@[simp] theorem eqd_nil : eqd 60 (.lst []) = true := rfl
@[simp] theorem eqd_ints (xs : List Int) : eqd 60 (.lst (xs.map .int)) = true := by
  rw [eqd, List.all_eq_true]
  intro d hd
  obtain ⟨i, _, rfl⟩ := List.mem_map.mp hd
  rfl
@[simp] theorem deq_int (i j : Int) : deq (.int i) (.int j) = decide (i = j) := by
  rw [deq]; by_cases h : i = j <;> simp [mkS, finS, bNs, gL1, gL2, gLL2, fI2, tkA, ptA, GS, GL, fPut, ful, l12, l02, DL.D.mut, DL.D.imm, DL.D.imm.immAll, fdOk, fIx, fMul, fAdd, powOk, gLstL, gTupL, DL.D.ty, lvN, szOk, fLen, fListOf, fTupOf, fSl, gSlN, gSlH, gSlL, gSlB, fIsi, fIsiT, isT, DL.D.tyN, DL.D.isX, fInts, DL.D.seqI, fLenSet, fLR, fLR1, gLR2, rgOk, fDict, fAbs, fInt1, gMax2, gMin2, g1S, g2S, fItems, fR1, fR2, bd62, lowE, clr, bakE, kpE, fApp, fIns, fPop, fPopA, fPopI, fClr, fRev, fExt, allTop, fEq, fNe, fNeg, fIsN, DL.D.isNon, DL.D.key, dGet, h]
@[simp] theorem deq_bl (i j : Bool) : deq (.bl i) (.bl j) = decide (i = j) := by
  rw [deq]; by_cases h : i = j <;> simp [mkS, finS, bNs, gL1, gL2, gLL2, fI2, tkA, ptA, GS, GL, fPut, ful, l12, l02, DL.D.mut, DL.D.imm, DL.D.imm.immAll, fdOk, fIx, fMul, fAdd, powOk, gLstL, gTupL, DL.D.ty, lvN, szOk, fLen, fListOf, fTupOf, fSl, gSlN, gSlH, gSlL, gSlB, fIsi, fIsiT, isT, DL.D.tyN, DL.D.isX, fInts, DL.D.seqI, fLenSet, fLR, fLR1, gLR2, rgOk, fDict, fAbs, fInt1, gMax2, gMin2, g1S, g2S, fItems, fR1, fR2, bd62, lowE, clr, bakE, kpE, fApp, fIns, fPop, fPopA, fPopI, fClr, fRev, fExt, allTop, fEq, fNe, fNeg, fIsN, DL.D.isNon, DL.D.key, dGet, h]
theorem deqAll_ints : ∀ (a b : List Int), deqAll (a.map .int) (b.map .int) = decide (a = b)
  | [], [] => by simp [mkS, finS, bNs, gL1, gL2, gLL2, fI2, tkA, ptA, GS, GL, fPut, ful, l12, l02, DL.D.mut, DL.D.imm, DL.D.imm.immAll, fdOk, fIx, fMul, fAdd, powOk, gLstL, gTupL, DL.D.ty, lvN, szOk, fLen, fListOf, fTupOf, fSl, gSlN, gSlH, gSlL, gSlB, fIsi, fIsiT, isT, DL.D.tyN, DL.D.isX, fInts, DL.D.seqI, fLenSet, fLR, fLR1, gLR2, rgOk, fDict, fAbs, fInt1, gMax2, gMin2, g1S, g2S, fItems, fR1, fR2, bd62, lowE, clr, bakE, kpE, fApp, fIns, fPop, fPopA, fPopI, fClr, fRev, fExt, allTop, fEq, fNe, fNeg, fIsN, DL.D.isNon, DL.D.key, dGet, deqAll]
  | [], _ :: _ => by simp [mkS, finS, bNs, gL1, gL2, gLL2, fI2, tkA, ptA, GS, GL, fPut, ful, l12, l02, DL.D.mut, DL.D.imm, DL.D.imm.immAll, fdOk, fIx, fMul, fAdd, powOk, gLstL, gTupL, DL.D.ty, lvN, szOk, fLen, fListOf, fTupOf, fSl, gSlN, gSlH, gSlL, gSlB, fIsi, fIsiT, isT, DL.D.tyN, DL.D.isX, fInts, DL.D.seqI, fLenSet, fLR, fLR1, gLR2, rgOk, fDict, fAbs, fInt1, gMax2, gMin2, g1S, g2S, fItems, fR1, fR2, bd62, lowE, clr, bakE, kpE, fApp, fIns, fPop, fPopA, fPopI, fClr, fRev, fExt, allTop, fEq, fNe, fNeg, fIsN, DL.D.isNon, DL.D.key, dGet, deqAll]
  | _ :: _, [] => by simp [mkS, finS, bNs, gL1, gL2, gLL2, fI2, tkA, ptA, GS, GL, fPut, ful, l12, l02, DL.D.mut, DL.D.imm, DL.D.imm.immAll, fdOk, fIx, fMul, fAdd, powOk, gLstL, gTupL, DL.D.ty, lvN, szOk, fLen, fListOf, fTupOf, fSl, gSlN, gSlH, gSlL, gSlB, fIsi, fIsiT, isT, DL.D.tyN, DL.D.isX, fInts, DL.D.seqI, fLenSet, fLR, fLR1, gLR2, rgOk, fDict, fAbs, fInt1, gMax2, gMin2, g1S, g2S, fItems, fR1, fR2, bd62, lowE, clr, bakE, kpE, fApp, fIns, fPop, fPopA, fPopI, fClr, fRev, fExt, allTop, fEq, fNe, fNeg, fIsN, DL.D.isNon, DL.D.key, dGet, deqAll]
  | x :: a, y :: b => by
    simp only [List.map_cons, deqAll, deq_int, deqAll_ints a b, List.cons.injEq]
    by_cases h1 : x = y <;> by_cases h2 : a = b <;> simp [mkS, finS, bNs, gL1, gL2, gLL2, fI2, tkA, ptA, GS, GL, fPut, ful, l12, l02, DL.D.mut, DL.D.imm, DL.D.imm.immAll, fdOk, fIx, fMul, fAdd, powOk, gLstL, gTupL, DL.D.ty, lvN, szOk, fLen, fListOf, fTupOf, fSl, gSlN, gSlH, gSlL, gSlB, fIsi, fIsiT, isT, DL.D.tyN, DL.D.isX, fInts, DL.D.seqI, fLenSet, fLR, fLR1, gLR2, rgOk, fDict, fAbs, fInt1, gMax2, gMin2, g1S, g2S, fItems, fR1, fR2, bd62, lowE, clr, bakE, kpE, fApp, fIns, fPop, fPopA, fPopI, fClr, fRev, fExt, allTop, fEq, fNe, fNeg, fIsN, DL.D.isNon, DL.D.key, dGet, h1, h2]
@[simp] theorem deq_ints (a b : List Int) : deq (.lst (a.map .int)) (.lst (b.map .int)) = decide (a = b) := by rw [deq, deqAll_ints]
@[simp] theorem deq_nil0 : deq (.lst []) (.lst []) = true := by rw [deq]; rfl
end DL

/-! DL22: comprehensions and loops that keep their env -/
namespace DL
open L2 PySem PySem.Spec PyProof.Rows
theorem lcL_pure {bd : BF} {tt : EB} {te : EF} {vs : List Nat} {Γ : DL.Env} (f : LD → D) (p : LD → Bool) : ∀ {xs : List LD} {ds : List D}, (∀ x ∈ xs, ∃ Γ1, bd x Γ = some Γ1 ∧ ∃ Γ2, tt Γ1 = .ok (p x) Γ2 ∧ (p x = false → clr Γ2 vs = Γ) ∧ (p x = true → ∃ l Γ3, te Γ2 = .ok (l, f x) Γ3 ∧ ful (l, f x) = true ∧ clr Γ3 vs = Γ)) →
    lcL bd tt te vs xs true ds Γ = .ok (2, .lst (ds ++ (xs.filter p).map f)) Γ
  | [], ds, _ => by simp [mkS, finS, bNs, gL1, gL2, gLL2, fI2, tkA, ptA, GS, GL, fPut, ful, l12, l02, DL.D.mut, DL.D.imm, DL.D.imm.immAll, fdOk, fIx, fMul, fAdd, powOk, gLstL, gTupL, DL.D.ty, lvN, szOk, fLen, fListOf, fTupOf, fSl, gSlN, gSlH, gSlL, gSlB, fIsi, fIsiT, isT, DL.D.tyN, DL.D.isX, fInts, DL.D.seqI, fLenSet, fLR, fLR1, gLR2, rgOk, fDict, fAbs, fInt1, gMax2, gMin2, g1S, g2S, fItems, fR1, fR2, bd62, lowE, clr, bakE, kpE, fApp, fIns, fPop, fPopA, fPopI, fClr, fRev, fExt, allTop, fEq, fNe, fNeg, fIsN, DL.D.isNon, DL.D.key, dGet, lcL]
  | x :: xs, ds, h => by
    obtain ⟨Γ1, h1, Γ2, h2, h3, h4⟩ := h x (List.mem_cons_self ..)
    have ih := fun ds => lcL_pure (te := te) (vs := vs) f p (ds := ds) fun y hy => h y (List.mem_cons_of_mem _ hy)
    rw [lcL, h1]
    dsimp only
    rw [h2]
    cases e : p x with
    | false =>
      dsimp only
      rw [h3 e, ih, List.filter_cons, e]
      rfl
    | true =>
      obtain ⟨l, Γ3, g1, g2, g3⟩ := h4 e
      dsimp only
      rw [g1]
      dsimp only
      rw [g2, g3, Bool.true_and, ih, List.filter_cons, e]
      simp [mkS, finS, bNs, gL1, gL2, gLL2, fI2, tkA, ptA, GS, GL, fPut, ful, l12, l02, DL.D.mut, DL.D.imm, DL.D.imm.immAll, fdOk, fIx, fMul, fAdd, powOk, gLstL, gTupL, DL.D.ty, lvN, szOk, fLen, fListOf, fTupOf, fSl, gSlN, gSlH, gSlL, gSlB, fIsi, fIsiT, isT, DL.D.tyN, DL.D.isX, fInts, DL.D.seqI, fLenSet, fLR, fLR1, gLR2, rgOk, fDict, fAbs, fInt1, gMax2, gMin2, g1S, g2S, fItems, fR1, fR2, bd62, lowE, clr, bakE, kpE, fApp, fIns, fPop, fPopA, fPopI, fClr, fRev, fExt, allTop, fEq, fNe, fNeg, fIsN, DL.D.isNon, DL.D.key, dGet]
/-- a loop whose turns run through: I by the turns done -/
theorem forL_inv {bd : BF} {f : SF} (I : Nat → DL.Env → Prop) : ∀ {xs : List LD} {k : Nat} {Γ : DL.Env}, I k Γ → (∀ (i : Nat) x Γ, xs[i]? = some x → I (k + i) Γ → ∃ Γ1, bd x Γ = some Γ1 ∧ ∃ Γ2, (f Γ1 = .nx Γ2 ∨ f Γ1 = .ct Γ2) ∧ I (k + i + 1) Γ2) → ∃ Γ', forL bd f xs Γ = .nx Γ' ∧ I (k + xs.length) Γ'
  | [], k, Γ, h0, _ => ⟨Γ, rfl, h0⟩
  | x :: xs, k, Γ, h0, hs => by
    obtain ⟨Γ1, h1, Γ2, h2, h3⟩ := hs 0 x Γ rfl h0
    obtain ⟨Γ', g1, g2⟩ := forL_inv I (xs := xs) (k := k + 1) (Γ := Γ2) h3 fun i y Γ hy hi => by
      have := hs (i + 1) y Γ (by simpa [mkS, finS, bNs, gL1, gL2, gLL2, fI2, tkA, ptA, GS, GL, fPut, ful, l12, l02, DL.D.mut, DL.D.imm, DL.D.imm.immAll, fdOk, fIx, fMul, fAdd, powOk, gLstL, gTupL, DL.D.ty, lvN, szOk, fLen, fListOf, fTupOf, fSl, gSlN, gSlH, gSlL, gSlB, fIsi, fIsiT, isT, DL.D.tyN, DL.D.isX, fInts, DL.D.seqI, fLenSet, fLR, fLR1, gLR2, rgOk, fDict, fAbs, fInt1, gMax2, gMin2, g1S, g2S, fItems, fR1, fR2, bd62, lowE, clr, bakE, kpE, fApp, fIns, fPop, fPopA, fPopI, fClr, fRev, fExt, allTop, fEq, fNe, fNeg, fIsN, DL.D.isNon, DL.D.key, dGet] using hy) (by rw [show k + (i + 1) = k + 1 + i by omega]; exact hi)
      rw [show k + (i + 1) = k + 1 + i by omega] at this
      exact this
    refine ⟨Γ', ?_, by rw [show k + (x :: xs).length = k + 1 + xs.length by simp [mkS, finS, bNs, gL1, gL2, gLL2, fI2, tkA, ptA, GS, GL, fPut, ful, l12, l02, DL.D.mut, DL.D.imm, DL.D.imm.immAll, fdOk, fIx, fMul, fAdd, powOk, gLstL, gTupL, DL.D.ty, lvN, szOk, fLen, fListOf, fTupOf, fSl, gSlN, gSlH, gSlL, gSlB, fIsi, fIsiT, isT, DL.D.tyN, DL.D.isX, fInts, DL.D.seqI, fLenSet, fLR, fLR1, gLR2, rgOk, fDict, fAbs, fInt1, gMax2, gMin2, g1S, g2S, fItems, fR1, fR2, bd62, lowE, clr, bakE, kpE, fApp, fIns, fPop, fPopA, fPopI, fClr, fRev, fExt, allTop, fEq, fNe, fNeg, fIsN, DL.D.isNon, DL.D.key, dGet]; omega]; exact g2⟩
    rw [forL, h1]
    dsimp only
    rcases h2 with h2 | h2 <;> rw [h2] <;> exact g1
end DL

/-! DL23: x += e of ints; range(a, b, -1) -/
namespace DL
open L2 PySem PySem.Spec PyProof.Rows
section
variable {X : Cx} {W : WW} {tg : Expr}
theorem opT {f : Value → Value → Sem Value} {g : Int → Int → V} (h : OpR X f (rI0 g)) : OpR X f (rI (fun _ _ => True) g) := fun pins s σ H x y v u Q I rx ry ⟨i, j, e1, e2, _, q⟩ => h pins s σ H x y v u Q I rx ry ⟨i, j, e1, e2, q⟩
theorem iaddT : OpR X (inplaceOp .Add) (rI (fun _ _ => True) fun i j => .int (i + j)) := opT iop_add
theorem isubT : OpR X (inplaceOp .Sub) (rI (fun _ _ => True) fun i j => .int (i - j)) := opT iop_sub
def cT : Int → Int → Bool := fun _ _ => true
def cM : Int → Int → Bool := fun i j => decide (i.natAbs < 2 ^ 64) || decide (j.natAbs < 2 ^ 64)
theorem cM_ok (i j : Int) (h : cM i j = true) : CMul i j := by
  unfold cM at h
  rw [Bool.or_eq_true, decide_eq_true_eq, decide_eq_true_eq] at h
  rcases h with h | h
  · exact .inl ⟨by omega, by omega⟩
  · exact .inr ⟨by omega, by omega⟩
theorem di_r3 {a b c : Expr} {f g h : EF} {p pos : Pos} (hg : Gl X "range") (hm : X.mg "range" = none) (ha : DE X W a f) (hb : DE X W b g) (hc : DE X W c h) (hs : starEach [a, b, c] X.env = (false, eval a X.env) :: starEach [b, c] X.env := by rfl) (hs2 : starEach [b, c] X.env = (false, eval b X.env) :: starEach [c] X.env := by rfl)
    (hs3 : starEach [c] X.env = (false, eval c X.env) :: starEach [] X.env := by rfl) (hpl : (backTo pos (starEach [b, c] X.env)).any (·.1) = false := by rfl) : DI X W tg (.Call (.Name "range" p) [a, b, c] [] pos) (srcE gR3 [f, g, h]) :=
  di_gen sv_r3 (pi_range3 hg hm (pa_cons ha (pa_cons hb (pa_cons hc pa_nil hs3) hs2) hs) hs hpl) fun σ H R q => tAl_args (r := fun vs H _ => wR3 vs H R) [tDE X.K W f, tDE X.K W g, tDE X.K W h] _ (fun _ _ h => h) (monoE [f, g, h]) q
theorem msk_no {α : Type} : ∀ (n : Nat) (vs : List α), msk (List.replicate n false) vs = []
  | 0, _ => rfl
  | n + 1, [] => rfl
  | n + 1, v :: vs => msk_no n vs
theorem spF_no {K : PySem.W.Frag} {mg : Str → Option Value} {n : Nat} {F : List LD → FR} {vs : List V} {H : Hp} {Q : VK} {E : XK} (h : spF K mg n (List.replicate n false) F vs H Q E) : spF K mg n [] F vs H Q E := by
  obtain ⟨As, e1, e2, e3, q⟩ := h
  refine ⟨As, e1, e2, e3, ?_⟩
  rw [msk_no] at q
  exact q
/-- a def that hands nothing back, called with what is reckoned with effects -/
theorem e_c0 {k n : Nat} {ps : List Str} {F : List LD → FR} {x : Str} {p pos : Pos} {e : Expr} {es : List Expr} {as : List AE} (tk : Takes X (wx X W)) (C : DCal X.prog X.w X.K X.mg X.base k x ps n [] F) (hr : Room k X.A) (h : AArgL X W (e :: es) as) (hg : Gl X x := by rfl) (hio : List.replicate n false = mkA as := by rfl) (hn : as.length = n := by rfl)
    (hdb : (x == ("__debug__" : Str)) = false := by decide) (he : starEach (e :: es) X.env = (false, eval e X.env) :: starEach es X.env := by rfl) (hpl : (backTo pos (starEach es X.env)).any (·.1) = false := by rfl) : DE X W (.Call (.Name x p) (e :: es) [] pos) (eCall F as) := by
  obtain ⟨f, fd, G, hm, hk, hb⟩ := C
  exact e_call tk (G.imp fun _ _ _ _ q => spF_no q) hr hg hm hk hb hio hn h hdb he hpl
end
end DL

/-! DL24: slots put to their normal form; comprehensions of pure things -/
namespace DL
open L2 PySem PySem.Spec PyProof.Rows
def nrm : Option LD → Option LD
  | some (l, d) => some (if d.imm = true ∧ l < 10 then 2 else l, d)
  | none => none
/-- true: the slot stays; false: it is forgotten -/
def canE : List Bool → Env → Env
  | true :: ks, x :: Γ => nrm x :: canE ks Γ
  | false :: ks, _ :: Γ => none :: canE ks Γ
  | _, Γ => Γ
def nrS : Option Sl → Option Sl
  | some s => some { s with l := if s.d.imm = true ∧ s.l < 10 then 2 else s.l }
  | none => none
def canS : List Bool → List (Option Sl) → List (Option Sl)
  | true :: ks, x :: L => nrS x :: canS ks L
  | false :: ks, _ :: L => none :: canS ks L
  | _, L => L
theorem er_canS : ∀ (ks : List Bool) (L : List (Option Sl)), er (canS ks L) = canE ks (er L)
  | [], L => by cases L <;> rfl
  | true :: ks, [] => rfl
  | false :: ks, [] => rfl
  | true :: ks, x :: L => by
    have := er_canS ks L
    cases x <;> simp only [er, canS, canE, List.map_cons] at this ⊢ <;> rw [this] <;> rfl
  | false :: ks, x :: L => by
    have := er_canS ks L
    simp only [er, canS, canE, List.map_cons] at this ⊢
    rw [this]; rfl
theorem canS_len : ∀ (ks : List Bool) (L : List (Option Sl)), (canS ks L).length = L.length
  | [], L => by cases L <;> rfl
  | true :: ks, [] => rfl
  | false :: ks, [] => rfl
  | true :: ks, x :: L => by simp [mkS, finS, bNs, gL1, gL2, gLL2, fI2, tkA, ptA, GS, GL, fPut, ful, l12, l02, DL.D.mut, DL.D.imm, DL.D.imm.immAll, fdOk, fIx, fMul, fAdd, powOk, gLstL, gTupL, DL.D.ty, lvN, szOk, fLen, fListOf, fTupOf, fSl, gSlN, gSlH, gSlL, gSlB, fIsi, fIsiT, isT, DL.D.tyN, DL.D.isX, fInts, DL.D.seqI, fLenSet, fLR, fLR1, gLR2, rgOk, fDict, fAbs, fInt1, gMax2, gMin2, g1S, g2S, fItems, fR1, fR2, bd62, lowE, clr, bakE, kpE, fApp, fIns, fPop, fPopA, fPopI, fClr, fRev, fExt, allTop, fEq, fNe, fNeg, fIsN, DL.D.isNon, DL.D.key, dGet, canS, canS_len ks L]
  | false :: ks, x :: L => by simp [mkS, finS, bNs, gL1, gL2, gLL2, fI2, tkA, ptA, GS, GL, fPut, ful, l12, l02, DL.D.mut, DL.D.imm, DL.D.imm.immAll, fdOk, fIx, fMul, fAdd, powOk, gLstL, gTupL, DL.D.ty, lvN, szOk, fLen, fListOf, fTupOf, fSl, gSlN, gSlH, gSlL, gSlB, fIsi, fIsiT, isT, DL.D.tyN, DL.D.isX, fInts, DL.D.seqI, fLenSet, fLR, fLR1, gLR2, rgOk, fDict, fAbs, fInt1, gMax2, gMin2, g1S, g2S, fItems, fR1, fR2, bd62, lowE, clr, bakE, kpE, fApp, fIns, fPop, fPopA, fPopI, fClr, fRev, fExt, allTop, fEq, fNe, fNeg, fIsN, DL.D.isNon, DL.D.key, dGet, canS, canS_len ks L]
theorem canS_get : ∀ (ks : List Bool) (L : List (Option Sl)) (i : Nat) (s : Sl), (canS ks L)[i]? = some (some s) → ∃ t, L[i]? = some (some t) ∧ s.v = t.v ∧ s.d = t.d ∧ s.ns = t.ns ∧ (10 ≤ s.l → 10 ≤ t.l)
  | [], L, i, s, h => by
    have e : canS [] L = L := by cases L <;> rfl
    rw [e] at h
    exact ⟨s, h, rfl, rfl, rfl, id⟩
  | true :: ks, [], i, s, h => by simp [mkS, finS, bNs, gL1, gL2, gLL2, fI2, tkA, ptA, GS, GL, fPut, ful, l12, l02, DL.D.mut, DL.D.imm, DL.D.imm.immAll, fdOk, fIx, fMul, fAdd, powOk, gLstL, gTupL, DL.D.ty, lvN, szOk, fLen, fListOf, fTupOf, fSl, gSlN, gSlH, gSlL, gSlB, fIsi, fIsiT, isT, DL.D.tyN, DL.D.isX, fInts, DL.D.seqI, fLenSet, fLR, fLR1, gLR2, rgOk, fDict, fAbs, fInt1, gMax2, gMin2, g1S, g2S, fItems, fR1, fR2, bd62, lowE, clr, bakE, kpE, fApp, fIns, fPop, fPopA, fPopI, fClr, fRev, fExt, allTop, fEq, fNe, fNeg, fIsN, DL.D.isNon, DL.D.key, dGet, canS] at h
  | false :: ks, [], i, s, h => by simp [mkS, finS, bNs, gL1, gL2, gLL2, fI2, tkA, ptA, GS, GL, fPut, ful, l12, l02, DL.D.mut, DL.D.imm, DL.D.imm.immAll, fdOk, fIx, fMul, fAdd, powOk, gLstL, gTupL, DL.D.ty, lvN, szOk, fLen, fListOf, fTupOf, fSl, gSlN, gSlH, gSlL, gSlB, fIsi, fIsiT, isT, DL.D.tyN, DL.D.isX, fInts, DL.D.seqI, fLenSet, fLR, fLR1, gLR2, rgOk, fDict, fAbs, fInt1, gMax2, gMin2, g1S, g2S, fItems, fR1, fR2, bd62, lowE, clr, bakE, kpE, fApp, fIns, fPop, fPopA, fPopI, fClr, fRev, fExt, allTop, fEq, fNe, fNeg, fIsN, DL.D.isNon, DL.D.key, dGet, canS] at h
  | true :: ks, x :: L, 0, s, h => by
    simp only [canS, List.getElem?_cons_zero, Option.some.injEq] at h
    cases x with
    | none => cases h
    | some t =>
      simp only [nrS, Option.some.injEq] at h
      subst h
      refine ⟨t, rfl, rfl, rfl, rfl, fun z => ?_⟩
      dsimp only at z
      split at z <;> omega
  | false :: ks, x :: L, 0, s, h => by
    simp [mkS, finS, bNs, gL1, gL2, gLL2, fI2, tkA, ptA, GS, GL, fPut, ful, l12, l02, DL.D.mut, DL.D.imm, DL.D.imm.immAll, fdOk, fIx, fMul, fAdd, powOk, gLstL, gTupL, DL.D.ty, lvN, szOk, fLen, fListOf, fTupOf, fSl, gSlN, gSlH, gSlL, gSlB, fIsi, fIsiT, isT, DL.D.tyN, DL.D.isX, fInts, DL.D.seqI, fLenSet, fLR, fLR1, gLR2, rgOk, fDict, fAbs, fInt1, gMax2, gMin2, g1S, g2S, fItems, fR1, fR2, bd62, lowE, clr, bakE, kpE, fApp, fIns, fPop, fPopA, fPopI, fClr, fRev, fExt, allTop, fEq, fNe, fNeg, fIsN, DL.D.isNon, DL.D.key, dGet, canS] at h
  | true :: ks, x :: L, i + 1, s, h => by
    simp only [canS, List.getElem?_cons_succ] at h
    exact canS_get ks L i s h
  | false :: ks, x :: L, i + 1, s, h => by
    simp only [canS, List.getElem?_cons_succ] at h
    exact canS_get ks L i s h
theorem nil_own {s : Sl} (h : s.ns = []) (a : Addr) : s.own a = 0 ∧ s.rst a = 0 := by
  have := s.tot a
  rw [h, List.count_nil] at this
  omega
theorem canS_cnt (a : Addr) : ∀ (ks : List Bool) (L : List (Option Sl)), (∀ (i : Nat) (s : Sl), L[i]? = some (some s) → s.d.imm = true → s.ns = []) → oS (canS ks L) a ≤ oS L a ∧ rS (canS ks L) a ≤ rS L a
  | [], L, _ => by
    have e : canS [] L = L := by cases L <;> rfl
    rw [e]
    exact ⟨Nat.le_refl _, Nat.le_refl _⟩
  | true :: ks, [], _ => ⟨Nat.le_refl _, Nat.le_refl _⟩
  | false :: ks, [], _ => ⟨Nat.le_refl _, Nat.le_refl _⟩
  | true :: ks, x :: L, h => by
    have ih := canS_cnt a ks L fun i s hs => h (i + 1) s (by simpa [mkS, finS, bNs, gL1, gL2, gLL2, fI2, tkA, ptA, GS, GL, fPut, ful, l12, l02, DL.D.mut, DL.D.imm, DL.D.imm.immAll, fdOk, fIx, fMul, fAdd, powOk, gLstL, gTupL, DL.D.ty, lvN, szOk, fLen, fListOf, fTupOf, fSl, gSlN, gSlH, gSlL, gSlB, fIsi, fIsiT, isT, DL.D.tyN, DL.D.isX, fInts, DL.D.seqI, fLenSet, fLR, fLR1, gLR2, rgOk, fDict, fAbs, fInt1, gMax2, gMin2, g1S, g2S, fItems, fR1, fR2, bd62, lowE, clr, bakE, kpE, fApp, fIns, fPop, fPopA, fPopI, fClr, fRev, fExt, allTop, fEq, fNe, fNeg, fIsN, DL.D.isNon, DL.D.key, dGet] using hs)
    cases x with
    | none => exact ih
    | some t =>
      simp only [canS, nrS, oS, rS]
      by_cases c : t.d.imm = true ∧ t.l < 10
      · have e := h 0 t rfl c.1
        have e1 := nil_own e a
        have e2 := nil_own (s := { t with l := if t.d.imm = true ∧ t.l < 10 then 2 else t.l }) e a
        rw [e1.1, e1.2, e2.1, e2.2]
        omega
      · have e2 : ({ t with l := if t.d.imm = true ∧ t.l < 10 then 2 else t.l } : Sl) = t := by rw [if_neg c]
        rw [e2]
        omega
  | false :: ks, x :: L, h => by
    have ih := canS_cnt a ks L fun i s hs => h (i + 1) s (by simpa [mkS, finS, bNs, gL1, gL2, gLL2, fI2, tkA, ptA, GS, GL, fPut, ful, l12, l02, DL.D.mut, DL.D.imm, DL.D.imm.immAll, fdOk, fIx, fMul, fAdd, powOk, gLstL, gTupL, DL.D.ty, lvN, szOk, fLen, fListOf, fTupOf, fSl, gSlN, gSlH, gSlL, gSlB, fIsi, fIsiT, isT, DL.D.tyN, DL.D.isX, fInts, DL.D.seqI, fLenSet, fLR, fLR1, gLR2, rgOk, fDict, fAbs, fInt1, gMax2, gMin2, g1S, g2S, fItems, fR1, fR2, bd62, lowE, clr, bakE, kpE, fApp, fIns, fPop, fPopA, fPopI, fClr, fRev, fExt, allTop, fEq, fNe, fNeg, fIsN, DL.D.isNon, DL.D.key, dGet] using hs)
    cases x with
    | none => exact ih
    | some t =>
      simp only [canS, oS, rS]
      omega
section
variable {K : PySem.W.Frag} {Z : Zone} {σ : L2.St} {H H' : Hp} {L : List (Option Sl)} {M : List Tm}
theorem Rel.can (R : Rel K Z σ H L M) (ks : List Bool) : Rel K Z σ H (canS ks L) M := by
  refine R.with (by rw [canS_len]; exact R.len) (fun i s h => ?_) (fun a => canS_cnt a ks L fun i s h e => (R.slot i s h).2.1.imm _ _ _ e) (fun i s h hl => ?_)
  · obtain ⟨t, h1, e1, e2, e3, _⟩ := canS_get ks L i s h
    have := R.slot i t h1
    rw [e1, e2, e3]
    exact this
  · obtain ⟨t, h1, e1, e2, e3, e4⟩ := canS_get ks L i s h
    rw [e1]
    exact R.pin i t h1 (e4 hl)
end
def sCan (ks : List Bool) (f : SF) : SF := fun Γ => f (canE ks Γ)
section
variable {X : Cx} {W : WW} {st : Stmt} {sts : List Stmt} {f : SF}
theorem ss_can (ks : List Bool) (h : DSs X W sts f) : DSs X W sts (sCan ks f) := PSs.imp h fun D σ H ⟨Z, L, M, R, q⟩ => ⟨Z, _, M, R.can ks, by rw [er_canS]; exact q⟩
theorem s_can (ks : List Bool) (h : DS X W st f) : DS X W st (sCan ks f) := PS.imp h fun D σ H ⟨Z, L, M, R, q⟩ => ⟨Z, _, M, R.can ks, by rw [er_canS]; exact q⟩
def sLow (A : List Nat) (f : SF) : SF := fun Γ => f (lowE A Γ)
theorem ss_low (A : List Nat) (h : DSs X W sts f) : DSs X W sts (sLow A f) := PSs.imp h fun D σ H ⟨Z, L, M, R, q⟩ => ⟨Z, _, M, R.low A, by rw [er_low]; exact q⟩
theorem DE.ref {e : Expr} {f g : EF} (h : DE X W e f) (r : ∀ Γ, g Γ ≠ .bad → f Γ = g Γ) : DE X W e g := PE.imp h fun σ H Q ⟨Z, L, M, R, q⟩ => ⟨Z, L, M, R, by
  rw [r (er L) fun z => by rw [z] at q; exact q]
  exact q⟩
theorem DS.ref {f g : SF} (h : DS X W st f) (r : ∀ Γ, g Γ ≠ .bad → f Γ = g Γ) : DS X W st g := PS.imp h fun D σ H ⟨Z, L, M, R, q⟩ => ⟨Z, L, M, R, by
  rw [r (er L) fun z => by rw [z] at q; exact q]
  exact q⟩
end
/-! ### comprehensions whose test and thing are pure -/
def colM {α β : Type} (φ : α → Option (Option β)) : List α → Option (List β)
  | [] => some []
  | x :: xs => match φ x with
    | none => none
    | some none => colM φ xs
    | some (some y) => match colM φ xs with
      | none => none
      | some ys => some (y :: ys)
/-- the thing, where it may be kept -/
def keepD : P LD → Option (Option D)
  | .ok (l, d) => if 2 ≤ l % 10 ∨ d.imm = true then some (some d) else none
  | _ => none
def turnP (bd : BF) (t : PB) (f : PF) (Γ : Env) (x : LD) : Option (Option D) := match bd x Γ with
  | none => none
  | some Γ2 => match t Γ2 with
    | .ok b => if b = true then keepD (f Γ2) else some none
    | _ => none
def pbT : PB := fun _ => .ok true
def lcEnd (Γ1 Γ2 : Env) (vs : List Nat) : Option (List D) → R LD
  | some ds => .ok (2, .lst ds) (bakE Γ1 Γ2 vs)
  | none => .bad
def eLcP (src : IF') (bd : BF) (t : PB) (f : PF) (vs : List Nat) : EF := fun Γ => match src Γ with
  | .ok xs Γ1 => if szOk xs.length then lcEnd Γ1 (clr Γ1 vs) vs (colM (turnP bd t f (clr Γ1 vs)) xs) else .bad
  | .exc c Γ1 => .exc c Γ1
  | .bad => .bad
/-- a target that sets no slot but its own -/
def BdIn (bd : BF) (vs : List Nat) : Prop := ∀ x Γ Γ', bd x Γ = some Γ' → clr Γ' vs = clr Γ vs
theorem set_comm' {α : Type} (L : List α) (i j : Nat) (a : α) : (L.set i a).set j a = (L.set j a).set i a := by
  by_cases h : i = j
  · subst h; rfl
  · exact (List.set_comm a a h)
theorem clr_set {L : List (Option LD)} {i : Nat} {x : Option LD} : ∀ {vs : List Nat}, i ∈ vs → clr (L.set i x) vs = clr L vs
  | v :: vs, h => by
    by_cases e : i ∈ vs
    · unfold clr
      rw [clr_set e]
    · have e1 : i = v := by
        rcases List.mem_cons.mp h with h | h
        · exact h
        · exact absurd h e
      subst e1
      have aux : ∀ (ws : List Nat), i ∉ ws → clr (L.set i x) ws = (clr L ws).set i x := by
        intro ws
        induction ws with
        | nil => intro _; rfl
        | cons w ws ih =>
          intro hw
          simp only [List.mem_cons, not_or] at hw
          unfold clr
          rw [ih hw.2]
          rw [List.set_comm]
          exact hw.1
      unfold clr
      rw [aux vs e, List.set_set]
theorem bdIn_name (i : Nat) : BdIn (bName i) [i] := fun x Γ Γ' h => by
  unfold bName at h
  split at h
  · cases h
    exact clr_set (List.mem_singleton.mpr rfl)
  · cases h
theorem bdIn_ns : ∀ (is : List Nat) (xs : List LD) (Γ Γ' : Env) (vs : List Nat), (∀ i ∈ is, i ∈ vs) → bNs is xs Γ = some Γ' → clr Γ' vs = clr Γ vs := by
  intro is
  induction is with
  | nil =>
    intro xs Γ Γ' vs _ h
    cases xs with
    | nil => simp only [bNs, Option.some.injEq] at h; rw [h]
    | cons x xs => simp [mkS, finS, bNs, gL1, gL2, gLL2, fI2, tkA, ptA, GS, GL, fPut, ful, l12, l02, DL.D.mut, DL.D.imm, DL.D.imm.immAll, fdOk, fIx, fMul, fAdd, powOk, gLstL, gTupL, DL.D.ty, lvN, szOk, fLen, fListOf, fTupOf, fSl, gSlN, gSlH, gSlL, gSlB, fIsi, fIsiT, isT, DL.D.tyN, DL.D.isX, fInts, DL.D.seqI, fLenSet, fLR, fLR1, gLR2, rgOk, fDict, fAbs, fInt1, gMax2, gMin2, g1S, g2S, fItems, fR1, fR2, bd62, lowE, clr, bakE, kpE, fApp, fIns, fPop, fPopA, fPopI, fClr, fRev, fExt, allTop, fEq, fNe, fNeg, fIsN, DL.D.isNon, DL.D.key, dGet, bNs] at h
  | cons i is ih =>
    intro xs Γ Γ' vs hv h
    cases xs with
    | nil => simp [mkS, finS, bNs, gL1, gL2, gLL2, fI2, tkA, ptA, GS, GL, fPut, ful, l12, l02, DL.D.mut, DL.D.imm, DL.D.imm.immAll, fdOk, fIx, fMul, fAdd, powOk, gLstL, gTupL, DL.D.ty, lvN, szOk, fLen, fListOf, fTupOf, fSl, gSlN, gSlH, gSlL, gSlB, fIsi, fIsiT, isT, DL.D.tyN, DL.D.isX, fInts, DL.D.seqI, fLenSet, fLR, fLR1, gLR2, rgOk, fDict, fAbs, fInt1, gMax2, gMin2, g1S, g2S, fItems, fR1, fR2, bd62, lowE, clr, bakE, kpE, fApp, fIns, fPop, fPopA, fPopI, fClr, fRev, fExt, allTop, fEq, fNe, fNeg, fIsN, DL.D.isNon, DL.D.key, dGet, bNs] at h
    | cons x xs =>
      simp only [bNs] at h
      obtain ⟨g1, hb, h⟩ := Option.bind_eq_some_iff.mp h
      have := ih xs _ Γ' vs (fun j hj => hv j (List.mem_cons_of_mem _ hj)) h
      rw [this]
      unfold bName at hb
      split at hb
      · cases hb
        exact clr_set (hv i (List.mem_cons_self ..))
      · cases hb
theorem bdIn_un (is : List Nat) : BdIn (bUn is) is := fun x Γ Γ' h => by
  unfold bUn at h
  split at h
  all_goals first
    | exact bdIn_ns is _ Γ Γ' is (fun _ h => h) h
    | (split at h <;> first | exact bdIn_ns is _ Γ Γ' is (fun _ h => h) h | cases h)
    | cases h
theorem clr_clr (L : List (Option LD)) : ∀ (vs : List Nat), clr (clr L vs) vs = clr L vs := by
  have aux : ∀ (ws vs : List Nat), (∀ i ∈ ws, i ∈ vs) → clr (clr L ws) vs = clr L vs := by
    intro ws
    induction ws with
    | nil => intro vs _; rfl
    | cons w ws ih =>
      intro vs h
      show clr ((clr L ws).set w none) vs = _
      rw [clr_set (h w (List.mem_cons_self ..)), ih vs fun i hi => h i (List.mem_cons_of_mem _ hi)]
  intro vs
  exact aux vs vs fun _ h => h
theorem lcL_col {bd : BF} {t : PB} {f : PF} {A : List Nat} {vs : List Nat} {Γ : Env} (hb : BdIn bd vs) (hc : clr Γ vs = Γ) : ∀ (xs : List LD) (ds es : List D), colM (turnP bd t f Γ) xs = some es → lcL bd (toEB t) (toE A f) vs xs true ds Γ = .ok (2, .lst (ds ++ es)) Γ
  | [], ds, es, h => by
    simp only [colM, Option.some.injEq] at h
    subst h
    simp [mkS, finS, bNs, gL1, gL2, gLL2, fI2, tkA, ptA, GS, GL, fPut, ful, l12, l02, DL.D.mut, DL.D.imm, DL.D.imm.immAll, fdOk, fIx, fMul, fAdd, powOk, gLstL, gTupL, DL.D.ty, lvN, szOk, fLen, fListOf, fTupOf, fSl, gSlN, gSlH, gSlL, gSlB, fIsi, fIsiT, isT, DL.D.tyN, DL.D.isX, fInts, DL.D.seqI, fLenSet, fLR, fLR1, gLR2, rgOk, fDict, fAbs, fInt1, gMax2, gMin2, g1S, g2S, fItems, fR1, fR2, bd62, lowE, clr, bakE, kpE, fApp, fIns, fPop, fPopA, fPopI, fClr, fRev, fExt, allTop, fEq, fNe, fNeg, fIsN, DL.D.isNon, DL.D.key, dGet, lcL, l12]
  | x :: xs, ds, es, h => by
    rw [colM] at h
    have hT : turnP bd t f Γ x = match bd x Γ with
      | none => none
      | some Γ2 => match t Γ2 with
        | .ok b => if b = true then keepD (f Γ2) else some none
        | _ => none := rfl
    rw [hT] at h
    rw [lcL]
    cases e1 : bd x Γ with
    | none => rw [e1] at h; cases h
    | some Γ1 =>
      rw [e1] at h
      dsimp only at h ⊢
      have c1 := (hb x Γ Γ1 e1).trans hc
      unfold toEB
      cases e2 : t Γ1 with
      | bad => rw [e2] at h; cases h
      | exc c => rw [e2] at h; cases h
      | ok k =>
        rw [e2] at h
        cases k with
        | false =>
          simp only [Bool.false_eq_true, if_false] at h
          dsimp only
          rw [c1]
          exact lcL_col hb hc xs ds es h
        | true =>
          simp only [if_true] at h
          dsimp only
          unfold toE
          cases e3 : f Γ1 with
          | bad => rw [e3] at h; cases h
          | exc c => rw [e3] at h; cases h
          | ok y =>
            obtain ⟨l, d⟩ := y
            rw [e3] at h
            unfold keepD at h
            dsimp only at h ⊢
            by_cases c : 2 ≤ l % 10 ∨ d.imm = true
            · rw [if_pos c] at h
              dsimp only at h
              rw [if_pos c, c1]
              cases e4 : colM (turnP bd t f Γ) xs with
              | none =>
                rw [e4] at h; cases h
              | some ys =>
                rw [e4] at h
                simp only [Option.some.injEq] at h
                subst h
                have fu : ful (l, d) = true := by
                  unfold ful
                  simpa [mkS, finS, bNs, gL1, gL2, gLL2, fI2, tkA, ptA, GS, GL, fPut, ful, l12, l02, DL.D.mut, DL.D.imm, DL.D.imm.immAll, fdOk, fIx, fMul, fAdd, powOk, gLstL, gTupL, DL.D.ty, lvN, szOk, fLen, fListOf, fTupOf, fSl, gSlN, gSlH, gSlL, gSlB, fIsi, fIsiT, isT, DL.D.tyN, DL.D.isX, fInts, DL.D.seqI, fLenSet, fLR, fLR1, gLR2, rgOk, fDict, fAbs, fInt1, gMax2, gMin2, g1S, g2S, fItems, fR1, fR2, bd62, lowE, clr, bakE, kpE, fApp, fIns, fPop, fPopA, fPopI, fClr, fRev, fExt, allTop, fEq, fNe, fNeg, fIsN, DL.D.isNon, DL.D.key, dGet] using c
                rw [fu]
                have := lcL_col (A := A) hb hc xs (ds ++ [d]) ys e4
                rw [Bool.and_true]
                unfold toEB toE at this
                rw [this]
                simp [mkS, finS, bNs, gL1, gL2, gLL2, fI2, tkA, ptA, GS, GL, fPut, ful, l12, l02, DL.D.mut, DL.D.imm, DL.D.imm.immAll, fdOk, fIx, fMul, fAdd, powOk, gLstL, gTupL, DL.D.ty, lvN, szOk, fLen, fListOf, fTupOf, fSl, gSlN, gSlH, gSlL, gSlB, fIsi, fIsiT, isT, DL.D.tyN, DL.D.isX, fInts, DL.D.seqI, fLenSet, fLR, fLR1, gLR2, rgOk, fDict, fAbs, fInt1, gMax2, gMin2, g1S, g2S, fItems, fR1, fR2, bd62, lowE, clr, bakE, kpE, fApp, fIns, fPop, fPopA, fPopI, fClr, fRev, fExt, allTop, fEq, fNe, fNeg, fIsN, DL.D.isNon, DL.D.key, dGet]
            · rw [if_neg c] at h
              cases h
theorem ref_lc {src : IF'} {bd : BF} {t : PB} {f : PF} {A : List Nat} {vs : List Nat} (hb : BdIn bd vs) (Γ : Env) (h : eLcP src bd t f vs Γ ≠ .bad) : eLc src bd (toEB t) (toE A f) vs Γ = eLcP src bd t f vs Γ := by
  unfold eLc
  unfold eLcP at h ⊢
  cases e1 : src Γ with
  | bad => rfl
  | exc c Γ1 => rfl
  | ok xs Γ1 =>
    rw [e1] at h
    dsimp only at h ⊢
    by_cases c : szOk xs.length = true
    · rw [if_pos c] at h ⊢
      rw [if_pos c]
      cases e2 : colM (turnP bd t f (clr Γ1 vs)) xs with
      | none => rw [e2] at h; exact absurd rfl h
      | some es =>
        rw [lcL_col hb (clr_clr _ _) xs [] es e2]
        rfl
    · rw [if_neg c] at h
      exact absurd rfl h

/-! ### comprehensions whose test and thing leave the slots as they were -/
open Classical in
noncomputable def keepE (vs : List Nat) (Γ : Env) : R LD → Option (Option D)
  | .ok (l, d) Γ3 => if 2 ≤ l % 10 ∨ d.imm = true then (if clr Γ3 vs = Γ then some (some d) else none) else none
  | _ => none
open Classical in
noncomputable def turnE (bd : BF) (t : EB) (f : EF) (vs : List Nat) (Γ : Env) (x : LD) : Option (Option D) := match bd x Γ with
  | none => none
  | some Γ1 => match t Γ1 with
    | .ok b Γ2 => if b = true then keepE vs Γ (f Γ2) else (if clr Γ2 vs = Γ then some none else none)
    | _ => none
noncomputable def eLcE (src : IF') (bd : BF) (t : EB) (f : EF) (vs : List Nat) : EF := fun Γ => match src Γ with
  | .ok xs Γ1 => if szOk xs.length then lcEnd Γ1 (clr Γ1 vs) vs (colM (turnE bd t f vs (clr Γ1 vs)) xs) else .bad
  | .exc c Γ1 => .exc c Γ1
  | .bad => .bad
theorem lcL_colE {bd : BF} {t : EB} {f : EF} {vs : List Nat} {Γ : Env} : ∀ (xs : List LD) (ds es : List D), colM (turnE bd t f vs Γ) xs = some es → lcL bd t f vs xs true ds Γ = .ok (2, .lst (ds ++ es)) Γ
  | [], ds, es, h => by
    simp only [colM, Option.some.injEq] at h
    subst h
    simp [mkS, finS, bNs, gL1, gL2, gLL2, fI2, tkA, ptA, GS, GL, fPut, ful, l12, l02, DL.D.mut, DL.D.imm, DL.D.imm.immAll, fdOk, fIx, fMul, fAdd, powOk, gLstL, gTupL, DL.D.ty, lvN, szOk, fLen, fListOf, fTupOf, fSl, gSlN, gSlH, gSlL, gSlB, fIsi, fIsiT, isT, DL.D.tyN, DL.D.isX, fInts, DL.D.seqI, fLenSet, fLR, fLR1, gLR2, rgOk, fDict, fAbs, fInt1, gMax2, gMin2, g1S, g2S, fItems, fR1, fR2, bd62, lowE, clr, bakE, kpE, fApp, fIns, fPop, fPopA, fPopI, fClr, fRev, fExt, allTop, fEq, fNe, fNeg, fIsN, DL.D.isNon, DL.D.key, dGet, lcL, l12]
  | x :: xs, ds, es, h => by
    rw [colM] at h
    unfold turnE at h
    rw [lcL]
    cases e1 : bd x Γ with
    | none => rw [e1] at h; cases h
    | some Γ1 =>
      rw [e1] at h
      dsimp only at h ⊢
      cases e2 : t Γ1 with
      | bad => rw [e2] at h; cases h
      | exc c => rw [e2] at h; cases h
      | ok k Γ2 =>
        rw [e2] at h
        cases k with
        | false =>
          simp only [Bool.false_eq_true, if_false] at h
          dsimp only
          by_cases c : clr Γ2 vs = Γ
          · rw [if_pos c] at h
            rw [c]
            exact lcL_colE xs ds es h
          · rw [if_neg c] at h
            cases h
        | true =>
          simp only [if_true] at h
          dsimp only
          cases e3 : f Γ2 with
          | bad => rw [e3] at h; cases h
          | exc c => rw [e3] at h; cases h
          | ok y Γ3 =>
            obtain ⟨l, d⟩ := y
            rw [e3] at h
            unfold keepE at h
            dsimp only at h ⊢
            by_cases c : 2 ≤ l % 10 ∨ d.imm = true
            · by_cases c2 : clr Γ3 vs = Γ
              · rw [if_pos c, if_pos c2] at h
                dsimp only at h
                cases e4 : colM (turnE bd t f vs Γ) xs with
                | none =>
                  have e4' := e4
                  unfold turnE keepE at e4'
                  rw [e4'] at h; cases h
                | some ys =>
                  have e4' := e4
                  unfold turnE keepE at e4'
                  rw [e4'] at h
                  simp only [Option.some.injEq] at h
                  subst h
                  have fu : ful (l, d) = true := by
                    unfold ful
                    simpa [mkS, finS, bNs, gL1, gL2, gLL2, fI2, tkA, ptA, GS, GL, fPut, ful, l12, l02, DL.D.mut, DL.D.imm, DL.D.imm.immAll, fdOk, fIx, fMul, fAdd, powOk, gLstL, gTupL, DL.D.ty, lvN, szOk, fLen, fListOf, fTupOf, fSl, gSlN, gSlH, gSlL, gSlB, fIsi, fIsiT, isT, DL.D.tyN, DL.D.isX, fInts, DL.D.seqI, fLenSet, fLR, fLR1, gLR2, rgOk, fDict, fAbs, fInt1, gMax2, gMin2, g1S, g2S, fItems, fR1, fR2, bd62, lowE, clr, bakE, kpE, fApp, fIns, fPop, fPopA, fPopI, fClr, fRev, fExt, allTop, fEq, fNe, fNeg, fIsN, DL.D.isNon, DL.D.key, dGet] using c
                  rw [fu, c2, Bool.and_true, lcL_colE xs (ds ++ [d]) ys e4]
                  simp [mkS, finS, bNs, gL1, gL2, gLL2, fI2, tkA, ptA, GS, GL, fPut, ful, l12, l02, DL.D.mut, DL.D.imm, DL.D.imm.immAll, fdOk, fIx, fMul, fAdd, powOk, gLstL, gTupL, DL.D.ty, lvN, szOk, fLen, fListOf, fTupOf, fSl, gSlN, gSlH, gSlL, gSlB, fIsi, fIsiT, isT, DL.D.tyN, DL.D.isX, fInts, DL.D.seqI, fLenSet, fLR, fLR1, gLR2, rgOk, fDict, fAbs, fInt1, gMax2, gMin2, g1S, g2S, fItems, fR1, fR2, bd62, lowE, clr, bakE, kpE, fApp, fIns, fPop, fPopA, fPopI, fClr, fRev, fExt, allTop, fEq, fNe, fNeg, fIsN, DL.D.isNon, DL.D.key, dGet]
              · rw [if_pos c, if_neg c2] at h
                cases h
            · rw [if_neg c] at h
              cases h
theorem ref_lcE {src : IF'} {bd : BF} {t : EB} {f : EF} {vs : List Nat} (Γ : Env) (h : eLcE src bd t f vs Γ ≠ .bad) : eLc src bd t f vs Γ = eLcE src bd t f vs Γ := by
  unfold eLc
  unfold eLcE at h ⊢
  cases e1 : src Γ with
  | bad => rfl
  | exc c Γ1 => rfl
  | ok xs Γ1 =>
    rw [e1] at h
    dsimp only at h ⊢
    by_cases c : szOk xs.length = true
    · rw [if_pos c] at h ⊢
      rw [if_pos c]
      cases e2 : colM (turnE bd t f vs (clr Γ1 vs)) xs with
      | none => rw [e2] at h; exact absurd rfl h
      | some es =>
        rw [lcL_colE xs [] es e2]
        rfl
    · rw [if_neg c] at h
      exact absurd rfl h
theorem ebT_is : ebT = toEB pbT := rfl
section
variable {X : Cx} {W : WW} {st : Stmt} {i : Nat}
theorem e_lcP {e : Expr} {src : IF'} {bd : BF} {t : PB} {f : PF} {A : List Nat} {vs : List Nat} (hb : BdIn bd vs) (h : DE X W e (eLc src bd (toEB t) (toE A f) vs)) : DE X W e (eLcP src bd t f vs) := h.ref fun Γ n => ref_lc hb Γ n
theorem s_lcP {src : IF'} {bd : BF} {t : PB} {f : PF} {A : List Nat} {vs : List Nat} (hb : BdIn bd vs) (h : DS X W st (sAsg (eLc src bd (toEB t) (toE A f) vs) (bName i))) : DS X W st (sAsg (eLcP src bd t f vs) (bName i)) := h.ref fun Γ n => by
  unfold sAsg at n ⊢
  have : eLcP src bd t f vs Γ ≠ .bad := fun z => by rw [z] at n; exact n rfl
  rw [ref_lc hb Γ this]
theorem e_lcE {e : Expr} {src : IF'} {bd : BF} {t : EB} {f : EF} {vs : List Nat} (h : DE X W e (eLc src bd t f vs)) : DE X W e (eLcE src bd t f vs) := h.ref fun Γ n => ref_lcE Γ n
theorem s_lcE {src : IF'} {bd : BF} {t : EB} {f : EF} {vs : List Nat} (h : DS X W st (sAsg (eLc src bd t f vs) (bName i))) : DS X W st (sAsg (eLcE src bd t f vs) (bName i)) := h.ref fun Γ n => by
  unfold sAsg at n ⊢
  have : eLcE src bd t f vs Γ ≠ .bad := fun z => by rw [z] at n; exact n rfl
  rw [ref_lcE Γ this]
end
/-! ### told by simp -/
section
variable {α β γ : Type}
@[simp] theorem colM_nil (φ : α → Option (Option β)) : colM φ [] = some [] := rfl
@[simp] theorem colM_map (φ : α → Option (Option β)) (g : γ → α) : ∀ xs : List γ, colM φ (xs.map g) = colM (fun x => φ (g x)) xs
  | [] => rfl
  | x :: xs => by
    simp only [List.map_cons, colM, colM_map φ g xs]
@[simp] theorem colM_some (h : α → β) : ∀ xs : List α, colM (fun x => some (some (h x))) xs = some (xs.map h)
  | [] => rfl
  | x :: xs => by simp only [colM, colM_some h xs, List.map_cons]
@[simp] theorem colM_no : ∀ xs : List α, colM (β := β) (fun x => some none) xs = some []
  | [] => rfl
  | x :: xs => by simp only [colM, colM_no xs]
@[simp] theorem colM_if (p : α → Prop) [DecidablePred p] (h : α → β) : ∀ xs : List α, colM (fun x => if p x then some (some (h x)) else some none) xs = some ((xs.filter fun x => decide (p x)).map h)
  | [] => rfl
  | x :: xs => by
    rw [colM, colM_if p h xs, List.filter_cons]
    by_cases c : p x <;> simp [mkS, finS, bNs, gL1, gL2, gLL2, fI2, tkA, ptA, GS, GL, fPut, ful, l12, l02, DL.D.mut, DL.D.imm, DL.D.imm.immAll, fdOk, fIx, fMul, fAdd, powOk, gLstL, gTupL, DL.D.ty, lvN, szOk, fLen, fListOf, fTupOf, fSl, gSlN, gSlH, gSlL, gSlB, fIsi, fIsiT, isT, DL.D.tyN, DL.D.isX, fInts, DL.D.seqI, fLenSet, fLR, fLR1, gLR2, rgOk, fDict, fAbs, fInt1, gMax2, gMin2, g1S, g2S, fItems, fR1, fR2, bd62, lowE, clr, bakE, kpE, fApp, fIns, fPop, fPopA, fPopI, fClr, fRev, fExt, allTop, fEq, fNe, fNeg, fIsN, DL.D.isNon, DL.D.key, dGet, c]
theorem colM_congr {φ ψ : α → Option (Option β)} : ∀ {xs : List α}, (∀ x ∈ xs, φ x = ψ x) → colM φ xs = colM ψ xs
  | [], _ => rfl
  | x :: xs, h => by
    rw [colM, colM, h x (List.mem_cons_self ..), colM_congr fun y hy => h y (List.mem_cons_of_mem _ hy)]
theorem colM_is {φ : α → Option (Option β)} (p : α → Bool) (h : α → β) : ∀ {xs : List α}, (∀ x ∈ xs, φ x = if p x then some (some (h x)) else some none) → colM φ xs = some ((xs.filter p).map h)
  | [], _ => rfl
  | x :: xs, H => by
    rw [colM, H x (List.mem_cons_self ..), colM_is p h fun y hy => H y (List.mem_cons_of_mem _ hy), List.filter_cons]
    by_cases c : p x = true <;> simp [mkS, finS, bNs, gL1, gL2, gLL2, fI2, tkA, ptA, GS, GL, fPut, ful, l12, l02, DL.D.mut, DL.D.imm, DL.D.imm.immAll, fdOk, fIx, fMul, fAdd, powOk, gLstL, gTupL, DL.D.ty, lvN, szOk, fLen, fListOf, fTupOf, fSl, gSlN, gSlH, gSlL, gSlB, fIsi, fIsiT, isT, DL.D.tyN, DL.D.isX, fInts, DL.D.seqI, fLenSet, fLR, fLR1, gLR2, rgOk, fDict, fAbs, fInt1, gMax2, gMin2, g1S, g2S, fItems, fR1, fR2, bd62, lowE, clr, bakE, kpE, fApp, fIns, fPop, fPopA, fPopI, fClr, fRev, fExt, allTop, fEq, fNe, fNeg, fIsN, DL.D.isNon, DL.D.key, dGet, c]
end
/-- the thing may be kept: of ints -/
@[simp] theorem keepD_ok {l : Nat} {d : D} (h : 2 ≤ l % 10 ∨ d.imm = true) : keepD (.ok (l, d)) = some (some d) := if_pos h
/-! ### loops -/
theorem forL_const {bd : BF} {f : SF} {Γ : Env} : ∀ {xs : List LD}, (∀ x ∈ xs, ∃ Γ1, bd x Γ = some Γ1 ∧ (f Γ1 = .nx Γ ∨ f Γ1 = .ct Γ)) → forL bd f xs Γ = .nx Γ
  | [], _ => rfl
  | x :: xs, h => by
    obtain ⟨Γ1, h1, h2⟩ := h x (List.mem_cons_self ..)
    rw [forL, h1]
    dsimp only
    have ih := forL_const (f := f) fun y hy => h y (List.mem_cons_of_mem _ hy)
    rcases h2 with h2 | h2 <;> rw [h2] <;> exact ih
/-- a loop whose env is told by a state: each turn by any next state that keeps I -/
theorem forL_st {S : Type} {bd : BF} {f : SF} (mk : S → Env) (I : Nat → S → Prop) : ∀ {xs : List LD} {k : Nat} {s : S}, I k s → (∀ (i : Nat) x s, xs[i]? = some x → I (k + i) s → ∃ Γ1, bd x (mk s) = some Γ1 ∧ ∃ s', (f Γ1 = .nx (mk s') ∨ f Γ1 = .ct (mk s')) ∧ I (k + i + 1) s') → ∃ s', forL bd f xs (mk s) = .nx (mk s') ∧ I (k + xs.length) s'
  | [], k, s, h0, _ => ⟨s, rfl, h0⟩
  | x :: xs, k, s, h0, hs => by
    obtain ⟨Γ1, h1, s2, h2, h3⟩ := hs 0 x s rfl h0
    obtain ⟨s', g1, g2⟩ := forL_st mk I (xs := xs) (k := k + 1) (s := s2) h3 fun i y s hy hi => by
      have := hs (i + 1) y s (by simpa [mkS, finS, bNs, gL1, gL2, gLL2, fI2, tkA, ptA, GS, GL, fPut, ful, l12, l02, DL.D.mut, DL.D.imm, DL.D.imm.immAll, fdOk, fIx, fMul, fAdd, powOk, gLstL, gTupL, DL.D.ty, lvN, szOk, fLen, fListOf, fTupOf, fSl, gSlN, gSlH, gSlL, gSlB, fIsi, fIsiT, isT, DL.D.tyN, DL.D.isX, fInts, DL.D.seqI, fLenSet, fLR, fLR1, gLR2, rgOk, fDict, fAbs, fInt1, gMax2, gMin2, g1S, g2S, fItems, fR1, fR2, bd62, lowE, clr, bakE, kpE, fApp, fIns, fPop, fPopA, fPopI, fClr, fRev, fExt, allTop, fEq, fNe, fNeg, fIsN, DL.D.isNon, DL.D.key, dGet] using hy) (by rw [show k + (i + 1) = k + 1 + i by omega]; exact hi)
      rw [show k + (i + 1) = k + 1 + i by omega] at this
      exact this
    refine ⟨s', ?_, by rw [show k + (x :: xs).length = k + 1 + xs.length by simp [mkS, finS, bNs, gL1, gL2, gLL2, fI2, tkA, ptA, GS, GL, fPut, ful, l12, l02, DL.D.mut, DL.D.imm, DL.D.imm.immAll, fdOk, fIx, fMul, fAdd, powOk, gLstL, gTupL, DL.D.ty, lvN, szOk, fLen, fListOf, fTupOf, fSl, gSlN, gSlH, gSlL, gSlB, fIsi, fIsiT, isT, DL.D.tyN, DL.D.isX, fInts, DL.D.seqI, fLenSet, fLR, fLR1, gLR2, rgOk, fDict, fAbs, fInt1, gMax2, gMin2, g1S, g2S, fItems, fR1, fR2, bd62, lowE, clr, bakE, kpE, fApp, fIns, fPop, fPopA, fPopI, fClr, fRev, fExt, allTop, fEq, fNe, fNeg, fIsN, DL.D.isNon, DL.D.key, dGet]; omega]; exact g2⟩
    rw [forL, h1]
    dsimp only
    rcases h2 with h2 | h2 <;> rw [h2] <;> exact g1
/-- a loop over things told by g, each turn one step of the state -/
theorem forL_fold {S α : Type} {bd : BF} {f : SF} (mk : S → Env) (step : S → α → S) (g : α → LD) (I : S → Prop) : ∀ {xs : List α} {s : S}, I s → (∀ s x, x ∈ xs → I s → ∃ Γ1, bd (g x) (mk s) = some Γ1 ∧ (f Γ1 = .nx (mk (step s x)) ∨ f Γ1 = .ct (mk (step s x))) ∧ I (step s x)) → forL bd f (xs.map g) (mk s) = .nx (mk (xs.foldl step s)) ∧ I (xs.foldl step s)
  | [], s, h0, _ => ⟨rfl, h0⟩
  | x :: xs, s, h0, hs => by
    obtain ⟨Γ1, h1, h2, h3⟩ := hs s x (List.mem_cons_self ..) h0
    have ih := forL_fold mk step g I (xs := xs) h3 fun s y hy => hs s y (List.mem_cons_of_mem _ hy)
    refine ⟨?_, ih.2⟩
    rw [List.map_cons, forL, h1]
    dsimp only
    rcases h2 with h2 | h2 <;> rw [h2] <;> exact ih.1
end DL

/-! DL25: more told by simp -/
namespace DL
open L2 PySem PySem.Spec PyProof.Rows
/-! the reckoning goes on behind what is known: nothing is looked at ahead of that -/
section
variable {Γ Γ1 Γ2 : Env} {x : LD} {xs : List LD} {c : String} {b : Bool} {d : D} {l i : Nat} {io : List Bool}
def kSeq : O → SF → O
  | .nx Γ, g => g Γ
  | o, _ => o
@[simp] theorem sSeq_k (f g : SF) : sSeq f g Γ = kSeq (f Γ) g := by unfold sSeq kSeq; cases f Γ <;> rfl
@[simp] theorem kSeq_nx (g : SF) : kSeq (.nx Γ) g = g Γ := rfl
@[simp] theorem kSeq_rt (g : SF) : kSeq (.rt x Γ) g = .rt x Γ := rfl
@[simp] theorem kSeq_exc (g : SF) : kSeq (.exc c Γ) g = .exc c Γ := rfl
@[simp] theorem kSeq_bk (g : SF) : kSeq (.bk Γ) g = .bk Γ := rfl
@[simp] theorem kSeq_ct (g : SF) : kSeq (.ct Γ) g = .ct Γ := rfl
@[simp] theorem kSeq_bad (g : SF) : kSeq .bad g = .bad := rfl
@[simp] theorem sNil_k : sNil Γ = .nx Γ := rfl
@[simp] theorem sBrk_k : sBrk Γ = .bk Γ := rfl
@[simp] theorem sCnt_k : sCnt Γ = .ct Γ := rfl
@[simp] theorem sRetN_k : sRetN Γ = .rt (2, .non) Γ := rfl
@[simp] theorem sRaise_k : sRaise c Γ = .exc c Γ := rfl
@[simp] theorem sCan_k (ks : List Bool) (f : SF) : sCan ks f Γ = f (canE ks Γ) := rfl
@[simp] theorem sLow_k (A : List Nat) (f : SF) : sLow A f Γ = f (lowE A Γ) := rfl
def kSet : Option Env → O
  | some Γ => .nx Γ
  | none => .bad
@[simp] theorem kSet_some : kSet (some Γ) = .nx Γ := rfl
@[simp] theorem kSet_none : kSet none = .bad := rfl
def kAsg : R LD → BF → O
  | .ok x Γ, bd => kSet (bd x Γ)
  | .exc c Γ, _ => .exc c Γ
  | .bad, _ => .bad
@[simp] theorem sAsg_k (f : EF) (bd : BF) : sAsg f bd Γ = kAsg (f Γ) bd := by
  unfold sAsg kAsg kSet
  cases f Γ <;> rfl
@[simp] theorem kAsg_ok (bd : BF) : kAsg (.ok x Γ) bd = kSet (bd x Γ) := rfl
@[simp] theorem kAsg_exc (bd : BF) : kAsg (.exc c Γ) bd = .exc c Γ := rfl
@[simp] theorem kAsg_bad (bd : BF) : kAsg .bad bd = .bad := rfl
@[simp] theorem bName_k : bName i x Γ = if i < Γ.length then some (Γ.set i (some (x.1 % 10, x.2))) else none := rfl
@[simp] theorem bUn_tup (is : List Nat) (ds : List D) : bUn is (l, .tup ds) Γ = bNs is (ds.map fun d => (if 2 ≤ l % 10 then 2 else 0, d)) Γ := rfl
@[simp] theorem bUn_lst (is : List Nat) (ds : List D) : bUn is (l, .lst ds) Γ = bNs is (ds.map fun d => (if 2 ≤ l % 10 then 2 else 0, d)) Γ := rfl
def kRet : R LD → O
  | .ok x Γ => .rt x Γ
  | .exc c Γ => .exc c Γ
  | .bad => .bad
@[simp] theorem sRet_k (f : EF) : sRet f Γ = kRet (f Γ) := by unfold sRet kRet; cases f Γ <;> rfl
@[simp] theorem kRet_ok : kRet (.ok x Γ) = .rt x Γ := rfl
@[simp] theorem kRet_exc : kRet (.exc c Γ) = .exc c Γ := rfl
@[simp] theorem kRet_bad : kRet .bad = .bad := rfl
def kExp : R LD → O
  | .ok _ Γ => .nx Γ
  | .exc c Γ => .exc c Γ
  | .bad => .bad
@[simp] theorem sExpr_k (f : EF) : sExpr f Γ = kExp (f Γ) := by unfold sExpr kExp; cases f Γ <;> rfl
@[simp] theorem kExp_ok : kExp (.ok x Γ) = .nx Γ := rfl
@[simp] theorem kExp_exc : kExp (.exc c Γ) = .exc c Γ := rfl
@[simp] theorem kExp_bad : kExp .bad = .bad := rfl
@[simp] theorem sPut_k (G : List LD → FR) (fv : EF) (fk : EF) : sPut G fv i fk Γ = kExp (eCall G [.inr fv, .inl i, .inr fk] Γ) := sExpr_k _
def kIf : R Bool → SF → SF → O
  | .ok b Γ, f, g => if b = true then f Γ else g Γ
  | .exc c Γ, _, _ => .exc c Γ
  | .bad, _, _ => .bad
@[simp] theorem sIf_k (t : EB) (f g : SF) : sIf t f g Γ = kIf (t Γ) f g := by
  unfold sIf
  rcases t Γ with ⟨_ | _, Γ'⟩ | ⟨c, Γ'⟩ | _ <;> rfl
@[simp] theorem kIf_ok (f g : SF) : kIf (.ok b Γ) f g = if b = true then f Γ else g Γ := rfl
@[simp] theorem kIf_exc (f g : SF) : kIf (.exc c Γ) f g = .exc c Γ := rfl
@[simp] theorem kIf_bad (f g : SF) : kIf .bad f g = .bad := rfl
/-! pure -/
@[simp] theorem pC_k : pC d Γ = .ok (2, d) := rfl
def kVar : Option (Option LD) → P LD
  | some (some (_, d)) => .ok (0, d)
  | _ => .bad
@[simp] theorem pVar_k : pVar i Γ = kVar Γ[i]? := by unfold pVar kVar; rfl
@[simp] theorem kVar_some : kVar (some (some (l, d))) = .ok (0, d) := rfl
def kMov (i : Nat) (Γ : Env) : Option (Option LD) → R LD
  | some (some (l, d)) => .ok (l % 10, d) (Γ.set i none)
  | _ => .bad
@[simp] theorem eMove_k : eMove i Γ = kMov i Γ Γ[i]? := by unfold eMove kMov; rfl
@[simp] theorem kMov_some : kMov i Γ (some (some (l, d))) = .ok (l % 10, d) (Γ.set i none) := rfl
def kTo (A : List Nat) (Γ : Env) : P LD → R LD
  | .ok (l, d) => .ok (l, d) (if 2 ≤ l % 10 ∨ d.imm = true then Γ else lowE A Γ)
  | .exc c => .exc c Γ
  | .bad => .bad
@[simp] theorem toE_k (A : List Nat) (f : PF) : toE A f Γ = kTo A Γ (f Γ) := by unfold toE kTo; rfl
@[simp] theorem kTo_ok (A : List Nat) : kTo A Γ (.ok (l, d)) = .ok (l, d) (if 2 ≤ l % 10 ∨ d.imm = true then Γ else lowE A Γ) := rfl
@[simp] theorem kTo_exc (A : List Nat) : kTo A Γ (.exc c) = .exc c Γ := rfl
@[simp] theorem kTo_bad (A : List Nat) : kTo A Γ .bad = .bad := rfl
def kCons : P LD → P (List LD) → P (List LD)
  | .ok x, .ok xs => .ok (x :: xs)
  | .ok _, .exc c => .exc c
  | .ok _, .bad => .bad
  | .exc c, _ => .exc c
  | .bad, _ => .bad
@[simp] theorem evP_nil : evP [] Γ = .ok [] := rfl
@[simp] theorem evP_k (f : PF) (fs : List PF) : evP (f :: fs) Γ = kCons (f Γ) (evP fs Γ) := by
  rw [evP]
  cases f Γ <;> cases evP fs Γ <;> rfl
@[simp] theorem kCons_ok : kCons (.ok x) (.ok xs) = .ok (x :: xs) := rfl
@[simp] theorem kCons_exc (q : P (List LD)) : kCons (.exc c) q = .exc c := rfl
@[simp] theorem kCons_exc2 : kCons (.ok x) (.exc c) = .exc c := rfl
def kGet : Option LD → P LD
  | some x => .ok x
  | none => .bad
@[simp] theorem kGet_some : kGet (some x) = .ok x := rfl
@[simp] theorem kGet_none : kGet none = .bad := rfl
def kAp : P (List LD) → (List LD → Option LD) → P LD
  | .ok xs, g => kGet (g xs)
  | .exc c, _ => .exc c
  | .bad, _ => .bad
@[simp] theorem pApp_k (g : List LD → Option LD) (fs : List PF) : pApp g fs Γ = kAp (evP fs Γ) g := by
  unfold pApp kAp gP kGet
  cases evP fs Γ <;> rfl
@[simp] theorem kAp_ok (g : List LD → Option LD) : kAp (.ok xs) g = kGet (g xs) := rfl
@[simp] theorem kAp_exc (g : List LD → Option LD) : kAp (.exc c) g = .exc c := rfl
def kFR : FR → P LD
  | .ret x _ => .ok x
  | .exc c _ => .exc c
  | .bad => .bad
@[simp] theorem kFR_ret (fs : List LD) : kFR (.ret x fs) = .ok x := rfl
@[simp] theorem kFR_exc (fs : List LD) : kFR (.exc c fs) = .exc c := rfl
def kCl : P (List LD) → (List LD → FR) → P LD
  | .ok xs, F => kFR (F xs)
  | .exc c, _ => .exc c
  | .bad, _ => .bad
@[simp] theorem pCall_k (F : List LD → FR) (fs : List PF) : pCall F fs Γ = kCl (evP fs Γ) F := by
  unfold pCall kCl kFR
  cases evP fs Γ <;> rfl
@[simp] theorem kCl_ok (F : List LD → FR) : kCl (.ok xs) F = kFR (F xs) := rfl
@[simp] theorem kCl_exc (F : List LD → FR) : kCl (.exc c) F = .exc c := rfl
def kInt : P LD → P LD
  | .ok (l, .int i) => .ok (l, .int i)
  | .exc c => .exc c
  | _ => .bad
@[simp] theorem pI_k (f : PF) : pI f Γ = kInt (f Γ) := by unfold pI kInt; rfl
@[simp] theorem kInt_ok (i : Int) : kInt (.ok (l, .int i)) = .ok (l, .int i) := rfl
def kIntE : R LD → R LD
  | .ok (l, .int i) Γ => .ok (l, .int i) Γ
  | .exc c Γ => .exc c Γ
  | _ => .bad
@[simp] theorem eI_k (f : EF) : eI f Γ = kIntE (f Γ) := by unfold eI kIntE; rfl
@[simp] theorem kIntE_ok (i : Int) : kIntE (.ok (l, .int i) Γ) = .ok (l, .int i) Γ := rfl
/-! with effects -/
def kHd : LD → R (List LD) → R (List LD)
  | x, .ok xs Γ => .ok (x :: xs) Γ
  | _, .exc c Γ => .exc c Γ
  | _, .bad => .bad
@[simp] theorem kHd_ok : kHd x (.ok xs Γ) = .ok (x :: xs) Γ := rfl
@[simp] theorem kHd_exc : kHd x (.exc c Γ) = .exc c Γ := rfl
def kEv : R LD → List EF → R (List LD)
  | .ok x Γ, fs => kHd x (evE fs Γ)
  | .exc c Γ, _ => .exc c Γ
  | .bad, _ => .bad
@[simp] theorem evE_nil : evE [] Γ = .ok [] Γ := rfl
@[simp] theorem evE_k (f : EF) (fs : List EF) : evE (f :: fs) Γ = kEv (f Γ) fs := by
  rw [evE]
  unfold kEv
  cases f Γ with
  | ok x Γ1 => dsimp only; cases evE fs Γ1 <;> rfl
  | exc c Γ1 => rfl
  | bad => rfl
@[simp] theorem kEv_ok (fs : List EF) : kEv (.ok x Γ) fs = kHd x (evE fs Γ) := rfl
@[simp] theorem kEv_exc (fs : List EF) : kEv (.exc c Γ) fs = .exc c Γ := rfl
def kGetE (Γ : Env) : Option LD → R LD
  | some x => .ok x Γ
  | none => .bad
@[simp] theorem kGetE_some : kGetE Γ (some x) = .ok x Γ := rfl
def kApE : R (List LD) → (List LD → Option LD) → R LD
  | .ok xs Γ, g => kGetE Γ (g xs)
  | .exc c Γ, _ => .exc c Γ
  | .bad, _ => .bad
@[simp] theorem eApp_k (g : List LD → Option LD) (fs : List EF) : eApp g fs Γ = kApE (evE fs Γ) g := by
  unfold eApp kApE kGetE
  cases evE fs Γ <;> rfl
@[simp] theorem kApE_ok (g : List LD → Option LD) : kApE (.ok xs Γ) g = kGetE Γ (g xs) := rfl
@[simp] theorem kApE_exc (g : List LD → Option LD) : kApE (.exc c Γ) g = .exc c Γ := rfl
def kEvA : R LD → List AE → R (List LD)
  | .ok x Γ, as => kHd x (evA as Γ)
  | .exc c Γ, _ => .exc c Γ
  | .bad, _ => .bad
@[simp] theorem evA_nil : evA [] Γ = .ok [] Γ := rfl
@[simp] theorem evA_r (f : EF) (as : List AE) : evA (.inr f :: as) Γ = kEvA (f Γ) as := by
  rw [evA]
  unfold kEvA
  cases f Γ with
  | ok x Γ1 => dsimp only; cases evA as Γ1 <;> rfl
  | exc c Γ1 => rfl
  | bad => rfl
@[simp] theorem kEvA_ok (as : List AE) : kEvA (.ok x Γ) as = kHd x (evA as Γ) := rfl
@[simp] theorem kEvA_exc (as : List AE) : kEvA (.exc c Γ) as = .exc c Γ := rfl
def kEvL (as : List AE) (Γ : Env) : Option (Option LD) → R (List LD)
  | some (some _) => evA as Γ
  | _ => .bad
@[simp] theorem evA_l (as : List AE) : evA (.inl i :: as) Γ = kEvL as Γ Γ[i]? := by rw [evA]; unfold kEvL; rfl
@[simp] theorem kEvL_some (as : List AE) : kEvL as Γ (some (some x)) = evA as Γ := rfl
def kFin (ps : List (Nat × Nat)) (Γ : Env) : FR → R LD
  | .ret x fin => if fin.length = ps.length then .ok x (ptA ps fin Γ) else .bad
  | .exc c fin => if fin.length = ps.length then .exc c (ptA ps fin Γ) else .bad
  | .bad => .bad
@[simp] theorem kFin_ret (ps : List (Nat × Nat)) (fin : List LD) : kFin ps Γ (.ret x fin) = if fin.length = ps.length then .ok x (ptA ps fin Γ) else .bad := rfl
@[simp] theorem kFin_exc (ps : List (Nat × Nat)) (fin : List LD) : kFin ps Γ (.exc c fin) = if fin.length = ps.length then .exc c (ptA ps fin Γ) else .bad := rfl
def kTk (F : List LD → FR) : Option (List LD × List (Nat × Nat) × Env) → R LD
  | some (ys, ps, Γ1) => kFin ps Γ1 (F ys)
  | none => .bad
@[simp] theorem kTk_some (F : List LD → FR) (ps : List (Nat × Nat)) : kTk F (some (xs, ps, Γ)) = kFin ps Γ (F xs) := rfl
@[simp] theorem eCallR_k (F : List LD → FR) (as : List AE) : eCallR F as xs Γ = kTk F (tkA as xs Γ) := by
  unfold eCallR kTk kFin
  rfl
def kCallE : R (List LD) → (List LD → FR) → List AE → R LD
  | .ok xs Γ, F, as => eCallR F as xs Γ
  | .exc c Γ, _, _ => .exc c Γ
  | .bad, _, _ => .bad
@[simp] theorem eCall_k (F : List LD → FR) (as : List AE) : eCall F as Γ = kCallE (evA as Γ) F as := by
  unfold eCall kCallE
  cases evA as Γ <;> rfl
@[simp] theorem kCallE_ok (F : List LD → FR) (as : List AE) : kCallE (.ok xs Γ) F as = eCallR F as xs Γ := rfl
@[simp] theorem kCallE_exc (F : List LD → FR) (as : List AE) : kCallE (.exc c Γ) F as = .exc c Γ := rfl
def kMeth (T : String) (G : List LD → FR) (i : Nat) (as : List AE) (Γ : Env) : Option (Option LD) → R LD
  | some (some (_, d)) => if d.ty == T then eCall G (.inl i :: as) Γ else .bad
  | _ => .bad
@[simp] theorem eMeth_k (T : String) (G : List LD → FR) (as : List AE) : eMeth T G i as Γ = kMeth T G i as Γ Γ[i]? := by unfold eMeth kMeth; rfl
@[simp] theorem kMeth_some (T : String) (G : List LD → FR) (as : List AE) : kMeth T G i as Γ (some (some (l, d))) = if d.ty == T then eCall G (.inl i :: as) Γ else .bad := rfl
/-! tests -/
def kPB : P LD → P Bool
  | .ok (_, .bl b) => .ok b
  | .exc c => .exc c
  | _ => .bad
@[simp] theorem pB_k (f : PF) : pB f Γ = kPB (f Γ) := by unfold pB kPB; rfl
@[simp] theorem kPB_ok : kPB (.ok (l, .bl b)) = .ok b := rfl
@[simp] theorem kPB_exc : kPB (.exc c) = .exc c := rfl
def kEB : R LD → R Bool
  | .ok (_, .bl b) Γ => .ok b Γ
  | .exc c Γ => .exc c Γ
  | _ => .bad
@[simp] theorem eB_k (f : EF) : eB f Γ = kEB (f Γ) := by unfold eB kEB; rfl
@[simp] theorem kEB_ok : kEB (.ok (l, .bl b) Γ) = .ok b Γ := rfl
@[simp] theorem kEB_exc : kEB (.exc c Γ) = .exc c Γ := rfl
def kTB (Γ : Env) : P Bool → R Bool
  | .ok b => .ok b Γ
  | .exc c => .exc c Γ
  | .bad => .bad
@[simp] theorem toEB_k (f : PB) : toEB f Γ = kTB Γ (f Γ) := by unfold toEB kTB; rfl
@[simp] theorem kTB_ok : kTB Γ (.ok b) = .ok b Γ := rfl
@[simp] theorem kTB_exc : kTB Γ (.exc c) = .exc c Γ := rfl
def kAnd (g : PB) (Γ : Env) : P Bool → P Bool
  | .ok b => if b = true then g Γ else .ok false
  | .exc c => .exc c
  | .bad => .bad
@[simp] theorem bAndP_k (f g : PB) : bAndP f g Γ = kAnd g Γ (f Γ) := by
  unfold bAndP kAnd
  rcases f Γ with ⟨_ | _⟩ | c | _ <;> rfl
@[simp] theorem kAnd_ok (g : PB) : kAnd g Γ (.ok b) = if b = true then g Γ else .ok false := rfl
def kOr (g : PB) (Γ : Env) : P Bool → P Bool
  | .ok b => if b = true then .ok true else g Γ
  | .exc c => .exc c
  | .bad => .bad
@[simp] theorem bOrP_k (f g : PB) : bOrP f g Γ = kOr g Γ (f Γ) := by
  unfold bOrP kOr
  rcases f Γ with ⟨_ | _⟩ | c | _ <;> rfl
@[simp] theorem kOr_ok (g : PB) : kOr g Γ (.ok b) = if b = true then .ok true else g Γ := rfl
def kNot : P Bool → P Bool
  | .ok b => .ok (!b)
  | x => x
@[simp] theorem bNotP_k (f : PB) : bNotP f Γ = kNot (f Γ) := by unfold bNotP kNot; rfl
@[simp] theorem kNot_ok : kNot (.ok b) = .ok (!b) := rfl
def kAndE (g : EB) : R Bool → R Bool
  | .ok b Γ => if b = true then g Γ else .ok false Γ
  | .exc c Γ => .exc c Γ
  | .bad => .bad
@[simp] theorem bAndE_k (f g : EB) : bAndE f g Γ = kAndE g (f Γ) := by
  unfold bAndE kAndE
  rcases f Γ with ⟨_ | _, Γ'⟩ | ⟨c, Γ'⟩ | _ <;> rfl
@[simp] theorem kAndE_ok (g : EB) : kAndE g (.ok b Γ) = if b = true then g Γ else .ok false Γ := rfl
def kOrE (g : EB) : R Bool → R Bool
  | .ok b Γ => if b = true then .ok true Γ else g Γ
  | .exc c Γ => .exc c Γ
  | .bad => .bad
@[simp] theorem bOrE_k (f g : EB) : bOrE f g Γ = kOrE g (f Γ) := by
  unfold bOrE kOrE
  rcases f Γ with ⟨_ | _, Γ'⟩ | ⟨c, Γ'⟩ | _ <;> rfl
@[simp] theorem kOrE_ok (g : EB) : kOrE g (.ok b Γ) = if b = true then .ok true Γ else g Γ := rfl
def kNotE : R Bool → R Bool
  | .ok b Γ => .ok (!b) Γ
  | x => x
@[simp] theorem bNotE_k (f : EB) : bNotE f Γ = kNotE (f Γ) := by unfold bNotE kNotE; rfl
@[simp] theorem kNotE_ok : kNotE (.ok b Γ) = .ok (!b) Γ := rfl
def kAndV (g : PF) (Γ : Env) : P LD → P LD
  | .ok (_, .bl b) => if b = true then g Γ else .ok (2, .bl false)
  | .exc c => .exc c
  | _ => .bad
@[simp] theorem pAnd_k (f g : PF) : pAnd f g Γ = kAndV g Γ (f Γ) := by
  unfold pAnd kAndV
  rcases f Γ with ⟨l, _ | ⟨_ | _⟩ | _ | _ | _ | _ | _ | _⟩ | c | _ <;> rfl
@[simp] theorem kAndV_ok (g : PF) : kAndV g Γ (.ok (l, .bl b)) = if b = true then g Γ else .ok (2, .bl false) := rfl
def kOrV (g : PF) (Γ : Env) : P LD → P LD
  | .ok (_, .bl b) => if b = true then .ok (2, .bl true) else g Γ
  | .exc c => .exc c
  | _ => .bad
@[simp] theorem pOr_k (f g : PF) : pOr f g Γ = kOrV g Γ (f Γ) := by
  unfold pOr kOrV
  rcases f Γ with ⟨l, _ | ⟨_ | _⟩ | _ | _ | _ | _ | _ | _⟩ | c | _ <;> rfl
@[simp] theorem kOrV_ok (g : PF) : kOrV g Γ (.ok (l, .bl b)) = if b = true then .ok (2, .bl true) else g Γ := rfl
def kNotV : P LD → P LD
  | .ok (_, .bl b) => .ok (2, .bl (!b))
  | .exc c => .exc c
  | _ => .bad
@[simp] theorem pNot_k (f : PF) : pNot f Γ = kNotV (f Γ) := by unfold pNot kNotV; rfl
@[simp] theorem kNotV_ok : kNotV (.ok (l, .bl b)) = .ok (2, .bl (!b)) := rfl
def kNotW : R LD → R LD
  | .ok (_, .bl b) Γ => .ok (2, .bl (!b)) Γ
  | .exc c Γ => .exc c Γ
  | _ => .bad
@[simp] theorem eNot_k (f : EF) : eNot f Γ = kNotW (f Γ) := by unfold eNot kNotW; rfl
@[simp] theorem kNotW_ok : kNotW (.ok (l, .bl b) Γ) = .ok (2, .bl (!b)) Γ := rfl
def kIfV (f g : PF) (Γ : Env) : P Bool → P LD
  | .ok b => if b = true then f Γ else g Γ
  | .exc c => .exc c
  | .bad => .bad
@[simp] theorem pIf_k (t : PB) (f g : PF) : pIf t f g Γ = kIfV f g Γ (t Γ) := by
  unfold pIf kIfV
  rcases t Γ with ⟨_ | _⟩ | c | _ <;> rfl
@[simp] theorem kIfV_ok (f g : PF) : kIfV f g Γ (.ok b) = if b = true then f Γ else g Γ := rfl
def kAndW (g : EF) : R LD → R LD
  | .ok (_, .bl b) Γ => if b = true then g Γ else .ok (2, .bl false) Γ
  | .exc c Γ => .exc c Γ
  | _ => .bad
@[simp] theorem eAnd_k (f g : EF) : eAnd f g Γ = kAndW g (f Γ) := by
  unfold eAnd kAndW
  rcases f Γ with ⟨⟨l, _ | ⟨_ | _⟩ | _ | _ | _ | _ | _ | _⟩, Γ'⟩ | ⟨c, Γ'⟩ | _ <;> rfl
@[simp] theorem kAndW_ok (g : EF) : kAndW g (.ok (l, .bl b) Γ) = if b = true then g Γ else .ok (2, .bl false) Γ := rfl
def kOrW (g : EF) : R LD → R LD
  | .ok (_, .bl b) Γ => if b = true then .ok (2, .bl true) Γ else g Γ
  | .exc c Γ => .exc c Γ
  | _ => .bad
@[simp] theorem eOr_k (f g : EF) : eOr f g Γ = kOrW g (f Γ) := by
  unfold eOr kOrW
  rcases f Γ with ⟨⟨l, _ | ⟨_ | _⟩ | _ | _ | _ | _ | _ | _⟩, Γ'⟩ | ⟨c, Γ'⟩ | _ <;> rfl
@[simp] theorem kOrW_ok (g : EF) : kOrW g (.ok (l, .bl b) Γ) = if b = true then .ok (2, .bl true) Γ else g Γ := rfl
def kIfW (f g : EF) : R Bool → R LD
  | .ok b Γ => if b = true then f Γ else g Γ
  | .exc c Γ => .exc c Γ
  | .bad => .bad
@[simp] theorem eIf_k (t : EB) (f g : EF) : eIf t f g Γ = kIfW f g (t Γ) := by
  unfold eIf kIfW
  rcases t Γ with ⟨_ | _, Γ'⟩ | ⟨c, Γ'⟩ | _ <;> rfl
@[simp] theorem kIfW_ok (f g : EF) : kIfW f g (.ok b Γ) = if b = true then f Γ else g Γ := rfl
def kCh (k k' : Int → Int → Bool) (g h : PF) (Γ : Env) : P LD → P LD
  | .ok (_, .int i) => (match g Γ with
    | .ok (_, .int j) => if k i j then (match h Γ with
      | .ok (_, .int m) => .ok (2, .bl (k' j m))
      | .exc c => .exc c
      | _ => .bad) else .ok (2, .bl false)
    | .exc c => .exc c
    | _ => .bad)
  | .exc c => .exc c
  | _ => .bad
@[simp] theorem pChain_k (k k' : Int → Int → Bool) (f g h : PF) : pChain k k' f g h Γ = kCh k k' g h Γ (f Γ) := by unfold pChain kCh; rfl
@[simp] theorem kCh_ok (k k' : Int → Int → Bool) (g h : PF) (i : Int) : kCh k k' g h Γ (.ok (l, .int i)) = (match g Γ with
    | .ok (_, .int j) => if k i j then (match h Γ with
      | .ok (_, .int m) => .ok (2, .bl (k' j m))
      | .exc c => .exc c
      | _ => .bad) else .ok (2, .bl false)
    | .exc c => .exc c
    | _ => .bad) := rfl
/-! comprehensions, loops -/
@[simp] theorem ebT_k : ebT Γ = .ok true Γ := rfl
@[simp] theorem pbT_k : pbT Γ = .ok true := rfl
def kSrcG (Γ : Env) : Option (List D) → R (List LD)
  | some ds => .ok (ds.map fun d => (0, d)) Γ
  | none => .bad
@[simp] theorem kSrcG_some (ds : List D) : kSrcG Γ (some ds) = .ok (ds.map fun d => (0, d)) Γ := rfl
def kSrc : R (List LD) → (List LD → Option (List D)) → R (List LD)
  | .ok xs Γ, g => kSrcG Γ (g xs)
  | .exc c Γ, _ => .exc c Γ
  | .bad, _ => .bad
@[simp] theorem srcE_k (g : List LD → Option (List D)) (fs : List EF) : srcE g fs Γ = kSrc (evE fs Γ) g := by
  unfold srcE kSrc kSrcG
  cases evE fs Γ <;> rfl
@[simp] theorem kSrc_ok (g : List LD → Option (List D)) : kSrc (.ok xs Γ) g = kSrcG Γ (g xs) := rfl
def kKeep : P LD → Option (Option D)
  | .ok (l, d) => if 2 ≤ l % 10 ∨ d.imm = true then some (some d) else none
  | _ => none
@[simp] theorem keepD_k (p : P LD) : keepD p = kKeep p := by unfold keepD kKeep; rfl
@[simp] theorem kKeep_ok : kKeep (.ok (l, d)) = if 2 ≤ l % 10 ∨ d.imm = true then some (some d) else none := rfl
def kT2 (f : PF) (Γ : Env) : P Bool → Option (Option D)
  | .ok b => if b = true then keepD (f Γ) else some none
  | _ => none
@[simp] theorem kT2_ok (f : PF) : kT2 f Γ (.ok b) = if b = true then keepD (f Γ) else some none := rfl
def kT (t : PB) (f : PF) : Option Env → Option (Option D)
  | some Γ => kT2 f Γ (t Γ)
  | none => none
@[simp] theorem kT_some (t : PB) (f : PF) : kT t f (some Γ) = kT2 f Γ (t Γ) := rfl
@[simp] theorem turnP_k (bd : BF) (t : PB) (f : PF) : turnP bd t f Γ x = kT t f (bd x Γ) := by
  unfold turnP kT
  cases bd x Γ with
  | none => rfl
  | some Γ1 => dsimp only; unfold kT2; cases t Γ1 <;> rfl
def kLcP (bd : BF) (t : PB) (f : PF) (vs : List Nat) : R (List LD) → R LD
  | .ok xs Γ1 => if szOk xs.length then lcEnd Γ1 (clr Γ1 vs) vs (colM (turnP bd t f (clr Γ1 vs)) xs) else .bad
  | .exc c Γ1 => .exc c Γ1
  | .bad => .bad
@[simp] theorem eLcP_k (src : IF') (bd : BF) (t : PB) (f : PF) (vs : List Nat) : eLcP src bd t f vs Γ = kLcP bd t f vs (src Γ) := by unfold eLcP kLcP; rfl
@[simp] theorem kLcP_ok (bd : BF) (t : PB) (f : PF) (vs : List Nat) : kLcP bd t f vs (.ok xs Γ) = if szOk xs.length then lcEnd Γ (clr Γ vs) vs (colM (turnP bd t f (clr Γ vs)) xs) else .bad := rfl
@[simp] theorem kLcP_exc (bd : BF) (t : PB) (f : PF) (vs : List Nat) : kLcP bd t f vs (.exc c Γ) = .exc c Γ := rfl
@[simp] theorem lcEnd_some (vs : List Nat) (ds : List D) : lcEnd Γ Γ1 vs (some ds) = .ok (2, .lst ds) (bakE Γ Γ1 vs) := rfl
open Classical in
noncomputable def kE2 (f : EF) (vs : List Nat) (Γ : Env) : R Bool → Option (Option D)
  | .ok b Γ2 => if b = true then keepE vs Γ (f Γ2) else (if clr Γ2 vs = Γ then some none else none)
  | _ => none
open Classical in
@[simp] theorem kE2_ok (f : EF) (vs : List Nat) : kE2 f vs Γ (.ok b Γ1) = if b = true then keepE vs Γ (f Γ1) else (if clr Γ1 vs = Γ then some none else none) := rfl
noncomputable def kE1 (t : EB) (f : EF) (vs : List Nat) (Γ : Env) : Option Env → Option (Option D)
  | some Γ1 => kE2 f vs Γ (t Γ1)
  | none => none
@[simp] theorem kE1_some (t : EB) (f : EF) (vs : List Nat) : kE1 t f vs Γ (some Γ1) = kE2 f vs Γ (t Γ1) := rfl
@[simp] theorem turnE_k (bd : BF) (t : EB) (f : EF) (vs : List Nat) : turnE bd t f vs Γ x = kE1 t f vs Γ (bd x Γ) := by
  unfold turnE kE1
  cases bd x Γ with
  | none => rfl
  | some Γ1 => dsimp only; unfold kE2; cases t Γ1 <;> rfl
open Classical in
@[simp] theorem keepE_ok (vs : List Nat) : keepE vs Γ (.ok (l, d) Γ1) = if 2 ≤ l % 10 ∨ d.imm = true then (if clr Γ1 vs = Γ then some (some d) else none) else none := rfl
noncomputable def kLcE (bd : BF) (t : EB) (f : EF) (vs : List Nat) : R (List LD) → R LD
  | .ok xs Γ1 => if szOk xs.length then lcEnd Γ1 (clr Γ1 vs) vs (colM (turnE bd t f vs (clr Γ1 vs)) xs) else .bad
  | .exc c Γ1 => .exc c Γ1
  | .bad => .bad
@[simp] theorem eLcE_k (src : IF') (bd : BF) (t : EB) (f : EF) (vs : List Nat) : eLcE src bd t f vs Γ = kLcE bd t f vs (src Γ) := by unfold eLcE kLcE; rfl
@[simp] theorem kLcE_ok (bd : BF) (t : EB) (f : EF) (vs : List Nat) : kLcE bd t f vs (.ok xs Γ) = if szOk xs.length then lcEnd Γ (clr Γ vs) vs (colM (turnE bd t f vs (clr Γ vs)) xs) else .bad := rfl
def kLe (Γ : Env) (vs : List Nat) : R LD → R LD
  | .ok x Γ2 => .ok x (bakE Γ Γ2 vs)
  | _ => .bad
@[simp] theorem kLe_ok (vs : List Nat) : kLe Γ vs (.ok x Γ1) = .ok x (bakE Γ Γ1 vs) := rfl
def kLc (bd : BF) (t : EB) (f : EF) (vs : List Nat) : R (List LD) → R LD
  | .ok xs Γ1 => if szOk xs.length then kLe Γ1 vs (lcL bd t f vs xs true [] (clr Γ1 vs)) else .bad
  | .exc c Γ1 => .exc c Γ1
  | .bad => .bad
@[simp] theorem eLc_k (src : IF') (bd : BF) (t : EB) (f : EF) (vs : List Nat) : eLc src bd t f vs Γ = kLc bd t f vs (src Γ) := by
  unfold eLc kLc
  cases src Γ with
  | ok xs Γ1 => dsimp only; unfold kLe; cases lcL bd t f vs xs true [] (clr Γ1 vs) <;> rfl
  | exc c Γ1 => rfl
  | bad => rfl
@[simp] theorem kLc_ok (bd : BF) (t : EB) (f : EF) (vs : List Nat) : kLc bd t f vs (.ok xs Γ) = if szOk xs.length then kLe Γ vs (lcL bd t f vs xs true [] (clr Γ vs)) else .bad := rfl
def kFor (bd : BF) (f : SF) : R (List LD) → O
  | .ok xs Γ => forL bd f xs Γ
  | .exc c Γ => .exc c Γ
  | .bad => .bad
@[simp] theorem sFor_k (src : IF') (bd : BF) (f : SF) : sFor src bd f Γ = kFor bd f (src Γ) := by unfold sFor kFor; rfl
@[simp] theorem kFor_ok (bd : BF) (f : SF) : kFor bd f (.ok xs Γ) = forL bd f xs Γ := rfl
@[simp] theorem kFor_exc (bd : BF) (f : SF) : kFor bd f (.exc c Γ) = .exc c Γ := rfl
/-! the end of a def -/
def kOutN : Option (List LD) → FR
  | some fs => .ret (2, .non) fs
  | none => .bad
def kOutR (x : LD) : Option (List LD) → FR
  | some fs => .ret x fs
  | none => .bad
def kOutX (c : String) : Option (List LD) → FR
  | some fs => .exc c fs
  | none => .bad
@[simp] theorem kOutN_s (fs : List LD) : kOutN (some fs) = .ret (2, .non) fs := rfl
@[simp] theorem kOutR_s (fs : List LD) : kOutR x (some fs) = .ret x fs := rfl
@[simp] theorem kOutX_s (fs : List LD) : kOutX c (some fs) = .exc c fs := rfl
@[simp] theorem out_nx : outF io (.nx Γ) = kOutN (finS io Γ) := rfl
@[simp] theorem out_rt : outF io (.rt x Γ) = kOutR x (finS io Γ) := rfl
@[simp] theorem out_exc : outF io (.exc c Γ) = kOutX c (finS io Γ) := rfl
theorem sAug_k (k : Int → Int → Bool) (f : Int → Int → Int) (h : EF) : sAug i k f h Γ = (match Γ[i]? with
  | some (some (_, .int a)) => (match h Γ with
    | .ok (_, .int b) Γ' => if k a b && decide (i < Γ'.length) then .nx (Γ'.set i (some (2, .int (f a b)))) else .bad
    | .exc x Γ' => .exc x Γ'
    | _ => .bad)
  | _ => .bad) := rfl
theorem while_eq (t : EB) (f : SF) (n : Nat) : whileN t f (n + 1) Γ = match t Γ with
    | .ok b Γ' => if b = true then (match f Γ' with
      | .nx Γ2 => whileN t f n Γ2
      | .ct Γ2 => whileN t f n Γ2
      | .bk Γ2 => .nx Γ2
      | o => o) else .nx Γ'
    | .exc c Γ' => .exc c Γ'
    | .bad => .bad := by
  rw [whileN]
  rcases t Γ with ⟨_ | _, Γ'⟩ | ⟨c, Γ'⟩ | _ <;> rfl
end
section
variable {α β : Type}
theorem ixN_len {n : Nat} {i : Int} {j : Nat} (h : ixN n i = some j) : j < n := by
  unfold ixN at h
  by_cases h0 : 0 ≤ i
  · by_cases h1 : i < n
    · simp [mkS, finS, bNs, gL1, gL2, gLL2, fI2, tkA, ptA, GS, GL, fPut, ful, l12, l02, DL.D.mut, DL.D.imm, DL.D.imm.immAll, fdOk, fIx, fMul, fAdd, powOk, gLstL, gTupL, DL.D.ty, lvN, szOk, fLen, fListOf, fTupOf, fSl, gSlN, gSlH, gSlL, gSlB, fIsi, fIsiT, isT, DL.D.tyN, DL.D.isX, fInts, DL.D.seqI, fLenSet, fLR, fLR1, gLR2, rgOk, fDict, fAbs, fInt1, gMax2, gMin2, g1S, g2S, fItems, fR1, fR2, bd62, lowE, clr, bakE, kpE, fApp, fIns, fPop, fPopA, fPopI, fClr, fRev, fExt, allTop, fEq, fNe, fNeg, fIsN, DL.D.isNon, DL.D.key, dGet, canE, nrm, cT, sAug_k, h0, h1] at h; omega
    · simp [mkS, finS, bNs, gL1, gL2, gLL2, fI2, tkA, ptA, GS, GL, fPut, ful, l12, l02, DL.D.mut, DL.D.imm, DL.D.imm.immAll, fdOk, fIx, fMul, fAdd, powOk, gLstL, gTupL, DL.D.ty, lvN, szOk, fLen, fListOf, fTupOf, fSl, gSlN, gSlH, gSlL, gSlB, fIsi, fIsiT, isT, DL.D.tyN, DL.D.isX, fInts, DL.D.seqI, fLenSet, fLR, fLR1, gLR2, rgOk, fDict, fAbs, fInt1, gMax2, gMin2, g1S, g2S, fItems, fR1, fR2, bd62, lowE, clr, bakE, kpE, fApp, fIns, fPop, fPopA, fPopI, fClr, fRev, fExt, allTop, fEq, fNe, fNeg, fIsN, DL.D.isNon, DL.D.key, dGet, canE, nrm, cT, sAug_k, h0, h1] at h
  · by_cases h1 : -(n : Int) ≤ i
    · simp [mkS, finS, bNs, gL1, gL2, gLL2, fI2, tkA, ptA, GS, GL, fPut, ful, l12, l02, DL.D.mut, DL.D.imm, DL.D.imm.immAll, fdOk, fIx, fMul, fAdd, powOk, gLstL, gTupL, DL.D.ty, lvN, szOk, fLen, fListOf, fTupOf, fSl, gSlN, gSlH, gSlL, gSlB, fIsi, fIsiT, isT, DL.D.tyN, DL.D.isX, fInts, DL.D.seqI, fLenSet, fLR, fLR1, gLR2, rgOk, fDict, fAbs, fInt1, gMax2, gMin2, g1S, g2S, fItems, fR1, fR2, bd62, lowE, clr, bakE, kpE, fApp, fIns, fPop, fPopA, fPopI, fClr, fRev, fExt, allTop, fEq, fNe, fNeg, fIsN, DL.D.isNon, DL.D.key, dGet, canE, nrm, cT, sAug_k, h0, h1] at h; omega
    · simp [mkS, finS, bNs, gL1, gL2, gLL2, fI2, tkA, ptA, GS, GL, fPut, ful, l12, l02, DL.D.mut, DL.D.imm, DL.D.imm.immAll, fdOk, fIx, fMul, fAdd, powOk, gLstL, gTupL, DL.D.ty, lvN, szOk, fLen, fListOf, fTupOf, fSl, gSlN, gSlH, gSlL, gSlB, fIsi, fIsiT, isT, DL.D.tyN, DL.D.isX, fInts, DL.D.seqI, fLenSet, fLR, fLR1, gLR2, rgOk, fDict, fAbs, fInt1, gMax2, gMin2, g1S, g2S, fItems, fR1, fR2, bd62, lowE, clr, bakE, kpE, fApp, fIns, fPop, fPopA, fPopI, fClr, fRev, fExt, allTop, fEq, fNe, fNeg, fIsN, DL.D.isNon, DL.D.key, dGet, canE, nrm, cT, sAug_k, h0, h1] at h
@[simp] theorem atI_map (f : α → β) (xs : List α) (i : Int) : atI (xs.map f) i = (atI xs i).map f := by
  unfold atI
  rw [List.length_map]
  cases h : ixN xs.length i with
  | none => rfl
  | some j => simp [mkS, finS, bNs, gL1, gL2, gLL2, fI2, tkA, ptA, GS, GL, fPut, ful, l12, l02, DL.D.mut, DL.D.imm, DL.D.imm.immAll, fdOk, fIx, fMul, fAdd, powOk, gLstL, gTupL, DL.D.ty, lvN, szOk, fLen, fListOf, fTupOf, fSl, gSlN, gSlH, gSlL, gSlB, fIsi, fIsiT, isT, DL.D.tyN, DL.D.isX, fInts, DL.D.seqI, fLenSet, fLR, fLR1, gLR2, rgOk, fDict, fAbs, fInt1, gMax2, gMin2, g1S, g2S, fItems, fR1, fR2, bd62, lowE, clr, bakE, kpE, fApp, fIns, fPop, fPopA, fPopI, fClr, fRev, fExt, allTop, fEq, fNe, fNeg, fIsN, DL.D.isNon, DL.D.key, dGet, canE, nrm, cT, sAug_k]
@[simp] theorem atI_cast (xs : List α) (k : Nat) : atI xs (k : Int) = xs[k]? := by
  unfold atI ixN
  by_cases h : k < xs.length
  · simp [mkS, finS, bNs, gL1, gL2, gLL2, fI2, tkA, ptA, GS, GL, fPut, ful, l12, l02, DL.D.mut, DL.D.imm, DL.D.imm.immAll, fdOk, fIx, fMul, fAdd, powOk, gLstL, gTupL, DL.D.ty, lvN, szOk, fLen, fListOf, fTupOf, fSl, gSlN, gSlH, gSlL, gSlB, fIsi, fIsiT, isT, DL.D.tyN, DL.D.isX, fInts, DL.D.seqI, fLenSet, fLR, fLR1, gLR2, rgOk, fDict, fAbs, fInt1, gMax2, gMin2, g1S, g2S, fItems, fR1, fR2, bd62, lowE, clr, bakE, kpE, fApp, fIns, fPop, fPopA, fPopI, fClr, fRev, fExt, allTop, fEq, fNe, fNeg, fIsN, DL.D.isNon, DL.D.key, dGet, canE, nrm, cT, sAug_k, h]
  · simp [mkS, finS, bNs, gL1, gL2, gLL2, fI2, tkA, ptA, GS, GL, fPut, ful, l12, l02, DL.D.mut, DL.D.imm, DL.D.imm.immAll, fdOk, fIx, fMul, fAdd, powOk, gLstL, gTupL, DL.D.ty, lvN, szOk, fLen, fListOf, fTupOf, fSl, gSlN, gSlH, gSlL, gSlB, fIsi, fIsiT, isT, DL.D.tyN, DL.D.isX, fInts, DL.D.seqI, fLenSet, fLR, fLR1, gLR2, rgOk, fDict, fAbs, fInt1, gMax2, gMin2, g1S, g2S, fItems, fR1, fR2, bd62, lowE, clr, bakE, kpE, fApp, fIns, fPop, fPopA, fPopI, fClr, fRev, fExt, allTop, fEq, fNe, fNeg, fIsN, DL.D.isNon, DL.D.key, dGet, canE, nrm, cT, sAug_k, h]
theorem atI_ok {xs : List α} {i : Int} (h0 : 0 ≤ i) (h1 : i < xs.length) : atI xs i = some (xs[i.toNat]'(by omega)) := by
  have e : atI xs ((i.toNat : Nat) : Int) = some (xs[i.toNat]'(by omega)) := by
    rw [atI_cast]
    exact List.getElem?_eq_getElem (by omega)
  rwa [show ((i.toNat : Nat) : Int) = i by omega] at e
theorem atI_last {xs : List α} (h : xs ≠ []) : atI xs (-1) = some (xs.getLast h) := by
  have hl : 0 < xs.length := List.length_pos_iff.mpr h
  have e : ixN xs.length (-1) = some (xs.length - 1) := by
    unfold ixN
    simp [mkS, finS, bNs, gL1, gL2, gLL2, fI2, tkA, ptA, GS, GL, fPut, ful, l12, l02, DL.D.mut, DL.D.imm, DL.D.imm.immAll, fdOk, fIx, fMul, fAdd, powOk, gLstL, gTupL, DL.D.ty, lvN, szOk, fLen, fListOf, fTupOf, fSl, gSlN, gSlH, gSlL, gSlB, fIsi, fIsiT, isT, DL.D.tyN, DL.D.isX, fInts, DL.D.seqI, fLenSet, fLR, fLR1, gLR2, rgOk, fDict, fAbs, fInt1, gMax2, gMin2, g1S, g2S, fItems, fR1, fR2, bd62, lowE, clr, bakE, kpE, fApp, fIns, fPop, fPopA, fPopI, fClr, fRev, fExt, allTop, fEq, fNe, fNeg, fIsN, DL.D.isNon, DL.D.key, dGet, canE, nrm, cT, sAug_k]
    omega
  unfold atI
  rw [e, List.getLast_eq_getElem, Option.bind_some]
  exact List.getElem?_eq_getElem (by omega)
theorem atI_zero (x : α) (xs : List α) : atI (x :: xs) 0 = some x := by unfold atI ixN; simp [mkS, finS, bNs, gL1, gL2, gLL2, fI2, tkA, ptA, GS, GL, fPut, ful, l12, l02, DL.D.mut, DL.D.imm, DL.D.imm.immAll, fdOk, fIx, fMul, fAdd, powOk, gLstL, gTupL, DL.D.ty, lvN, szOk, fLen, fListOf, fTupOf, fSl, gSlN, gSlH, gSlL, gSlB, fIsi, fIsiT, isT, DL.D.tyN, DL.D.isX, fInts, DL.D.seqI, fLenSet, fLR, fLR1, gLR2, rgOk, fDict, fAbs, fInt1, gMax2, gMin2, g1S, g2S, fItems, fR1, fR2, bd62, lowE, clr, bakE, kpE, fApp, fIns, fPop, fPopA, fPopI, fClr, fRev, fExt, allTop, fEq, fNe, fNeg, fIsN, DL.D.isNon, DL.D.key, dGet, canE, nrm, cT, sAug_k]
@[simp] theorem atI_cons (x : α) (xs : List α) (i : Int) : atI (x :: xs) i = (ixN (x :: xs).length i).bind fun j => (x :: xs)[j]? := rfl
/-- the k-th, or another one -/
def nth (d : α) (a : List α) (k : Nat) : α := a.getD k d
theorem nth_is (a : List α) (d : α) {x : Nat} (h : x < a.length) : nth d a x = a[x] := by
  unfold nth
  rw [List.getD_eq_getElem?_getD, List.getElem?_eq_getElem h]
  rfl
theorem get_lt (a : List α) (d : α) {x : Nat} (h : x < a.length) : a[x]? = some (nth d a x) := by rw [nth_is a d h, List.getElem?_eq_getElem h]
theorem get_range (a : List α) (d : α) (x : Nat) (h : x ∈ List.range a.length) : a[x]? = some (nth d a x) := get_lt a d (List.mem_range.mp h)
theorem nth_mem (a : List α) (d : α) {x : Nat} (h : x < a.length) : nth d a x ∈ a := by rw [nth_is a d h]; exact List.getElem_mem h
theorem atI_nth (a : List α) (d : α) {i : Int} (h0 : 0 ≤ i) (h1 : i < a.length) : atI a i = some (nth d a i.toNat) := by
  rw [atI_ok h0 h1, nth_is a d (by omega)]
end
/-- .. with what is known of each thing: that it is one of them -/
def colMA {α β : Type} : (xs : List α) → ((x : α) → x ∈ xs → Option (Option β)) → Option (List β)
  | [], _ => some []
  | x :: xs, φ => match φ x (List.mem_cons_self ..) with
    | none => none
    | some none => colMA xs fun y hy => φ y (List.mem_cons_of_mem _ hy)
    | some (some y) => match colMA xs fun y hy => φ y (List.mem_cons_of_mem _ hy) with
      | none => none
      | some ys => some (y :: ys)
section
variable {α β γ : Type}
theorem colM_A (φ : α → Option (Option β)) : ∀ xs : List α, colM φ xs = colMA xs fun x _ => φ x
  | [] => rfl
  | x :: xs => by
    rw [colM, colMA, colM_A φ xs]
    all_goals (rcases φ x with _ | _ | y <;> rfl)
@[simp] theorem colMA_nil (φ : (x : α) → x ∈ [] → Option (Option β)) : colMA [] φ = some [] := rfl
@[simp] theorem colMA_map (φ : α → Option (Option β)) (g : γ → α) (xs : List γ) : colMA (xs.map g) (fun x _ => φ x) = colMA xs fun x _ => φ (g x) := by
  rw [← colM_A, ← colM_A, colM_map]
@[simp] theorem colMA_some (h : α → β) (xs : List α) : colMA xs (fun x _ => some (some (h x))) = some (xs.map h) := by
  rw [← colM_A, colM_some]
@[simp] theorem colMA_no (xs : List α) : colMA (β := β) xs (fun x _ => some none) = some [] := by
  rw [← colM_A, colM_no]
@[simp] theorem colMA_if (p : α → Prop) [DecidablePred p] (h : α → β) (xs : List α) : colMA xs (fun x _ => if p x then some (some (h x)) else some none) = some ((xs.filter fun x => decide (p x)).map h) := by
  rw [← colM_A, colM_if]
end
@[simp] theorem mem_sortI {r : List Int} {x : Int} : x ∈ sortI r ↔ x ∈ r := (sortI_perm r).mem_iff
@[simp] theorem sortI_len (r : List Int) : (sortI r).length = r.length := (sortI_perm r).length_eq
theorem lenSet_ok {r : List Int} (hn : r.Nodup) (hl : r.length < 4000) (l : Nat) : fLenSet (l, .lst (r.map .int)) = some (2, .int r.length) := by
  have e : firstMet (fun i => r.getD i 0) r.length = r := by
    rw [L2.firstMet_nodup r hn r.length (Nat.le_refl _), List.take_length]
  unfold fLenSet fInts
  dsimp only [D.seqI]
  rw [dInts_map]
  dsimp only
  rw [if_pos hl, e]
  rfl
/-- how many are less -/
def rk (r : List Int) (x : Int) : Int := ((r.filter fun y => decide (y < x)).length : Nat)
def kdR : Nat → List Int → List (Key × D)
  | _, [] => []
  | k, x :: xs => (.inl x, .int k) :: kdR (k + 1) xs
theorem any_none {acc : List (Key × D)} {x : Key} (h : ∀ p ∈ acc, p.1 ≠ x) : (acc.any fun kv => decide (kv.1 = x)) = false := by
  rw [List.any_eq_false]
  intro p hp
  simpa [mkS, finS, bNs, gL1, gL2, gLL2, fI2, tkA, ptA, GS, GL, fPut, ful, l12, l02, DL.D.mut, DL.D.imm, DL.D.imm.immAll, fdOk, fIx, fMul, fAdd, powOk, gLstL, gTupL, DL.D.ty, lvN, szOk, fLen, fListOf, fTupOf, fSl, gSlN, gSlH, gSlL, gSlB, fIsi, fIsiT, isT, DL.D.tyN, DL.D.isX, fInts, DL.D.seqI, fLenSet, fLR, fLR1, gLR2, rgOk, fDict, fAbs, fInt1, gMax2, gMin2, g1S, g2S, fItems, fR1, fR2, bd62, lowE, clr, bakE, kpE, fApp, fIns, fPop, fPopA, fPopI, fClr, fRev, fExt, allTop, fEq, fNe, fNeg, fIsN, DL.D.isNon, DL.D.key, dGet, canE, nrm, cT, sAug_k, ixN] using h p hp
theorem merge_kd : ∀ (s : List Int) (k : Nat) (acc : List (Key × D)), s.Nodup → (∀ p ∈ acc, ∀ x ∈ s, p.1 ≠ .inl x) → dMerge acc (kdR k s) = acc ++ kdR k s
  | [], k, acc, _, _ => by simp [mkS, finS, bNs, gL1, gL2, gLL2, fI2, tkA, ptA, GS, GL, fPut, ful, l12, l02, DL.D.mut, DL.D.imm, DL.D.imm.immAll, fdOk, fIx, fMul, fAdd, powOk, gLstL, gTupL, DL.D.ty, lvN, szOk, fLen, fListOf, fTupOf, fSl, gSlN, gSlH, gSlL, gSlB, fIsi, fIsiT, isT, DL.D.tyN, DL.D.isX, fInts, DL.D.seqI, fLenSet, fLR, fLR1, gLR2, rgOk, fDict, fAbs, fInt1, gMax2, gMin2, g1S, g2S, fItems, fR1, fR2, bd62, lowE, clr, bakE, kpE, fApp, fIns, fPop, fPopA, fPopI, fClr, fRev, fExt, allTop, fEq, fNe, fNeg, fIsN, DL.D.isNon, DL.D.key, dGet, canE, nrm, cT, sAug_k, ixN, kdR, dMerge]
  | x :: xs, k, acc, hn, h => by
    have hx := List.nodup_cons.mp hn
    have ih := merge_kd xs (k + 1) (acc ++ [(.inl x, .int k)]) hx.2 (fun p hp y hy => by
      rcases List.mem_append.mp hp with hp | hp
      · exact h p hp y (List.mem_cons_of_mem _ hy)
      · rw [List.mem_singleton.mp hp]
        intro e
        cases e
        exact hx.1 hy)
    have e : dPut acc (.inl x) (.int k) = acc ++ [(.inl x, .int k)] := by
      unfold dPut
      rw [any_none fun p hp => h p hp x (List.mem_cons_self ..)]
      rfl
    show dMerge (dPut acc (.inl x) (.int k)) (kdR (k + 1) xs) = _
    rw [e, ih]
    simp [mkS, finS, bNs, gL1, gL2, gLL2, fI2, tkA, ptA, GS, GL, fPut, ful, l12, l02, DL.D.mut, DL.D.imm, DL.D.imm.immAll, fdOk, fIx, fMul, fAdd, powOk, gLstL, gTupL, DL.D.ty, lvN, szOk, fLen, fListOf, fTupOf, fSl, gSlN, gSlH, gSlL, gSlB, fIsi, fIsiT, isT, DL.D.tyN, DL.D.isX, fInts, DL.D.seqI, fLenSet, fLR, fLR1, gLR2, rgOk, fDict, fAbs, fInt1, gMax2, gMin2, g1S, g2S, fItems, fR1, fR2, bd62, lowE, clr, bakE, kpE, fApp, fIns, fPop, fPopA, fPopI, fClr, fRev, fExt, allTop, fEq, fNe, fNeg, fIsN, DL.D.isNon, DL.D.key, dGet, canE, nrm, cT, sAug_k, ixN, kdR]
theorem pairs_kd : ∀ (k : Nat) (s : List Int), dPairs ((s.zipIdx k).map fun x => D.tup [.int x.1, .int x.2]) = some (kdR k s)
  | _, [] => rfl
  | k, x :: xs => by
    have := pairs_kd (k + 1) xs
    simp only [List.zipIdx_cons, List.map_cons, dPairs, D.key, D.imm, if_true]
    rw [this]
    rfl
theorem dict_kd {s : List Int} (hn : s.Nodup) (l : Nat) : fDict (l, .lst (s.zipIdx.map fun x => D.tup [.int x.1, .int x.2])) = some (2, .dk (kdR 0 s)) := by
  unfold fDict
  dsimp only
  rw [pairs_kd, Option.map_some, merge_kd s 0 [] hn fun p hp => nomatch hp]
  rfl
theorem get_kd : ∀ (s : List Int) (k : Nat) (x : Int), s.Pairwise (· < ·) → x ∈ s → dGet (kdR k s) (.inl x) = some (.int ((k : Int) + rk s x))
  | [], _, _, _, h => nomatch h
  | y :: ys, k, x, hs, hx => by
    obtain ⟨h1, h2⟩ := List.pairwise_cons.mp hs
    unfold dGet
    by_cases c : x = y
    · subst c
      have e : (ys.filter fun y => decide (y < x)) = [] := List.filter_eq_nil_iff.mpr fun z hz => by
        have := h1 z hz
        simp [mkS, finS, bNs, gL1, gL2, gLL2, fI2, tkA, ptA, GS, GL, fPut, ful, l12, l02, DL.D.mut, DL.D.imm, DL.D.imm.immAll, fdOk, fIx, fMul, fAdd, powOk, gLstL, gTupL, DL.D.ty, lvN, szOk, fLen, fListOf, fTupOf, fSl, gSlN, gSlH, gSlL, gSlB, fIsi, fIsiT, isT, DL.D.tyN, DL.D.isX, fInts, DL.D.seqI, fLenSet, fLR, fLR1, gLR2, rgOk, fDict, fAbs, fInt1, gMax2, gMin2, g1S, g2S, fItems, fR1, fR2, bd62, lowE, clr, bakE, kpE, fApp, fIns, fPop, fPopA, fPopI, fClr, fRev, fExt, allTop, fEq, fNe, fNeg, fIsN, DL.D.isNon, DL.D.key, dGet, canE, nrm, cT, sAug_k, ixN]
        omega
      simp [mkS, finS, bNs, gL1, gL2, gLL2, fI2, tkA, ptA, GS, GL, fPut, ful, l12, l02, DL.D.mut, DL.D.imm, DL.D.imm.immAll, fdOk, fIx, fMul, fAdd, powOk, gLstL, gTupL, DL.D.ty, lvN, szOk, fLen, fListOf, fTupOf, fSl, gSlN, gSlH, gSlL, gSlB, fIsi, fIsiT, isT, DL.D.tyN, DL.D.isX, fInts, DL.D.seqI, fLenSet, fLR, fLR1, gLR2, rgOk, fDict, fAbs, fInt1, gMax2, gMin2, g1S, g2S, fItems, fR1, fR2, bd62, lowE, clr, bakE, kpE, fApp, fIns, fPop, fPopA, fPopI, fClr, fRev, fExt, allTop, fEq, fNe, fNeg, fIsN, DL.D.isNon, DL.D.key, dGet, canE, nrm, cT, sAug_k, ixN, kdR, rk, List.filter_cons, e]
    · have hx' : x ∈ ys := by
        rcases List.mem_cons.mp hx with h | h
        · exact absurd h c
        · exact h
      have ih := get_kd ys (k + 1) x h2 hx'
      unfold dGet at ih
      have hyx : y < x := h1 x hx'
      have e : decide ((Sum.inl y : Key) = .inl x) = false := by
        rw [decide_eq_false_iff_not]
        intro h
        cases h
        exact c rfl
      simp only [kdR, List.find?_cons, e]
      rw [ih]
      simp [mkS, finS, bNs, gL1, gL2, gLL2, fI2, tkA, ptA, GS, GL, fPut, ful, l12, l02, DL.D.mut, DL.D.imm, DL.D.imm.immAll, fdOk, fIx, fMul, fAdd, powOk, gLstL, gTupL, DL.D.ty, lvN, szOk, fLen, fListOf, fTupOf, fSl, gSlN, gSlH, gSlL, gSlB, fIsi, fIsiT, isT, DL.D.tyN, DL.D.isX, fInts, DL.D.seqI, fLenSet, fLR, fLR1, gLR2, rgOk, fDict, fAbs, fInt1, gMax2, gMin2, g1S, g2S, fItems, fR1, fR2, bd62, lowE, clr, bakE, kpE, fApp, fIns, fPop, fPopA, fPopI, fClr, fRev, fExt, allTop, fEq, fNe, fNeg, fIsN, DL.D.isNon, DL.D.key, dGet, canE, nrm, cT, sAug_k, ixN, rk, List.filter_cons, hyx]
      omega
theorem sort_lt {r : List Int} (hn : r.Nodup) : (sortI r).Pairwise (· < ·) := by
  have h1 := sortI_sorted r
  have h2 : (sortI r).Nodup := (sortI_perm r).symm.nodup hn
  rw [List.Nodup] at h2
  exact (h1.and h2).imp fun h => by omega
theorem rk_sort (r : List Int) (x : Int) : rk (sortI r) x = rk r x := by
  unfold rk
  rw [((sortI_perm r).filter _).length_eq]
theorem get_rk {r : List Int} (hn : r.Nodup) {x : Int} (hx : x ∈ r) : dGet (kdR 0 (sortI r)) (.inl x) = some (.int (rk r x)) := by
  rw [get_kd _ 0 x (sort_lt hn) (mem_sortI.mpr hx), rk_sort]
  simp [mkS, finS, bNs, gL1, gL2, gLL2, fI2, tkA, ptA, GS, GL, fPut, ful, l12, l02, DL.D.mut, DL.D.imm, DL.D.imm.immAll, fdOk, fIx, fMul, fAdd, powOk, gLstL, gTupL, DL.D.ty, lvN, szOk, fLen, fListOf, fTupOf, fSl, gSlN, gSlH, gSlL, gSlB, fIsi, fIsiT, isT, DL.D.tyN, DL.D.isX, fInts, DL.D.seqI, fLenSet, fLR, fLR1, gLR2, rgOk, fDict, fAbs, fInt1, gMax2, gMin2, g1S, g2S, fItems, fR1, fR2, bd62, lowE, clr, bakE, kpE, fApp, fIns, fPop, fPopA, fPopI, fClr, fRev, fExt, allTop, fEq, fNe, fNeg, fIsN, DL.D.isNon, DL.D.key, dGet, canE, nrm, cT, sAug_k, ixN]
theorem map_int {α : Type} (h : α → Int) (xs : List α) : xs.map (fun x => D.int (h x)) = (xs.map h).map .int := by rw [List.map_map]; rfl
/-- a loop over a range -/
theorem forL_rng {S : Type} {bd : BF} {f : SF} (mk : S → Env) (I : Nat → S → Prop) {lo : Int} {n : Nat} {s : S} (h0 : I 0 s) (hs : ∀ (i : Nat) s, i < n → I i s → ∃ Γ1, bd (0, .int (lo + i)) (mk s) = some Γ1 ∧ ∃ s', (f Γ1 = .nx (mk s') ∨ f Γ1 = .ct (mk s')) ∧ I (i + 1) s') :
    ∃ s', forL bd f ((rngD lo n).map fun d => (0, d)) (mk s) = .nx (mk s') ∧ I n s' := by
  obtain ⟨s', h1, h2⟩ := forL_st (bd := bd) (f := f) mk I (xs := (rngD lo n).map fun d => (0, d)) (k := 0) h0 fun i x s hx hi => by
    rw [Nat.zero_add] at hi ⊢
    obtain ⟨h, rfl⟩ := List.getElem?_eq_some_iff.mp hx
    have hl : i < n := by simpa [mkS, finS, bNs, gL1, gL2, gLL2, fI2, tkA, ptA, GS, GL, fPut, ful, l12, l02, DL.D.mut, DL.D.imm, DL.D.imm.immAll, fdOk, fIx, fMul, fAdd, powOk, gLstL, gTupL, DL.D.ty, lvN, szOk, fLen, fListOf, fTupOf, fSl, gSlN, gSlH, gSlL, gSlB, fIsi, fIsiT, isT, DL.D.tyN, DL.D.isX, fInts, DL.D.seqI, fLenSet, fLR, fLR1, gLR2, rgOk, fDict, fAbs, fInt1, gMax2, gMin2, g1S, g2S, fItems, fR1, fR2, bd62, lowE, clr, bakE, kpE, fApp, fIns, fPop, fPopA, fPopI, fClr, fRev, fExt, allTop, fEq, fNe, fNeg, fIsN, DL.D.isNon, DL.D.key, dGet, canE, nrm, cT, sAug_k, ixN, rngD] using h
    have := hs i s hl hi
    simpa [mkS, finS, bNs, gL1, gL2, gLL2, fI2, tkA, ptA, GS, GL, fPut, ful, l12, l02, DL.D.mut, DL.D.imm, DL.D.imm.immAll, fdOk, fIx, fMul, fAdd, powOk, gLstL, gTupL, DL.D.ty, lvN, szOk, fLen, fListOf, fTupOf, fSl, gSlN, gSlH, gSlL, gSlB, fIsi, fIsiT, isT, DL.D.tyN, DL.D.isX, fInts, DL.D.seqI, fLenSet, fLR, fLR1, gLR2, rgOk, fDict, fAbs, fInt1, gMax2, gMin2, g1S, g2S, fItems, fR1, fR2, bd62, lowE, clr, bakE, kpE, fApp, fIns, fPop, fPopA, fPopI, fClr, fRev, fExt, allTop, fEq, fNe, fNeg, fIsN, DL.D.isNon, DL.D.key, dGet, canE, nrm, cT, sAug_k, ixN, rngD] using this
  refine ⟨s', h1, ?_⟩
  have e : 0 + ((rngD lo n).map fun d => ((0 : Nat), d)).length = n := by simp [mkS, finS, bNs, gL1, gL2, gLL2, fI2, tkA, ptA, GS, GL, fPut, ful, l12, l02, DL.D.mut, DL.D.imm, DL.D.imm.immAll, fdOk, fIx, fMul, fAdd, powOk, gLstL, gTupL, DL.D.ty, lvN, szOk, fLen, fListOf, fTupOf, fSl, gSlN, gSlH, gSlL, gSlB, fIsi, fIsiT, isT, DL.D.tyN, DL.D.isX, fInts, DL.D.seqI, fLenSet, fLR, fLR1, gLR2, rgOk, fDict, fAbs, fInt1, gMax2, gMin2, g1S, g2S, fItems, fR1, fR2, bd62, lowE, clr, bakE, kpE, fApp, fIns, fPop, fPopA, fPopI, fClr, fRev, fExt, allTop, fEq, fNe, fNeg, fIsN, DL.D.isNon, DL.D.key, dGet, canE, nrm, cT, sAug_k, ixN, rngD]
  rw [e] at h2
  exact h2
/-- a loop over things told by g -/
theorem forL_each {S α : Type} {bd : BF} {f : SF} (mk : S → Env) (g : α → LD) (I : Nat → S → Prop) {xs : List α} {s : S} (h0 : I 0 s) (hs : ∀ (i : Nat) (h : i < xs.length) s, I i s → ∃ Γ1, bd (g xs[i]) (mk s) = some Γ1 ∧ ∃ s', (f Γ1 = .nx (mk s') ∨ f Γ1 = .ct (mk s')) ∧ I (i + 1) s') :
    ∃ s', forL bd f (xs.map g) (mk s) = .nx (mk s') ∧ I xs.length s' := by
  obtain ⟨s', h1, h2⟩ := forL_st (bd := bd) (f := f) mk I (xs := xs.map g) (k := 0) h0 fun i x s hx hi => by
    rw [Nat.zero_add] at hi ⊢
    obtain ⟨h, rfl⟩ := List.getElem?_eq_some_iff.mp hx
    have hl : i < xs.length := by simpa [mkS, finS, bNs, gL1, gL2, gLL2, fI2, tkA, ptA, GS, GL, fPut, ful, l12, l02, DL.D.mut, DL.D.imm, DL.D.imm.immAll, fdOk, fIx, fMul, fAdd, powOk, gLstL, gTupL, DL.D.ty, lvN, szOk, fLen, fListOf, fTupOf, fSl, gSlN, gSlH, gSlL, gSlB, fIsi, fIsiT, isT, DL.D.tyN, DL.D.isX, fInts, DL.D.seqI, fLenSet, fLR, fLR1, gLR2, rgOk, fDict, fAbs, fInt1, gMax2, gMin2, g1S, g2S, fItems, fR1, fR2, bd62, lowE, clr, bakE, kpE, fApp, fIns, fPop, fPopA, fPopI, fClr, fRev, fExt, allTop, fEq, fNe, fNeg, fIsN, DL.D.isNon, DL.D.key, dGet, canE, nrm, cT, sAug_k, ixN] using h
    have := hs i hl s hi
    simpa [mkS, finS, bNs, gL1, gL2, gLL2, fI2, tkA, ptA, GS, GL, fPut, ful, l12, l02, DL.D.mut, DL.D.imm, DL.D.imm.immAll, fdOk, fIx, fMul, fAdd, powOk, gLstL, gTupL, DL.D.ty, lvN, szOk, fLen, fListOf, fTupOf, fSl, gSlN, gSlH, gSlL, gSlB, fIsi, fIsiT, isT, DL.D.tyN, DL.D.isX, fInts, DL.D.seqI, fLenSet, fLR, fLR1, gLR2, rgOk, fDict, fAbs, fInt1, gMax2, gMin2, g1S, g2S, fItems, fR1, fR2, bd62, lowE, clr, bakE, kpE, fApp, fIns, fPop, fPopA, fPopI, fClr, fRev, fExt, allTop, fEq, fNe, fNeg, fIsN, DL.D.isNon, DL.D.key, dGet, canE, nrm, cT, sAug_k, ixN] using this
  refine ⟨s', h1, ?_⟩
  rw [Nat.zero_add, List.length_map] at h2
  exact h2
/-- each turn is a step of the state -/
theorem forL_rngF {S : Type} {bd : BF} {f : SF} (mk : S → Env) (step : Nat → S → S) (I : Nat → S → Prop) {lo : Int} : ∀ {n : Nat} {s : S}, I 0 s → (∀ (i : Nat) s, i < n → I i s → ∃ Γ1, bd (0, .int (lo + i)) (mk s) = some Γ1 ∧ (f Γ1 = .nx (mk (step i s)) ∨ f Γ1 = .ct (mk (step i s))) ∧ I (i + 1) (step i s)) →
    forL bd f ((rngD lo n).map fun d => (0, d)) (mk s) = .nx (mk ((List.range n).foldl (fun s i => step i s) s)) := by
  intro n s h0 hs
  have gen : ∀ (m k : Nat) (s : S), k + m = n → I k s → forL bd f ((List.range' k m).map fun (j : Nat) => (0, D.int (lo + j))) (mk s) = .nx (mk ((List.range' k m).foldl (fun s i => step i s) s)) := by
    intro m
    induction m with
    | zero => intro k s _ _; rfl
    | succ m ih =>
      intro k s hk hi
      obtain ⟨Γ1, h1, h2, h3⟩ := hs k s (by omega) hi
      rw [List.range'_succ, List.map_cons, List.foldl_cons, forL, h1]
      dsimp only
      have := ih (k + 1) (step k s) (by omega) h3
      rcases h2 with h2 | h2 <;> rw [h2] <;> exact this
  have := gen n 0 s (by omega) h0
  rw [← List.range_eq_range'] at this
  rw [← this]
  unfold rngD
  rw [List.map_map]
  rfl
end DL

/-! DL26: xs[::-1], all, is True, xs.index(n), arguments that are dropped behind a call -/
namespace DL
open L2 PySem PySem.Spec PyProof.Rows
/-! ### [::-1] -/
def fRvS : LD → Option LD
  | (_, .lst xs) => some (lvN xs.reverse, .lst xs.reverse)
  | (_, .frz xs) => some (2, .lst (xs.reverse.map .int))
  | _ => none
def rRvS (K : PySem.W.Frag) : List V → Hp → VK → Prop := fun vs H Q => match vs with
  | [x] => ∃ a xs, x = .ref a ∧ SqL K H a xs ∧ ∀ p, H p = none → Q (.ref p) (upd H p (.lst xs.reverse))
  | _ => False
theorem vRvS {K : PySem.W.Frag} : VOk K (rRvS K) (gL1 fRvS) := vC1 fun s H Q ok h1 l d hg k => by
  obtain ⟨l1, d1, v1, n1⟩ := s
  dsimp only at *
  cases h1 with
  | lst e1 r1 =>
    simp only [fRvS] at hg
    cases hg
    obtain ⟨m, r2, hm⟩ := r1.rev
    exact ⟨_, _, rfl, .of e1, fun p hp => k _ _ _ (same_upd hp) (rd_new hp r2) (res_lst hp r2 (fun a ha => arg_ns (List.mem_cons_self ..) a (List.mem_cons_of_mem _ (by
      have := List.count_pos_iff.mpr ha
      rw [hm a] at this
      exact List.count_pos_iff.mp this))) (mut_upd trivial))⟩
  | @frz a xs e1 =>
    simp only [fRvS] at hg
    cases hg
    refine ⟨_, _, rfl, e1.sq, fun p hp => ?_⟩
    have := k (.ref p) [p] (upd H p (.lst (xs.reverse.map V.int))) (same_upd hp) (rd_new hp (rds_ints _)) (res_ints K hp)
    rw [List.map_reverse] at this
    exact this
  | _ => cases hg
section
variable {X : Cx} {W : WW} {A : List Nat} {f : PF} {f' : EF} {pos p1 p2 p3 : Pos} {a : Expr} {k}
theorem p_revS (ha : DP X W A a f) : DP X W A (.Subscript a (.Slice none none (some (.UnaryOp .USub (.Constant (.int 1) k p1) p2)) p3) pos) (pApp (gL1 fRvS) [f]) :=
  p_app [(A, f)] mem1l vRvS (pe_revL ha) fun _ _ _ h => h
theorem e_revS (ha : DE X W a f') : DE X W (.Subscript a (.Slice none none (some (.UnaryOp .USub (.Constant (.int 1) k p1) p2)) p3) pos) (eApp (gL1 fRvS) [f']) :=
  e_app [f'] vRvS (pe_revL ha) fun _ _ _ h => h
end
/-! ### all -/
def dBls : List D → Option (List Bool)
  | [] => some []
  | .bl b :: xs => (dBls xs).map (b :: ·)
  | _ => none
theorem dBls_map : ∀ bs : List Bool, dBls (bs.map .bl) = some bs
  | [] => rfl
  | b :: bs => by simp [mkS, finS, bNs, gL1, gL2, gLL2, fI2, tkA, ptA, GS, GL, fPut, ful, l12, l02, DL.D.mut, DL.D.imm, DL.D.imm.immAll, fdOk, fIx, fMul, fAdd, powOk, gLstL, gTupL, DL.D.ty, lvN, szOk, fLen, fListOf, fTupOf, fSl, gSlN, gSlH, gSlL, gSlB, fIsi, fIsiT, isT, DL.D.tyN, DL.D.isX, fInts, DL.D.seqI, fLenSet, fLR, fLR1, gLR2, rgOk, fDict, fAbs, fInt1, gMax2, gMin2, g1S, g2S, fItems, fR1, fR2, bd62, lowE, clr, bakE, kpE, fApp, fIns, fPop, fPopA, fPopI, fClr, fRev, fExt, allTop, fEq, fNe, fNeg, fIsN, DL.D.isNon, DL.D.key, dGet, canE, nrm, cT, sAug_k, ixN, dBls, dBls_map bs]
theorem dBls_is : ∀ {ds : List D} {bs : List Bool}, dBls ds = some bs → ds = bs.map .bl
  | [], bs, h => by cases h; rfl
  | d :: ds, bs, h => by
    cases d with
    | bl b =>
      simp only [dBls] at h
      obtain ⟨cs, h1, rfl⟩ := Option.map_eq_some_iff.mp h
      rw [dBls_is h1]
      rfl
    | _ => cases h
theorem rds_blsV {K : PySem.W.Frag} {H : Hp} : ∀ {bs : List Bool} {vs : List V} {as : List Addr}, Rds K H vs (bs.map .bl) as → vs = bs.map V.bl
  | [], _, _, h => by cases h; rfl
  | b :: bs, _, _, h => by
    cases h with
    | cons h r =>
      cases h
      rw [rds_blsV r]
      rfl
def fAll : LD → Option LD
  | (_, .lst xs) => (dBls xs).map fun bs => (2, .bl (bs.all id))
  | _ => none
theorem vAll {K : PySem.W.Frag} : VOk K (rAll K) (gL1 fAll) := vC1 fun s H Q ok h1 l d hg k => by
  obtain ⟨l1, d1, v1, n1⟩ := s
  dsimp only at *
  cases h1 with
  | lst e1 r1 =>
    simp only [fAll] at hg
    obtain ⟨bs, h2, h3⟩ := Option.map_eq_some_iff.mp hg
    cases h3
    have := dBls_is h2
    subst this
    have := rds_blsV r1
    subst this
    exact ⟨_, bs, rfl, .of e1, k _ [] H (Same.refl H) (.bl _) (res_imm rfl)⟩
  | _ => cases hg
/-! ### is, is not of truths -/
def fIsB (p : Bool) : D → D → Option LD
  | .bl a, .bl b => some (2, .bl (if p then decide (a = b) else !decide (a = b)))
  | _, _ => none
abbrev gIsB := gL2 (fIsB true)
abbrev gNotB := gL2 (fIsB false)
theorem vIsB {K : PySem.W.Frag} : VOk K (r2l rIsB) gIsB := vL2 fun s t H Q ok h1 h2 l d hg k => by
  unfold fIsB at hg
  split at hg
  · rename_i a b e1 e2
    rw [e1] at h1
    rw [e2] at h2
    cases hg
    exact ⟨a, b, (rd_bl h1).1, (rd_bl h2).1, k _ [] H (Same.refl H) (.bl _) (res_imm rfl)⟩
  · cases hg
theorem vNotB {K : PySem.W.Frag} : VOk K (r2l rNotB) gNotB := vL2 fun s t H Q ok h1 h2 l d hg k => by
  unfold fIsB at hg
  split at hg
  · rename_i a b e1 e2
    rw [e1] at h1
    rw [e2] at h2
    cases hg
    exact ⟨a, b, (rd_bl h1).1, (rd_bl h2).1, k _ [] H (Same.refl H) (.bl _) (res_imm rfl)⟩
  · cases hg
/-! ### xs.index(n) of ints -/
def fIdx : LD → LD → Option LD := fun x y => match x.2.seqI, y.2 with
  | some is, .int n => (is.findIdx? fun i => i == n).map fun (j : Nat) => ((2, .int (j : Int)) : LD)
  | _, _ => none
theorem vIdx {K : PySem.W.Frag} : VOk K (r1a (rIndex K)) (gLL2 fIdx) := by
  intro As H Q ok l d hg k
  rcases As with _ | ⟨s, _ | ⟨t, _ | ⟨u, As⟩⟩⟩
  · cases hg
  · cases hg
  · have h1 := ok.rd s (List.mem_cons_self ..)
    have h2 := ok.rd t (List.mem_cons_of_mem _ (List.mem_cons_self ..))
    obtain ⟨l1, d1, v1, n1⟩ := s
    obtain ⟨l2, d2, v2, n2⟩ := t
    simp only [List.map_cons, List.map_nil, Sl.ld, gLL2, fIdx] at hg
    dsimp only at h1 h2
    cases e : d1.seqI with
    | none => rw [e] at hg; cases hg
    | some is =>
      rw [e] at hg
      cases d2 with
      | int n =>
        dsimp only at hg
        obtain ⟨j, hj, h3⟩ := Option.map_eq_some_iff.mp hg
        cases h3
        obtain ⟨rfl, rfl⟩ := rd_int h2
        obtain ⟨a, rfl, hs⟩ := seqI_is h1 e
        obtain ⟨hlt, q1, q2⟩ := List.findIdx?_eq_some_iff_getElem.mp hj
        refine ⟨a, is.map V.int, .int n, j, .int is[j], rfl, rfl, hs, rfl, ?_, ?_, ?_, fun m z' hm hz => ?_, k _ [] H (Same.refl H) (.int _) (res_imm rfl)⟩
        · rw [List.all_eq_true]
          intro x hx
          obtain ⟨i, _, rfl⟩ := List.mem_map.mp hx
          rfl
        · rw [List.getElem?_map, List.getElem?_eq_getElem hlt]; rfl
        · exact q1
        · have hm2 : m < is.length := by omega
          rw [List.getElem?_map, List.getElem?_eq_getElem hm2] at hz
          cases hz
          have := q2 m hm
          simpa [mkS, finS, bNs, gL1, gL2, gLL2, fI2, tkA, ptA, GS, GL, fPut, ful, l12, l02, DL.D.mut, DL.D.imm, DL.D.imm.immAll, fdOk, fIx, fMul, fAdd, powOk, gLstL, gTupL, DL.D.ty, lvN, szOk, fLen, fListOf, fTupOf, fSl, gSlN, gSlH, gSlL, gSlB, fIsi, fIsiT, isT, DL.D.tyN, DL.D.isX, fInts, DL.D.seqI, fLenSet, fLR, fLR1, gLR2, rgOk, fDict, fAbs, fInt1, gMax2, gMin2, g1S, g2S, fItems, fR1, fR2, bd62, lowE, clr, bakE, kpE, fApp, fIns, fPop, fPopA, fPopI, fClr, fRev, fExt, allTop, fEq, fNe, fNeg, fIsN, DL.D.isNon, DL.D.key, dGet, canE, nrm, cT, sAug_k, ixN, eqV] using this
      | _ => cases hg
  · cases hg
/-! ### arguments that a def changes, dropped behind the call -/
def mrg : List Bool → List Bool → List Bool
  | true :: io, k :: ks => k :: mrg io ks
  | false :: io, ks => false :: mrg io ks
  | _, _ => []
theorem msk_mrg {α : Type} : ∀ (io ks : List Bool) (vs : List α), msk (mrg io ks) vs = msk ks (msk io vs)
  | [], ks, vs => by
    cases vs <;> cases ks with
    | nil => simp [mkS, finS, bNs, gL1, gL2, gLL2, fI2, tkA, ptA, GS, GL, fPut, ful, l12, l02, DL.D.mut, DL.D.imm, DL.D.imm.immAll, fdOk, fIx, fMul, fAdd, powOk, gLstL, gTupL, DL.D.ty, lvN, szOk, fLen, fListOf, fTupOf, fSl, gSlN, gSlH, gSlL, gSlB, fIsi, fIsiT, isT, DL.D.tyN, DL.D.isX, fInts, DL.D.seqI, fLenSet, fLR, fLR1, gLR2, rgOk, fDict, fAbs, fInt1, gMax2, gMin2, g1S, g2S, fItems, fR1, fR2, bd62, lowE, clr, bakE, kpE, fApp, fIns, fPop, fPopA, fPopI, fClr, fRev, fExt, allTop, fEq, fNe, fNeg, fIsN, DL.D.isNon, DL.D.key, dGet, canE, nrm, cT, sAug_k, ixN, mrg, msk]
    | cons k ks => cases k <;> simp [mkS, finS, bNs, gL1, gL2, gLL2, fI2, tkA, ptA, GS, GL, fPut, ful, l12, l02, DL.D.mut, DL.D.imm, DL.D.imm.immAll, fdOk, fIx, fMul, fAdd, powOk, gLstL, gTupL, DL.D.ty, lvN, szOk, fLen, fListOf, fTupOf, fSl, gSlN, gSlH, gSlL, gSlB, fIsi, fIsiT, isT, DL.D.tyN, DL.D.isX, fInts, DL.D.seqI, fLenSet, fLR, fLR1, gLR2, rgOk, fDict, fAbs, fInt1, gMax2, gMin2, g1S, g2S, fItems, fR1, fR2, bd62, lowE, clr, bakE, kpE, fApp, fIns, fPop, fPopA, fPopI, fClr, fRev, fExt, allTop, fEq, fNe, fNeg, fIsN, DL.D.isNon, DL.D.key, dGet, canE, nrm, cT, sAug_k, ixN, mrg, msk]
  | true :: io, [], vs => by
    cases vs <;> simp [mkS, finS, bNs, gL1, gL2, gLL2, fI2, tkA, ptA, GS, GL, fPut, ful, l12, l02, DL.D.mut, DL.D.imm, DL.D.imm.immAll, fdOk, fIx, fMul, fAdd, powOk, gLstL, gTupL, DL.D.ty, lvN, szOk, fLen, fListOf, fTupOf, fSl, gSlN, gSlH, gSlL, gSlB, fIsi, fIsiT, isT, DL.D.tyN, DL.D.isX, fInts, DL.D.seqI, fLenSet, fLR, fLR1, gLR2, rgOk, fDict, fAbs, fInt1, gMax2, gMin2, g1S, g2S, fItems, fR1, fR2, bd62, lowE, clr, bakE, kpE, fApp, fIns, fPop, fPopA, fPopI, fClr, fRev, fExt, allTop, fEq, fNe, fNeg, fIsN, DL.D.isNon, DL.D.key, dGet, canE, nrm, cT, sAug_k, ixN, mrg, msk]
  | true :: io, k :: ks, [] => by cases k <;> simp [mkS, finS, bNs, gL1, gL2, gLL2, fI2, tkA, ptA, GS, GL, fPut, ful, l12, l02, DL.D.mut, DL.D.imm, DL.D.imm.immAll, fdOk, fIx, fMul, fAdd, powOk, gLstL, gTupL, DL.D.ty, lvN, szOk, fLen, fListOf, fTupOf, fSl, gSlN, gSlH, gSlL, gSlB, fIsi, fIsiT, isT, DL.D.tyN, DL.D.isX, fInts, DL.D.seqI, fLenSet, fLR, fLR1, gLR2, rgOk, fDict, fAbs, fInt1, gMax2, gMin2, g1S, g2S, fItems, fR1, fR2, bd62, lowE, clr, bakE, kpE, fApp, fIns, fPop, fPopA, fPopI, fClr, fRev, fExt, allTop, fEq, fNe, fNeg, fIsN, DL.D.isNon, DL.D.key, dGet, canE, nrm, cT, sAug_k, ixN, mrg, msk]
  | true :: io, k :: ks, v :: vs => by cases k <;> simp [mkS, finS, bNs, gL1, gL2, gLL2, fI2, tkA, ptA, GS, GL, fPut, ful, l12, l02, DL.D.mut, DL.D.imm, DL.D.imm.immAll, fdOk, fIx, fMul, fAdd, powOk, gLstL, gTupL, DL.D.ty, lvN, szOk, fLen, fListOf, fTupOf, fSl, gSlN, gSlH, gSlL, gSlB, fIsi, fIsiT, isT, DL.D.tyN, DL.D.isX, fInts, DL.D.seqI, fLenSet, fLR, fLR1, gLR2, rgOk, fDict, fAbs, fInt1, gMax2, gMin2, g1S, g2S, fItems, fR1, fR2, bd62, lowE, clr, bakE, kpE, fApp, fIns, fPop, fPopA, fPopI, fClr, fRev, fExt, allTop, fEq, fNe, fNeg, fIsN, DL.D.isNon, DL.D.key, dGet, canE, nrm, cT, sAug_k, ixN, mrg, msk, msk_mrg io ks vs]
  | false :: io, ks, [] => by
    cases ks with
    | nil => simp [mkS, finS, bNs, gL1, gL2, gLL2, fI2, tkA, ptA, GS, GL, fPut, ful, l12, l02, DL.D.mut, DL.D.imm, DL.D.imm.immAll, fdOk, fIx, fMul, fAdd, powOk, gLstL, gTupL, DL.D.ty, lvN, szOk, fLen, fListOf, fTupOf, fSl, gSlN, gSlH, gSlL, gSlB, fIsi, fIsiT, isT, DL.D.tyN, DL.D.isX, fInts, DL.D.seqI, fLenSet, fLR, fLR1, gLR2, rgOk, fDict, fAbs, fInt1, gMax2, gMin2, g1S, g2S, fItems, fR1, fR2, bd62, lowE, clr, bakE, kpE, fApp, fIns, fPop, fPopA, fPopI, fClr, fRev, fExt, allTop, fEq, fNe, fNeg, fIsN, DL.D.isNon, DL.D.key, dGet, canE, nrm, cT, sAug_k, ixN, mrg, msk]
    | cons k ks => cases k <;> simp [mkS, finS, bNs, gL1, gL2, gLL2, fI2, tkA, ptA, GS, GL, fPut, ful, l12, l02, DL.D.mut, DL.D.imm, DL.D.imm.immAll, fdOk, fIx, fMul, fAdd, powOk, gLstL, gTupL, DL.D.ty, lvN, szOk, fLen, fListOf, fTupOf, fSl, gSlN, gSlH, gSlL, gSlB, fIsi, fIsiT, isT, DL.D.tyN, DL.D.isX, fInts, DL.D.seqI, fLenSet, fLR, fLR1, gLR2, rgOk, fDict, fAbs, fInt1, gMax2, gMin2, g1S, g2S, fItems, fR1, fR2, bd62, lowE, clr, bakE, kpE, fApp, fIns, fPop, fPopA, fPopI, fClr, fRev, fExt, allTop, fEq, fNe, fNeg, fIsN, DL.D.isNon, DL.D.key, dGet, canE, nrm, cT, sAug_k, ixN, mrg, msk]
  | false :: io, ks, v :: vs => by simp [mkS, finS, bNs, gL1, gL2, gLL2, fI2, tkA, ptA, GS, GL, fPut, ful, l12, l02, DL.D.mut, DL.D.imm, DL.D.imm.immAll, fdOk, fIx, fMul, fAdd, powOk, gLstL, gTupL, DL.D.ty, lvN, szOk, fLen, fListOf, fTupOf, fSl, gSlN, gSlH, gSlL, gSlB, fIsi, fIsiT, isT, DL.D.tyN, DL.D.isX, fInts, DL.D.seqI, fLenSet, fLR, fLR1, gLR2, rgOk, fDict, fAbs, fInt1, gMax2, gMin2, g1S, g2S, fItems, fR1, fR2, bd62, lowE, clr, bakE, kpE, fApp, fIns, fPop, fPopA, fPopI, fClr, fRev, fExt, allTop, fEq, fNe, fNeg, fIsN, DL.D.isNon, DL.D.key, dGet, canE, nrm, cT, sAug_k, ixN, mrg, msk, msk_mrg io ks vs]
def selF (ks : List Bool) (F : List LD → FR) : List LD → FR := fun xs => match F xs with
  | .ret x fin => .ret x (msk ks fin)
  | .exc c fin => .exc c (msk ks fin)
  | .bad => .bad
theorem msk_mem {α : Type} {x : α} : ∀ {ks : List Bool} {xs : List α}, x ∈ msk ks xs → x ∈ xs
  | [], xs, h => by cases xs <;> simp [mkS, finS, bNs, gL1, gL2, gLL2, fI2, tkA, ptA, GS, GL, fPut, ful, l12, l02, DL.D.mut, DL.D.imm, DL.D.imm.immAll, fdOk, fIx, fMul, fAdd, powOk, gLstL, gTupL, DL.D.ty, lvN, szOk, fLen, fListOf, fTupOf, fSl, gSlN, gSlH, gSlL, gSlB, fIsi, fIsiT, isT, DL.D.tyN, DL.D.isX, fInts, DL.D.seqI, fLenSet, fLR, fLR1, gLR2, rgOk, fDict, fAbs, fInt1, gMax2, gMin2, g1S, g2S, fItems, fR1, fR2, bd62, lowE, clr, bakE, kpE, fApp, fIns, fPop, fPopA, fPopI, fClr, fRev, fExt, allTop, fEq, fNe, fNeg, fIsN, DL.D.isNon, DL.D.key, dGet, canE, nrm, cT, sAug_k, ixN, msk] at h
  | true :: ks, [], h => by simp [mkS, finS, bNs, gL1, gL2, gLL2, fI2, tkA, ptA, GS, GL, fPut, ful, l12, l02, DL.D.mut, DL.D.imm, DL.D.imm.immAll, fdOk, fIx, fMul, fAdd, powOk, gLstL, gTupL, DL.D.ty, lvN, szOk, fLen, fListOf, fTupOf, fSl, gSlN, gSlH, gSlL, gSlB, fIsi, fIsiT, isT, DL.D.tyN, DL.D.isX, fInts, DL.D.seqI, fLenSet, fLR, fLR1, gLR2, rgOk, fDict, fAbs, fInt1, gMax2, gMin2, g1S, g2S, fItems, fR1, fR2, bd62, lowE, clr, bakE, kpE, fApp, fIns, fPop, fPopA, fPopI, fClr, fRev, fExt, allTop, fEq, fNe, fNeg, fIsN, DL.D.isNon, DL.D.key, dGet, canE, nrm, cT, sAug_k, ixN, msk] at h
  | false :: ks, [], h => by simp [mkS, finS, bNs, gL1, gL2, gLL2, fI2, tkA, ptA, GS, GL, fPut, ful, l12, l02, DL.D.mut, DL.D.imm, DL.D.imm.immAll, fdOk, fIx, fMul, fAdd, powOk, gLstL, gTupL, DL.D.ty, lvN, szOk, fLen, fListOf, fTupOf, fSl, gSlN, gSlH, gSlL, gSlB, fIsi, fIsiT, isT, DL.D.tyN, DL.D.isX, fInts, DL.D.seqI, fLenSet, fLR, fLR1, gLR2, rgOk, fDict, fAbs, fInt1, gMax2, gMin2, g1S, g2S, fItems, fR1, fR2, bd62, lowE, clr, bakE, kpE, fApp, fIns, fPop, fPopA, fPopI, fClr, fRev, fExt, allTop, fEq, fNe, fNeg, fIsN, DL.D.isNon, DL.D.key, dGet, canE, nrm, cT, sAug_k, ixN, msk] at h
  | true :: ks, y :: xs, h => by
    simp only [msk, List.mem_cons] at h
    rcases h with h | h
    · exact h ▸ List.mem_cons_self ..
    · exact List.mem_cons_of_mem _ (msk_mem h)
  | false :: ks, y :: xs, h => List.mem_cons_of_mem _ (msk_mem (by simpa [mkS, finS, bNs, gL1, gL2, gLL2, fI2, tkA, ptA, GS, GL, fPut, ful, l12, l02, DL.D.mut, DL.D.imm, DL.D.imm.immAll, fdOk, fIx, fMul, fAdd, powOk, gLstL, gTupL, DL.D.ty, lvN, szOk, fLen, fListOf, fTupOf, fSl, gSlN, gSlH, gSlL, gSlB, fIsi, fIsiT, isT, DL.D.tyN, DL.D.isX, fInts, DL.D.seqI, fLenSet, fLR, fLR1, gLR2, rgOk, fDict, fAbs, fInt1, gMax2, gMin2, g1S, g2S, fItems, fR1, fR2, bd62, lowE, clr, bakE, kpE, fApp, fIns, fPop, fPopA, fPopI, fClr, fRev, fExt, allTop, fEq, fNe, fNeg, fIsN, DL.D.isNon, DL.D.key, dGet, canE, nrm, cT, sAug_k, ixN, msk] using h))
theorem msk_cnt (a : Addr) : ∀ (ks : List Bool) (Fs : List Sl), oL (msk ks Fs) a ≤ oL Fs a ∧ rL (msk ks Fs) a ≤ rL Fs a
  | [], Fs => by cases Fs <;> simp [mkS, finS, bNs, gL1, gL2, gLL2, fI2, tkA, ptA, GS, GL, fPut, ful, l12, l02, DL.D.mut, DL.D.imm, DL.D.imm.immAll, fdOk, fIx, fMul, fAdd, powOk, gLstL, gTupL, DL.D.ty, lvN, szOk, fLen, fListOf, fTupOf, fSl, gSlN, gSlH, gSlL, gSlB, fIsi, fIsiT, isT, DL.D.tyN, DL.D.isX, fInts, DL.D.seqI, fLenSet, fLR, fLR1, gLR2, rgOk, fDict, fAbs, fInt1, gMax2, gMin2, g1S, g2S, fItems, fR1, fR2, bd62, lowE, clr, bakE, kpE, fApp, fIns, fPop, fPopA, fPopI, fClr, fRev, fExt, allTop, fEq, fNe, fNeg, fIsN, DL.D.isNon, DL.D.key, dGet, canE, nrm, cT, sAug_k, ixN, msk, oL, rL]
  | true :: ks, [] => by simp [mkS, finS, bNs, gL1, gL2, gLL2, fI2, tkA, ptA, GS, GL, fPut, ful, l12, l02, DL.D.mut, DL.D.imm, DL.D.imm.immAll, fdOk, fIx, fMul, fAdd, powOk, gLstL, gTupL, DL.D.ty, lvN, szOk, fLen, fListOf, fTupOf, fSl, gSlN, gSlH, gSlL, gSlB, fIsi, fIsiT, isT, DL.D.tyN, DL.D.isX, fInts, DL.D.seqI, fLenSet, fLR, fLR1, gLR2, rgOk, fDict, fAbs, fInt1, gMax2, gMin2, g1S, g2S, fItems, fR1, fR2, bd62, lowE, clr, bakE, kpE, fApp, fIns, fPop, fPopA, fPopI, fClr, fRev, fExt, allTop, fEq, fNe, fNeg, fIsN, DL.D.isNon, DL.D.key, dGet, canE, nrm, cT, sAug_k, ixN, msk, oL, rL]
  | false :: ks, [] => by simp [mkS, finS, bNs, gL1, gL2, gLL2, fI2, tkA, ptA, GS, GL, fPut, ful, l12, l02, DL.D.mut, DL.D.imm, DL.D.imm.immAll, fdOk, fIx, fMul, fAdd, powOk, gLstL, gTupL, DL.D.ty, lvN, szOk, fLen, fListOf, fTupOf, fSl, gSlN, gSlH, gSlL, gSlB, fIsi, fIsiT, isT, DL.D.tyN, DL.D.isX, fInts, DL.D.seqI, fLenSet, fLR, fLR1, gLR2, rgOk, fDict, fAbs, fInt1, gMax2, gMin2, g1S, g2S, fItems, fR1, fR2, bd62, lowE, clr, bakE, kpE, fApp, fIns, fPop, fPopA, fPopI, fClr, fRev, fExt, allTop, fEq, fNe, fNeg, fIsN, DL.D.isNon, DL.D.key, dGet, canE, nrm, cT, sAug_k, ixN, msk, oL, rL]
  | true :: ks, s :: Fs => by
    have := msk_cnt a ks Fs
    simp only [msk, oL, rL]
    omega
  | false :: ks, s :: Fs => by
    have := msk_cnt a ks Fs
    simp only [msk, oL, rL]
    omega
theorem msk_map {α β : Type} (f : α → β) : ∀ (ks : List Bool) (xs : List α), msk ks (xs.map f) = (msk ks xs).map f
  | [], xs => by cases xs <;> rfl
  | true :: ks, [] => rfl
  | false :: ks, [] => rfl
  | true :: ks, x :: xs => by simp [mkS, finS, bNs, gL1, gL2, gLL2, fI2, tkA, ptA, GS, GL, fPut, ful, l12, l02, DL.D.mut, DL.D.imm, DL.D.imm.immAll, fdOk, fIx, fMul, fAdd, powOk, gLstL, gTupL, DL.D.ty, lvN, szOk, fLen, fListOf, fTupOf, fSl, gSlN, gSlH, gSlL, gSlB, fIsi, fIsiT, isT, DL.D.tyN, DL.D.isX, fInts, DL.D.seqI, fLenSet, fLR, fLR1, gLR2, rgOk, fDict, fAbs, fInt1, gMax2, gMin2, g1S, g2S, fItems, fR1, fR2, bd62, lowE, clr, bakE, kpE, fApp, fIns, fPop, fPopA, fPopI, fClr, fRev, fExt, allTop, fEq, fNe, fNeg, fIsN, DL.D.isNon, DL.D.key, dGet, canE, nrm, cT, sAug_k, ixN, msk, msk_map f ks xs]
  | false :: ks, x :: xs => by simp [mkS, finS, bNs, gL1, gL2, gLL2, fI2, tkA, ptA, GS, GL, fPut, ful, l12, l02, DL.D.mut, DL.D.imm, DL.D.imm.immAll, fdOk, fIx, fMul, fAdd, powOk, gLstL, gTupL, DL.D.ty, lvN, szOk, fLen, fListOf, fTupOf, fSl, gSlN, gSlH, gSlL, gSlB, fIsi, fIsiT, isT, DL.D.tyN, DL.D.isX, fInts, DL.D.seqI, fLenSet, fLR, fLR1, gLR2, rgOk, fDict, fAbs, fInt1, gMax2, gMin2, g1S, g2S, fItems, fR1, fR2, bd62, lowE, clr, bakE, kpE, fApp, fIns, fPop, fPopA, fPopI, fClr, fRev, fExt, allTop, fEq, fNe, fNeg, fIsN, DL.D.isNon, DL.D.key, dGet, canE, nrm, cT, sAug_k, ixN, msk, msk_map f ks xs]
theorem spF_sel {K : PySem.W.Frag} {mg : Str → Option Value} {n : Nat} {io ks : List Bool} {F : List LD → FR} {vs : List V} {H : Hp} {Q : VK} {E : XK} (h : spF K mg n (mrg io ks) (selF ks F) vs H Q E) : spF K mg n io F vs H Q E := by
  obtain ⟨As, e1, e2, e3, q⟩ := h
  refine ⟨As, e1, e2, e3, ?_⟩
  unfold selF at q
  cases eF : F (As.map Sl.ld) with
  | bad => rw [eF] at q; exact q
  | ret x fin =>
    obtain ⟨l, d⟩ := x
    rw [eF] at q
    intro v ns Fs H' h1 h2 h3 h4 h5
    refine q v ns (msk ks Fs) H' (by rw [← msk_map, h1]) (by rw [← msk_map, h2, msk_mrg]) h3 ⟨fun s hs => ?_, fun a => ?_, fun a ha => ?_⟩ fun a => ?_
    · rcases List.mem_cons.mp hs with hs | hs
      · exact h4.rd s (hs ▸ List.mem_cons_self ..)
      · exact h4.rd s (List.mem_cons_of_mem _ (msk_mem hs))
    · have := h4.sep a
      have := msk_cnt a ks Fs
      simp only [oL, rL] at *
      omega
    · refine h4.wr a ?_
      have := msk_cnt a ks Fs
      simp only [oL, rL] at *
      omega
    · have h6 := h5 a
      have := msk_cnt a ks Fs
      simp only [oL, rL] at *
      exact ⟨fun z => h6.1 (by omega), fun z => h6.2 (by omega)⟩
  | exc c fin =>
    rw [eF] at q
    intro Fs H' h1 h2 h3 h4 h5
    refine q (msk ks Fs) H' (by rw [← msk_map, h1]) (by rw [← msk_map, h2, msk_mrg]) h3 ⟨fun s hs => h4.rd s (msk_mem hs), fun a => ?_, fun a ha => ?_⟩ fun a => ?_
    · have := h4.sep a
      have := msk_cnt a ks Fs
      omega
    · refine h4.wr a ?_
      have := msk_cnt a ks Fs
      omega
    · have h6 := h5 a
      have := msk_cnt a ks Fs
      exact ⟨fun z => h6.1 (by omega), fun z => h6.2 (by omega)⟩
theorem DCal.sel {P : Program} {w : World} {K : PySem.W.Frag} {mg : Str → Option Value} {base : Heap} {k : Nat} {x : Str} {ps : List Str} {n : Nat} {io : List Bool} {F : List LD → FR} (C : DCal P w K mg base k x ps n io F) (ks : List Bool) : DCal P w K mg base k x ps n (mrg io ks) (selF ks F) := by
  obtain ⟨f, fd, G, h1, h2, h3⟩ := C
  exact ⟨f, fd, G.imp fun _ _ _ _ q => spF_sel q, h1, h2, h3⟩
@[simp] theorem selF_ret {ks : List Bool} {F : List LD → FR} {xs : List LD} {x : LD} {fin : List LD} (h : F xs = .ret x fin) : selF ks F xs = .ret x (msk ks fin) := by unfold selF; rw [h]
@[simp] theorem fEnum_map {α : Type} (g : α → D) (xs : List α) (l : Nat) : fEnum (l, .lst (xs.map g)) = some (xs.zipIdx.map fun p => .tup [.int p.2, g p.1]) := by
  unfold fEnum
  dsimp only
  rw [List.zipIdx_map, List.map_map]
  rfl
@[simp] theorem fEnum_frz (xs : List Int) (l : Nat) : fEnum (l, .frz xs) = some (xs.zipIdx.map fun p => .tup [.int p.2, .int p.1]) := rfl
theorem immAll_all : ∀ xs : List D, D.imm.immAll xs = xs.all D.imm
  | [] => rfl
  | x :: xs => by simp [mkS, finS, bNs, gL1, gL2, gLL2, fI2, tkA, ptA, GS, GL, fPut, ful, l12, l02, DL.D.mut, DL.D.imm, DL.D.imm.immAll, fdOk, fIx, fMul, fAdd, powOk, gLstL, gTupL, DL.D.ty, lvN, szOk, fLen, fListOf, fTupOf, fSl, gSlN, gSlH, gSlL, gSlB, fIsi, fIsiT, isT, DL.D.tyN, DL.D.isX, fInts, DL.D.seqI, fLenSet, fLR, fLR1, gLR2, rgOk, fDict, fAbs, fInt1, gMax2, gMin2, g1S, g2S, fItems, fR1, fR2, bd62, lowE, clr, bakE, kpE, fApp, fIns, fPop, fPopA, fPopI, fClr, fRev, fExt, allTop, fEq, fNe, fNeg, fIsN, DL.D.isNon, DL.D.key, dGet, canE, nrm, cT, sAug_k, ixN, fRvS, fAll, dBls_map, fIsB, fIdx, msk, Function.comp_def, D.imm.immAll, immAll_all xs]
@[simp] theorem imm_rev (xs : List D) : D.imm.immAll xs.reverse = D.imm.immAll xs := by simp [mkS, finS, bNs, gL1, gL2, gLL2, fI2, tkA, ptA, GS, GL, fPut, ful, l12, l02, DL.D.mut, DL.D.imm, DL.D.imm.immAll, fdOk, fIx, fMul, fAdd, powOk, gLstL, gTupL, DL.D.ty, lvN, szOk, fLen, fListOf, fTupOf, fSl, gSlN, gSlH, gSlL, gSlB, fIsi, fIsiT, isT, DL.D.tyN, DL.D.isX, fInts, DL.D.seqI, fLenSet, fLR, fLR1, gLR2, rgOk, fDict, fAbs, fInt1, gMax2, gMin2, g1S, g2S, fItems, fR1, fR2, bd62, lowE, clr, bakE, kpE, fApp, fIns, fPop, fPopA, fPopI, fClr, fRev, fExt, allTop, fEq, fNe, fNeg, fIsN, DL.D.isNon, DL.D.key, dGet, canE, nrm, cT, sAug_k, ixN, fRvS, fAll, dBls_map, fIsB, fIdx, msk, Function.comp_def, immAll_all]
@[simp] theorem imm_cat (xs ys : List D) : D.imm.immAll (xs ++ ys) = (D.imm.immAll xs && D.imm.immAll ys) := by simp [mkS, finS, bNs, gL1, gL2, gLL2, fI2, tkA, ptA, GS, GL, fPut, ful, l12, l02, DL.D.mut, DL.D.imm, DL.D.imm.immAll, fdOk, fIx, fMul, fAdd, powOk, gLstL, gTupL, DL.D.ty, lvN, szOk, fLen, fListOf, fTupOf, fSl, gSlN, gSlH, gSlL, gSlB, fIsi, fIsiT, isT, DL.D.tyN, DL.D.isX, fInts, DL.D.seqI, fLenSet, fLR, fLR1, gLR2, rgOk, fDict, fAbs, fInt1, gMax2, gMin2, g1S, g2S, fItems, fR1, fR2, bd62, lowE, clr, bakE, kpE, fApp, fIns, fPop, fPopA, fPopI, fClr, fRev, fExt, allTop, fEq, fNe, fNeg, fIsN, DL.D.isNon, DL.D.key, dGet, canE, nrm, cT, sAug_k, ixN, fRvS, fAll, dBls_map, fIsB, fIdx, msk, Function.comp_def, immAll_all]
@[simp] theorem imm_rep (n : Nat) (i : Int) : D.imm.immAll (List.replicate n (D.int i)) = true := by simp [mkS, finS, bNs, gL1, gL2, gLL2, fI2, tkA, ptA, GS, GL, fPut, ful, l12, l02, DL.D.mut, DL.D.imm, DL.D.imm.immAll, fdOk, fIx, fMul, fAdd, powOk, gLstL, gTupL, DL.D.ty, lvN, szOk, fLen, fListOf, fTupOf, fSl, gSlN, gSlH, gSlL, gSlB, fIsi, fIsiT, isT, DL.D.tyN, DL.D.isX, fInts, DL.D.seqI, fLenSet, fLR, fLR1, gLR2, rgOk, fDict, fAbs, fInt1, gMax2, gMin2, g1S, g2S, fItems, fR1, fR2, bd62, lowE, clr, bakE, kpE, fApp, fIns, fPop, fPopA, fPopI, fClr, fRev, fExt, allTop, fEq, fNe, fNeg, fIsN, DL.D.isNon, DL.D.key, dGet, canE, nrm, cT, sAug_k, ixN, fRvS, fAll, dBls_map, fIsB, fIdx, msk, Function.comp_def, immAll_all, D.imm]
theorem rep_int (n : Nat) (i : Int) : List.replicate n (D.int i) = (List.replicate n i).map .int := by rw [List.map_replicate]
/-! ### slices -/
def cutG {α : Type} (xs : List α) (lo hi : Option Int) : List α := (xs.drop (HT.sIx xs.length 0 lo)).take (HT.sIx xs.length xs.length hi - HT.sIx xs.length 0 lo)
@[simp] theorem cut_map {α : Type} (f : α → D) (xs : List α) (lo hi : Option Int) : cutD (xs.map f) lo hi = (cutG xs lo hi).map f := by
  unfold cutD cutG
  rw [List.length_map, List.map_take, List.map_drop]
theorem sIx_nat (n d : Nat) {i : Int} (h : 0 ≤ i) : HT.sIx n d (some i) = min i.toNat n := by
  unfold HT.sIx
  simp [mkS, finS, bNs, gL1, gL2, gLL2, fI2, tkA, ptA, GS, GL, fPut, ful, l12, l02, DL.D.mut, DL.D.imm, DL.D.imm.immAll, fdOk, fIx, fMul, fAdd, powOk, gLstL, gTupL, DL.D.ty, lvN, szOk, fLen, fListOf, fTupOf, fSl, gSlN, gSlH, gSlL, gSlB, fIsi, fIsiT, isT, DL.D.tyN, DL.D.isX, fInts, DL.D.seqI, fLenSet, fLR, fLR1, gLR2, rgOk, fDict, fAbs, fInt1, gMax2, gMin2, g1S, g2S, fItems, fR1, fR2, bd62, lowE, clr, bakE, kpE, fApp, fIns, fPop, fPopA, fPopI, fClr, fRev, fExt, allTop, fEq, fNe, fNeg, fIsN, DL.D.isNon, DL.D.key, dGet, canE, nrm, cT, sAug_k, ixN, fRvS, fAll, dBls_map, fIsB, fIdx, msk, Function.comp_def]
  omega
theorem cut_hi {α : Type} (xs : List α) {i : Int} (h : 0 ≤ i) : cutG xs none (some i) = xs.take i.toNat := by
  unfold cutG
  rw [sIx_nat _ _ h]
  have e : HT.sIx xs.length 0 none = 0 := rfl
  rw [e, List.drop_zero, Nat.sub_zero]
  by_cases c : i.toNat ≤ xs.length
  · rw [Nat.min_eq_left c]
  · rw [Nat.min_eq_right (by omega), List.take_length, List.take_of_length_le (by omega)]
theorem cut_lo {α : Type} (xs : List α) {i : Int} (h : 0 ≤ i) : cutG xs (some i) none = xs.drop i.toNat := by
  unfold cutG
  rw [sIx_nat _ _ h]
  have e : HT.sIx xs.length xs.length none = xs.length := rfl
  rw [e]
  by_cases c : i.toNat ≤ xs.length
  · rw [Nat.min_eq_left c, List.take_of_length_le (by rw [List.length_drop]; omega)]
  · rw [Nat.min_eq_right (by omega), List.drop_of_length_le (l := xs) (i := i.toNat) (by omega), List.drop_of_length_le (by omega)]
    simp [mkS, finS, bNs, gL1, gL2, gLL2, fI2, tkA, ptA, GS, GL, fPut, ful, l12, l02, DL.D.mut, DL.D.imm, DL.D.imm.immAll, fdOk, fIx, fMul, fAdd, powOk, gLstL, gTupL, DL.D.ty, lvN, szOk, fLen, fListOf, fTupOf, fSl, gSlN, gSlH, gSlL, gSlB, fIsi, fIsiT, isT, DL.D.tyN, DL.D.isX, fInts, DL.D.seqI, fLenSet, fLR, fLR1, gLR2, rgOk, fDict, fAbs, fInt1, gMax2, gMin2, g1S, g2S, fItems, fR1, fR2, bd62, lowE, clr, bakE, kpE, fApp, fIns, fPop, fPopA, fPopI, fClr, fRev, fExt, allTop, fEq, fNe, fNeg, fIsN, DL.D.isNon, DL.D.key, dGet, canE, nrm, cT, sAug_k, ixN, fRvS, fAll, dBls_map, fIsB, fIdx, msk, Function.comp_def]
theorem cut_both {α : Type} (xs : List α) {i j : Int} (h : 0 ≤ i) (h2 : 0 ≤ j) : cutG xs (some i) (some j) = (xs.drop i.toNat).take (j.toNat - i.toNat) := by
  unfold cutG
  rw [sIx_nat _ _ h, sIx_nat _ _ h2]
  by_cases c : i.toNat ≤ xs.length
  · rw [Nat.min_eq_left c]
    by_cases c2 : j.toNat ≤ xs.length
    · rw [Nat.min_eq_left c2]
    · rw [Nat.min_eq_right (by omega), List.take_of_length_le (by rw [List.length_drop]; omega), List.take_of_length_le (by rw [List.length_drop]; omega)]
  · rw [Nat.min_eq_right (a := i.toNat) (by omega), List.drop_of_length_le (l := xs) (i := i.toNat) (by omega), List.drop_of_length_le (by omega)]
    simp [mkS, finS, bNs, gL1, gL2, gLL2, fI2, tkA, ptA, GS, GL, fPut, ful, l12, l02, DL.D.mut, DL.D.imm, DL.D.imm.immAll, fdOk, fIx, fMul, fAdd, powOk, gLstL, gTupL, DL.D.ty, lvN, szOk, fLen, fListOf, fTupOf, fSl, gSlN, gSlH, gSlL, gSlB, fIsi, fIsiT, isT, DL.D.tyN, DL.D.isX, fInts, DL.D.seqI, fLenSet, fLR, fLR1, gLR2, rgOk, fDict, fAbs, fInt1, gMax2, gMin2, g1S, g2S, fItems, fR1, fR2, bd62, lowE, clr, bakE, kpE, fApp, fIns, fPop, fPopA, fPopI, fClr, fRev, fExt, allTop, fEq, fNe, fNeg, fIsN, DL.D.isNon, DL.D.key, dGet, canE, nrm, cT, sAug_k, ixN, fRvS, fAll, dBls_map, fIsB, fIdx, msk, Function.comp_def]
@[simp] theorem cut_none {α : Type} (xs : List α) : cutG xs none none = xs := by
  unfold cutG
  have e : HT.sIx xs.length xs.length none = xs.length := rfl
  have e2 : HT.sIx xs.length 0 none = 0 := rfl
  rw [e, e2]
  simp [mkS, finS, bNs, gL1, gL2, gLL2, fI2, tkA, ptA, GS, GL, fPut, ful, l12, l02, DL.D.mut, DL.D.imm, DL.D.imm.immAll, fdOk, fIx, fMul, fAdd, powOk, gLstL, gTupL, DL.D.ty, lvN, szOk, fLen, fListOf, fTupOf, fSl, gSlN, gSlH, gSlL, gSlB, fIsi, fIsiT, isT, DL.D.tyN, DL.D.isX, fInts, DL.D.seqI, fLenSet, fLR, fLR1, gLR2, rgOk, fDict, fAbs, fInt1, gMax2, gMin2, g1S, g2S, fItems, fR1, fR2, bd62, lowE, clr, bakE, kpE, fApp, fIns, fPop, fPopA, fPopI, fClr, fRev, fExt, allTop, fEq, fNe, fNeg, fIsN, DL.D.isNon, DL.D.key, dGet, canE, nrm, cT, sAug_k, ixN, fRvS, fAll, dBls_map, fIsB, fIdx, msk, Function.comp_def]
end DL

/-! DL27: comprehensions that change a state -/
namespace DL
open L2 PySem PySem.Spec PyProof.Rows
section
variable {X : Cx} {W : WW} {A : List Nat} {T id : String} {name : Str} {r : V → List V → Hp → VK → Prop} {o : Expr} {es : List Expr} {apos cpos : Pos}
theorem p_methA {g : List LD → Option LD} {f0 : PF} {fs : List PF} {A0 : List Nat} {e : Expr} (pa : PlainAttrs T) (slot : Slot T name id) (hty : typeOf (.builtin id) = pure (.type "method_descriptor")) (hm : MtR X id r) (hv : VOk X.K (r1a r) g) (ho : DP X W A0 o f0) (h : PArgL X W A (e :: es) fs)
    (hT : (T == "") = false := by decide) (hbase : attributeBase o name X.env (eval o X.env) = eval o X.env := by rfl)
    (hfew : ((backTo cpos (starEach (e :: es) X.env)).all (fun x => !x.1) && (backToKw cpos (keywordEach [] X.env)).all (fun x => x.1.isSome)
      && decide ((e :: es).length + ([] : List Keyword).length + (if ([] : List Keyword).isEmpty then 0 else 1) < 30)) = true := by rfl)
    (hline : (apos.endLine == cpos.line) = true := by rfl) (hs : starEach (e :: es) X.env = (false, eval e X.env) :: starEach es X.env := by rfl) (hplain : (backTo cpos (starEach es X.env)).any (·.1) = false := by rfl) :
    DP X W (A0 ++ A) (.Call (.Attribute o name apos) (e :: es) [] cpos) (pApp g (pTy T f0 :: fs)) := by
  obtain ⟨gs, rfl, e2, e3⟩ := h.pa
  exact p_app (fs := (A0, pTy T f0) :: gs) (fun p hp => by
    rcases List.mem_cons.mp hp with rfl | hp
    · exact fun i hi => List.mem_append_left _ hi
    · exact fun i hi => List.mem_append_right _ (e2 p hp i hi)) hv (pe_bm pa slot hty hm ho e3 hbase hfew hline hs hplain) fun σ H Q q => by
      have q1 : tDP X.K W A0 (pTy T f0) σ H fun x H1 => tArgs (gs.map fun p => tDP X.K W p.1 p.2) (fun xs => r1a r (x :: xs)) σ H1 Q := q
      exact tyMono (t := tDP X.K W A0 f0) (σ := σ) (H := H) (fun _ _ _ _ i h => tDP_mono h i) (fun x H1 g => tAl_args (r := fun xs => r1a r (x :: xs)) _ _ (fun _ _ h => h) (monoP gs) g) (pTy_ok hT q1)
end
def kTy (T : String) : P LD → P LD
  | .ok x => if x.2.ty == T then .ok x else .bad
  | o => o
@[simp] theorem pTy_k (T : String) (f : PF) (Γ : Env) : pTy T f Γ = kTy T (f Γ) := by unfold pTy kTy; rfl
@[simp] theorem kTy_ok (T : String) (x : LD) : kTy T (.ok x) = if x.2.ty == T then .ok x else .bad := rfl
@[simp] theorem deq_nil_r (xs : List D) : deq (.lst xs) (.lst []) = decide (xs = []) := by
  cases xs with
  | nil => simp [mkS, finS, bNs, gL1, gL2, gLL2, fI2, tkA, ptA, GS, GL, fPut, ful, l12, l02, DL.D.mut, DL.D.imm, DL.D.imm.immAll, fdOk, fIx, fMul, fAdd, powOk, gLstL, gTupL, DL.D.ty, lvN, szOk, fLen, fListOf, fTupOf, fSl, gSlN, gSlH, gSlL, gSlB, fIsi, fIsiT, isT, DL.D.tyN, DL.D.isX, fInts, DL.D.seqI, fLenSet, fLR, fLR1, gLR2, rgOk, fDict, fAbs, fInt1, gMax2, gMin2, g1S, g2S, fItems, fR1, fR2, bd62, lowE, clr, bakE, kpE, fApp, fIns, fPop, fPopA, fPopI, fClr, fRev, fExt, allTop, fEq, fNe, fNeg, fIsN, DL.D.isNon, DL.D.key, dGet, canE, nrm, cT, sAug_k, ixN, fRvS, fAll, dBls_map, fIsB, fIdx, msk, Function.comp_def, cut_hi, cut_lo, cut_both]
  | cons x xs => rw [deq, deqAll]; simp [mkS, finS, bNs, gL1, gL2, gLL2, fI2, tkA, ptA, GS, GL, fPut, ful, l12, l02, DL.D.mut, DL.D.imm, DL.D.imm.immAll, fdOk, fIx, fMul, fAdd, powOk, gLstL, gTupL, DL.D.ty, lvN, szOk, fLen, fListOf, fTupOf, fSl, gSlN, gSlH, gSlL, gSlB, fIsi, fIsiT, isT, DL.D.tyN, DL.D.isX, fInts, DL.D.seqI, fLenSet, fLR, fLR1, gLR2, rgOk, fDict, fAbs, fInt1, gMax2, gMin2, g1S, g2S, fItems, fR1, fR2, bd62, lowE, clr, bakE, kpE, fApp, fIns, fPop, fPopA, fPopI, fClr, fRev, fExt, allTop, fEq, fNe, fNeg, fIsN, DL.D.isNon, DL.D.key, dGet, canE, nrm, cT, sAug_k, ixN, fRvS, fAll, dBls_map, fIsB, fIdx, msk, Function.comp_def, cut_hi, cut_lo, cut_both]
@[simp] theorem deq_nil_l (xs : List D) : deq (.lst []) (.lst xs) = decide (xs = []) := by
  cases xs with
  | nil => simp [mkS, finS, bNs, gL1, gL2, gLL2, fI2, tkA, ptA, GS, GL, fPut, ful, l12, l02, DL.D.mut, DL.D.imm, DL.D.imm.immAll, fdOk, fIx, fMul, fAdd, powOk, gLstL, gTupL, DL.D.ty, lvN, szOk, fLen, fListOf, fTupOf, fSl, gSlN, gSlH, gSlL, gSlB, fIsi, fIsiT, isT, DL.D.tyN, DL.D.isX, fInts, DL.D.seqI, fLenSet, fLR, fLR1, gLR2, rgOk, fDict, fAbs, fInt1, gMax2, gMin2, g1S, g2S, fItems, fR1, fR2, bd62, lowE, clr, bakE, kpE, fApp, fIns, fPop, fPopA, fPopI, fClr, fRev, fExt, allTop, fEq, fNe, fNeg, fIsN, DL.D.isNon, DL.D.key, dGet, canE, nrm, cT, sAug_k, ixN, fRvS, fAll, dBls_map, fIsB, fIdx, msk, Function.comp_def, cut_hi, cut_lo, cut_both]
  | cons x xs => rw [deq, deqAll]; simp [mkS, finS, bNs, gL1, gL2, gLL2, fI2, tkA, ptA, GS, GL, fPut, ful, l12, l02, DL.D.mut, DL.D.imm, DL.D.imm.immAll, fdOk, fIx, fMul, fAdd, powOk, gLstL, gTupL, DL.D.ty, lvN, szOk, fLen, fListOf, fTupOf, fSl, gSlN, gSlH, gSlL, gSlB, fIsi, fIsiT, isT, DL.D.tyN, DL.D.isX, fInts, DL.D.seqI, fLenSet, fLR, fLR1, gLR2, rgOk, fDict, fAbs, fInt1, gMax2, gMin2, g1S, g2S, fItems, fR1, fR2, bd62, lowE, clr, bakE, kpE, fApp, fIns, fPop, fPopA, fPopI, fClr, fRev, fExt, allTop, fEq, fNe, fNeg, fIsN, DL.D.isNon, DL.D.key, dGet, canE, nrm, cT, sAug_k, ixN, fRvS, fAll, dBls_map, fIsB, fIdx, msk, Function.comp_def, cut_hi, cut_lo, cut_both]
@[simp] theorem dInts_fn' {α : Type} (h : α → Int) (xs : List α) : dInts (xs.map fun x => D.int (h x)) = some (xs.map h) := by
  have := dInts_map (xs.map h)
  rwa [List.map_map] at this
theorem lcL_st {S : Type} {bd : BF} {te : EF} {vs : List Nat} (mk : S → Env) (I : Nat → S → List D → Prop) : ∀ {xs : List LD} {k : Nat} {s : S} {ds : List D}, I k s ds →
    (∀ (i : Nat) x s ds, xs[i]? = some x → I (k + i) s ds → ∃ Γ1, bd x (mk s) = some Γ1 ∧ ∃ l d Γ3 s', te Γ1 = .ok (l, d) Γ3 ∧ ful (l, d) = true ∧ clr Γ3 vs = mk s' ∧ I (k + i + 1) s' (ds ++ [d])) →
    ∃ s' ds', lcL bd ebT te vs xs true ds (mk s) = .ok (2, .lst ds') (mk s') ∧ I (k + xs.length) s' ds'
  | [], k, s, ds, h0, _ => ⟨s, ds, rfl, h0⟩
  | x :: xs, k, s, ds, h0, hs => by
    obtain ⟨Γ1, h1, l, d, Γ3, s2, h2, h3, h4, h5⟩ := hs 0 x s ds rfl h0
    obtain ⟨s', ds', g1, g2⟩ := lcL_st (te := te) (vs := vs) mk I (xs := xs) (k := k + 1) (s := s2) (ds := ds ++ [d]) h5 fun i y s ds hy hi => by
      have := hs (i + 1) y s ds (by simpa [mkS, finS, bNs, gL1, gL2, gLL2, fI2, tkA, ptA, GS, GL, fPut, ful, l12, l02, DL.D.mut, DL.D.imm, DL.D.imm.immAll, fdOk, fIx, fMul, fAdd, powOk, gLstL, gTupL, DL.D.ty, lvN, szOk, fLen, fListOf, fTupOf, fSl, gSlN, gSlH, gSlL, gSlB, fIsi, fIsiT, isT, DL.D.tyN, DL.D.isX, fInts, DL.D.seqI, fLenSet, fLR, fLR1, gLR2, rgOk, fDict, fAbs, fInt1, gMax2, gMin2, g1S, g2S, fItems, fR1, fR2, bd62, lowE, clr, bakE, kpE, fApp, fIns, fPop, fPopA, fPopI, fClr, fRev, fExt, allTop, fEq, fNe, fNeg, fIsN, DL.D.isNon, DL.D.key, dGet, canE, nrm, cT, sAug_k, ixN, fRvS, fAll, dBls_map, fIsB, fIdx, msk, Function.comp_def, cut_hi, cut_lo, cut_both] using hy) (by rw [show k + (i + 1) = k + 1 + i by omega]; exact hi)
      rw [show k + (i + 1) = k + 1 + i by omega] at this
      exact this
    refine ⟨s', ds', ?_, by rw [show k + (x :: xs).length = k + 1 + xs.length by simp [mkS, finS, bNs, gL1, gL2, gLL2, fI2, tkA, ptA, GS, GL, fPut, ful, l12, l02, DL.D.mut, DL.D.imm, DL.D.imm.immAll, fdOk, fIx, fMul, fAdd, powOk, gLstL, gTupL, DL.D.ty, lvN, szOk, fLen, fListOf, fTupOf, fSl, gSlN, gSlH, gSlL, gSlB, fIsi, fIsiT, isT, DL.D.tyN, DL.D.isX, fInts, DL.D.seqI, fLenSet, fLR, fLR1, gLR2, rgOk, fDict, fAbs, fInt1, gMax2, gMin2, g1S, g2S, fItems, fR1, fR2, bd62, lowE, clr, bakE, kpE, fApp, fIns, fPop, fPopA, fPopI, fClr, fRev, fExt, allTop, fEq, fNe, fNeg, fIsN, DL.D.isNon, DL.D.key, dGet, canE, nrm, cT, sAug_k, ixN, fRvS, fAll, dBls_map, fIsB, fIdx, msk, Function.comp_def, cut_hi, cut_lo, cut_both]; omega]; exact g2⟩
    rw [lcL, h1]
    dsimp only
    unfold ebT
    dsimp only
    rw [h2]
    dsimp only
    rw [h3, h4]
    exact g1
theorem lcL_rng {S : Type} {bd : BF} {te : EF} {vs : List Nat} (mk : S → Env) (I : Nat → S → List D → Prop) {lo : Int} {n : Nat} {s : S} (h0 : I 0 s [])
    (hs : ∀ (i : Nat) s ds, i < n → I i s ds → ∃ Γ1, bd (0, .int (lo + i)) (mk s) = some Γ1 ∧ ∃ l d Γ3 s', te Γ1 = .ok (l, d) Γ3 ∧ ful (l, d) = true ∧ clr Γ3 vs = mk s' ∧ I (i + 1) s' (ds ++ [d])) :
    ∃ s' ds', lcL bd ebT te vs ((rngD lo n).map fun d => (0, d)) true [] (mk s) = .ok (2, .lst ds') (mk s') ∧ I n s' ds' := by
  obtain ⟨s', ds', h1, h2⟩ := lcL_st (bd := bd) (te := te) (vs := vs) mk I (xs := (rngD lo n).map fun d => (0, d)) (k := 0) (ds := []) h0 fun i x s ds hx hi => by
    rw [Nat.zero_add] at hi ⊢
    obtain ⟨h, rfl⟩ := List.getElem?_eq_some_iff.mp hx
    have hl : i < n := by simpa [mkS, finS, bNs, gL1, gL2, gLL2, fI2, tkA, ptA, GS, GL, fPut, ful, l12, l02, DL.D.mut, DL.D.imm, DL.D.imm.immAll, fdOk, fIx, fMul, fAdd, powOk, gLstL, gTupL, DL.D.ty, lvN, szOk, fLen, fListOf, fTupOf, fSl, gSlN, gSlH, gSlL, gSlB, fIsi, fIsiT, isT, DL.D.tyN, DL.D.isX, fInts, DL.D.seqI, fLenSet, fLR, fLR1, gLR2, rgOk, fDict, fAbs, fInt1, gMax2, gMin2, g1S, g2S, fItems, fR1, fR2, bd62, lowE, clr, bakE, kpE, fApp, fIns, fPop, fPopA, fPopI, fClr, fRev, fExt, allTop, fEq, fNe, fNeg, fIsN, DL.D.isNon, DL.D.key, dGet, canE, nrm, cT, sAug_k, ixN, fRvS, fAll, dBls_map, fIsB, fIdx, msk, Function.comp_def, cut_hi, cut_lo, cut_both, rngD] using h
    have := hs i s ds hl hi
    simpa [mkS, finS, bNs, gL1, gL2, gLL2, fI2, tkA, ptA, GS, GL, fPut, ful, l12, l02, DL.D.mut, DL.D.imm, DL.D.imm.immAll, fdOk, fIx, fMul, fAdd, powOk, gLstL, gTupL, DL.D.ty, lvN, szOk, fLen, fListOf, fTupOf, fSl, gSlN, gSlH, gSlL, gSlB, fIsi, fIsiT, isT, DL.D.tyN, DL.D.isX, fInts, DL.D.seqI, fLenSet, fLR, fLR1, gLR2, rgOk, fDict, fAbs, fInt1, gMax2, gMin2, g1S, g2S, fItems, fR1, fR2, bd62, lowE, clr, bakE, kpE, fApp, fIns, fPop, fPopA, fPopI, fClr, fRev, fExt, allTop, fEq, fNe, fNeg, fIsN, DL.D.isNon, DL.D.key, dGet, canE, nrm, cT, sAug_k, ixN, fRvS, fAll, dBls_map, fIsB, fIdx, msk, Function.comp_def, cut_hi, cut_lo, cut_both, rngD] using this
  refine ⟨s', ds', h1, ?_⟩
  have e : 0 + ((rngD lo n).map fun d => ((0 : Nat), d)).length = n := by simp [mkS, finS, bNs, gL1, gL2, gLL2, fI2, tkA, ptA, GS, GL, fPut, ful, l12, l02, DL.D.mut, DL.D.imm, DL.D.imm.immAll, fdOk, fIx, fMul, fAdd, powOk, gLstL, gTupL, DL.D.ty, lvN, szOk, fLen, fListOf, fTupOf, fSl, gSlN, gSlH, gSlL, gSlB, fIsi, fIsiT, isT, DL.D.tyN, DL.D.isX, fInts, DL.D.seqI, fLenSet, fLR, fLR1, gLR2, rgOk, fDict, fAbs, fInt1, gMax2, gMin2, g1S, g2S, fItems, fR1, fR2, bd62, lowE, clr, bakE, kpE, fApp, fIns, fPop, fPopA, fPopI, fClr, fRev, fExt, allTop, fEq, fNe, fNeg, fIsN, DL.D.isNon, DL.D.key, dGet, canE, nrm, cT, sAug_k, ixN, fRvS, fAll, dBls_map, fIsB, fIdx, msk, Function.comp_def, cut_hi, cut_lo, cut_both, rngD]
  rw [e] at h2
  exact h2
end DL

/-! DL28: comprehensions as pure reckonings -/
namespace DL
open L2 PySem PySem.Spec PyProof.Rows
def srcP (g : List LD → Option (List D)) (fs : List PF) : Env → P (List LD) := fun Γ => match evP fs Γ with
  | .ok xs => (match g xs with
    | some ds => .ok (ds.map fun d => (0, d))
    | none => .bad)
  | .exc c => .exc c
  | .bad => .bad
/-- an iterable that a pure reckoning gives -/
def DIP (X : Cx) (W : WW) (A : List Nat) (tg iter : Expr) (src : Env → P (List LD)) : Prop := ∃ wi, PI X tg iter wi ∧ ∀ σ H R', (∃ Z L M, Rel X.K Z σ H L M ∧ match src (er L) with
    | .ok xs => ∀ (Bs : List Sl) H' J (ds : List D), xs = ds.map (fun d => (0, d)) → PArgs X.K Z A H L M H' Bs → WalkV X.K Bs J ds → R' J H'
    | .exc c => ∀ H', Same H H' → W c σ H'
    | .bad => False) → wi σ H R'
theorem dip_gen {X : Cx} {W : WW} {A : List Nat} {tg iter : Expr} {w : WR} {g : List LD → Option (List D)} {fs : List (List Nat × PF)} {wi : TI} (hv : SV X.K w g) (hA : ∀ p ∈ fs, ∀ i ∈ p.1, i ∈ A) (hi : PI X tg iter wi)
    (ht : ∀ σ H R, tArgs (fs.map fun p => tDP X.K W p.1 p.2) (fun vs H _ => w vs H R) σ H (fun _ _ => True) → wi σ H R) : DIP X W A tg iter (srcP g (fs.map (·.2))) := by
  refine ⟨wi, hi, fun σ H R' ⟨Z, L, M, R, q⟩ => ht σ H R' ?_⟩
  refine parts (A := A) (W := W) (r := fun vs H _ => w vs H R') (Q := fun _ _ => True) (fun _ _ _ z => z) fs [] H hA R (PArgs.nil R) ?_
  unfold srcP at q
  cases ev : evP (fs.map (·.2)) (er L) with
  | bad => rw [ev] at q; exact q
  | exc c => rw [ev] at q; exact q
  | ok xs =>
    rw [ev] at q
    intro Bs H1 eB p1
    simp only [List.nil_append] at p1 ⊢
    dsimp only at q
    cases eg : g xs with
    | none => rw [eg] at q; exact q.elim
    | some ds =>
      rw [eg] at q
      exact hv Bs H1 R' ds p1.ok (by rw [eB]; exact eg) fun J wk => q Bs H1 J ds rfl p1 wk
section
variable {X : Cx} {W : WW} {A B : List Nat} {tg l a b c : Expr} {f g h : PF} {p pos : Pos}
theorem dip_seq (ha : DP X W A l f) : DIP X W A tg l (srcP (g1S fItems) [f]) := dip_gen (fs := [(A, f)]) sv_seq mem1l (pi_seq ha) fun σ H R q => q
theorem dip_r1 (hg : Gl X "range") (hm : X.mg "range" = none) (ha : DP X W A a f) (hs : starEach [a] X.env = [(false, eval a X.env)] := by rfl) : DIP X W A tg (.Call (.Name "range" p) [a] [] pos) (srcP gR1 [f]) :=
  dip_gen (fs := [(A, f)]) sv_r1 mem1l (pi_range1 hg hm (pa_cons ha pa_nil (by rw [hs]; rfl)) hs) fun σ H R q => tAl_args (r := fun vs H _ => wR1 vs H R) [tDP X.K W A f] _ (fun _ _ h => h) (monoP [(A, f)]) q
theorem dip_r2 (hg : Gl X "range") (hm : X.mg "range" = none) (ha : DP X W A a f) (hb : DP X W B b g) (hs : starEach [a, b] X.env = [(false, eval a X.env), (false, eval b X.env)] := by rfl) (hs2 : starEach [b] X.env = [(false, eval b X.env)] := by rfl) : DIP X W (A ++ B) tg (.Call (.Name "range" p) [a, b] [] pos) (srcP gR2 [f, g]) :=
  dip_gen (fs := [(A, f), (B, g)]) sv_r2 mem2l (pi_range2 hg hm (pa_cons ha (pa_cons hb pa_nil (by rw [hs2]; rfl)) (by rw [hs, hs2])) hs hs2) fun σ H R q => tAl_args (r := fun vs H _ => wR2 vs H R) [tDP X.K W A f, tDP X.K W B g] _ (fun _ _ h => h) (monoP [(A, f), (B, g)]) q
theorem dip_enum {elts : List Expr} {kk : Nat} {tpos : Pos} (hg : Gl X "enumerate") (hm : X.mg "enumerate" = none) (ha : DP X W A a f) (hs : starEach [a] X.env = [(false, eval a X.env)] := by rfl) : DIP X W A (.Tuple elts kk tpos) (.Call (.Name "enumerate" p) [a] [] pos) (srcP (g1S fEnum) [f]) :=
  dip_gen (fs := [(A, f)]) sv_enum mem1l (pi_enum hg hm (pa_cons ha pa_nil (by rw [hs]; rfl)) hs) fun σ H R q => tAl_args (r := fun vs H _ => wEnum X.K vs H R) [tDP X.K W A f] _ (fun _ _ h => h) (monoP [(A, f)]) q
theorem dip_zip {elts : List Expr} {kk : Nat} {tpos : Pos} (hg : Gl X "zip") (hm : X.mg "zip" = none) (ha : DP X W A a f) (hb : DP X W B b g) (hs : starEach [a, b] X.env = (false, eval a X.env) :: starEach [b] X.env := by rfl) (hs2 : starEach [b] X.env = (false, eval b X.env) :: starEach [] X.env := by rfl)
    (hpl : (backTo pos (starEach [b] X.env)).any (·.1) = false := by rfl) : DIP X W (A ++ B) (.Tuple elts kk tpos) (.Call (.Name "zip" p) [a, b] [] pos) (srcP gZip [f, g]) :=
  dip_gen (fs := [(A, f), (B, g)]) sv_zip mem2l (pi_zip hg hm (pa_cons ha (pa_cons hb pa_nil hs2) hs) hs hpl) fun σ H R q => tAl_args (r := fun vs H _ => wZip X.K vs H R) [tDP X.K W A f, tDP X.K W B g] _ (fun _ _ h => h) (monoP [(A, f), (B, g)]) q
end
def lcEndP : Option (List D) → P LD
  | some ds => .ok (2, .lst ds)
  | none => .bad
def pLc (A : List Nat) (src : Env → P (List LD)) (bd : BF) (t : PB) (f : PF) (vs : List Nat) : PF := fun Γ => match src Γ with
  | .ok xs => if szOk xs.length then lcEndP (colM (turnP bd t f (clr (lowE A Γ) vs)) xs) else .bad
  | .exc c => .exc c
  | .bad => .bad
theorem imm_own {K : PySem.W.Frag} {H : Hp} {l : Nat} {d : D} {v : V} {ns : List Addr} (r : Rd K H v d ns) (h : 2 ≤ l % 10 ∨ d.imm = true) (a : Addr) : (Sl.mk l d v ns).own a = ns.count a := by
  refine full_own (s := ⟨l, d, v, ns⟩) ?_ a
  rcases h with h | h
  · exact .inl h
  · exact .inr (r.imm _ _ _ h)
theorem plc_ok {K : PySem.W.Frag} {W : WW} {A A2 : List Nat} {src : Env → P (List LD)} {js vs : List Nat} {bd : BF} {g : TG} {t : PB} {f : PF} {wi : TI} {σ : L2.St} {H : Hp} {Q : VK} (hj : ∀ j ∈ js, j ∈ vs) (hg : TgOk K js g bd)
    (hw : ∀ σ H R', (∃ Z L M, Rel K Z σ H L M ∧ match src (er L) with
    | .ok xs => ∀ (Bs : List Sl) H' J (ds : List D), xs = ds.map (fun d => (0, d)) → PArgs K Z A H L M H' Bs → WalkV K Bs J ds → R' J H'
    | .exc c => ∀ H', Same H H' → W c σ H'
    | .bad => False) → wi σ H R') (h : tDP K W A (pLc A src bd t f vs) σ H Q) : tLc wi g (tDTP K W0 t) (tDP K W0 A2 f) vs σ H Q := by
  obtain ⟨Z, L, M, R, q⟩ := h
  refine hw σ H _ ⟨Z, L, M, R, ?_⟩
  unfold pLc at q
  cases es : src (er L) with
  | bad => rw [es] at q; exact q
  | exc c => rw [es] at q; exact q
  | ok xs =>
    rw [es] at q
    dsimp only at q ⊢
    intro Bs H1 J ds hx p1 wk D hD
    by_cases hz : szOk xs.length = true
    rotate_left
    · rw [if_neg hz] at q; exact q.elim
    rw [if_pos hz] at q
    have hsz := szOk_ok hz
    cases ec : colM (turnP bd t f (clr (lowE A (er L)) vs)) xs with
    | none => rw [ec] at q; exact q.elim
    | some fin =>
    rw [ec] at q
    have hlen : xs.length = ds.length := by rw [hx, List.length_map]
    have sm1 := p1.same
    have DH : H D = none := sm1.free hD
    have start : Same H1 (upd H1 D (.lst [])) := same_upd hD
    refine ⟨fun i n Hh => n = xs.length - i ∧ i ≤ xs.length ∧ ∃ (es : List DL.D) (acc : List V) (ns : List Addr), Same H1 Hh ∧ Hh D = some (.lst acc) ∧ Rds K Hh acc es ns ∧ es.length ≤ i ∧
      (∀ a, ns.count a ≤ 1 ∧ (a ∈ ns → H a = none ∧ a ≠ D ∧ Mut (Hh a))) ∧ ∃ rest, colM (turnP bd t f (clr (lowE A (er L)) vs)) (xs.drop i) = some rest ∧ es ++ rest = fin,
      ⟨xs.length, by simp, Nat.zero_le _, [], [], [], start, upd_same, .nil, Nat.le_refl _, fun a => ⟨Nat.zero_le _, fun h => nomatch h⟩, fin, by rw [List.drop_zero]; exact ec, rfl⟩, ?_⟩
    rintro i n Hh ⟨rfl, hil, es, acc, ns, smh, hDa, rds, hes, hns, rest, hc, hfin⟩
    have rdB : ∀ s ∈ Bs, Rd K Hh s.v s.d s.ns := fun s hs => (p1.ok.rd s hs).same smh
    by_cases hlt : i < xs.length
    · refine .inr ⟨wk.goes i Hh (by omega) rdB, fun H' => i + 1 ≤ xs.length ∧ ∃ (es : List DL.D) (acc : List V) (ns : List Addr), Same H1 H' ∧ H' D = some (.lst acc) ∧ Rds K H' acc es ns ∧ es.length ≤ i + 1 ∧
        (∀ a, ns.count a ≤ 1 ∧ (a ∈ ns → H a = none ∧ a ≠ D ∧ Mut (H' a))) ∧ ∃ rest, colM (turnP bd t f (clr (lowE A (er L)) vs)) (xs.drop (i + 1)) = some rest ∧ es ++ rest = fin, fun H' h => ⟨xs.length - (i + 1), by omega, rfl, h.1, h.2⟩, fun v H3 y => ?_⟩
      have hdi : ds[i]? = some ds[i] := List.getElem?_eq_getElem (by omega)
      obtain ⟨sm2, nx, rd, hnx⟩ := wk.step i ds[i] Hh v H3 hdi rdB y
      have hxi : xs[i] = (0, ds[i]) := by subst hx; simp [mkS, finS, bNs, gL1, gL2, gLL2, fI2, tkA, ptA, GS, GL, fPut, ful, l12, l02, DL.D.mut, DL.D.imm, DL.D.imm.immAll, fdOk, fIx, fMul, fAdd, powOk, gLstL, gTupL, DL.D.ty, lvN, szOk, fLen, fListOf, fTupOf, fSl, gSlN, gSlH, gSlL, gSlB, fIsi, fIsiT, isT, DL.D.tyN, DL.D.isX, fInts, DL.D.seqI, fLenSet, fLR, fLR1, gLR2, rgOk, fDict, fAbs, fInt1, gMax2, gMin2, g1S, g2S, fItems, fR1, fR2, bd62, lowE, clr, bakE, kpE, fApp, fIns, fPop, fPopA, fPopI, fClr, fRev, fExt, allTop, fEq, fNe, fNeg, fIsN, DL.D.isNon, DL.D.key, dGet, canE, nrm, cT, sAug_k, ixN, fRvS, fAll, dBls_map, fIsB, fIdx, msk, Function.comp_def, cut_hi, cut_lo, cut_both]
      have ed : xs.drop i = xs[i] :: xs.drop (i + 1) := by simp [mkS, finS, bNs, gL1, gL2, gLL2, fI2, tkA, ptA, GS, GL, fPut, ful, l12, l02, DL.D.mut, DL.D.imm, DL.D.imm.immAll, fdOk, fIx, fMul, fAdd, powOk, gLstL, gTupL, DL.D.ty, lvN, szOk, fLen, fListOf, fTupOf, fSl, gSlN, gSlH, gSlL, gSlB, fIsi, fIsiT, isT, DL.D.tyN, DL.D.isX, fInts, DL.D.seqI, fLenSet, fLR, fLR1, gLR2, rgOk, fDict, fAbs, fInt1, gMax2, gMin2, g1S, g2S, fItems, fR1, fR2, bd62, lowE, clr, bakE, kpE, fApp, fIns, fPop, fPopA, fPopI, fClr, fRev, fExt, allTop, fEq, fNe, fNeg, fIsN, DL.D.isNon, DL.D.key, dGet, canE, nrm, cT, sAug_k, ixN, fRvS, fAll, dBls_map, fIsB, fIdx, msk, Function.comp_def, cut_hi, cut_lo, cut_both]
      rw [ed, colM] at hc
      have hT : turnP bd t f (clr (lowE A (er L)) vs) xs[i] = match bd xs[i] (clr (lowE A (er L)) vs) with
        | none => none
        | some Γ2 => match t Γ2 with
          | .ok b => if b = true then keepD (f Γ2) else some none
          | _ => none := rfl
      rw [hT] at hc
      -- the slots
      have sm3 : Same H H3 := (sm1.trans smh).trans sm2
      have R3 : Rel K Z (L2.wipe σ vs) H3 (clr (low A L) vs) M := ((R.same sm3).low A).wipe vs
      have cz : ∀ a, a ∈ nx → oS (clr (low A L) vs) a = 0 ∧ oM M a = 0 := fun a ha => by
        have h1 := hnx a ha
        have h2 := cnt_clr (low A L) a vs
        by_cases c : 0 < oL Bs a
        · have h3 := R.free (p1.own a c)
          have := low_counts A a L
          omega
        · have h3 := p1.rst a (by omega)
          omega
      have nz : ∀ a ∈ nx, Z a := fun a ha => by
        obtain ⟨s, g1, g2⟩ := oL_pos (hnx a ha)
        exact p1.z s g1 a g2
      have e0 : ∀ a, (Sl.mk 0 ds[i] v nx).own a = 0 := fun a => by simp [mkS, finS, bNs, gL1, gL2, gLL2, fI2, tkA, ptA, GS, GL, fPut, ful, l12, l02, DL.D.mut, DL.D.imm, DL.D.imm.immAll, fdOk, fIx, fMul, fAdd, powOk, gLstL, gTupL, DL.D.ty, lvN, szOk, fLen, fListOf, fTupOf, fSl, gSlN, gSlH, gSlL, gSlB, fIsi, fIsiT, isT, DL.D.tyN, DL.D.isX, fInts, DL.D.seqI, fLenSet, fLR, fLR1, gLR2, rgOk, fDict, fAbs, fInt1, gMax2, gMin2, g1S, g2S, fItems, fR1, fR2, bd62, lowE, clr, bakE, kpE, fApp, fIns, fPop, fPopA, fPopI, fClr, fRev, fExt, allTop, fEq, fNe, fNeg, fIsN, DL.D.isNon, DL.D.key, dGet, canE, nrm, cT, sAug_k, ixN, fRvS, fAll, dBls_map, fIsB, fIdx, msk, Function.comp_def, cut_hi, cut_lo, cut_both, Sl.own, ownL]
      have e1 : ∀ a, (Sl.mk 0 ds[i] v nx).rst a = nx.count a := fun a => by simp [mkS, finS, bNs, gL1, gL2, gLL2, fI2, tkA, ptA, GS, GL, fPut, ful, l12, l02, DL.D.mut, DL.D.imm, DL.D.imm.immAll, fdOk, fIx, fMul, fAdd, powOk, gLstL, gTupL, DL.D.ty, lvN, szOk, fLen, fListOf, fTupOf, fSl, gSlN, gSlH, gSlL, gSlB, fIsi, fIsiT, isT, DL.D.tyN, DL.D.isX, fInts, DL.D.seqI, fLenSet, fLR, fLR1, gLR2, rgOk, fDict, fAbs, fInt1, gMax2, gMin2, g1S, g2S, fItems, fR1, fR2, bd62, lowE, clr, bakE, kpE, fApp, fIns, fPop, fPopA, fPopI, fClr, fRev, fExt, allTop, fEq, fNe, fNeg, fIsN, DL.D.isNon, DL.D.key, dGet, canE, nrm, cT, sAug_k, ixN, fRvS, fAll, dBls_map, fIsB, fIdx, msk, Function.comp_def, cut_hi, cut_lo, cut_both, Sl.rst, rstL]
      have R4 : Rel K Z (L2.wipe σ vs) H3 (clr (low A L) vs) ((Sl.mk 0 ds[i] v nx).tm K :: M) := by
        refine R3.push (m := (Sl.mk 0 ds[i] v nx).tm K) rd (Sl.stab _ _) (fun a ha => rd.dom _ _ _ a (((Sl.mk 0 ds[i] v nx).mem a).mp ha)) (fun a => ⟨by show (Sl.mk 0 ds[i] v nx).own a ≤ 1; rw [e0]; omega, fun h => by have h : 0 < (Sl.mk 0 ds[i] v nx).own a := h; rw [e0] at h; omega⟩) (fun a ha => ?_) fun a ha => ?_
        · have ha : 0 < (Sl.mk 0 ds[i] v nx).own a := ha
          rw [e0] at ha
          omega
        · have ha : 0 < (Sl.mk 0 ds[i] v nx).rst a := ha
          rw [e1] at ha
          exact cz a (List.count_pos_iff.mp ha)
      have ee : er (clr (low A L) vs) = clr (lowE A (er L)) vs := by rw [er_clr, er_low]
      rw [hxi] at hc
      cases eb : bd (0, ds[i]) (clr (lowE A (er L)) vs) with
      | none => rw [eb] at hc; cases hc
      | some Γ2 =>
        rw [eb] at hc
        dsimp only at hc
        refine hg Z ⟨0, ds[i], v, nx⟩ _ H3 (clr (low A L) vs) M Γ2 _ R4 nz (by rw [ee]; exact eb) fun σ4 L4 e4 R5 bt => ⟨wipe_but hj bt, Z, L4, M, R5, ?_⟩
        rw [e4]
        cases et : t Γ2 with
        | bad => rw [et] at hc; cases hc
        | exc c => rw [et] at hc; cases hc
        | ok k =>
          rw [et] at hc
          dsimp only at hc ⊢
          intro H4 sm4
          have s14 : Same H1 H4 := (smh.trans sm2).trans sm4
          have sh4 : Same Hh H4 := sm2.trans sm4
          cases k with
          | false =>
            simp only [Bool.false_eq_true, if_false] at hc
            rw [if_neg (by decide)]
            refine ⟨by omega, es, acc, ns, s14, sh4 _ _ hDa, rds.same sh4, by omega, fun a => ⟨(hns a).1, fun ha => ⟨((hns a).2 ha).1, ((hns a).2 ha).2.1, ?_⟩⟩, rest, hc, hfin⟩
            have mm := ((hns a).2 ha).2.2
            cases eo : Hh a with
            | none => rw [eo] at mm; exact mm.elim
            | some o => rw [eo] at mm; rw [sh4 a o eo]; exact mm
          | true =>
            simp only [if_true] at hc
            rw [if_pos rfl]
            refine ⟨Z, L4, M, R5.same sm4, ?_⟩
            rw [e4]
            unfold keepD at hc
            cases ey : f Γ2 with
            | bad => rw [ey] at hc; cases hc
            | exc c => rw [ey] at hc; cases hc
            | ok y =>
              obtain ⟨ly, dy⟩ := y
              rw [ey] at hc
              dsimp only at hc ⊢
              intro vy ny H5 B5
              by_cases cl : 2 ≤ ly % 10 ∨ dy.imm = true
              rotate_left
              · rw [if_neg cl] at hc; cases hc
              rw [if_pos cl] at hc
              dsimp only at hc
              cases er' : colM (turnP bd t f (clr (lowE A (er L)) vs)) (xs.drop (i + 1)) with
              | none => rw [er'] at hc; cases hc
              | some rest' =>
              rw [er'] at hc
              simp only [Option.some.injEq] at hc
              have sh5 : Same Hh H5 := sh4.trans B5.same
              have s15 : Same H1 H5 := s14.trans B5.same
              have hD5 : H5 D = some (.lst acc) := sh5 _ _ hDa
              have newn : ∀ a ∈ ny, H4 a = none ∧ Mut (H5 a) := fun a ha => by
                have := (B5.own a).2 (by rw [imm_own B5.rd cl]; exact List.count_pos_iff.mpr ha)
                exact this.2
              have hDny : D ∉ ny := fun z => by
                have := (newn D z).1
                rw [sh4 _ _ hDa] at this
                cases this
              have hDns : D ∉ ns := fun z => ((hns D).2 z).2.1 rfl
              have rds5 := rds.same sh5
              have rl := rds5.length
              refine ⟨acc, hD5, by omega, by omega, es ++ [dy], acc ++ [vy], ns ++ (ny ++ []), fun a o ho => ?_, upd_same, ?_, by simp [mkS, finS, bNs, gL1, gL2, gLL2, fI2, tkA, ptA, GS, GL, fPut, ful, l12, l02, DL.D.mut, DL.D.imm, DL.D.imm.immAll, fdOk, fIx, fMul, fAdd, powOk, gLstL, gTupL, DL.D.ty, lvN, szOk, fLen, fListOf, fTupOf, fSl, gSlN, gSlH, gSlL, gSlB, fIsi, fIsiT, isT, DL.D.tyN, DL.D.isX, fInts, DL.D.seqI, fLenSet, fLR, fLR1, gLR2, rgOk, fDict, fAbs, fInt1, gMax2, gMin2, g1S, g2S, fItems, fR1, fR2, bd62, lowE, clr, bakE, kpE, fApp, fIns, fPop, fPopA, fPopI, fClr, fRev, fExt, allTop, fEq, fNe, fNeg, fIsN, DL.D.isNon, DL.D.key, dGet, canE, nrm, cT, sAug_k, ixN, fRvS, fAll, dBls_map, fIsB, fIdx, msk, Function.comp_def, cut_hi, cut_lo, cut_both]; omega, fun a => ?_, rest', by first | rfl | exact er', by rw [← hfin, ← hc]; simp [mkS, finS, bNs, gL1, gL2, gLL2, fI2, tkA, ptA, GS, GL, fPut, ful, l12, l02, DL.D.mut, DL.D.imm, DL.D.imm.immAll, fdOk, fIx, fMul, fAdd, powOk, gLstL, gTupL, DL.D.ty, lvN, szOk, fLen, fListOf, fTupOf, fSl, gSlN, gSlH, gSlL, gSlB, fIsi, fIsiT, isT, DL.D.tyN, DL.D.isX, fInts, DL.D.seqI, fLenSet, fLR, fLR1, gLR2, rgOk, fDict, fAbs, fInt1, gMax2, gMin2, g1S, g2S, fItems, fR1, fR2, bd62, lowE, clr, bakE, kpE, fApp, fIns, fPop, fPopA, fPopI, fClr, fRev, fExt, allTop, fEq, fNe, fNeg, fIsN, DL.D.isNon, DL.D.key, dGet, canE, nrm, cT, sAug_k, ixN, fRvS, fAll, dBls_map, fIsB, fIdx, msk, Function.comp_def, cut_hi, cut_lo, cut_both]⟩
              · have : a ≠ D := fun z => by rw [z, hD] at ho; cases ho
                rw [upd_ne this]
                exact s15 a o ho
              · exact (rds5.append (.cons B5.rd .nil)).upd hD5 trivial (by simp [mkS, finS, bNs, gL1, gL2, gLL2, fI2, tkA, ptA, GS, GL, fPut, ful, l12, l02, DL.D.mut, DL.D.imm, DL.D.imm.immAll, fdOk, fIx, fMul, fAdd, powOk, gLstL, gTupL, DL.D.ty, lvN, szOk, fLen, fListOf, fTupOf, fSl, gSlN, gSlH, gSlL, gSlB, fIsi, fIsiT, isT, DL.D.tyN, DL.D.isX, fInts, DL.D.seqI, fLenSet, fLR, fLR1, gLR2, rgOk, fDict, fAbs, fInt1, gMax2, gMin2, g1S, g2S, fItems, fR1, fR2, bd62, lowE, clr, bakE, kpE, fApp, fIns, fPop, fPopA, fPopI, fClr, fRev, fExt, allTop, fEq, fNe, fNeg, fIsN, DL.D.isNon, DL.D.key, dGet, canE, nrm, cT, sAug_k, ixN, fRvS, fAll, dBls_map, fIsB, fIdx, msk, Function.comp_def, cut_hi, cut_lo, cut_both, hDns, hDny])
              · rw [List.append_nil, List.count_append]
                have c1 := (hns a).1
                have c2 := (B5.own a).1
                rw [imm_own B5.rd cl] at c2
                have c2 : ny.count a ≤ 1 := c2
                have dj : a ∈ ns → a ∉ ny := fun h1 h2 => by
                  have k3 := ((hns a).2 h1).2.2
                  have n5 := sh4.free (newn a h2).1
                  rw [n5] at k3
                  exact k3.elim
                refine ⟨?_, fun ha => ?_⟩
                · by_cases d1 : a ∈ ns
                  · have := List.count_eq_zero.mpr (dj d1)
                    omega
                  · have := List.count_eq_zero.mpr d1
                    omega
                · rcases List.mem_append.mp ha with ha | ha
                  · obtain ⟨k1, k2, k3⟩ := (hns a).2 ha
                    refine ⟨k1, k2, ?_⟩
                    rw [upd_ne k2]
                    cases eo : Hh a with
                    | none => rw [eo] at k3; exact k3.elim
                    | some o => rw [eo] at k3; rw [sh5 a o eo]; exact k3
                  · obtain ⟨k1, k2⟩ := newn a ha
                    have k3 : a ≠ D := fun z => hDny (z ▸ ha)
                    refine ⟨(sm3.trans sm4).free k1, k3, ?_⟩
                    rw [upd_ne k3]
                    exact k2
    · have e : i = xs.length := by omega
      subst e
      refine .inl ⟨by rw [hlen]; exact wk.stops Hh rdB, ?_⟩
      rw [List.drop_length, colM] at hc
      cases hc
      rw [List.append_nil] at hfin
      subst hfin
      have cn : ∀ a, (Sl.mk 2 (.lst es) (.ref D) (D :: ns)).own a = (D :: ns).count a := fun a => by simp [mkS, finS, bNs, gL1, gL2, gLL2, fI2, tkA, ptA, GS, GL, fPut, ful, l12, l02, DL.D.mut, DL.D.imm, DL.D.imm.immAll, fdOk, fIx, fMul, fAdd, powOk, gLstL, gTupL, DL.D.ty, lvN, szOk, fLen, fListOf, fTupOf, fSl, gSlN, gSlH, gSlL, gSlB, fIsi, fIsiT, isT, DL.D.tyN, DL.D.isX, fInts, DL.D.seqI, fLenSet, fLR, fLR1, gLR2, rgOk, fDict, fAbs, fInt1, gMax2, gMin2, g1S, g2S, fItems, fR1, fR2, bd62, lowE, clr, bakE, kpE, fApp, fIns, fPop, fPopA, fPopI, fClr, fRev, fExt, allTop, fEq, fNe, fNeg, fIsN, DL.D.isNon, DL.D.key, dGet, canE, nrm, cT, sAug_k, ixN, fRvS, fAll, dBls_map, fIsB, fIdx, msk, Function.comp_def, cut_hi, cut_lo, cut_both, Sl.own, ownL]
      have cr : ∀ a, (Sl.mk 2 (.lst es) (.ref D) (D :: ns)).rst a = 0 := fun a => by simp [mkS, finS, bNs, gL1, gL2, gLL2, fI2, tkA, ptA, GS, GL, fPut, ful, l12, l02, DL.D.mut, DL.D.imm, DL.D.imm.immAll, fdOk, fIx, fMul, fAdd, powOk, gLstL, gTupL, DL.D.ty, lvN, szOk, fLen, fListOf, fTupOf, fSl, gSlN, gSlH, gSlL, gSlB, fIsi, fIsiT, isT, DL.D.tyN, DL.D.isX, fInts, DL.D.seqI, fLenSet, fLR, fLR1, gLR2, rgOk, fDict, fAbs, fInt1, gMax2, gMin2, g1S, g2S, fItems, fR1, fR2, bd62, lowE, clr, bakE, kpE, fApp, fIns, fPop, fPopA, fPopI, fClr, fRev, fExt, allTop, fEq, fNe, fNeg, fIsN, DL.D.isNon, DL.D.key, dGet, canE, nrm, cT, sAug_k, ixN, fRvS, fAll, dBls_map, fIsB, fIdx, msk, Function.comp_def, cut_hi, cut_lo, cut_both, Sl.rst, rstL]
      have hDns : D ∉ ns := fun z => ((hns D).2 z).2.1 rfl
      refine q (.ref D) (D :: ns) Hh ⟨sm1.trans smh, .lst hDa rds, fun a ha => ?_, fun a => ⟨?_, fun ha => ⟨cr a, ?_⟩⟩, fun a ha => ?_⟩
      · rcases List.mem_cons.mp ha with ha | ha
        · rw [ha]; exact Z.sub _ (R.zf D DH)
        · exact Z.sub _ (R.zf a ((hns a).2 ha).1)
      · rw [cn, List.count_cons]
        by_cases d : D = a
        · subst d
          have := List.count_eq_zero.mpr hDns
          simp [mkS, finS, bNs, gL1, gL2, gLL2, fI2, tkA, ptA, GS, GL, fPut, ful, l12, l02, DL.D.mut, DL.D.imm, DL.D.imm.immAll, fdOk, fIx, fMul, fAdd, powOk, gLstL, gTupL, DL.D.ty, lvN, szOk, fLen, fListOf, fTupOf, fSl, gSlN, gSlH, gSlL, gSlB, fIsi, fIsiT, isT, DL.D.tyN, DL.D.isX, fInts, DL.D.seqI, fLenSet, fLR, fLR1, gLR2, rgOk, fDict, fAbs, fInt1, gMax2, gMin2, g1S, g2S, fItems, fR1, fR2, bd62, lowE, clr, bakE, kpE, fApp, fIns, fPop, fPopA, fPopI, fClr, fRev, fExt, allTop, fEq, fNe, fNeg, fIsN, DL.D.isNon, DL.D.key, dGet, canE, nrm, cT, sAug_k, ixN, fRvS, fAll, dBls_map, fIsB, fIdx, msk, Function.comp_def, cut_hi, cut_lo, cut_both]
          omega
        · have := (hns a).1
          simp [mkS, finS, bNs, gL1, gL2, gLL2, fI2, tkA, ptA, GS, GL, fPut, ful, l12, l02, DL.D.mut, DL.D.imm, DL.D.imm.immAll, fdOk, fIx, fMul, fAdd, powOk, gLstL, gTupL, DL.D.ty, lvN, szOk, fLen, fListOf, fTupOf, fSl, gSlN, gSlH, gSlL, gSlB, fIsi, fIsiT, isT, DL.D.tyN, DL.D.isX, fInts, DL.D.seqI, fLenSet, fLR, fLR1, gLR2, rgOk, fDict, fAbs, fInt1, gMax2, gMin2, g1S, g2S, fItems, fR1, fR2, bd62, lowE, clr, bakE, kpE, fApp, fIns, fPop, fPopA, fPopI, fClr, fRev, fExt, allTop, fEq, fNe, fNeg, fIsN, DL.D.isNon, DL.D.key, dGet, canE, nrm, cT, sAug_k, ixN, fRvS, fAll, dBls_map, fIsB, fIdx, msk, Function.comp_def, cut_hi, cut_lo, cut_both, d]
          exact this
      · rw [cn] at ha
        have ha := List.count_pos_iff.mp ha
        rcases List.mem_cons.mp ha with ha | ha
        · rw [ha]; exact ⟨DH, by rw [hDa]; trivial⟩
        · exact ⟨((hns a).2 ha).1, ((hns a).2 ha).2.2⟩
      · rw [cr] at ha
        exact absurd ha (Nat.lt_irrefl 0)
theorem tdp_toE {K : PySem.W.Frag} {W : WW} {A : List Nat} {f : PF} {σ : L2.St} {H : Hp} {Q : VK} (h : tDE K W (toE A f) σ H Q) : tDP K W A f σ H Q := by
  obtain ⟨Z, L, M, R, q⟩ := h
  refine ⟨Z, L, M, R, ?_⟩
  unfold DL.toE at q
  cases ef : f (er L) with
  | bad => rw [ef] at q; exact q
  | exc c =>
    rw [ef] at q
    exact fun H' s => q H' L rfl (R.same s)
  | ok x =>
    obtain ⟨l, d⟩ := x
    rw [ef] at q
    intro v ns H' B
    by_cases c : 2 ≤ l % 10 ∨ d.imm = true
    · exact q v ns H' L (by simp only [if_pos c]) (B.push0 R c) B.z
    · exact q v ns H' (low A L) (by simp only [if_neg c]; exact er_low A L) (B.push R) B.z
section
variable {X : Cx} {W : WW} {A A2 : List Nat} {elt tg iter : Expr} {ifs : List Expr} {scope : Scope} {own : List (Str × Nat)} {pos : Pos} {src : Env → P (List LD)} {js : List Nat} {bd : BF} {g : TG} {t : PB} {f : PF}
theorem ptsP0 {X : Cx} : PTs X [] (tDTP X.K W0 pbT) := by
  have := pts_nil (X := X)
  exact ⟨fun pins s σ H Q I h => this.run pins s σ H Q I (by
    obtain ⟨Z, L, M, R, q⟩ := h
    exact q H (Same.refl H))⟩
theorem ptsP1 {X : Cx} {c : Expr} {t : PB} (h : DTP X W0 c t) : PTs X [c] (tDTP X.K W0 t) := pts_one h
theorem p_lc (hc : X.calm = true) (hN : X.N.Nodup) (hi : DIP X W A tg iter src) (ok : BlkOk X.N X.env.scope scope own) (hj : ∀ j ∈ js, j ∈ own.map (·.2)) (htg : TgOk X.K js g bd)
    (hg : ∀ (s : Shared) (H : Hp) (C : Addr) (cl : List (Str × Addr)) (fp : List Addr), PG (X.blk s H scope (compEnvC scope cl C X.env) fp) tg g) (ht : ∀ (s : Shared) (H : Hp) (C : Addr) (cl : List (Str × Addr)) (fp : List Addr), PTs (X.blk s H scope (compEnvC scope cl C X.env) fp) ifs (tDTP X.K W0 t))
    (he : ∀ (s : Shared) (H : Hp) (C : Addr) (cl : List (Str × Addr)) (fp : List Addr), DP (X.blk s H scope (compEnvC scope cl C X.env) fp) W0 A2 elt f) (hs : ∀ x, foldedSetIterable iter X.env x = pure x := by intro _; rfl) :
    DP X W A (.ListComp elt [⟨tg, iter, ifs, 0⟩] scope pos) (pLc A src bd t f (own.map (·.2))) := by
  obtain ⟨wi, hi, hw⟩ := hi
  exact PE.imp (pe_lc (te := tDP X.K W0 A2 f) hc hN hi ok hg ht he hs) fun σ H Q q => plc_ok hj htg hw q
/-- name = [..], on one line -/
theorem s_setLcP {i : Nat} {y : Str} {py spos : Pos} (hc : X.calm = true) (hN : X.N.Nodup) (hy : X.N[i]? = some y) (hyl : X.env.scope.names.lookup y = some .local)
    (hsw : swapsWith (.ListComp elt [⟨tg, iter, ifs, 0⟩] scope pos) (some (.Name y py)) spos.line X.env = pure true) (hi : DIP X W A tg iter src) (ok : BlkOk X.N X.env.scope scope own) (hj : ∀ j ∈ js, j ∈ own.map (·.2)) (htg : TgOk X.K js g bd)
    (hg : ∀ (s : Shared) (H : Hp) (C : Addr) (cl : List (Str × Addr)) (fp : List Addr), PG (X.blk s H scope (compEnvC scope cl C X.env) fp) tg g) (ht : ∀ (s : Shared) (H : Hp) (C : Addr) (cl : List (Str × Addr)) (fp : List Addr), PTs (X.blk s H scope (compEnvC scope cl C X.env) fp) ifs (tDTP X.K W0 t))
    (he : ∀ (s : Shared) (H : Hp) (C : Addr) (cl : List (Str × Addr)) (fp : List Addr), DP (X.blk s H scope (compEnvC scope cl C X.env) fp) W0 A2 elt f) (hs : ∀ x, foldedSetIterable iter X.env x = pure x := by intro _; rfl) :
    DS X W (.Assign [.Name y py] (.ListComp elt [⟨tg, iter, ifs, 0⟩] scope pos) spos) (sAsg (toE A (pLc A src bd t f (own.map (·.2)))) (bName i)) := by
  obtain ⟨wi, hi, hw⟩ := hi
  refine PS.imp (ps_setLc (te := tDP X.K W0 A2 f) hc hN hy hyl hsw hi ok hg ht he hs) fun D σ H q => ?_
  have q1 := asg_core (tg_name (i := i)) q
  exact plc_ok hj htg hw (tdp_toE q1)
end
def kSrcP1 : Option (List D) → P (List LD)
  | some ds => .ok (ds.map fun d => (0, d))
  | none => .bad
def kSrcP (g : List LD → Option (List D)) : P (List LD) → P (List LD)
  | .ok xs => kSrcP1 (g xs)
  | .exc c => .exc c
  | .bad => .bad
@[simp] theorem srcP_k (g : List LD → Option (List D)) (fs : List PF) : srcP g fs Γ = kSrcP g (evP fs Γ) := by 
  unfold srcP
  cases evP fs Γ with
  | ok xs =>
    show (match g xs with | some ds => P.ok (ds.map fun d => ((0 : Nat), d)) | none => P.bad) = kSrcP1 (g xs)
    cases g xs <;> rfl
  | exc c => rfl
  | bad => rfl
@[simp] theorem kSrcP_ok (g : List LD → Option (List D)) : kSrcP g (.ok xs) = kSrcP1 (g xs) := rfl
@[simp] theorem kSrcP1_some (ds : List D) : kSrcP1 (some ds) = .ok (ds.map fun d => (0, d)) := rfl
def kPLc (bd : BF) (t : PB) (f : PF) (vs : List Nat) (Γ : Env) : P (List LD) → P LD
  | .ok xs => if szOk xs.length then lcEndP (colM (turnP bd t f (clr Γ vs)) xs) else .bad
  | .exc c => .exc c
  | .bad => .bad
@[simp] theorem pLc_k (A : List Nat) (src : Env → P (List LD)) (bd : BF) (t : PB) (f : PF) (vs : List Nat) : pLc A src bd t f vs Γ = kPLc bd t f vs (lowE A Γ) (src Γ) := by unfold pLc kPLc; cases src Γ <;> rfl
@[simp] theorem kPLc_ok (bd : BF) (t : PB) (f : PF) (vs : List Nat) : kPLc bd t f vs Γ (.ok xs) = if szOk xs.length then lcEndP (colM (turnP bd t f (clr Γ vs)) xs) else .bad := rfl
@[simp] theorem lcEndP_some (ds : List D) : lcEndP (some ds) = .ok (2, .lst ds) := rfl
end DL

/-! DL29: methods on what stands in a slot's list or tuple: x[k].append(..) -/
namespace DL
open L2 PySem PySem.Spec PyProof.Rows
theorem Rds.cutAt {K : PySem.W.Frag} {H : Hp} : ∀ {ds : List D} {vs : List V} {ns : List Addr} (j : Nat) (d : D), Rds K H vs ds ns → ds[j]? = some d → ∃ v n n1 n2, vs[j]? = some v ∧ Rd K H v d n ∧ ns = n1 ++ (n ++ n2) ∧
    ∀ (H' : Hp) (d' : D) (n' : List Addr), TupK H H' → (∀ a, a ∈ n1 ∨ a ∈ n2 → H' a = H a) → Rd K H' v d' n' → Rds K H' vs (ds.set j d') (n1 ++ (n' ++ n2))
  | [], _, _, j, d, _, h => by simp [mkS, finS, bNs, gL1, gL2, gLL2, fI2, tkA, ptA, GS, GL, fPut, ful, l12, l02, DL.D.mut, DL.D.imm, DL.D.imm.immAll, fdOk, fIx, fMul, fAdd, powOk, gLstL, gTupL, DL.D.ty, lvN, szOk, fLen, fListOf, fTupOf, fSl, gSlN, gSlH, gSlL, gSlB, fIsi, fIsiT, isT, DL.D.tyN, DL.D.isX, fInts, DL.D.seqI, fLenSet, fLR, fLR1, gLR2, rgOk, fDict, fAbs, fInt1, gMax2, gMin2, g1S, g2S, fItems, fR1, fR2, bd62, lowE, clr, bakE, kpE, fApp, fIns, fPop, fPopA, fPopI, fClr, fRev, fExt, allTop, fEq, fNe, fNeg, fIsN, DL.D.isNon, DL.D.key, dGet, canE, nrm, cT, sAug_k, ixN, fRvS, fAll, dBls_map, fIsB, fIdx, msk, Function.comp_def, cut_hi, cut_lo, cut_both] at h
  | d0 :: ds, _, _, 0, d, .cons (n := n0) (ns := ns0) h0 hs, h => by
    simp [mkS, finS, bNs, gL1, gL2, gLL2, fI2, tkA, ptA, GS, GL, fPut, ful, l12, l02, DL.D.mut, DL.D.imm, DL.D.imm.immAll, fdOk, fIx, fMul, fAdd, powOk, gLstL, gTupL, DL.D.ty, lvN, szOk, fLen, fListOf, fTupOf, fSl, gSlN, gSlH, gSlL, gSlB, fIsi, fIsiT, isT, DL.D.tyN, DL.D.isX, fInts, DL.D.seqI, fLenSet, fLR, fLR1, gLR2, rgOk, fDict, fAbs, fInt1, gMax2, gMin2, g1S, g2S, fItems, fR1, fR2, bd62, lowE, clr, bakE, kpE, fApp, fIns, fPop, fPopA, fPopI, fClr, fRev, fExt, allTop, fEq, fNe, fNeg, fIsN, DL.D.isNon, DL.D.key, dGet, canE, nrm, cT, sAug_k, ixN, fRvS, fAll, dBls_map, fIsB, fIdx, msk, Function.comp_def, cut_hi, cut_lo, cut_both] at h
    subst h
    exact ⟨_, n0, [], ns0, rfl, h0, rfl, fun H' d' n' tk e hn => (show Rds K H' _ (d' :: ds) (n' ++ ns0) from .cons hn (Rds.at tk _ _ _ hs fun a ha => e a (.inr ha)))⟩
  | d0 :: ds, _, _, j + 1, d, .cons (n := n0) (ns := ns0) h0 hs, h => by
    obtain ⟨v, n, n1, n2, g1, g2, g3, g4⟩ := Rds.cutAt j d hs (by simpa [mkS, finS, bNs, gL1, gL2, gLL2, fI2, tkA, ptA, GS, GL, fPut, ful, l12, l02, DL.D.mut, DL.D.imm, DL.D.imm.immAll, fdOk, fIx, fMul, fAdd, powOk, gLstL, gTupL, DL.D.ty, lvN, szOk, fLen, fListOf, fTupOf, fSl, gSlN, gSlH, gSlL, gSlB, fIsi, fIsiT, isT, DL.D.tyN, DL.D.isX, fInts, DL.D.seqI, fLenSet, fLR, fLR1, gLR2, rgOk, fDict, fAbs, fInt1, gMax2, gMin2, g1S, g2S, fItems, fR1, fR2, bd62, lowE, clr, bakE, kpE, fApp, fIns, fPop, fPopA, fPopI, fClr, fRev, fExt, allTop, fEq, fNe, fNeg, fIsN, DL.D.isNon, DL.D.key, dGet, canE, nrm, cT, sAug_k, ixN, fRvS, fAll, dBls_map, fIsB, fIdx, msk, Function.comp_def, cut_hi, cut_lo, cut_both] using h)
    refine ⟨v, n, n0 ++ n1, n2, by simpa [mkS, finS, bNs, gL1, gL2, gLL2, fI2, tkA, ptA, GS, GL, fPut, ful, l12, l02, DL.D.mut, DL.D.imm, DL.D.imm.immAll, fdOk, fIx, fMul, fAdd, powOk, gLstL, gTupL, DL.D.ty, lvN, szOk, fLen, fListOf, fTupOf, fSl, gSlN, gSlH, gSlL, gSlB, fIsi, fIsiT, isT, DL.D.tyN, DL.D.isX, fInts, DL.D.seqI, fLenSet, fLR, fLR1, gLR2, rgOk, fDict, fAbs, fInt1, gMax2, gMin2, g1S, g2S, fItems, fR1, fR2, bd62, lowE, clr, bakE, kpE, fApp, fIns, fPop, fPopA, fPopI, fClr, fRev, fExt, allTop, fEq, fNe, fNeg, fIsN, DL.D.isNon, DL.D.key, dGet, canE, nrm, cT, sAug_k, ixN, fRvS, fAll, dBls_map, fIsB, fIdx, msk, Function.comp_def, cut_hi, cut_lo, cut_both] using g1, g2, by rw [g3]; simp, fun H' d' n' tk e hn => ?_⟩
    have := Rds.cons (Rd.at tk _ _ _ h0 fun a ha => e a (.inl (List.mem_append_left _ ha))) (g4 H' d' n' tk (fun a ha => e a (by
      rcases ha with ha | ha
      · exact .inl (List.mem_append_right _ ha)
      · exact .inr ha)) hn)
    rw [List.append_assoc]
    exact this
/-- the k-th of a list (b), of a tuple -/
def At (K : PySem.W.Frag) (b : Bool) (x : V) (k : Int) (w : V) (H : Hp) : Prop := ∃ p xs, x = .ref p ∧ (if b = true then H p = some (.lst xs) else SqT K H p xs) ∧ atI xs k = some w
def rAt (K : PySem.W.Frag) (b : Bool) (k : Int) (r : V → List V → Hp → VK → Prop) : V → List V → Hp → VK → Prop := fun x ys H Q => ∃ w, At K b x k w H ∧ r w ys H Q
def inD : Bool → D → Option (List D)
  | true, .lst ds => some ds
  | false, .tup ds => some ds
  | _, _ => none
def outD (b : Bool) (ds : List D) : D := if b then .lst ds else .tup ds
def nestL (f : D → List LD → Option (Option D × D)) (b : Bool) (k : Int) (ds : List D) (as : List LD) : FR := match ixN ds.length k with
  | some j => (match ds[j]? with
    | some di => if di.mut then (match f di as with
      | some (od, d') => .ret (2, od.getD .non) [(2, outD b (ds.set j d'))]
      | none => .bad) else .bad
    | none => .bad)
  | none => .bad
def nestG (b : Bool) (f : D → List LD → Option (Option D × D)) (k : Int) : List LD → FR
  | (l, d) :: as => if (decide (2 ≤ l % 10) && as.all ful) = true then (match inD b d with
    | some ds => nestL f b k ds as
    | none => .bad) else .bad
  | _ => .bad
theorem nest_core {K : PySem.W.Frag} {mg : Str → Option Value} {H : Hp} {r : V → List V → Hp → VK → Prop} {f : D → List LD → Option (Option D × D)} {l : Nat} {d : D} {v w : V} {ns n n1 n2 : List Addr} {Xs : List Sl} {Q : VK} {di d' : D} {od : Option D} {out : D → D} (h : LOk K r f)
    (ok : ArgsOk K H (⟨l, d, v, ns⟩ :: Xs)) (hl : 2 ≤ l % 10) (hX : ∀ x ∈ Xs, fullS x) (hm : di.mut = true) (hw : Rd K H w di n) (hn : ns = n1 ++ (n ++ n2))
    (kk : ∀ (H' : Hp) (d' : D) (n' : List Addr), TupK H H' → (∀ a, a ∈ n1 ∨ a ∈ n2 → H' a = H a) → Rd K H' w d' n' → Rd K H' v (out d') (n1 ++ (n' ++ n2))) (ef : f di (Xs.map Sl.ld) = some (od, d'))
    (q : ∀ v' nv (Fs : List Sl) H', Fs.map Sl.ld = [(2, out d')] → Fs.map Sl.v = [v] → Fram (⟨l, d, v, ns⟩ :: Xs) H H' → ArgsOk K H' (⟨2, od.getD .non, v', nv⟩ :: Fs) → From (⟨l, d, v, ns⟩ :: Xs) H (⟨2, od.getD .non, v', nv⟩ :: Fs) → Q v' H') : r w (Xs.map Sl.v) H Q := by
  have rX : ∀ s ∈ Xs, Rd K H s.v s.d s.ns := fun s hs => ok.rd s (List.mem_cons_of_mem _ hs)
  obtain ⟨p, o, nsi, rfl, rfl, hp, hmo⟩ := rd_mut hw hm
  have oA : ∀ a, oL (⟨l, d, v, ns⟩ :: Xs) a = ns.count a + (Xs.flatMap Sl.ns).count a := fun a => by
    show (Sl.mk l d v ns).own a + oL Xs a = _
    rw [full_own (s := ⟨l, d, v, ns⟩) (.inl hl), fulls_own hX]
  have cN : ∀ a, ns.count a = n1.count a + ((p :: nsi).count a + n2.count a) := fun a => by rw [hn, List.count_append, List.count_append]
  have cP : ∀ (ms : List Addr) a, (p :: ms).count a = (if p = a then 1 else 0) + ms.count a := fun ms a => by
    rw [List.count_cons]
    by_cases c : p = a
    · simp [mkS, finS, bNs, gL1, gL2, gLL2, fI2, tkA, ptA, GS, GL, fPut, ful, l12, l02, DL.D.mut, DL.D.imm, DL.D.imm.immAll, fdOk, fIx, fMul, fAdd, powOk, gLstL, gTupL, DL.D.ty, lvN, szOk, fLen, fListOf, fTupOf, fSl, gSlN, gSlH, gSlL, gSlB, fIsi, fIsiT, isT, DL.D.tyN, DL.D.isX, fInts, DL.D.seqI, fLenSet, fLR, fLR1, gLR2, rgOk, fDict, fAbs, fInt1, gMax2, gMin2, g1S, g2S, fItems, fR1, fR2, bd62, lowE, clr, bakE, kpE, fApp, fIns, fPop, fPopA, fPopI, fClr, fRev, fExt, allTop, fEq, fNe, fNeg, fIsN, DL.D.isNon, DL.D.key, dGet, canE, nrm, cT, sAug_k, ixN, fRvS, fAll, dBls_map, fIsB, fIdx, msk, Function.comp_def, cut_hi, cut_lo, cut_both, c]; omega
    · simp [mkS, finS, bNs, gL1, gL2, gLL2, fI2, tkA, ptA, GS, GL, fPut, ful, l12, l02, DL.D.mut, DL.D.imm, DL.D.imm.immAll, fdOk, fIx, fMul, fAdd, powOk, gLstL, gTupL, DL.D.ty, lvN, szOk, fLen, fListOf, fTupOf, fSl, gSlN, gSlH, gSlL, gSlB, fIsi, fIsiT, isT, DL.D.tyN, DL.D.isX, fInts, DL.D.seqI, fLenSet, fLR, fLR1, gLR2, rgOk, fDict, fAbs, fInt1, gMax2, gMin2, g1S, g2S, fItems, fR1, fR2, bd62, lowE, clr, bakE, kpE, fApp, fIns, fPop, fPopA, fPopI, fClr, fRev, fExt, allTop, fEq, fNe, fNeg, fIsN, DL.D.isNon, DL.D.key, dGet, canE, nrm, cT, sAug_k, ixN, fRvS, fAll, dBls_map, fIsB, fIdx, msk, Function.comp_def, cut_hi, cut_lo, cut_both, c]
  have one : ∀ a, n1.count a + ((p :: nsi).count a + n2.count a) + (Xs.flatMap Sl.ns).count a ≤ 1 := fun a => by
    have := (ok.sep a).1
    rw [oA, cN] at this
    exact this
  refine h di p nsi Xs H Q od d' hm hw rX ef fun v' nv o' ms hd' hm' r1 r2 cn => ?_
  have op := one p
  rw [cP, if_pos rfl] at op
  have cp := cn p
  have z1 : p ∉ ms := fun z => by have := List.count_pos_iff.mpr z; omega
  have z2 : p ∉ nv := fun z => by have := List.count_pos_iff.mpr z; omega
  have z3 : p ∉ n1 := fun z => by have := List.count_pos_iff.mpr z; omega
  have z4 : p ∉ n2 := fun z => by have := List.count_pos_iff.mpr z; omega
  have hOp : 0 < oL (⟨l, d, v, ns⟩ :: Xs) p := by rw [oA, cN, cP, if_pos rfl]; omega
  have rs' : Rd K (upd H p o') v (out d') (n1 ++ ((p :: ms) ++ n2)) := kk _ d' _ (tupk_upd hp hmo) (fun a ha => upd_ne fun e => by
    subst e
    rcases ha with ha | ha
    · exact z3 ha
    · exact z4 ha) (r1 o hp hmo z1)
  have B : ∀ a, oL [⟨2, od.getD .non, v', nv⟩, ⟨2, out d', v, n1 ++ ((p :: ms) ++ n2)⟩] a = nv.count a + (n1.count a + ((if p = a then 1 else 0) + ms.count a + n2.count a)) := fun a => by
    show (Sl.mk 2 (od.getD .non) v' nv).own a + ((Sl.mk 2 (out d') v (n1 ++ ((p :: ms) ++ n2))).own a + 0) = _
    rw [full_own (s := ⟨2, od.getD .non, v', nv⟩) (.inl (Nat.le_refl 2)), full_own (s := ⟨2, out d', v, n1 ++ ((p :: ms) ++ n2)⟩) (.inl (Nat.le_refl 2)), ← cP]
    simp only [List.count_append]
    omega
  have C : ∀ a, rL [⟨2, od.getD .non, v', nv⟩, ⟨2, out d', v, n1 ++ ((p :: ms) ++ n2)⟩] a = 0 := fun a => by
    show (Sl.mk 2 (od.getD .non) v' nv).rst a + ((Sl.mk 2 (out d') v (n1 ++ ((p :: ms) ++ n2))).rst a + 0) = _
    rw [rst_top (by decide), rst_top (by decide)]
  have le : ∀ a, oL [⟨2, od.getD .non, v', nv⟩, ⟨2, out d', v, n1 ++ ((p :: ms) ++ n2)⟩] a ≤ oL (⟨l, d, v, ns⟩ :: Xs) a := fun a => by
    rw [B, oA, cN, cP]
    have := cn a
    omega
  refine q v' nv [⟨2, out d', v, n1 ++ ((p :: ms) ++ n2)⟩] (upd H p o') rfl rfl (Fram.upd hOp) ⟨fun s hs => ?_, fun a => ⟨?_, fun _ => C a⟩, fun a ha => ?_⟩ fun a => ⟨fun ha => .inr (by have := le a; omega), fun ha => .inr (by have := le a; rw [C] at ha; omega)⟩
  · rcases List.mem_cons.mp hs with rfl | hs
    · exact r2.upd hp hmo z2
    · rw [List.mem_singleton.mp hs]; exact rs'
  · have := le a
    have := (ok.sep a).1
    omega
  · by_cases e : p = a
    · subst e; rw [upd_same]; exact hm'
    · rw [upd_ne fun z => e z.symm]; exact ok.wr a (by have := le a; omega)
theorem nest_ok {K : PySem.W.Frag} {mg : Str → Option Value} {r : V → List V → Hp → VK → Prop} {f : D → List LD → Option (Option D × D)} {n : Nat} (h : LOk K r f) (b : Bool) (k : Int) : MOk K mg (n + 1) (true :: List.replicate n false) (r1a (rAt K b k r)) (nestG b f k) := by
  rintro _ H Q E ⟨As, rfl, hn, ok, q⟩
  rcases As with _ | ⟨⟨l, d, v, ns⟩, Xs⟩
  · cases hn
  · have rs := ok.rd ⟨l, d, v, ns⟩ (List.mem_cons_self ..)
    have rX : ∀ s ∈ Xs, Rd K H s.v s.d s.ns := fun s hs => ok.rd s (List.mem_cons_of_mem _ hs)
    have mk : msk (true :: List.replicate n false) (v :: Xs.map Sl.v) = [v] := by
      have : ∀ (n : Nat) (vs : List V), msk (List.replicate n false) vs = [] := fun n => by
        induction n with
        | zero => intro vs; rfl
        | succ n ih =>
          intro vs
          cases vs with
          | nil => rfl
          | cons v vs => exact ih vs
      show v :: msk (List.replicate n false) _ = _
      rw [this]
    simp only [List.map_cons, Sl.ld] at q
    unfold nestG at q
    dsimp only at rs q
    show ∃ w, At K b v k w H ∧ r w (Xs.map Sl.v) H Q
    by_cases c : (decide (2 ≤ l % 10) && (Xs.map Sl.ld).all ful) = true
    rotate_left
    · rw [if_neg c] at q
      exact q.elim
    have c2 := c
    rw [Bool.and_eq_true, decide_eq_true_eq, List.all_eq_true] at c2
    have hX : ∀ x ∈ Xs, fullS x := fun x hx => ful_ok (c2.2 _ (List.mem_map.mpr ⟨x, hx, rfl⟩)) (rX x hx)
    rw [if_pos c] at q
    cases ei : inD b d with
    | none =>
      rw [ei] at q
      exact q.elim
    | some ds =>
      rw [ei] at q
      dsimp only at q
      unfold nestL at q
      cases ej : ixN ds.length k with
      | none => rw [ej] at q; exact q.elim
      | some j =>
        rw [ej] at q
        dsimp only at q
        cases ed : ds[j]? with
        | none => rw [ed] at q; exact q.elim
        | some di =>
          rw [ed] at q
          dsimp only at q
          by_cases hm : di.mut = true
          rotate_left
          · rw [if_neg hm] at q
            exact q.elim
          rw [if_pos hm] at q
          cases ef : f di (Xs.map Sl.ld) with
          | none =>
            rw [ef] at q
            exact q.elim
          | some z =>
            obtain ⟨od, d'⟩ := z
            rw [ef] at q
            dsimp only at q
            have at_ : ∀ {vs : List V} {w : V}, vs.length = ds.length → vs[j]? = some w → atI vs k = some w := fun hl e => by
              unfold atI
              rw [hl, ej]
              exact e
            cases b with
            | true =>
              cases d with
              | lst ds0 =>
                cases ei
                cases rs with
                | @lst a vs _ ns0 ha hr =>
                  obtain ⟨w, n0, n1, n2, g1, g2, g3, g4⟩ := Rds.cutAt j di hr ed
                  refine ⟨w, ⟨a, vs, rfl, by simpa [mkS, finS, bNs, gL1, gL2, gLL2, fI2, tkA, ptA, GS, GL, fPut, ful, l12, l02, DL.D.mut, DL.D.imm, DL.D.imm.immAll, fdOk, fIx, fMul, fAdd, powOk, gLstL, gTupL, DL.D.ty, lvN, szOk, fLen, fListOf, fTupOf, fSl, gSlN, gSlH, gSlL, gSlB, fIsi, fIsiT, isT, DL.D.tyN, DL.D.isX, fInts, DL.D.seqI, fLenSet, fLR, fLR1, gLR2, rgOk, fDict, fAbs, fInt1, gMax2, gMin2, g1S, g2S, fItems, fR1, fR2, bd62, lowE, clr, bakE, kpE, fApp, fIns, fPop, fPopA, fPopI, fClr, fRev, fExt, allTop, fEq, fNe, fNeg, fIsN, DL.D.isNon, DL.D.key, dGet, canE, nrm, cT, sAug_k, ixN, fRvS, fAll, dBls_map, fIsB, fIdx, msk, Function.comp_def, cut_hi, cut_lo, cut_both] using ha, at_ hr.length g1⟩, nest_core (mg := mg) (n1 := a :: n1) (n2 := n2) (out := fun d' => .lst (ds.set j d')) h ok c2.1 hX hm g2 (by rw [g3]; rfl) (fun H' d' n' tk e hn => ?_) ef fun v' nv Fs H' e1 e2 f1 f2 f3 => q v' nv Fs H' e1 (by rw [e2]; exact mk.symm) f1 f2 f3⟩
                  refine .lst (by rw [e a (.inl (List.mem_cons_self ..))]; exact ha) (g4 H' d' n' tk (fun a ha => e a (by
                    rcases ha with ha | ha
                    · exact .inl (List.mem_cons_of_mem _ ha)
                    · exact .inr ha)) hn)
              | _ => cases ei
            | false =>
              cases d with
              | tup ds0 =>
                cases ei
                cases rs with
                | @tup a vs _ ns0 ha hr =>
                  obtain ⟨w, n0, n1, n2, g1, g2, g3, g4⟩ := Rds.cutAt j di hr ed
                  refine ⟨w, ⟨a, vs, rfl, by simpa [mkS, finS, bNs, gL1, gL2, gLL2, fI2, tkA, ptA, GS, GL, fPut, ful, l12, l02, DL.D.mut, DL.D.imm, DL.D.imm.immAll, fdOk, fIx, fMul, fAdd, powOk, gLstL, gTupL, DL.D.ty, lvN, szOk, fLen, fListOf, fTupOf, fSl, gSlN, gSlH, gSlL, gSlB, fIsi, fIsiT, isT, DL.D.tyN, DL.D.isX, fInts, DL.D.seqI, fLenSet, fLR, fLR1, gLR2, rgOk, fDict, fAbs, fInt1, gMax2, gMin2, g1S, g2S, fItems, fR1, fR2, bd62, lowE, clr, bakE, kpE, fApp, fIns, fPop, fPopA, fPopI, fClr, fRev, fExt, allTop, fEq, fNe, fNeg, fIsN, DL.D.isNon, DL.D.key, dGet, canE, nrm, cT, sAug_k, ixN, fRvS, fAll, dBls_map, fIsB, fIdx, msk, Function.comp_def, cut_hi, cut_lo, cut_both] using ha, at_ hr.length g1⟩, nest_core (mg := mg) (n1 := n1) (n2 := n2) (out := fun d' => .tup (ds.set j d')) h ok c2.1 hX hm g2 g3 (fun H' d' n' tk e hn => ?_) ef fun v' nv Fs H' e1 e2 f1 f2 f3 => q v' nv Fs H' e1 (by rw [e2]; exact mk.symm) f1 f2 f3⟩
                  exact .tup (tk.tup ha) (g4 H' d' n' tk e hn)
              | _ => cases ei
theorem At.same {K : PySem.W.Frag} {b : Bool} {x w : V} {k : Int} {H H' : Hp} (h : At K b x k w H) (s : Same H H') : At K b x k w H' := by
  obtain ⟨p, xs, e, h1, h2⟩ := h
  refine ⟨p, xs, e, ?_, h2⟩
  cases b with
  | true => simpa [mkS, finS, bNs, gL1, gL2, gLL2, fI2, tkA, ptA, GS, GL, fPut, ful, l12, l02, DL.D.mut, DL.D.imm, DL.D.imm.immAll, fdOk, fIx, fMul, fAdd, powOk, gLstL, gTupL, DL.D.ty, lvN, szOk, fLen, fListOf, fTupOf, fSl, gSlN, gSlH, gSlL, gSlB, fIsi, fIsiT, isT, DL.D.tyN, DL.D.isX, fInts, DL.D.seqI, fLenSet, fLR, fLR1, gLR2, rgOk, fDict, fAbs, fInt1, gMax2, gMin2, g1S, g2S, fItems, fR1, fR2, bd62, lowE, clr, bakE, kpE, fApp, fIns, fPop, fPopA, fPopI, fClr, fRev, fExt, allTop, fEq, fNe, fNeg, fIsN, DL.D.isNon, DL.D.key, dGet, canE, nrm, cT, sAug_k, ixN, fRvS, fAll, dBls_map, fIsB, fIdx, msk, Function.comp_def, cut_hi, cut_lo, cut_both] using s p _ (by simpa [mkS, finS, bNs, gL1, gL2, gLL2, fI2, tkA, ptA, GS, GL, fPut, ful, l12, l02, DL.D.mut, DL.D.imm, DL.D.imm.immAll, fdOk, fIx, fMul, fAdd, powOk, gLstL, gTupL, DL.D.ty, lvN, szOk, fLen, fListOf, fTupOf, fSl, gSlN, gSlH, gSlL, gSlB, fIsi, fIsiT, isT, DL.D.tyN, DL.D.isX, fInts, DL.D.seqI, fLenSet, fLR, fLR1, gLR2, rgOk, fDict, fAbs, fInt1, gMax2, gMin2, g1S, g2S, fItems, fR1, fR2, bd62, lowE, clr, bakE, kpE, fApp, fIns, fPop, fPopA, fPopI, fClr, fRev, fExt, allTop, fEq, fNe, fNeg, fIsN, DL.D.isNon, DL.D.key, dGet, canE, nrm, cT, sAug_k, ixN, fRvS, fAll, dBls_map, fIsB, fIdx, msk, Function.comp_def, cut_hi, cut_lo, cut_both] using h1)
  | false =>
    have h1 : SqT K H p xs := by simpa [mkS, finS, bNs, gL1, gL2, gLL2, fI2, tkA, ptA, GS, GL, fPut, ful, l12, l02, DL.D.mut, DL.D.imm, DL.D.imm.immAll, fdOk, fIx, fMul, fAdd, powOk, gLstL, gTupL, DL.D.ty, lvN, szOk, fLen, fListOf, fTupOf, fSl, gSlN, gSlH, gSlL, gSlB, fIsi, fIsiT, isT, DL.D.tyN, DL.D.isX, fInts, DL.D.seqI, fLenSet, fLR, fLR1, gLR2, rgOk, fDict, fAbs, fInt1, gMax2, gMin2, g1S, g2S, fItems, fR1, fR2, bd62, lowE, clr, bakE, kpE, fApp, fIns, fPop, fPopA, fPopI, fClr, fRev, fExt, allTop, fEq, fNe, fNeg, fIsN, DL.D.isNon, DL.D.key, dGet, canE, nrm, cT, sAug_k, ixN, fRvS, fAll, dBls_map, fIsB, fIdx, msk, Function.comp_def, cut_hi, cut_lo, cut_both] using h1
    simpa [mkS, finS, bNs, gL1, gL2, gLL2, fI2, tkA, ptA, GS, GL, fPut, ful, l12, l02, DL.D.mut, DL.D.imm, DL.D.imm.immAll, fdOk, fIx, fMul, fAdd, powOk, gLstL, gTupL, DL.D.ty, lvN, szOk, fLen, fListOf, fTupOf, fSl, gSlN, gSlH, gSlL, gSlB, fIsi, fIsiT, isT, DL.D.tyN, DL.D.isX, fInts, DL.D.seqI, fLenSet, fLR, fLR1, gLR2, rgOk, fDict, fAbs, fInt1, gMax2, gMin2, g1S, g2S, fItems, fR1, fR2, bd62, lowE, clr, bakE, kpE, fApp, fIns, fPop, fPopA, fPopI, fClr, fRev, fExt, allTop, fEq, fNe, fNeg, fIsN, DL.D.isNon, DL.D.key, dGet, canE, nrm, cT, sAug_k, ixN, fRvS, fAll, dBls_map, fIsB, fIdx, msk, Function.comp_def, cut_hi, cut_lo, cut_both] using (TupK.same s).tup h1
theorem At.uniq {X : Cx} {pins : List (Addr × Obj)} {s : Shared} {σ : L2.St} {b : Bool} {x w w' : V} {k : Int} {H : Hp} (I : Inv X pins σ H s) (h : At X.K b x k w H) (h' : At X.K b x k w' H) : w = w' := by
  obtain ⟨p, xs, e, h1, h2⟩ := h
  obtain ⟨p', xs', e', h1', h2'⟩ := h'
  rw [e] at e'
  cases e'
  have : xs = xs' := by
    cases b with
    | true =>
      have h1 : H p = some (.lst xs) := by simpa [mkS, finS, bNs, gL1, gL2, gLL2, fI2, tkA, ptA, GS, GL, fPut, ful, l12, l02, DL.D.mut, DL.D.imm, DL.D.imm.immAll, fdOk, fIx, fMul, fAdd, powOk, gLstL, gTupL, DL.D.ty, lvN, szOk, fLen, fListOf, fTupOf, fSl, gSlN, gSlH, gSlL, gSlB, fIsi, fIsiT, isT, DL.D.tyN, DL.D.isX, fInts, DL.D.seqI, fLenSet, fLR, fLR1, gLR2, rgOk, fDict, fAbs, fInt1, gMax2, gMin2, g1S, g2S, fItems, fR1, fR2, bd62, lowE, clr, bakE, kpE, fApp, fIns, fPop, fPopA, fPopI, fClr, fRev, fExt, allTop, fEq, fNe, fNeg, fIsN, DL.D.isNon, DL.D.key, dGet, canE, nrm, cT, sAug_k, ixN, fRvS, fAll, dBls_map, fIsB, fIdx, msk, Function.comp_def, cut_hi, cut_lo, cut_both] using h1
      have h1' : H p = some (.lst xs') := by simpa [mkS, finS, bNs, gL1, gL2, gLL2, fI2, tkA, ptA, GS, GL, fPut, ful, l12, l02, DL.D.mut, DL.D.imm, DL.D.imm.immAll, fdOk, fIx, fMul, fAdd, powOk, gLstL, gTupL, DL.D.ty, lvN, szOk, fLen, fListOf, fTupOf, fSl, gSlN, gSlH, gSlL, gSlB, fIsi, fIsiT, isT, DL.D.tyN, DL.D.isX, fInts, DL.D.seqI, fLenSet, fLR, fLR1, gLR2, rgOk, fDict, fAbs, fInt1, gMax2, gMin2, g1S, g2S, fItems, fR1, fR2, bd62, lowE, clr, bakE, kpE, fApp, fIns, fPop, fPopA, fPopI, fClr, fRev, fExt, allTop, fEq, fNe, fNeg, fIsN, DL.D.isNon, DL.D.key, dGet, canE, nrm, cT, sAug_k, ixN, fRvS, fAll, dBls_map, fIsB, fIdx, msk, Function.comp_def, cut_hi, cut_lo, cut_both] using h1'
      rw [h1] at h1'
      cases h1'
      rfl
    | false => exact I.tuple_inj (by simpa [mkS, finS, bNs, gL1, gL2, gLL2, fI2, tkA, ptA, GS, GL, fPut, ful, l12, l02, DL.D.mut, DL.D.imm, DL.D.imm.immAll, fdOk, fIx, fMul, fAdd, powOk, gLstL, gTupL, DL.D.ty, lvN, szOk, fLen, fListOf, fTupOf, fSl, gSlN, gSlH, gSlL, gSlB, fIsi, fIsiT, isT, DL.D.tyN, DL.D.isX, fInts, DL.D.seqI, fLenSet, fLR, fLR1, gLR2, rgOk, fDict, fAbs, fInt1, gMax2, gMin2, g1S, g2S, fItems, fR1, fR2, bd62, lowE, clr, bakE, kpE, fApp, fIns, fPop, fPopA, fPopI, fClr, fRev, fExt, allTop, fEq, fNe, fNeg, fIsN, DL.D.isNon, DL.D.key, dGet, canE, nrm, cT, sAug_k, ixN, fRvS, fAll, dBls_map, fIsB, fIdx, msk, Function.comp_def, cut_hi, cut_lo, cut_both] using h1) (by simpa [mkS, finS, bNs, gL1, gL2, gLL2, fI2, tkA, ptA, GS, GL, fPut, ful, l12, l02, DL.D.mut, DL.D.imm, DL.D.imm.immAll, fdOk, fIx, fMul, fAdd, powOk, gLstL, gTupL, DL.D.ty, lvN, szOk, fLen, fListOf, fTupOf, fSl, gSlN, gSlH, gSlL, gSlB, fIsi, fIsiT, isT, DL.D.tyN, DL.D.isX, fInts, DL.D.seqI, fLenSet, fLR, fLR1, gLR2, rgOk, fDict, fAbs, fInt1, gMax2, gMin2, g1S, g2S, fItems, fR1, fR2, bd62, lowE, clr, bakE, kpE, fApp, fIns, fPop, fPopA, fPopI, fClr, fRev, fExt, allTop, fEq, fNe, fNeg, fIsN, DL.D.isNon, DL.D.key, dGet, canE, nrm, cT, sAug_k, ixN, fRvS, fAll, dBls_map, fIsB, fIdx, msk, Function.comp_def, cut_hi, cut_lo, cut_both] using h1')
  subst this
  rw [h2] at h2'
  cases h2'
  rfl
/-- the receiver w is what stands at k of v0, and a thing that stands there keeps what is asked -/
def rU (K : PySem.W.Frag) (r : V → List V → Hp → VK → Prop) : V → List V → Hp → VK → Prop := fun x ys H Q => ∃ b v0 k, At K b v0 k x H ∧ rAt K b k r v0 ys H Q
theorem mtr_u {X : Cx} {id : String} {r : V → List V → Hp → VK → Prop} (hm : MtR X id r) : MtR X id (rU X.K r) := fun pins s σ H x xs v us Q I r1 r2 ⟨b, v0, k, a1, w, a2, q⟩ => by
  have e := At.uniq I a1 a2
  subst e
  exact hm pins s σ H x xs v us Q I r1 r2 q
theorem tdp_same {K : PySem.W.Frag} {W : WW} {A : List Nat} {f : PF} {σ : L2.St} {H : Hp} {Q : VK} (h : tDP K W A f σ H Q) : tDP K W A f σ H fun v H' => Same H H' ∧ Q v H' := by
  obtain ⟨Z, L, M, R, q⟩ := h
  refine ⟨Z, L, M, R, ?_⟩
  cases ef : f (er L) with
  | bad => rw [ef] at q; exact q
  | exc c => rw [ef] at q; exact q
  | ok x =>
    obtain ⟨l, d⟩ := x
    rw [ef] at q
    exact fun v ns H' B => ⟨B.same, q v ns H' B⟩
def kNest (T : String) (f : D → List LD → Option (Option D × D)) (i : Nat) (as : List AE) (Γ : Env) (k : Int) : D → R LD
  | .lst ds => (match atI ds k with
    | some di => if di.ty == T then eCall (nestG true f k) (.inl i :: as) Γ else .bad
    | none => .bad)
  | .tup ds => (match atI ds k with
    | some di => if di.ty == T then eCall (nestG false f k) (.inl i :: as) Γ else .bad
    | none => .bad)
  | _ => .bad
def eNest (T : String) (f : D → List LD → Option (Option D × D)) (i : Nat) (fk : PF) (as : List AE) : EF := fun Γ => match Γ[i]? with
  | some (some (_, d)) => (match fk Γ with
    | .ok (_, .int k) => kNest T f i as Γ k d
    | .ok _ => .bad
    | .exc c => .exc c Γ
    | .bad => .bad)
  | _ => .bad
theorem atI_some {α : Type} {xs : List α} {k : Int} {x : α} (h : atI xs k = some x) : ∃ j, ixN xs.length k = some j ∧ xs[j]? = some x := by
  unfold atI at h
  cases e : ixN xs.length k with
  | none => rw [e] at h; cases h
  | some j => rw [e] at h; exact ⟨j, rfl, h⟩
theorem nest_walk {K : PySem.W.Frag} {mg : Str → Option Value} {W : WW} {T : String} {r : V → List V → Hp → VK → Prop} {f : D → List LD → Option (Option D × D)} {i n : Nat} {fk : PF} {Ak : List Nat} {as : List AE} {σ : L2.St} {H : Hp} {Q : VK} (hM : LOk K r f) (hio : true :: List.replicate n false = true :: mkA as) (hn : as.length = n) (hT : (T == "") = false) (h : tDE K W (eNest T f i fk as) σ H Q) :
    ∃ v, σ[i]? = some (some v) ∧ tDP K W Ak fk σ H fun y H1 => ∃ b k w, y = .int k ∧ At K b v k w H1 ∧ tyV K T w H1 ∧ tArgs (as.map (teA K W)) (fun xs => rAt K b k r v xs) σ H1 Q := by
  obtain ⟨Z, L, M, R, q⟩ := h
  unfold eNest at q
  cases el : (er L)[i]? with
  | none => simp only [el] at q
  | some ox =>
    cases ox with
    | none => simp only [el] at q
    | some ld =>
      obtain ⟨l, d⟩ := ld
      simp only [el] at q
      obtain ⟨⟨sl, sd, sv, sn⟩, hs, e1, e2⟩ := er_some el
      obtain ⟨g1, g2, _⟩ := R.slot i _ hs
      dsimp only at e1 e2 g1 g2
      subst e2
      refine ⟨sv, g1, Z, L, M, R, ?_⟩
      cases ek : fk (er L) with
      | bad => rw [ek] at q; exact q
      | exc c => rw [ek] at q; exact fun H' sm => q H' L rfl (R.same sm)
      | ok x =>
        obtain ⟨lk, dk⟩ := x
        rw [ek] at q
        cases dk with
        | int k =>
          dsimp only at q ⊢
          intro y ny H1 B
          have ey : y = .int k := by have := B.rd; cases this; rfl
          have R1 := R.same B.same
          have rd := g2.same B.same
          have fin : ∀ (b : Bool), tDE K W (eCall (nestG b f k) (.inl i :: as)) σ H1 Q → tArgs (as.map (teA K W)) (fun xs => rAt K b k r sv xs) σ H1 Q := fun b hb => by
            have q2 : tArgs (((.inl i : AE) :: as).map (teA K W)) (r1a (rAt K b k r)) σ H1 Q := call_core (W := W) (mg := mg) (n := n + 1) (io := true :: List.replicate n false) (F := nestG b f k) (E := fun c _ H' => ∃ d, c = xc mg d ∧ W d σ H') (fun vs H Q p => nest_ok hM b k vs H Q _ p) (fun c H' w => ⟨c, rfl, w⟩) hio (by rw [List.length_cons, hn]) hb
            obtain ⟨v, g3, g4⟩ := (show tVar i σ H1 fun x H2 => tArgs (as.map (teA K W)) (fun xs => rAt K b k r x xs) σ H2 Q from q2)
            rw [g1] at g3
            simp only [Option.some.injEq] at g3
            rw [g3]
            exact g4
          cases sd with
          | lst ds =>
            dsimp only [kNest] at q
            cases ea : atI ds k with
            | none => rw [ea] at q; exact q.elim
            | some di =>
              rw [ea] at q
              dsimp only at q
              by_cases c : (di.ty == T) = true
              · rw [if_pos c] at q
                cases rd with
                | @lst a vs _ ns0 ha hr =>
                  obtain ⟨j, j1, j2⟩ := atI_some ea
                  obtain ⟨w, n0, n1, n2, k1, k2, k3, k4⟩ := Rds.cutAt j di hr j2
                  refine ⟨true, k, w, ey, ⟨a, vs, rfl, by simpa [mkS, finS, bNs, gL1, gL2, gLL2, fI2, tkA, ptA, GS, GL, fPut, ful, l12, l02, DL.D.mut, DL.D.imm, DL.D.imm.immAll, fdOk, fIx, fMul, fAdd, powOk, gLstL, gTupL, DL.D.ty, lvN, szOk, fLen, fListOf, fTupOf, fSl, gSlN, gSlH, gSlL, gSlB, fIsi, fIsiT, isT, DL.D.tyN, DL.D.isX, fInts, DL.D.seqI, fLenSet, fLR, fLR1, gLR2, rgOk, fDict, fAbs, fInt1, gMax2, gMin2, g1S, g2S, fItems, fR1, fR2, bd62, lowE, clr, bakE, kpE, fApp, fIns, fPop, fPopA, fPopI, fClr, fRev, fExt, allTop, fEq, fNe, fNeg, fIsN, DL.D.isNon, DL.D.key, dGet, canE, nrm, cT, sAug_k, ixN, fRvS, fAll, dBls_map, fIsB, fIdx, msk, Function.comp_def, cut_hi, cut_lo, cut_both] using ha, ?_⟩, ty_of k2 (beq_iff_eq.mp c) hT, fin true ⟨Z, L, M, R1, q⟩⟩
                  unfold atI
                  rw [hr.length, j1]
                  exact k1
              · rw [if_neg c] at q; exact q.elim
          | tup ds =>
            dsimp only [kNest] at q
            cases ea : atI ds k with
            | none => rw [ea] at q; exact q.elim
            | some di =>
              rw [ea] at q
              dsimp only at q
              by_cases c : (di.ty == T) = true
              · rw [if_pos c] at q
                cases rd with
                | @tup a vs _ ns0 ha hr =>
                  obtain ⟨j, j1, j2⟩ := atI_some ea
                  obtain ⟨w, n0, n1, n2, k1, k2, k3, k4⟩ := Rds.cutAt j di hr j2
                  refine ⟨false, k, w, ey, ⟨a, vs, rfl, by simpa [mkS, finS, bNs, gL1, gL2, gLL2, fI2, tkA, ptA, GS, GL, fPut, ful, l12, l02, DL.D.mut, DL.D.imm, DL.D.imm.immAll, fdOk, fIx, fMul, fAdd, powOk, gLstL, gTupL, DL.D.ty, lvN, szOk, fLen, fListOf, fTupOf, fSl, gSlN, gSlH, gSlL, gSlB, fIsi, fIsiT, isT, DL.D.tyN, DL.D.isX, fInts, DL.D.seqI, fLenSet, fLR, fLR1, gLR2, rgOk, fDict, fAbs, fInt1, gMax2, gMin2, g1S, g2S, fItems, fR1, fR2, bd62, lowE, clr, bakE, kpE, fApp, fIns, fPop, fPopA, fPopI, fClr, fRev, fExt, allTop, fEq, fNe, fNeg, fIsN, DL.D.isNon, DL.D.key, dGet, canE, nrm, cT, sAug_k, ixN, fRvS, fAll, dBls_map, fIsB, fIdx, msk, Function.comp_def, cut_hi, cut_lo, cut_both] using ha, ?_⟩, ty_of k2 (beq_iff_eq.mp c) hT, fin false ⟨Z, L, M, R1, q⟩⟩
                  unfold atI
                  rw [hr.length, j1]
                  exact k1
              · rw [if_neg c] at q; exact q.elim
          | _ => exact q.elim
        | _ => exact q.elim
section
variable {X : Cx} {W : WW} {T id : String} {name : Str} {r : V → List V → Hp → VK → Prop} {ob ix e : Expr} {ip apos cpos : Pos} {f : D → List LD → Option (Option D × D)} {i : Nat} {fk fa : PF} {Ak A : List Nat}
theorem at_ix {K : PySem.W.Frag} {b : Bool} {v w : V} {k : Int} {H : Hp} {Q : VK} (h : At K b v k w H) (q : Q w H) : rIx K v (.int k) H Q := by
  obtain ⟨p, xs, e, h1, h2⟩ := h
  cases b with
  | true => exact .inl ⟨p, xs, k, w, e, rfl, .of (by simpa [mkS, finS, bNs, gL1, gL2, gLL2, fI2, tkA, ptA, GS, GL, fPut, ful, l12, l02, DL.D.mut, DL.D.imm, DL.D.imm.immAll, fdOk, fIx, fMul, fAdd, powOk, gLstL, gTupL, DL.D.ty, lvN, szOk, fLen, fListOf, fTupOf, fSl, gSlN, gSlH, gSlL, gSlB, fIsi, fIsiT, isT, DL.D.tyN, DL.D.isX, fInts, DL.D.seqI, fLenSet, fLR, fLR1, gLR2, rgOk, fDict, fAbs, fInt1, gMax2, gMin2, g1S, g2S, fItems, fR1, fR2, bd62, lowE, clr, bakE, kpE, fApp, fIns, fPop, fPopA, fPopI, fClr, fRev, fExt, allTop, fEq, fNe, fNeg, fIsN, DL.D.isNon, DL.D.key, dGet, canE, nrm, cT, sAug_k, ixN, fRvS, fAll, dBls_map, fIsB, fIdx, msk, Function.comp_def, cut_hi, cut_lo, cut_both] using h1), h2, q⟩
  | false => exact .inr (.inl ⟨p, xs, k, w, e, rfl, by simpa [mkS, finS, bNs, gL1, gL2, gLL2, fI2, tkA, ptA, GS, GL, fPut, ful, l12, l02, DL.D.mut, DL.D.imm, DL.D.imm.immAll, fdOk, fIx, fMul, fAdd, powOk, gLstL, gTupL, DL.D.ty, lvN, szOk, fLen, fListOf, fTupOf, fSl, gSlN, gSlH, gSlL, gSlB, fIsi, fIsiT, isT, DL.D.tyN, DL.D.isX, fInts, DL.D.seqI, fLenSet, fLR, fLR1, gLR2, rgOk, fDict, fAbs, fInt1, gMax2, gMin2, g1S, g2S, fItems, fR1, fR2, bd62, lowE, clr, bakE, kpE, fApp, fIns, fPop, fPopA, fPopI, fClr, fRev, fExt, allTop, fEq, fNe, fNeg, fIsN, DL.D.isNon, DL.D.key, dGet, canE, nrm, cT, sAug_k, ixN, fRvS, fAll, dBls_map, fIsB, fIdx, msk, Function.comp_def, cut_hi, cut_lo, cut_both] using h1, h2, q⟩)
theorem e_nest1 (pa : PlainAttrs T) (slot : Slot T name id) (hty : typeOf (.builtin id) = pure (.type "method_descriptor")) (hm : MtR X id r) (hM : LOk X.K r f) (ho : PE X ob (tVar i)) (hk : DP X W Ak ix fk) (hx : PlainIx ix) (ha : DP X W A e fa)
    (hT : (T == "") = false := by decide) (hbase : attributeBase (.Subscript ob ix ip) name X.env (eval (.Subscript ob ix ip) X.env) = eval (.Subscript ob ix ip) X.env := by rfl)
    (hfew : ((backTo cpos (starEach [e] X.env)).all (fun x => !x.1) && (backToKw cpos (keywordEach [] X.env)).all (fun x => x.1.isSome)
      && decide (([e] : List Expr).length + ([] : List Keyword).length + (if ([] : List Keyword).isEmpty then 0 else 1) < 30)) = true := by rfl)
    (hline : (apos.endLine == cpos.line) = true := by rfl) (hs : starEach [e] X.env = (false, eval e X.env) :: starEach [] X.env := by rfl) (hplain : (backTo cpos (starEach [] X.env)).any (·.1) = false := by rfl) :
    DE X W (.Call (.Attribute (.Subscript ob ix ip) name apos) [e] [] cpos) (eNest T f i fk [.inr (toE A fa)]) :=
  PE.imp (pe_bm pa slot hty (mtr_u hm) (pe_ix ix_seq ho hk hx) (pa_cons ha pa_nil hs) hbase hfew hline hs hplain) fun σ H Q q => by
    obtain ⟨v, g1, g2⟩ := nest_walk (mg := X.mg) (n := 1) (Ak := Ak) hM rfl rfl hT q
    refine ⟨v, g1, tDP_mono g2 fun y H1 ⟨b, k, w, ey, a1, ty, ta⟩ => ?_⟩
    subst ey
    refine at_ix a1 ⟨ty, ?_⟩
    have t1 : tDP X.K W A fa σ H1 fun x H2 => rAt X.K b k r v [x] H2 Q := tdp_toE ta
    exact tDP_mono (tdp_same t1) fun x H2 ⟨sm, q2⟩ => ⟨b, v, k, a1.same sm, q2⟩
theorem e_nest0 (pa : PlainAttrs T) (slot : Slot T name id) (hty : typeOf (.builtin id) = pure (.type "method_descriptor")) (hm : MtR X id r) (hM : LOk X.K r f) (ho : PE X ob (tVar i)) (hk : DP X W Ak ix fk) (hx : PlainIx ix)
    (hT : (T == "") = false := by decide) (hbase : attributeBase (.Subscript ob ix ip) name X.env (eval (.Subscript ob ix ip) X.env) = eval (.Subscript ob ix ip) X.env := by rfl) (hline : (apos.endLine == cpos.line) = true := by rfl) :
    DE X W (.Call (.Attribute (.Subscript ob ix ip) name apos) [] [] cpos) (eNest T f i fk []) :=
  PE.imp (pe_bm0 pa slot hty (mtr_u hm) (pe_ix ix_seq ho hk hx) hbase hline) fun σ H Q q => by
    obtain ⟨v, g1, g2⟩ := nest_walk (mg := X.mg) (n := 0) (as := []) (Ak := Ak) hM rfl rfl hT q
    refine ⟨v, g1, tDP_mono g2 fun y H1 ⟨b, k, w, ey, a1, ty, ta⟩ => ?_⟩
    subst ey
    exact at_ix a1 ⟨ty, b, v, k, a1, ta⟩
end
/-! told by scrutinee first -/
def kNst (T : String) (f : D → List LD → Option (Option D × D)) (i : Nat) (as : List AE) (Γ : Env) (d : D) : P LD → R LD
  | .ok (_, .int k) => kNest T f i as Γ k d
  | .ok _ => .bad
  | .exc c => .exc c Γ
  | .bad => .bad
def kNs (T : String) (f : D → List LD → Option (Option D × D)) (i : Nat) (fk : PF) (as : List AE) (Γ : Env) : Option (Option LD) → R LD
  | some (some (_, d)) => kNst T f i as Γ d (fk Γ)
  | _ => .bad
@[simp] theorem eNest_k {Γ : Env} (T : String) (f : D → List LD → Option (Option D × D)) (i : Nat) (fk : PF) (as : List AE) : eNest T f i fk as Γ = kNs T f i fk as Γ Γ[i]? := by
  unfold eNest kNs
  rcases Γ[i]? with _ | _ | ⟨l, d⟩
  · rfl
  · rfl
  · show (match fk Γ with | .ok (_, .int k) => kNest T f i as Γ k d | .ok _ => .bad | .exc c => .exc c Γ | .bad => .bad) = kNst T f i as Γ d (fk Γ)
    unfold kNst
    rfl
@[simp] theorem kNs_some {Γ : Env} (T : String) (f : D → List LD → Option (Option D × D)) (i : Nat) (fk : PF) (as : List AE) (l : Nat) (d : D) : kNs T f i fk as Γ (some (some (l, d))) = kNst T f i as Γ d (fk Γ) := rfl
@[simp] theorem kNst_ok {Γ : Env} (T : String) (f : D → List LD → Option (Option D × D)) (i : Nat) (as : List AE) (d : D) (l : Nat) (k : Int) : kNst T f i as Γ d (.ok (l, .int k)) = kNest T f i as Γ k d := rfl
def kNe (b : Bool) (T : String) (f : D → List LD → Option (Option D × D)) (i : Nat) (as : List AE) (Γ : Env) (k : Int) : Option D → R LD
  | some di => if di.ty == T then eCall (nestG b f k) (.inl i :: as) Γ else .bad
  | none => .bad
@[simp] theorem kNest_l {Γ : Env} (T : String) (f : D → List LD → Option (Option D × D)) (i : Nat) (as : List AE) (k : Int) (ds : List D) : kNest T f i as Γ k (.lst ds) = kNe true T f i as Γ k (atI ds k) := by unfold kNest kNe; rfl
@[simp] theorem kNest_t {Γ : Env} (T : String) (f : D → List LD → Option (Option D × D)) (i : Nat) (as : List AE) (k : Int) (ds : List D) : kNest T f i as Γ k (.tup ds) = kNe false T f i as Γ k (atI ds k) := by unfold kNest kNe; rfl
@[simp] theorem kNe_some {Γ : Env} (b : Bool) (T : String) (f : D → List LD → Option (Option D × D)) (i : Nat) (as : List AE) (k : Int) (di : D) : kNe b T f i as Γ k (some di) = if di.ty == T then eCall (nestG b f k) (.inl i :: as) Γ else .bad := rfl
@[simp] theorem nestG_l (f : D → List LD → Option (Option D × D)) (k : Int) (l : Nat) (ds : List D) (as : List LD) : nestG true f k ((l, .lst ds) :: as) = if (decide (2 ≤ l % 10) && as.all ful) = true then nestL f true k ds as else .bad := rfl
@[simp] theorem nestG_t (f : D → List LD → Option (Option D × D)) (k : Int) (l : Nat) (ds : List D) (as : List LD) : nestG false f k ((l, .tup ds) :: as) = if (decide (2 ≤ l % 10) && as.all ful) = true then nestL f false k ds as else .bad := rfl
def kNf (b : Bool) (j : Nat) (ds : List D) : Option (Option D × D) → FR
  | some (od, d') => .ret (2, od.getD .non) [(2, outD b (ds.set j d'))]
  | none => .bad
theorem nestL_at (f : D → List LD → Option (Option D × D)) (b : Bool) (k : Int) (ds : List D) (as : List LD) {j : Nat} {di : D} (h1 : ixN ds.length k = some j) (h2 : ds[j]? = some di) (h3 : di.mut = true) : nestL f b k ds as = kNf b j ds (f di as) := by
  unfold nestL kNf
  rw [h1]
  dsimp only
  rw [h2]
  dsimp only
  rw [if_pos h3]
@[simp] theorem kNf_some (b : Bool) (j : Nat) (ds : List D) (od : Option D) (d' : D) : kNf b j ds (some (od, d')) = .ret (2, od.getD .non) [(2, outD b (ds.set j d'))] := rfl
@[simp] theorem outD_t (ds : List D) : outD true ds = .lst ds := rfl
@[simp] theorem outD_f (ds : List D) : outD false ds = .tup ds := rfl
end DL

/-! DL30: sorted of pairs of ints -/
namespace DL
open L2 PySem PySem.Spec PyProof.Rows
def Prs (K : PySem.W.Frag) (H : Hp) : List V → List (Int × Int) → Prop
  | [], [] => True
  | x :: xs, q :: qs => (∃ t, x = .ref t ∧ SqT K H t [.int q.1, .int q.2]) ∧ Prs K H xs qs
  | _, _ => False
def prD (q : Int × Int) : D := .tup [.int q.1, .int q.2]
def dPrs : List D → Option (List (Int × Int))
  | [] => some []
  | .tup [.int a, .int b] :: xs => (dPrs xs).map ((a, b) :: ·)
  | _ => none
theorem dPrs_map : ∀ qs : List (Int × Int), dPrs (qs.map prD) = some qs
  | [] => rfl
  | q :: qs => by
    show (dPrs (qs.map prD)).map _ = _
    rw [dPrs_map qs]
    rfl
theorem dPrs_is : ∀ {ds : List D} {qs : List (Int × Int)}, dPrs ds = some qs → ds = qs.map prD
  | [], _, h => by cases h; rfl
  | d :: ds, qs, h => by
    unfold dPrs at h
    split at h
    · next e => cases e
    · next a b xs e =>
      cases e
      obtain ⟨ms, h1, rfl⟩ := Option.map_eq_some_iff.mp h
      rw [dPrs_is h1]
      rfl
    · cases h
theorem prs_rds {K : PySem.W.Frag} {H : Hp} : ∀ {qs : List (Int × Int)} {vs : List V} {ns : List Addr}, Rds K H vs (qs.map prD) ns → Prs K H vs qs ∧ ns = []
  | [], _, _, h => by cases h; exact ⟨trivial, rfl⟩
  | q :: qs, _, _, h => by
    rw [List.map_cons] at h
    cases h with
    | cons h r =>
      obtain ⟨r1, rfl⟩ := prs_rds r
      unfold prD at h
      cases h with
      | tup ht hr =>
        cases hr with
        | cons h1 hr =>
          cases hr with
          | cons h2 hr =>
            cases hr
            obtain ⟨rfl, rfl⟩ := rd_int h1
            obtain ⟨rfl, rfl⟩ := rd_int h2
            exact ⟨⟨⟨_, rfl, ht⟩, r1⟩, rfl⟩
theorem rds_prs {K : PySem.W.Frag} {H H' : Hp} (s : Same H H') : ∀ {qs : List (Int × Int)} {vs : List V}, Prs K H vs qs → Rds K H' vs (qs.map prD) []
  | [], [], _ => .nil
  | [], _ :: _, h => h.elim
  | _ :: _, [], h => h.elim
  | q :: qs, v :: vs, ⟨⟨t, e, h⟩, r⟩ => by
    subst e
    exact Rds.cons (n := []) (.tup ((TupK.same s).tup h) (.cons (n := []) (.int _) (.cons (n := []) (.int _) .nil))) (rds_prs s r)
def leP (p q : Int × Int) : Bool := !SrtO.lexB q p
def sortP (ps : List (Int × Int)) : List (Int × Int) := ps.mergeSort leP
theorem leP_iff {p q : Int × Int} : leP p q = true ↔ p.1 < q.1 ∨ (p.1 = q.1 ∧ p.2 ≤ q.2) := by
  unfold leP
  rw [Bool.not_eq_true', SrtO.lexB_no]
  omega
theorem sortP_perm (ps : List (Int × Int)) : (sortP ps).Perm ps := List.mergeSort_perm ..
theorem sortP_sorted (ps : List (Int × Int)) : (sortP ps).Pairwise fun p q => leP p q = true :=
  List.pairwise_mergeSort (le := leP) (fun a b c h1 h2 => by rw [leP_iff] at *; omega) (fun a b => by rw [Bool.or_eq_true, leP_iff, leP_iff]; omega) ps
theorem sortP_uniq {ps qs : List (Int × Int)} (hp : qs.Perm ps) (hs : qs.Pairwise fun p q => leP p q = true) : qs = sortP ps :=
  (hp.trans (sortP_perm ps).symm).eq_of_pairwise (fun x y _ _ h1 h2 => by
    rw [leP_iff] at h1 h2
    exact Prod.ext (by omega) (by omega)) hs (sortP_sorted ps)
/-- sorted(xs), xs a list of pairs of ints -/
def rSortedPT (K : PySem.W.Frag) : List V → Hp → VK → Prop := fun vs H Q => ∃ (a : Addr) (xs : List V) (ps : List (Int × Int)), vs = [V.ref a] ∧ SqL K H a xs ∧ Prs K H xs ps ∧
  ∀ ys p, Prs K H ys (sortP ps) → H p = none → Q (.ref p) (upd H p (.lst ys))
theorem prs_mem {K : PySem.W.Frag} {H : Hp} : ∀ {xs : List V} {ps : List (Int × Int)}, Prs K H xs ps → ∀ x ∈ xs, ∃ t q, x = .ref t ∧ SqT K H t [.int q.1, .int q.2] ∧ q ∈ ps
  | [], [], _, x, hx => nomatch hx
  | [], _ :: _, h, _, _ => h.elim
  | _ :: _, [], h, _, _ => h.elim
  | v :: vs, q :: qs, ⟨⟨t, e, h⟩, r⟩, x, hx => by
    rcases List.mem_cons.mp hx with rfl | hx
    · exact ⟨t, q, e, h, List.mem_cons_self ..⟩
    · obtain ⟨t', q', g1, g2, g3⟩ := prs_mem r x hx
      exact ⟨t', q', g1, g2, List.mem_cons_of_mem _ g3⟩
theorem prs_map {K : PySem.W.Frag} {H : Hp} {k : V → Int × Int} : ∀ {ys : List V}, (∀ y ∈ ys, ∃ t, y = .ref t ∧ SqT K H t [.int (k y).1, .int (k y).2]) → Prs K H ys (ys.map k)
  | [], _ => trivial
  | y :: ys, h => ⟨h y (List.mem_cons_self ..), prs_map fun z hz => h z (List.mem_cons_of_mem _ hz)⟩
theorem prs_key {K : PySem.W.Frag} {H : Hp} {k : V → Int × Int} : ∀ {xs : List V} {ps : List (Int × Int)}, Prs K H xs ps → (∀ (t : Addr) (q : Int × Int), SqT K H t [.int q.1, .int q.2] → k (.ref t) = q) → xs.map k = ps
  | [], [], _, _ => rfl
  | [], _ :: _, h, _ => h.elim
  | _ :: _, [], h, _ => h.elim
  | v :: vs, q :: qs, ⟨⟨t, e, h⟩, r⟩, hk => by
    rw [List.map_cons, e, hk t q h, prs_key r hk]
open Classical in
theorem cr_sortedPT {X : Cx} : CallR X (.builtin "sorted") (rSortedPT X.K) := by
  intro pins s σ H vs us Q I r h
  obtain ⟨a, xs, ps, rfl, hs, hx, q⟩ := h
  obtain ⟨its, rv, hl, hz⟩ := I.list hs
  obtain ⟨u, rfl, ru⟩ := vals1 r
  obtain rfl : u = Value.ref a := ru
  obtain ⟨k, hk⟩ : ∃ k : V → Int × Int, ∀ (t : Addr) (q : Int × Int), SqT X.K H t [.int q.1, .int q.2] → k (.ref t) = q := by
    refine ⟨fun x => if h : ∃ q : Int × Int, ∃ t, x = .ref t ∧ SqT X.K H t [.int q.1, .int q.2] then Classical.choose h else (0, 0), fun t q hq => ?_⟩
    have h : ∃ q : Int × Int, ∃ t', V.ref t = .ref t' ∧ SqT X.K H t' [.int q.1, .int q.2] := ⟨q, t, rfl, hq⟩
    dsimp only
    rw [dif_pos h]
    have g2 := Classical.choose_spec h
    generalize Classical.choose h = z at g2 ⊢
    obtain ⟨t', e, g⟩ := g2
    cases e
    have := I.tuple_inj g hq
    simp [mkS, finS, bNs, gL1, gL2, gLL2, fI2, tkA, ptA, GS, GL, fPut, ful, l12, l02, DL.D.mut, DL.D.imm, DL.D.imm.immAll, fdOk, fIx, fMul, fAdd, powOk, gLstL, gTupL, DL.D.ty, lvN, szOk, fLen, fListOf, fTupOf, fSl, gSlN, gSlH, gSlL, gSlB, fIsi, fIsiT, isT, DL.D.tyN, DL.D.isX, fInts, DL.D.seqI, fLenSet, fLR, fLR1, gLR2, rgOk, fDict, fAbs, fInt1, gMax2, gMin2, g1S, g2S, fItems, fR1, fR2, bd62, lowE, clr, bakE, kpE, fApp, fIns, fPop, fPopA, fPopI, fClr, fRev, fExt, allTop, fEq, fNe, fNeg, fIsN, DL.D.isNon, DL.D.key, dGet, canE, nrm, cT, sAug_k, ixN, fRvS, fAll, dBls_map, fIsB, fIdx, msk, Function.comp_def, cut_hi, cut_lo, cut_both] at this
    exact Prod.ext this.1 this.2
  have hx2 : ∀ x ∈ xs, ∃ t, x = V.ref t ∧ SqT X.K H t [.int (k x).1, .int (k x).2] := fun x hm => by
    obtain ⟨t, q, e, h, _⟩ := prs_mem hx x hm
    refine ⟨t, e, ?_⟩
    rw [e, hk t q h]
    exact h
  obtain ⟨e1, e2⟩ := refs_back rv fun x m => by
    obtain ⟨t, e, _⟩ := hx2 x m
    exact ⟨t, e⟩
  refine SrtO.sorted_pairsO (k := fun u => k (backV u)) hl.isList (by rw [← rv.length]; exact hz) (fun v hv => ?_) fun h' d out h1 h2 kp hd hn => ?_
  · obtain ⟨t, rfl⟩ := e2 v hv
    have hm : V.ref t ∈ xs := by rw [e1]; exact List.mem_map.mpr ⟨_, hv, rfl⟩
    obtain ⟨t', e, ht⟩ := hx2 _ hm
    cases e
    obtain ⟨its2, r2, ⟨o, ho, hc, n, hd⟩, _⟩ := I.tuple ht
    obtain ⟨u1, u2, rfl, ri, rj⟩ := vals2 r2
    obtain ⟨t1, rfl⟩ := ri
    obtain ⟨t2, rfl⟩ := rj
    exact ⟨t, o, t1, t2, n, rfl, ho, hc, hd⟩
  · have h3 : ∀ u ∈ out, ∃ a, u = Value.ref a := fun u hu => e2 u (h2.perm.mem_iff.mp hu)
    obtain ⟨n, hn⟩ := hn
    have hb : SrtO.Stb (ltP k) (out.map backV) xs := by
      rw [e1]
      exact SrtO.Stb.map (ltP_swo k) backV h2
    have hsr : (out.map backV).map k = sortP ps := by
      refine sortP_uniq ?_ ?_
      · rw [← prs_key hx hk]
        exact hb.perm.map k
      · rw [List.pairwise_map]
        have := SrtO.srtd_map (lt := ltP k) (f := backV) h1
        exact List.Pairwise.imp (fun {a b} h => by unfold leP; rw [Bool.not_eq_true']; exact h) this
    have hpy : Prs X.K H (out.map backV) (sortP ps) := by
      rw [← hsr]
      exact prs_map fun y hy => hx2 y (hb.perm.mem_iff.mp hy)
    refine ⟨.ref d, upd H d (.lst (out.map backV)), I.laid (t' := s.toks) kp hd ⟨?_, out, n, vals_back h3, hn⟩, rfl, q _ d hpy (I.hok.fresh hd)⟩
    rw [hb.len]
    exact hz
/-- sorted of ints, of pairs of ints -/
def fSortA : LD → Option LD := fun x => match x.2.seqI with
  | some is => some (2, .lst ((sortI is).map .int))
  | none => match x.2 with
    | .lst ds => (dPrs ds).map fun ps => (2, .lst ((sortP ps).map prD))
    | _ => none
abbrev gSortA := gL1 fSortA
def rSortA (K : PySem.W.Frag) : List V → Hp → VK → Prop := fun vs H Q => rSortedI K vs H Q ∨ rSortedPT K vs H Q
theorem cr_sortA {X : Cx} : CallR X (.builtin "sorted") (rSortA X.K) := cr_sortedI.or cr_sortedPT
theorem prD_imm (qs : List (Int × Int)) : D.imm.immAll (qs.map prD) = true := by
  induction qs with
  | nil => rfl
  | cons q qs ih => simp only [List.map_cons, D.imm.immAll, ih, prD, D.imm, Bool.and_self]
theorem vSortA {K : PySem.W.Frag} : VOk K (rSortA K) gSortA := vC1 fun s H Q ok h1 l d hg k => by
  obtain ⟨l1, d1, v1, n1⟩ := s
  dsimp only at *
  unfold fSortA at hg
  cases e : d1.seqI with
  | some is =>
    simp only [e, Option.some.injEq, Prod.mk.injEq] at hg
    obtain ⟨rfl, rfl⟩ := hg
    obtain ⟨a, rfl, hs⟩ := seqI_is h1 e
    refine .inl ⟨a, is, rfl, hs, fun ns' p hp hsrt hn => ?_⟩
    have : ns' = sortI is := (hp.trans (sortI_perm is).symm).eq_of_pairwise (fun x y _ _ h1 h2 => Int.le_antisymm h1 h2) hsrt (sortI_sorted is)
    subst this
    exact k _ _ _ (same_upd hn) (rd_new hn (rds_ints _)) (res_ints K hn)
  | none =>
    simp only [e] at hg
    cases d1 with
    | lst ds =>
      obtain ⟨ps, e1, e2⟩ := Option.map_eq_some_iff.mp hg
      cases e2
      have e3 := dPrs_is e1
      subst e3
      cases h1 with
      | @lst a0 vs0 _ ns0 ha hr =>
        obtain ⟨g1, rfl⟩ := prs_rds hr
        refine .inr ⟨_, _, ps, rfl, .of ha, g1, fun ys p hy hn => ?_⟩
        refine k _ [p] _ (same_upd hn) (rd_new hn (rds_prs (Same.refl H) hy)) ?_
        have := res_lst (As := [⟨l1, .lst (ps.map prD), .ref a0, [a0]⟩]) (H := H) (H' := upd H p (.lst ys)) hn (rds_prs (Same.refl H) hy) (fun a ha => nomatch ha) (mut_upd trivial)
        rw [lvN, prD_imm, if_pos rfl] at this
        exact this
    | _ => cases hg
@[simp] theorem fSortA_ints (l : Nat) (ns : List Int) : fSortA (l, .lst (ns.map .int)) = some (2, .lst ((sortI ns).map .int)) := by
  unfold fSortA
  have : (D.lst (ns.map .int)).seqI = some ns := dInts_map ns
  rw [show ((l, D.lst (ns.map .int)) : LD).2.seqI = some ns from this]
@[simp] theorem fSortA_frz (l : Nat) (ns : List Int) : fSortA (l, .frz ns) = some (2, .lst ((sortI ns).map .int)) := rfl
@[simp] theorem fSortA_prs (l : Nat) (qs : List (Int × Int)) : fSortA (l, .lst (qs.map prD)) = some (2, .lst ((sortP qs).map prD)) := by
  cases qs with
  | nil =>
    have e1 : sortP [] = [] := List.mergeSort_nil
    have e2 : sortI [] = [] := List.mergeSort_nil
    rw [e1]
    show some ((2 : Nat), D.lst ((sortI []).map .int)) = _
    rw [e2]
    rfl
  | cons q qs =>
    unfold fSortA
    have : (D.lst ((q :: qs).map prD)).seqI = none := rfl
    rw [show ((l, D.lst ((q :: qs).map prD)) : LD).2.seqI = none from this]
    show (dPrs ((q :: qs).map prD)).map _ = _
    rw [dPrs_map]
    rfl
end DL

/-! DL31: len(set(xs)), pairs of ints -/
namespace DL
open L2 PySem PySem.Spec PyProof.Rows
theorem nd_len {α : Type} [DecidableEq α] : ∀ (l m : List α), l.Nodup → (∀ x ∈ l, x ∈ m) → l.length ≤ m.length
  | [], _, _, _ => Nat.zero_le _
  | x :: l, m, hn, h => by
    have h1 := List.nodup_cons.mp hn
    have hx := h x (List.mem_cons_self ..)
    have := nd_len l (m.erase x) h1.2 fun y hy => (List.mem_erase_of_ne (fun e : y = x => h1.1 (by rw [← e]; exact hy))).mpr (h y (List.mem_cons_of_mem _ hy))
    rw [List.length_erase_of_mem hx] at this
    have := List.length_pos_of_mem hx
    rw [List.length_cons]
    omega
/-- each once -/
def ddP : List (Int × Int) → List (Int × Int)
  | [] => []
  | q :: qs => if q ∈ ddP qs then ddP qs else q :: ddP qs
theorem ddP_mem {x : Int × Int} : ∀ {qs : List (Int × Int)}, x ∈ ddP qs ↔ x ∈ qs
  | [] => Iff.rfl
  | q :: qs => by
    unfold ddP
    have ih := ddP_mem (x := x) (qs := qs)
    split
    · next h =>
      rw [ih, List.mem_cons]
      constructor
      · exact .inr
      · rintro (rfl | h2)
        · exact ddP_mem.mp h
        · exact h2
    · rw [List.mem_cons, List.mem_cons, ih]
theorem ddP_nd : ∀ qs : List (Int × Int), (ddP qs).Nodup
  | [] => .nil
  | q :: qs => by
    unfold ddP
    split
    · exact ddP_nd qs
    · next h => exact List.nodup_cons.mpr ⟨h, ddP_nd qs⟩
theorem ddP_id {qs : List (Int × Int)} (h : qs.Nodup) : ddP qs = qs := by
  induction qs with
  | nil => rfl
  | cons q qs ih =>
    have h1 := List.nodup_cons.mp h
    unfold ddP
    rw [ih h1.2, if_neg h1.1]
def l2P (q : Int × Int) : List Int := [q.1, q.2]
theorem prs_ks {K : PySem.W.Frag} {H : Hp} : ∀ {xs : List V} {ps : List (Int × Int)}, Prs K H xs ps → ∃ ks : List (Addr × List Int), xs = ks.map (fun p => V.ref p.1) ∧ ks.map (·.2) = ps.map l2P ∧ ∀ p ∈ ks, SqT K H p.1 (p.2.map V.int)
  | [], [], _ => ⟨[], rfl, rfl, fun _ h => nomatch h⟩
  | [], _ :: _, h => h.elim
  | _ :: _, [], h => h.elim
  | v :: vs, q :: qs, ⟨⟨t, e, h⟩, r⟩ => by
    obtain ⟨ks, e1, e2, e3⟩ := prs_ks r
    refine ⟨(t, l2P q) :: ks, by rw [e, e1]; rfl, by rw [List.map_cons, List.map_cons, e2], fun p hp => ?_⟩
    rcases List.mem_cons.mp hp with rfl | hp
    · exact h
    · exact e3 p hp
def rLenSetP (K : PySem.W.Frag) : V → Hp → VK → Prop := fun x H Q => ∃ (l : Addr) (xs : List V) (ps : List (Int × Int)), x = V.ref l ∧ SqL K H l xs ∧ Prs K H xs ps ∧ ps.length < 64 ∧ Q (.int (ddP ps).length) H
def rLenSetA (K : PySem.W.Frag) : V → Hp → VK → Prop := fun x H Q => rLenSet K x H Q ∨ rLenSetP K x H Q
section
variable {X : Cx} {W : WW} {A : List Nat} {f : PF} {f' : EF} {pos : Pos} {a : Expr}
theorem pe_lenSetA {ta : TE} {p p2 q : Pos} (hc : X.calm = true) (hu : X.A.units + 64 < cLine) (hg : Gl X "len") (hm : X.mg "len" = none) (hg2 : Gl X "set") (hm2 : X.mg "set" = none) (ha : PE X a ta)
    (na : starEach [a] X.env = (false, eval a X.env) :: starEach [] X.env := by rfl) : PE X (.Call (.Name "len" p) [.Call (.Name "set" p2) [a] [] q] [] pos) (fun σ H Q => ta σ H fun x H1 => rLenSetA X.K x H1 Q) := by
  refine ⟨fun pins s σ H Q I h => ?_⟩
  refine Call_ (ld_blt I hg hm PySem.boot_len ?_)
  refine PyProof.Rows.callWith_builtin1 (PyProof.Rows.args_cons ?_ rfl) rfl rfl
  refine Call_ (ld_blt I hg2 hm2 PyProof.Rows.boot_set ?_)
  refine PyProof.Rows.callWith_type1 (PyProof.Rows.args_cons (thn (ha.run pins s σ H _ I h) fun v s1 ⟨x, H1, I1, r1, q1⟩ => PyProof.Rows.args_nil ?_) na) na rfl
  rcases q1 with q1 | q1
  · obtain ⟨l, ns, rfl, hq, h1, q1⟩ := q1
    cases r1
    obtain ⟨its, r, pl, hz⟩ := I1.list hq
    have hl : its.toArray.size = ns.length := by rw [List.size_toArray, ← r.length, List.length_map]
    refine call_set_list (I1.ok.hd hc) pl.isList (ns := ns) (by simpa [mkS, finS, bNs, gL1, gL2, gLL2, fI2, tkA, ptA, GS, GL, fPut, ful, l12, l02, DL.D.mut, DL.D.imm, DL.D.imm.immAll, fdOk, fIx, fMul, fAdd, powOk, gLstL, gTupL, DL.D.ty, lvN, szOk, fLen, fListOf, fTupOf, fSl, gSlN, gSlH, gSlL, gSlB, fIsi, fIsiT, isT, DL.D.tyN, DL.D.isX, fInts, DL.D.seqI, fLenSet, fLR, fLR1, gLR2, rgOk, fDict, fAbs, fInt1, gMax2, gMin2, g1S, g2S, fItems, fR1, fR2, bd62, lowE, clr, bakE, kpE, fApp, fIns, fPop, fPopA, fPopI, fClr, fRev, fExt, allTop, fEq, fNe, fNeg, fIsN, DL.D.isNon, DL.D.key, dGet, canE, nrm, cT, sAug_k, ixN, fRvS, fAll, dBls_map, fIsB, fIdx, msk, Function.comp_def, cut_hi, cut_lo, cut_both] using r.ints) (by unfold scanBound; omega) fun h' tk hS hk => ?_
    rw [hl] at hS
    refine PyProof.Rows.args_nil ?_
    have hle := firstMet_length_le (fun i => ns.getD i 0) ns.length
    obtain ⟨o, es, ep, t, ho, hex, hd, _, _, _, hf, hn⟩ := hS
    have I2 : Inv X pins σ H1 { s1 with heap := h', toks := tk } := I1.kept fun b o e => hk b o (Heap.lt_size e) e
    refine call_len_set ho hex hd hf (by rw [hn] <;> omega) ⟨.int _, H1, I2.tok _, ⟨_, by rw [hn]⟩, q1⟩
  · obtain ⟨l, xs, ps, rfl, hq, hx, h1, q1⟩ := q1
    cases r1
    obtain ⟨ks, e1, e2, e3⟩ := prs_ks hx
    subst e1
    obtain ⟨its, rv, pl, hz⟩ := I1.list hq
    have kl : ks.length = ps.length := by have := congrArg List.length e2; simpa [mkS, finS, bNs, gL1, gL2, gLL2, fI2, tkA, ptA, GS, GL, fPut, ful, l12, l02, DL.D.mut, DL.D.imm, DL.D.imm.immAll, fdOk, fIx, fMul, fAdd, powOk, gLstL, gTupL, DL.D.ty, lvN, szOk, fLen, fListOf, fTupOf, fSl, gSlN, gSlH, gSlL, gSlB, fIsi, fIsiT, isT, DL.D.tyN, DL.D.isX, fInts, DL.D.seqI, fLenSet, fLR, fLR1, gLR2, rgOk, fDict, fAbs, fInt1, gMax2, gMin2, g1S, g2S, fItems, fR1, fR2, bd62, lowE, clr, bakE, kpE, fApp, fIns, fPop, fPopA, fPopI, fClr, fRev, fExt, allTop, fEq, fNe, fNeg, fIsN, DL.D.isNon, DL.D.key, dGet, canE, nrm, cT, sAug_k, ixN, fRvS, fAll, dBls_map, fIsB, fIdx, msk, Function.comp_def, cut_hi, cut_lo, cut_both] using this
    refine call_set_tups (P := X.prog) (w := X.w) ks (I1.ok.hd hc) pl.isList (by simpa [mkS, finS, bNs, gL1, gL2, gLL2, fI2, tkA, ptA, GS, GL, fPut, ful, l12, l02, DL.D.mut, DL.D.imm, DL.D.imm.immAll, fdOk, fIx, fMul, fAdd, powOk, gLstL, gTupL, DL.D.ty, lvN, szOk, fLen, fListOf, fTupOf, fSl, gSlN, gSlH, gSlL, gSlB, fIsi, fIsiT, isT, DL.D.tyN, DL.D.isX, fInts, DL.D.seqI, fLenSet, fLR, fLR1, gLR2, rgOk, fDict, fAbs, fInt1, gMax2, gMin2, g1S, g2S, fItems, fR1, fR2, bd62, lowE, clr, bakE, kpE, fApp, fIns, fPop, fPopA, fPopI, fClr, fRev, fExt, allTop, fEq, fNe, fNeg, fIsN, DL.D.isNon, DL.D.key, dGet, canE, nrm, cT, sAug_k, ixN, fRvS, fAll, dBls_map, fIsB, fIdx, msk, Function.comp_def, cut_hi, cut_lo, cut_both] using refs_of_vals rv) (fun p hp => I1.isT (e3 p hp)) (by omega) (by omega) fun h' tk L es ep t R g k => ?_
    refine PyProof.Rows.args_nil ?_
    have I2 : Inv X pins σ H1 { s1 with heap := h', toks := tk } := I1.kept k
    obtain ⟨o, ho, hex, hd⟩ := R.ob
    have sz := SetTR.size (s := { s1 with heap := h', toks := tk }) R
    have few := R.few
    have ln : L.length = (ddP ps).length := by
      have inj : ∀ x y : Int × Int, l2P x = l2P y → x = y := fun x y e => by
        unfold l2P at e
        simp [mkS, finS, bNs, gL1, gL2, gLL2, fI2, tkA, ptA, GS, GL, fPut, ful, l12, l02, DL.D.mut, DL.D.imm, DL.D.imm.immAll, fdOk, fIx, fMul, fAdd, powOk, gLstL, gTupL, DL.D.ty, lvN, szOk, fLen, fListOf, fTupOf, fSl, gSlN, gSlH, gSlL, gSlB, fIsi, fIsiT, isT, DL.D.tyN, DL.D.isX, fInts, DL.D.seqI, fLenSet, fLR, fLR1, gLR2, rgOk, fDict, fAbs, fInt1, gMax2, gMin2, g1S, g2S, fItems, fR1, fR2, bd62, lowE, clr, bakE, kpE, fApp, fIns, fPop, fPopA, fPopI, fClr, fRev, fExt, allTop, fEq, fNe, fNeg, fIsN, DL.D.isNon, DL.D.key, dGet, canE, nrm, cT, sAug_k, ixN, fRvS, fAll, dBls_map, fIsB, fIdx, msk, Function.comp_def, cut_hi, cut_lo, cut_both] at e
        exact Prod.ext e.1 e.2
      have nd2 : ((ddP ps).map l2P).Nodup := by
        rw [List.Nodup, List.pairwise_map]
        exact (ddP_nd ps).imp fun h e => h (inj _ _ e)
      have m1 : ∀ x ∈ L.map (·.2), x ∈ (ddP ps).map l2P := fun x hx => by
        obtain ⟨p, hp, rfl⟩ := List.mem_map.mp hx
        have := List.mem_of_mem_take (g.sub p hp)
        have : p.2 ∈ ks.map (·.2) := List.mem_map.mpr ⟨p, this, rfl⟩
        rw [e2] at this
        obtain ⟨q, hq, e⟩ := List.mem_map.mp this
        exact List.mem_map.mpr ⟨q, ddP_mem.mpr hq, e⟩
      have m2 : ∀ x ∈ (ddP ps).map l2P, x ∈ L.map (·.2) := fun x hx => by
        obtain ⟨q, hq, rfl⟩ := List.mem_map.mp hx
        have : l2P q ∈ ks.map (·.2) := by rw [e2]; exact List.mem_map.mpr ⟨q, ddP_mem.mp hq, rfl⟩
        obtain ⟨p, hp, e⟩ := List.mem_map.mp this
        rw [← e]
        exact g.all p (by rw [List.take_length]; exact hp)
      have a1 := nd_len _ _ R.nd m1
      have a2 := nd_len _ _ nd2 m2
      simp only [List.length_map] at a1 a2
      omega
    refine call_len_set ho hex hd (SetTR.fits (s := { s1 with heap := h', toks := tk }) R) (by rw [sz]; omega) ⟨.int (ddP ps).length, H1, I2.tok _, ⟨_, by rw [sz, ln]⟩, q1⟩
def fLenSetA : LD → Option LD := fun x => match x.2.seqI with
  | some is => if is.length < 4000 then some (2, .int (firstMet (fun i => is.getD i 0) is.length).length) else none
  | none => match x.2 with
    | .lst ds => (match dPrs ds with
      | some ps => if ps.length < 64 then some (2, .int (ddP ps).length) else none
      | none => none)
    | _ => none
theorem vLenSetA {K : PySem.W.Frag} : VOk K (r1l (rLenSetA K)) (gL1 fLenSetA) := vC1 fun s H Q ok h1 l d hg k => by
  obtain ⟨l1, d1, v1, n1⟩ := s
  dsimp only at *
  unfold fLenSetA at hg
  cases e : d1.seqI with
  | some is =>
    simp only [e] at hg
    by_cases hz : is.length < 4000
    · rw [if_pos hz] at hg
      cases hg
      obtain ⟨a, rfl, hs⟩ := seqI_is h1 e
      exact .inl ⟨a, is, rfl, hs, hz, k _ [] H (Same.refl H) (.int _) (res_imm rfl)⟩
    · rw [if_neg hz] at hg; cases hg
  | none =>
    simp only [e] at hg
    cases d1 with
    | lst ds =>
      dsimp only at hg
      cases e1 : dPrs ds with
      | none => rw [e1] at hg; cases hg
      | some ps =>
        rw [e1] at hg
        dsimp only at hg
        by_cases hz : ps.length < 64
        · rw [if_pos hz] at hg
          cases hg
          have e3 := dPrs_is e1
          subst e3
          cases h1 with
          | lst ha hr =>
            obtain ⟨g1, rfl⟩ := prs_rds hr
            exact .inr ⟨_, _, ps, rfl, .of ha, g1, hz, k _ [] H (Same.refl H) (.int _) (res_imm rfl)⟩
        · rw [if_neg hz] at hg; cases hg
    | _ => cases hg
theorem p_lenSetA {p p2 q : Pos} (hc : X.calm = true) (hu : X.A.units + 64 < cLine) (hg : Gl X "len") (hm : X.mg "len" = none) (hg2 : Gl X "set") (hm2 : X.mg "set" = none) (ha : DP X W A a f)
    (na : starEach [a] X.env = (false, eval a X.env) :: starEach [] X.env := by rfl) : DP X W A (.Call (.Name "len" p) [.Call (.Name "set" p2) [a] [] q] [] pos) (pApp (gL1 fLenSetA) [f]) :=
  p_app [(A, f)] mem1l vLenSetA (pe_lenSetA hc hu hg hm hg2 hm2 ha na) fun _ _ _ h => h
theorem e_lenSetA {p p2 q : Pos} (hc : X.calm = true) (hu : X.A.units + 64 < cLine) (hg : Gl X "len") (hm : X.mg "len" = none) (hg2 : Gl X "set") (hm2 : X.mg "set" = none) (ha : DE X W a f')
    (na : starEach [a] X.env = (false, eval a X.env) :: starEach [] X.env := by rfl) : DE X W (.Call (.Name "len" p) [.Call (.Name "set" p2) [a] [] q] [] pos) (eApp (gL1 fLenSetA) [f']) :=
  e_app [f'] vLenSetA (pe_lenSetA hc hu hg hm hg2 hm2 ha na) fun _ _ _ h => h
end
theorem fLenSetA_ints {l : Nat} {r : List Int} (hn : r.Nodup) (hl : r.length < 4000) : fLenSetA (l, .lst (r.map .int)) = some (2, .int r.length) := by
  unfold fLenSetA
  have e : (D.lst (r.map .int)).seqI = some r := dInts_map r
  rw [show ((l, D.lst (r.map .int)) : LD).2.seqI = some r from e]
  dsimp only
  rw [if_pos hl, firstMet_nodup r hn r.length (Nat.le_refl _), List.take_length]
theorem fLenSetA_prs (l : Nat) {qs : List (Int × Int)} (hl : qs.length < 64) : fLenSetA (l, .lst (qs.map prD)) = some (2, .int (ddP qs).length) := by
  cases qs with
  | nil => rfl
  | cons q qs =>
    unfold fLenSetA
    rw [show ((l, D.lst ((q :: qs).map prD)) : LD).2.seqI = none from rfl]
    dsimp only
    rw [dPrs_map]
    dsimp only
    rw [if_pos hl]
end DL

/-! DL32: comprehensions that change a state, with a test -/
namespace DL
open L2 PySem PySem.Spec PyProof.Rows
theorem lcT_st {S : Type} {bd : BF} {tt : EB} {te : EF} {vs : List Nat} (mk : S → Env) (I : Nat → S → List D → Prop) : ∀ {xs : List LD} {k : Nat} {s : S} {ds : List D}, I k s ds →
    (∀ (i : Nat) x s ds, xs[i]? = some x → I (k + i) s ds → ∃ Γ1, bd x (mk s) = some Γ1 ∧ ((∃ Γ2 s', tt Γ1 = .ok false Γ2 ∧ clr Γ2 vs = mk s' ∧ I (k + i + 1) s' ds) ∨ ∃ Γ2 l d Γ3 s', tt Γ1 = .ok true Γ2 ∧ te Γ2 = .ok (l, d) Γ3 ∧ ful (l, d) = true ∧ clr Γ3 vs = mk s' ∧ I (k + i + 1) s' (ds ++ [d]))) →
    ∃ s' ds', lcL bd tt te vs xs true ds (mk s) = .ok (2, .lst ds') (mk s') ∧ I (k + xs.length) s' ds'
  | [], k, s, ds, h0, _ => ⟨s, ds, rfl, h0⟩
  | x :: xs, k, s, ds, h0, hs => by
    have rest : ∀ (s2 : S) (ds2 : List D), I (k + 1) s2 ds2 → ∃ s' ds', lcL bd tt te vs xs true ds2 (mk s2) = .ok (2, .lst ds') (mk s') ∧ I (k + (x :: xs).length) s' ds' := fun s2 ds2 h5 => by
      obtain ⟨s', ds', g1, g2⟩ := lcT_st (tt := tt) (te := te) (vs := vs) mk I (xs := xs) (k := k + 1) (s := s2) (ds := ds2) h5 fun i y s ds hy hi => by
        have := hs (i + 1) y s ds (by simpa [mkS, finS, bNs, gL1, gL2, gLL2, fI2, tkA, ptA, GS, GL, fPut, ful, l12, l02, DL.D.mut, DL.D.imm, DL.D.imm.immAll, fdOk, fIx, fMul, fAdd, powOk, gLstL, gTupL, DL.D.ty, lvN, szOk, fLen, fListOf, fTupOf, fSl, gSlN, gSlH, gSlL, gSlB, fIsi, fIsiT, isT, DL.D.tyN, DL.D.isX, fInts, DL.D.seqI, fLenSet, fLR, fLR1, gLR2, rgOk, fDict, fAbs, fInt1, gMax2, gMin2, g1S, g2S, fItems, fR1, fR2, bd62, lowE, clr, bakE, kpE, fApp, fIns, fPop, fPopA, fPopI, fClr, fRev, fExt, allTop, fEq, fNe, fNeg, fIsN, DL.D.isNon, DL.D.key, dGet, canE, nrm, cT, sAug_k, ixN, fRvS, fAll, dBls_map, fIsB, fIdx, msk, Function.comp_def, cut_hi, cut_lo, cut_both] using hy) (by rw [show k + (i + 1) = k + 1 + i by omega]; exact hi)
        rw [show k + (i + 1) = k + 1 + i by omega] at this
        exact this
      exact ⟨s', ds', g1, by rw [show k + (x :: xs).length = k + 1 + xs.length by simp [mkS, finS, bNs, gL1, gL2, gLL2, fI2, tkA, ptA, GS, GL, fPut, ful, l12, l02, DL.D.mut, DL.D.imm, DL.D.imm.immAll, fdOk, fIx, fMul, fAdd, powOk, gLstL, gTupL, DL.D.ty, lvN, szOk, fLen, fListOf, fTupOf, fSl, gSlN, gSlH, gSlL, gSlB, fIsi, fIsiT, isT, DL.D.tyN, DL.D.isX, fInts, DL.D.seqI, fLenSet, fLR, fLR1, gLR2, rgOk, fDict, fAbs, fInt1, gMax2, gMin2, g1S, g2S, fItems, fR1, fR2, bd62, lowE, clr, bakE, kpE, fApp, fIns, fPop, fPopA, fPopI, fClr, fRev, fExt, allTop, fEq, fNe, fNeg, fIsN, DL.D.isNon, DL.D.key, dGet, canE, nrm, cT, sAug_k, ixN, fRvS, fAll, dBls_map, fIsB, fIdx, msk, Function.comp_def, cut_hi, cut_lo, cut_both]; omega]; exact g2⟩
    obtain ⟨Γ1, h1, h⟩ := hs 0 x s ds rfl h0
    rcases h with ⟨Γ2, s2, h2, h3, h4⟩ | ⟨Γ2, l, d, Γ3, s2, h2, h3, h4, h5, h6⟩
    · obtain ⟨s', ds', g1, g2⟩ := rest s2 ds h4
      refine ⟨s', ds', ?_, g2⟩
      rw [lcL, h1]
      dsimp only
      rw [h2]
      dsimp only
      rw [h3]
      exact g1
    · obtain ⟨s', ds', g1, g2⟩ := rest s2 (ds ++ [d]) h6
      refine ⟨s', ds', ?_, g2⟩
      rw [lcL, h1]
      dsimp only
      rw [h2]
      dsimp only
      rw [h3]
      dsimp only
      rw [h4, h5]
      exact g1
theorem lcT_rng {S : Type} {bd : BF} {tt : EB} {te : EF} {vs : List Nat} (mk : S → Env) (I : Nat → S → List D → Prop) {lo : Int} {n : Nat} {s : S} (h0 : I 0 s [])
    (hs : ∀ (i : Nat) s ds, i < n → I i s ds → ∃ Γ1, bd (0, .int (lo + i)) (mk s) = some Γ1 ∧ ((∃ Γ2 s', tt Γ1 = .ok false Γ2 ∧ clr Γ2 vs = mk s' ∧ I (i + 1) s' ds) ∨ ∃ Γ2 l d Γ3 s', tt Γ1 = .ok true Γ2 ∧ te Γ2 = .ok (l, d) Γ3 ∧ ful (l, d) = true ∧ clr Γ3 vs = mk s' ∧ I (i + 1) s' (ds ++ [d]))) :
    ∃ s' ds', lcL bd tt te vs ((rngD lo n).map fun d => (0, d)) true [] (mk s) = .ok (2, .lst ds') (mk s') ∧ I n s' ds' := by
  obtain ⟨s', ds', h1, h2⟩ := lcT_st (bd := bd) (tt := tt) (te := te) (vs := vs) mk I (xs := (rngD lo n).map fun d => (0, d)) (k := 0) (ds := []) h0 fun i x s ds hx hi => by
    rw [Nat.zero_add] at hi ⊢
    obtain ⟨h, rfl⟩ := List.getElem?_eq_some_iff.mp hx
    have hl : i < n := by simpa [mkS, finS, bNs, gL1, gL2, gLL2, fI2, tkA, ptA, GS, GL, fPut, ful, l12, l02, DL.D.mut, DL.D.imm, DL.D.imm.immAll, fdOk, fIx, fMul, fAdd, powOk, gLstL, gTupL, DL.D.ty, lvN, szOk, fLen, fListOf, fTupOf, fSl, gSlN, gSlH, gSlL, gSlB, fIsi, fIsiT, isT, DL.D.tyN, DL.D.isX, fInts, DL.D.seqI, fLenSet, fLR, fLR1, gLR2, rgOk, fDict, fAbs, fInt1, gMax2, gMin2, g1S, g2S, fItems, fR1, fR2, bd62, lowE, clr, bakE, kpE, fApp, fIns, fPop, fPopA, fPopI, fClr, fRev, fExt, allTop, fEq, fNe, fNeg, fIsN, DL.D.isNon, DL.D.key, dGet, canE, nrm, cT, sAug_k, ixN, fRvS, fAll, dBls_map, fIsB, fIdx, msk, Function.comp_def, cut_hi, cut_lo, cut_both, rngD] using h
    have := hs i s ds hl hi
    simpa [mkS, finS, bNs, gL1, gL2, gLL2, fI2, tkA, ptA, GS, GL, fPut, ful, l12, l02, DL.D.mut, DL.D.imm, DL.D.imm.immAll, fdOk, fIx, fMul, fAdd, powOk, gLstL, gTupL, DL.D.ty, lvN, szOk, fLen, fListOf, fTupOf, fSl, gSlN, gSlH, gSlL, gSlB, fIsi, fIsiT, isT, DL.D.tyN, DL.D.isX, fInts, DL.D.seqI, fLenSet, fLR, fLR1, gLR2, rgOk, fDict, fAbs, fInt1, gMax2, gMin2, g1S, g2S, fItems, fR1, fR2, bd62, lowE, clr, bakE, kpE, fApp, fIns, fPop, fPopA, fPopI, fClr, fRev, fExt, allTop, fEq, fNe, fNeg, fIsN, DL.D.isNon, DL.D.key, dGet, canE, nrm, cT, sAug_k, ixN, fRvS, fAll, dBls_map, fIsB, fIdx, msk, Function.comp_def, cut_hi, cut_lo, cut_both, rngD] using this
  refine ⟨s', ds', h1, ?_⟩
  have e : 0 + ((rngD lo n).map fun d => ((0 : Nat), d)).length = n := by simp [mkS, finS, bNs, gL1, gL2, gLL2, fI2, tkA, ptA, GS, GL, fPut, ful, l12, l02, DL.D.mut, DL.D.imm, DL.D.imm.immAll, fdOk, fIx, fMul, fAdd, powOk, gLstL, gTupL, DL.D.ty, lvN, szOk, fLen, fListOf, fTupOf, fSl, gSlN, gSlH, gSlL, gSlB, fIsi, fIsiT, isT, DL.D.tyN, DL.D.isX, fInts, DL.D.seqI, fLenSet, fLR, fLR1, gLR2, rgOk, fDict, fAbs, fInt1, gMax2, gMin2, g1S, g2S, fItems, fR1, fR2, bd62, lowE, clr, bakE, kpE, fApp, fIns, fPop, fPopA, fPopI, fClr, fRev, fExt, allTop, fEq, fNe, fNeg, fIsN, DL.D.isNon, DL.D.key, dGet, canE, nrm, cT, sAug_k, ixN, fRvS, fAll, dBls_map, fIsB, fIdx, msk, Function.comp_def, cut_hi, cut_lo, cut_both, rngD]
  rw [e] at h2
  exact h2
end DL

/-! DL33: tuple * int, for any number up to 1000 -/
namespace DL
open L2 PySem PySem.Spec PyProof.Rows
theorem tupMulSame (l : Addr) (items : Array Value) (n : Nat) (dd : Option Addr) (sl : Array (Option Value)) (x : Int) (u : Tok) (c0 : (decide (x < -(2 ^ 63)) || decide (x ≥ 2 ^ 63)) = false) (c1 : (items.isEmpty || x == 1) = true) :
    Meets (Builtin.«tuple.__mul__» ⟨[.ref l, .int x u], []⟩) (fun _ R s => s.heap.get? l = some { cls := .type "tuple", dict := dd, data := .seq items n, slots := sl } ∧ R (.ok (.ret (Value.ref l))) s) :=
  .of_wp fun prog w A R s h => by
    obtain ⟨hp, g, d, tk, os⟩ := s
    obtain ⟨hl, h⟩ := h
    have f1 := AutoSeq1.idx_int
    wp_walk using wpAny_loadPart' hl
    repeat (first
      | (refine wpAny_ite_false (decide_eq_false (by rw [c0]; exact Bool.false_ne_true)) ?_; wp_walk using wpAny_loadPart' hl)
      | (refine wpAny_ite_true (decide_eq_true (by rw [c1])) ?_; wp_walk using wpAny_loadPart' hl))
    exact ⟨_, rfl, h⟩
theorem tupMulNone (l : Addr) (items : Array Value) (n : Nat) (dd : Option Addr) (sl : Array (Option Value)) (x : Int) (u : Tok) (c0 : (decide (x < -(2 ^ 63)) || decide (x ≥ 2 ^ 63)) = false) (c1 : (items.isEmpty || x == 1) = false) (c2 : (decide (x ≤ 0) || items.isEmpty) = true) :
    Meets (Builtin.«tuple.__mul__» ⟨[.ref l, .int x u], []⟩) (fun _ R s => s.heap.get? l = some { cls := .type "tuple", dict := dd, data := .seq items n, slots := sl } ∧
      R (.ok (.ret (Value.ref s.heap.objs.size))) { s with heap := s.heap.push { cls := Value.type "tuple", data := Data.seq #[] }, toks := s.toks }) :=
  .of_wp fun prog w A R s h => by
    obtain ⟨hp, g, d, tk, os⟩ := s
    obtain ⟨hl, h⟩ := h
    have f1 := AutoSeq1.idx_int
    wp_walk using wpAny_loadPart' hl
    repeat (first
      | (refine wpAny_ite_false (decide_eq_false (by rw [c0]; exact Bool.false_ne_true)) ?_; wp_walk using wpAny_loadPart' hl)
      | (refine wpAny_ite_false (decide_eq_false (by rw [c1]; exact Bool.false_ne_true)) ?_; wp_walk using wpAny_loadPart' hl)
      | (refine wpAny_ite_true (decide_eq_true (by rw [c2])) ?_; wp_walk using wpAny_loadPart' hl))
    exact ⟨_, rfl, h⟩
def rRepA (K : PySem.W.Frag) : R2 := fun x y H Q => ∃ l k xs, x = .ref l ∧ y = .int k ∧ SqT K H l xs ∧ k.natAbs ≤ 1000 ∧ xs.length ≤ 1000 ∧ ((xs = [] ∨ k = 1) → Q (.ref l) H) ∧ (¬(xs = [] ∨ k = 1) → ∀ p, H p = none → Q (.ref p) (upd H p (.tup (List.replicate k.toNat xs).flatten)))
theorem op_repA {X : Cx} : OpR X (binaryOp .Mult) (rRepA X.K) := by
  intro pins s σ H x y v u Q I rx ry h
  obtain ⟨l, k, xs, rfl, rfl, hT, h2, hz, q1, q2⟩ := h
  by_cases hk : xs ≠ [] ∧ 2 ≤ k
  · exact op_repT pins s σ H _ _ v u Q I rx ry ⟨l, k, xs, rfl, rfl, hT, hk.1, hk.2, by omega, hz, q2 (fun e => e.elim hk.1 (by omega))⟩
  · cases rx
    obtain ⟨t, rfl⟩ := ry
    obtain ⟨its, r, ⟨⟨cls, dd, data, sl⟩, ho, hc, n, hd⟩, hs⟩ := I.tuple hT
    simp only at hc hd
    subst hc hd
    have hle : its.length = xs.length := r.length.symm
    have c0 : (decide (k < -(2 ^ 63)) || decide (k ≥ 2 ^ 63)) = false := by
      rw [decide_eq_false (by omega), decide_eq_false (by omega)] <;> rfl
    refine wpAny_binaryOp_repeat_ref (T := "tuple") (U := "int") (by decide) ⟨_, ho, rfl⟩ (fun s' => typeIs_int s' k t) noFill_tuple_mul F.fills_int_mul F.slot_int_rmul repeat_tuple F.slot_int_index.lookup
      (call_meets F.slot_int_rmul (typeIs_int s k t) F.entry_int_rmul (F.args_int_rmul_2 _ _) (int_rmul_tuple k t l its.toArray n dd sl) ⟨ho, rfl, ⟨_, ho, rfl⟩, ?_⟩)
    by_cases e : xs = [] ∨ k = 1
    · have c1 : (its.toArray.isEmpty || k == 1) = true := by
        rcases e with e | e
        · rw [e] at hle
          rw [List.eq_nil_of_length_eq_zero hle]; rfl
        · rw [e]; simp [mkS, finS, bNs, gL1, gL2, gLL2, fI2, tkA, ptA, GS, GL, fPut, ful, l12, l02, DL.D.mut, DL.D.imm, DL.D.imm.immAll, fdOk, fIx, fMul, fAdd, powOk, gLstL, gTupL, DL.D.ty, lvN, szOk, fLen, fListOf, fTupOf, fSl, gSlN, gSlH, gSlL, gSlB, fIsi, fIsiT, isT, DL.D.tyN, DL.D.isX, fInts, DL.D.seqI, fLenSet, fLR, fLR1, gLR2, rgOk, fDict, fAbs, fInt1, gMax2, gMin2, g1S, g2S, fItems, fR1, fR2, bd62, lowE, clr, bakE, kpE, fApp, fIns, fPop, fPopA, fPopI, fClr, fRev, fExt, allTop, fEq, fNe, fNeg, fIsN, DL.D.isNon, DL.D.key, dGet, canE, nrm, cT, sAug_k, ixN, fRvS, fAll, dBls_map, fIsB, fIdx, msk, Function.comp_def, cut_hi, cut_lo, cut_both]
      refine call_meets F.slot_tuple_mul ⟨_, ho, rfl⟩ F.entry_tuple_mul (F.args_tuple_mul_2 _ _) (tupMulSame l its.toArray n dd sl k t c0 c1) ⟨ho, ?_⟩
      exact ⟨.ref l, _, I, rfl, q1 e⟩
    · have hn : its ≠ [] := fun e2 => e (.inl (by rw [e2] at hle; exact List.eq_nil_of_length_eq_zero hle.symm))
      have hi : its.toArray.isEmpty = false := by
        cases its with
        | nil => exact absurd rfl hn
        | cons a b => rfl
      have hk0 : k ≤ 0 := by
        have e1 : xs ≠ [] := fun c => e (.inl c)
        have e2 : k ≠ 1 := fun c => e (.inr c)
        have : ¬ 2 ≤ k := fun c => hk ⟨e1, c⟩
        omega
      have c1 : (its.toArray.isEmpty || k == 1) = false := by
        rw [hi, Bool.false_or]
        exact beq_eq_false_iff_ne.mpr (by omega)
      have c2 : (decide (k ≤ 0) || its.toArray.isEmpty) = true := by
        rw [decide_eq_true hk0]; rfl
      refine call_meets F.slot_tuple_mul ⟨_, ho, rfl⟩ F.entry_tuple_mul (F.args_tuple_mul_2 _ _) (tupMulNone l its.toArray n dd sl k t c0 c1 c2) ⟨ho, ?_⟩
      have hr : (List.replicate k.toNat xs).flatten = [] := by
        rw [show k.toNat = 0 by omega]; rfl
      have qq := q2 e
      rw [hr] at qq
      refine ⟨.ref s.heap.objs.size, _, I.laid (t' := s.toks) (o := .tup []) (fun b ob q => Heap.get?_push_of_some _ q) (Nat.le_refl _) ?_, rfl, qq _ (I.hok.fresh (Nat.le_refl _))⟩
      exact ⟨by rw [sizeLine_eq]; exact Nat.zero_le _, [], .nil, IsTup.new _ _⟩
def fMulA : D → D → Option LD
  | .tup xs, .int n => if decide (n.natAbs ≤ 1000) && decide (xs.length ≤ 1000) then some (if D.imm.immAll (List.replicate n.toNat xs).flatten then 2 else 0, .tup (List.replicate n.toNat xs).flatten) else none
  | a, b => fMul a b
@[simp] theorem fMulA_int (a b : Int) : fMulA (.int a) (.int b) = if mulOk a b then some (2, .int (a * b)) else none := rfl
@[simp] theorem fMulA_lst (xs : List D) (n : Int) : fMulA (.lst xs) (.int n) = fMul (.lst xs) (.int n) := rfl
theorem fMulA_tup (xs : List D) (n : Int) : fMulA (.tup xs) (.int n) = if decide (n.natAbs ≤ 1000) && decide (xs.length ≤ 1000) then some (if D.imm.immAll (List.replicate n.toNat xs).flatten then 2 else 0, .tup (List.replicate n.toNat xs).flatten) else none := rfl
abbrev gMulA := gL2 fMulA
def rMulB (K : PySem.W.Frag) : R2 := fun x y H Q => rMulAny x y H Q ∨ rRepA K x y H Q
theorem op_mulB {X : Cx} : OpR X (binaryOp .Mult) (rMulB X.K) := op_mulAny.or op_repA
theorem vMulB {K : PySem.W.Frag} : VOk K (r2l (rMulB K)) gMulA := vL2 fun s t H Q ok h1 h2 l d hg k => by
  have vm := (vMul (K := K))
  by_cases c : ∃ xs n, s.d = .tup xs ∧ t.d = .int n
  · obtain ⟨xs, n, e1, e2⟩ := c
    obtain ⟨l1, d1, v1, n1⟩ := s
    obtain ⟨l2, d2, v2, n2⟩ := t
    dsimp only at *
    subst e1 e2
    rw [fMulA_tup] at hg
    split at hg
    · rename_i hz
      obtain ⟨rfl, rfl⟩ := rd_int h2
      cases hg
      simp only [Bool.and_eq_true, decide_eq_true_eq] at hz
      cases h1 with
      | @tup a vs ds ns e1 r1 =>
        obtain ⟨m, r, hm⟩ : ∃ m, Rds K H (List.replicate n.toNat vs).flatten (List.replicate n.toNat xs).flatten m ∧ ∀ b ∈ m, b ∈ n1 := by
          generalize n.toNat = j
          induction j with
          | zero => exact ⟨[], .nil, fun _ h => nomatch h⟩
          | succ j ih =>
            obtain ⟨m, r, hm⟩ := ih
            refine ⟨n1 ++ m, by rw [List.replicate_succ, List.replicate_succ, List.flatten_cons, List.flatten_cons]; exact r1.append r, fun b hb => ?_⟩
            rcases List.mem_append.mp hb with hb | hb
            · exact hb
            · exact hm b hb
        refine .inr ⟨_, n, _, rfl, rfl, e1, hz.1, by rw [r1.length]; exact hz.2, fun e => ?_, fun _ p hp => k _ _ _ (same_upd hp) (rd_newT hp r) (res_tup r (fun b hb => arg_ns (List.mem_cons_self ..) b (hm b hb)))⟩
        have ee : (List.replicate n.toNat xs).flatten = xs := by
          rcases e with e | e
          · subst e
            cases r1
            simp [mkS, finS, bNs, gL1, gL2, gLL2, fI2, tkA, ptA, GS, GL, fPut, ful, l12, l02, DL.D.mut, DL.D.imm, DL.D.imm.immAll, fdOk, fIx, fMul, fAdd, powOk, gLstL, gTupL, DL.D.ty, lvN, szOk, fLen, fListOf, fTupOf, fSl, gSlN, gSlH, gSlL, gSlB, fIsi, fIsiT, isT, DL.D.tyN, DL.D.isX, fInts, DL.D.seqI, fLenSet, fLR, fLR1, gLR2, rgOk, fDict, fAbs, fInt1, gMax2, gMin2, g1S, g2S, fItems, fR1, fR2, bd62, lowE, clr, bakE, kpE, fApp, fIns, fPop, fPopA, fPopI, fClr, fRev, fExt, allTop, fEq, fNe, fNeg, fIsN, DL.D.isNon, DL.D.key, dGet, canE, nrm, cT, sAug_k, ixN, fRvS, fAll, dBls_map, fIsB, fIdx, msk, Function.comp_def, cut_hi, cut_lo, cut_both]
          · rw [e]; simp [mkS, finS, bNs, gL1, gL2, gLL2, fI2, tkA, ptA, GS, GL, fPut, ful, l12, l02, DL.D.mut, DL.D.imm, DL.D.imm.immAll, fdOk, fIx, fMul, fAdd, powOk, gLstL, gTupL, DL.D.ty, lvN, szOk, fLen, fListOf, fTupOf, fSl, gSlN, gSlH, gSlL, gSlB, fIsi, fIsiT, isT, DL.D.tyN, DL.D.isX, fInts, DL.D.seqI, fLenSet, fLR, fLR1, gLR2, rgOk, fDict, fAbs, fInt1, gMax2, gMin2, g1S, g2S, fItems, fR1, fR2, bd62, lowE, clr, bakE, kpE, fApp, fIns, fPop, fPopA, fPopI, fClr, fRev, fExt, allTop, fEq, fNe, fNeg, fIsN, DL.D.isNon, DL.D.key, dGet, canE, nrm, cT, sAug_k, ixN, fRvS, fAll, dBls_map, fIsB, fIdx, msk, Function.comp_def, cut_hi, cut_lo, cut_both]
        rw [ee] at k
        exact k _ _ _ (Same.refl H) (.tup e1 r1) (res_tup r1 (fun a ha => arg_ns (List.mem_cons_self ..) a ha))
    · cases hg
  · have hf : fMulA s.d t.d = fMul s.d t.d := by
      obtain ⟨l1, d1, v1, n1⟩ := s
      obtain ⟨l2, d2, v2, n2⟩ := t
      dsimp only at *
      cases d1 <;> first | rfl | (cases d2 <;> first | rfl | exact absurd ⟨_, _, rfl, rfl⟩ c)
    exact .inl (vm [s, t] H Q ok l d (by show fMul s.d t.d = _; rw [← hf]; exact hg) k)
end DL

/-! DL34: sorted(set(xs)), fewer than 64 nsI -/
namespace DL
open L2 PySem PySem.Spec PyProof.Rows
section
variable {P : Program} {w : World} {A : Around} {E : Value → Shared → Prop} {s : Shared}
/-- a set as it is laid first -/
abbrev newS (w : World) : Obj := { cls := .type "set", dict := none, data := .set #[] 0 (.fresh 0 0 (!w.params.followText "set-order")) }
set_option maxRecDepth 100000 in
set_option maxHeartbeats 3200000 in
theorem call_set_lstI {l : Addr} {items : Array Value} (ns : List Int) {Q : Value → Shared → Prop} (calm : A.handled = none) (atL : s.heap.IsList l items) (nsI : IntsAre items.toList ns) (rm0 : ns.length + 1 < scanBound)
    (h : ∀ (h' : Heap) (tk c : Nat), SetR w h' s.heap.objs.size (fun j => decide (j ∈ ns)) c → c ≤ ns.length → (∀ b o, s.heap.get? b = some o → h'.get? b = some o) → Q (.ref s.heap.objs.size) { s with heap := h', toks := tk }) :
    wpAny (model P w) A (call (.type "set") [.ref l]) Q E s := by
  have szL : items.size = ns.length := by
    have q := IntsAre.length nsI
    rw [Array.length_toList] at q
    exact q
  obtain ⟨c, tl, mro⟩ := F.called_set.mro
  have made := F.called_set.made
  have subs := F.called_set.sub
  refine wpAny_call (codeAny_of_tree ?_)
  show wpAny _ _ (callAny (.type "set") _) _ _ _
  refine wpAny_pure ⟨Code.quiet_builtin _ (by decide +kernel), codeAny_builtin F.entry_type_call ?_⟩
  rw [Around.under_plain (weight_type_call_type "set" [.ref l] []) rfl]
  have t1 := F.called_set.notType
  have t2 := F.called_set.canCreate
  have tcall := F.typeCall_set_1 (.ref l)
  repeat (any_goals (first | assumption | wp_step))

  refine codeAny_mono (code_set_led1 (.ref l) (E := E) (Q₁ := fun ob sA => ob = .ref s.heap.objs.size ∧ sA = { s with heap := s.heap.push (newS w) }) ⟨rfl, rfl⟩) fun r sA hrr => ?_
  cases r with
  | error e => exact hrr
  | ok out =>
    cases out with
    | ret ob =>
      obtain ⟨rfl, rfl⟩ := hrr
      have getS : (s.heap.push (newS w)).get? s.heap.objs.size = some (newS w) := Heap.get?_push_size _ rfl
      have isS : Shared.TypeIs { s with heap := s.heap.push (newS w) } (.ref s.heap.objs.size) "set" := ⟨_, getS, rfl⟩
      have ini := F.called_set.init.lookup
      have inb := F.called_set.init.bind (.ref s.heap.objs.size)
      repeat (any_goals (first | assumption | wp_step))

      refine codeAny_mono (codeAny_call_builtin (R := wants (fun r s2 => r = .none ∧ ∃ h' tk c, s2 = { s with heap := h', toks := tk } ∧ SetR w h' s.heap.objs.size (fun j => decide (j ∈ ns)) c ∧ c ≤ ns.length ∧
          (∀ b o, s.heap.get? b = some o → h'.get? b = some o)) E) F.called_set.init.plain F.entry_set_init (check_set_init_1 isS ?_)) fun r2 s2 hr2 => ?_
      · obtain ⟨oL, getL, clsL, nL, datL⟩ := atL
        obtain ⟨cL, dL, aL, sL⟩ := oL
        simp only at clsL datL
        subst clsL; subst datL
        have getL' : (s.heap.push (newS w)).get? l = some { cls := .type "list", dict := dL, data := .seq items nL, slots := sL } := Heap.get?_push_of_some _ getL
        have sb1 := F.sub_list_set
        have sb2 := F.sub_list_frozenset
        have nd : (Value.type "list" == Value.type "dict") = false := by decide
        have atL1 : (s.heap.push (newS w)).IsList l items := ⟨_, getL', rfl, nL, rfl⟩
        unfold Builtin.«set.__init__» noKeywords Builtin.Frozenset.updateFrom
        generalize ePI : pyIter = pI
        wp_walk
        subst ePI

        refine wpAny_pyIter_list atL1 ?_
        refine wpAny_bind (wpAny_runValue ?_)
        have ltS : l < s.heap.objs.size := Heap.lt_size getL
        have calm3 : A.in1.in1.in1.handled = none := by simp [mkS, finS, bNs, gL1, gL2, gLL2, fI2, tkA, ptA, GS, GL, fPut, ful, l12, l02, DL.D.mut, DL.D.imm, DL.D.imm.immAll, fdOk, fIx, fMul, fAdd, powOk, gLstL, gTupL, DL.D.ty, lvN, szOk, fLen, fListOf, fTupOf, fSl, gSlN, gSlH, gSlL, gSlB, fIsi, fIsiT, isT, DL.D.tyN, DL.D.isX, fInts, DL.D.seqI, fLenSet, fLR, fLR1, gLR2, rgOk, fDict, fAbs, fInt1, gMax2, gMin2, g1S, g2S, fItems, fR1, fR2, bd62, lowE, clr, bakE, kpE, fApp, fIns, fPop, fPopA, fPopI, fClr, fRev, fExt, allTop, fEq, fNe, fNeg, fIsN, DL.D.isNon, DL.D.key, dGet, canE, nrm, cT, sAug_k, ixN, fRvS, fAll, dBls_map, fIsB, fIdx, msk, Function.comp_def, cut_hi, cut_lo, cut_both, calm]
        have szH : (s.heap.push (newS w)).objs.size = s.heap.objs.size + 1 := Heap.size_push ..
        have neI : l ≠ (s.heap.push (newS w)).objs.size := by
          rw [Heap.size_push]; exact Nat.ne_of_lt (Nat.lt_succ_of_lt ltS)
        have notS : s.heap.objs.size ∉ [(s.heap.push (newS w)).objs.size, l] := by
          rw [Heap.size_push]; simp only [List.mem_cons, List.mem_singleton, List.not_mem_nil, or_false, not_or]
          exact ⟨Nat.ne_of_lt (Nat.lt_succ_self _), Nat.ne_of_gt ltS⟩
        have valI : ∀ (i : Nat) (v : Value), items[i]? = some v → ∃ k t, ns[i]? = some k ∧ v = .int k t := fun i v hv => by
          have hi : i < ns.length := by rw [← szL]; exact (Array.getElem?_eq_some_iff.mp hv).1
          obtain ⟨t, e⟩ := PyProof.Rows.IntsAre.int_at nsI i v (by rw [Array.getElem?_toList]; exact hv)
          refine ⟨ns[i], t, List.getElem?_eq_getElem hi, ?_⟩
          rw [e, List.getD_eq_getElem?_getD, List.getElem?_eq_getElem hi] <;> rfl
        refine set_update_ints ((Walks.list calm3 _ l neI items).toS) s.heap.objs.size
          notS ns szL rm0 valI (items.size - 0) 0 _ (by omega) (Nat.zero_le _)
          ⟨⟨_, Heap.get?_push_size _ rfl, rfl, rfl⟩, (atL1.push _)⟩ ?hS0 ?hR
        case hS0 =>
          have getN : ((s.heap.push (newS w)).push { cls := .type "list_iterator", data := .fields #[.ref l, .int 0 0] }).get? s.heap.objs.size
              = some (newS w) := Heap.get?_push_of_some _ getS
          exact ⟨0, Nat.le_refl 0, setR_new_at getN⟩
        case hR =>
          intro s' c' mv le' isR'
          obtain ⟨h', gg, d', tk', os'⟩ := s'
          have e1 : gg = s.gens := mv.gens
          have e2 : d' = s.drawn := mv.drawn
          have e3 : os' = s.os := mv.os
          subst e1; subst e2; subst e3
          show wpAny _ _ _ _ _ _
          refine wpAny_pure ?_
          show wpAny _ _ (ret Value.none) _ _ _
          rw [szL] at le'
          refine wpAny_pure ⟨rfl, h', tk', c', rfl, isR', le', fun b o e => ?_⟩
          have b0 : b < s.heap.objs.size := Heap.lt_size e
          have b1 : b ≠ s.heap.objs.size := Nat.ne_of_lt b0
          have b2 : b ≠ (s.heap.push (newS w)).objs.size := by
            rw [Heap.size_push]; exact Nat.ne_of_lt (Nat.lt_succ_of_lt b0)
          exact mv.heap b o (by simp only [List.mem_cons, List.mem_singleton, List.not_mem_nil, or_false, not_or]; exact ⟨b1, b2⟩) (Heap.get?_push_of_some _ (Heap.get?_push_of_some _ e))

      · cases r2 with
        | error e => exact hr2
        | ok out2 =>
          cases out2 with
          | ret r =>
            obtain ⟨rfl, h', tk, c', rfl, isR', le', kp'⟩ := hr2
            repeat (any_goals (first | assumption | wp_step))
            exact h _ _ _ isR' le' kp'
          | _ => exact hr2.elim
    | _ => exact hrr.elim

end
/-- each int once -/
def ddI : List Int → List Int
  | [] => []
  | x :: xs => if x ∈ ddI xs then ddI xs else x :: ddI xs
theorem ddI_mem {y : Int} : ∀ {xs : List Int}, y ∈ ddI xs ↔ y ∈ xs
  | [] => Iff.rfl
  | x :: xs => by
    unfold ddI
    have ih := ddI_mem (y := y) (xs := xs)
    split
    · next h =>
      rw [ih, List.mem_cons]
      constructor
      · exact .inr
      · rintro (rfl | h2)
        · exact ddI_mem.mp h
        · exact h2
    · rw [List.mem_cons, List.mem_cons, ih]
theorem ddI_nd : ∀ xs : List Int, (ddI xs).Nodup
  | [] => .nil
  | x :: xs => by
    unfold ddI
    split
    · exact ddI_nd xs
    · next h => exact List.nodup_cons.mpr ⟨h, ddI_nd xs⟩
theorem ddI_len : ∀ xs : List Int, (ddI xs).length ≤ xs.length
  | [] => Nat.le_refl _
  | x :: xs => by
    unfold ddI
    have := ddI_len xs
    split
    · rw [List.length_cons]; omega
    · rw [List.length_cons, List.length_cons]; omega
/-- sorted(set(xs)) -/
def sdI (xs : List Int) : List Int := sortI (ddI xs)
theorem sdI_mem {y : Int} {xs : List Int} : y ∈ sdI xs ↔ y ∈ xs := ((sortI_perm _).mem_iff).trans ddI_mem
theorem sdI_uniq {xs ns : List Int} (hs : ns.Pairwise (· < ·)) (hm : ∀ k, k ∈ ns ↔ k ∈ xs) : ns = sdI xs := by
  have n1 : ns.Nodup := hs.imp fun h => Int.ne_of_lt h
  have n2 : (sdI xs).Nodup := (sortI_perm _).nodup_iff.mpr (ddI_nd xs)
  have p : ns.Perm (sdI xs) := (List.perm_ext_iff_of_nodup n1 n2).mpr fun k => (hm k).trans sdI_mem.symm
  exact p.eq_of_pairwise (fun a b _ _ h1 h2 => by omega) (hs.imp fun h => Int.le_of_lt h) (sortI_sorted _)
def rSortSet (K : PySem.W.Frag) : V → Hp → VK → Prop := fun x H Q => ∃ (l : Addr) (ns : List Int), x = V.ref l ∧ SqL K H l (ns.map V.int) ∧ ns.length < 64 ∧ ∀ p, H p = none → Q (.ref p) (upd H p (.lst ((sdI ns).map V.int)))
section
variable {X : Cx} {W : WW} {A : List Nat} {f : PF} {f' : EF} {pos : Pos} {a : Expr}
theorem pe_sortSet {ta : TE} {p p2 q : Pos} (hc : X.calm = true) (hg : Gl X "sorted") (hm : X.mg "sorted" = none) (hg2 : Gl X "set") (hm2 : X.mg "set" = none) (ha : PE X a ta)
    (na : starEach [a] X.env = (false, eval a X.env) :: starEach [] X.env := by rfl) : PE X (.Call (.Name "sorted" p) [.Call (.Name "set" p2) [a] [] q] [] pos) (fun σ H Q => ta σ H fun x H1 => rSortSet X.K x H1 Q) := by
  refine ⟨fun pins s σ H Q I h => ?_⟩
  refine Call_ (ld_blt I hg hm PyProof.Rows.boot_sorted ?_)
  refine PyProof.Rows.callWith_builtin1 (PyProof.Rows.args_cons ?_ rfl) rfl rfl
  refine Call_ (ld_blt I hg2 hm2 PyProof.Rows.boot_set ?_)
  refine PyProof.Rows.callWith_type1 (PyProof.Rows.args_cons (thn (ha.run pins s σ H _ I h) fun v s1 ⟨x, H1, I1, r1, q1⟩ => PyProof.Rows.args_nil ?_) na) na rfl
  obtain ⟨l, ns, rfl, hq, h1, q1⟩ := q1
  cases r1
  obtain ⟨its, r, pl, hz⟩ := I1.list hq
  refine call_set_lstI ns (I1.ok.hd hc) pl.isList (by simpa [mkS, finS, bNs, gL1, gL2, gLL2, fI2, tkA, ptA, GS, GL, fPut, ful, l12, l02, DL.D.mut, DL.D.imm, DL.D.imm.immAll, fdOk, fIx, fMul, fAdd, powOk, gLstL, gTupL, DL.D.ty, lvN, szOk, fLen, fListOf, fTupOf, fSl, gSlN, gSlH, gSlL, gSlB, fIsi, fIsiT, isT, DL.D.tyN, DL.D.isX, fInts, DL.D.seqI, fLenSet, fLR, fLR1, gLR2, rgOk, fDict, fAbs, fInt1, gMax2, gMin2, g1S, g2S, fItems, fR1, fR2, bd62, lowE, clr, bakE, kpE, fApp, fIns, fPop, fPopA, fPopI, fClr, fRev, fExt, allTop, fEq, fNe, fNeg, fIsN, DL.D.isNon, DL.D.key, dGet, canE, nrm, cT, sAug_k, ixN, fRvS, fAll, dBls_map, fIsB, fIdx, msk, Function.comp_def, cut_hi, cut_lo, cut_both] using r.ints) (by unfold scanBound; omega) fun h' tk c hS hle hk => ?_
  refine PyProof.Rows.args_nil ?_
  have I2 : Inv X pins σ H1 { s1 with heap := h', toks := tk } := I1.kept fun b o e => hk b o e
  refine sorted_set (s := { s1 with heap := h', toks := tk }) hS (I2.ok.hd hc) (by omega) fun s' p out c2 ms k g o hp hg hi hs hm hl => ?_
  have hlen : (ms.map V.int).length ≤ sizeLine := by rw [List.length_map, hl, sizeLine_eq]; omega
  have hn : H1 p = none := I2.hok.fresh hp
  have J : Inv X pins σ (upd H1 p (.lst (ms.map V.int))) s' :=
    I2.call' (ch := []) o (Un.laid k hp hn) (I2.hok.laid k hp ⟨hlen, out.toList, c2, vals_of_ints hi, hg⟩) (by rw [g]; exact I2.bare) (fun _ z => nomatch z)
  have em : ms = sdI ns := sdI_uniq hs fun k => (hm k).trans (by simp [mkS, finS, bNs, gL1, gL2, gLL2, fI2, tkA, ptA, GS, GL, fPut, ful, l12, l02, DL.D.mut, DL.D.imm, DL.D.imm.immAll, fdOk, fIx, fMul, fAdd, powOk, gLstL, gTupL, DL.D.ty, lvN, szOk, fLen, fListOf, fTupOf, fSl, gSlN, gSlH, gSlL, gSlB, fIsi, fIsiT, isT, DL.D.tyN, DL.D.isX, fInts, DL.D.seqI, fLenSet, fLR, fLR1, gLR2, rgOk, fDict, fAbs, fInt1, gMax2, gMin2, g1S, g2S, fItems, fR1, fR2, bd62, lowE, clr, bakE, kpE, fApp, fIns, fPop, fPopA, fPopI, fClr, fRev, fExt, allTop, fEq, fNe, fNeg, fIsN, DL.D.isNon, DL.D.key, dGet, canE, nrm, cT, sAug_k, ixN, fRvS, fAll, dBls_map, fIsB, fIdx, msk, Function.comp_def, cut_hi, cut_lo, cut_both])
  subst em
  exact ⟨.ref p, _, J, rfl, q1 p hn⟩
def fSortSet : LD → Option LD := fun x => match x.2.seqI with
  | some is => if is.length < 64 then some (2, .lst ((sdI is).map .int)) else none
  | none => none
theorem vSortSet {K : PySem.W.Frag} : VOk K (r1l (rSortSet K)) (gL1 fSortSet) := vC1 fun s H Q ok h1 l d hg k => by
  obtain ⟨l1, d1, v1, n1⟩ := s
  dsimp only at *
  unfold fSortSet at hg
  cases e : d1.seqI with
  | some is =>
    simp only [e] at hg
    by_cases hz : is.length < 64
    · rw [if_pos hz] at hg
      cases hg
      obtain ⟨a, rfl, hs⟩ := seqI_is h1 e
      exact ⟨a, is, rfl, hs, hz, fun p hn => k _ _ _ (same_upd hn) (rd_new hn (rds_ints _)) (res_ints K hn)⟩
    · rw [if_neg hz] at hg; cases hg
  | none =>
    simp only [e] at hg
    cases hg
theorem p_sortSet {p p2 q : Pos} (hc : X.calm = true) (hg : Gl X "sorted") (hm : X.mg "sorted" = none) (hg2 : Gl X "set") (hm2 : X.mg "set" = none) (ha : DP X W A a f)
    (na : starEach [a] X.env = (false, eval a X.env) :: starEach [] X.env := by rfl) : DP X W A (.Call (.Name "sorted" p) [.Call (.Name "set" p2) [a] [] q] [] pos) (pApp (gL1 fSortSet) [f]) :=
  p_app [(A, f)] mem1l vSortSet (pe_sortSet hc hg hm hg2 hm2 ha na) fun _ _ _ h => h
end
@[simp] theorem fSortSet_ints (l : Nat) (ns : List Int) : fSortSet (l, .lst (ns.map .int)) = if ns.length < 64 then some (2, .lst ((sdI ns).map .int)) else none := by
  unfold fSortSet
  have e : (D.lst (ns.map .int)).seqI = some ns := dInts_map ns
  rw [show ((l, D.lst (ns.map .int)) : LD).2.seqI = some ns from e]
end DL

/-! DL35: x[i], x[j] = a pair -/
namespace DL
open L2 PySem PySem.Spec PyProof.Rows
def cE (x : D) : EF := fun Γ => .ok (2, x) Γ
/-- x[i], x[j] = e, e a pair of things that may not be changed -/
def sPar2 (fv : EF) (i : Nat) (fa fb : EF) : SF := fun Γ => match fv Γ with
  | .ok (_, .tup [x, y]) Γ' => if x.imm && y.imm then sSeq (sPut (GS fPut) (cE x) i fa) (sPut (GS fPut) (cE y) i fb) Γ' else .bad
  | .exc c Γ' => .exc c Γ'
  | _ => .bad
section
variable {X : Cx} {W : WW}
theorem imm_tm {K : PySem.W.Frag} {Z : Zone} {σ : L2.St} {H : Hp} {L : List (Option Sl)} {M : List Tm} (R : Rel K Z σ H L M) {v : V} {x : D} (h : Rd K H v x []) : Rel K Z σ H L ((Sl.mk 2 x v []).tm K :: M) :=
  R.push (m := (Sl.mk 2 x v []).tm K) h (Sl.stab _ _) (fun a h => by simp [mkS, finS, bNs, gL1, gL2, gLL2, fI2, tkA, ptA, GS, GL, fPut, ful, l12, l02, DL.D.mut, DL.D.imm, DL.D.imm.immAll, fdOk, fIx, fMul, fAdd, powOk, gLstL, gTupL, DL.D.ty, lvN, szOk, fLen, fListOf, fTupOf, fSl, gSlN, gSlH, gSlL, gSlB, fIsi, fIsiT, isT, DL.D.tyN, DL.D.isX, fInts, DL.D.seqI, fLenSet, fLR, fLR1, gLR2, rgOk, fDict, fAbs, fInt1, gMax2, gMin2, g1S, g2S, fItems, fR1, fR2, bd62, lowE, clr, bakE, kpE, fApp, fIns, fPop, fPopA, fPopI, fClr, fRev, fExt, allTop, fEq, fNe, fNeg, fIsN, DL.D.isNon, DL.D.key, dGet, canE, nrm, cT, sAug_k, ixN, fRvS, fAll, dBls_map, fIsB, fIdx, msk, Function.comp_def, cut_hi, cut_lo, cut_both, Sl.tm, Sl.own, Sl.rst, ownL, rstL] at h) (fun a => by simp [mkS, finS, bNs, gL1, gL2, gLL2, fI2, tkA, ptA, GS, GL, fPut, ful, l12, l02, DL.D.mut, DL.D.imm, DL.D.imm.immAll, fdOk, fIx, fMul, fAdd, powOk, gLstL, gTupL, DL.D.ty, lvN, szOk, fLen, fListOf, fTupOf, fSl, gSlN, gSlH, gSlL, gSlB, fIsi, fIsiT, isT, DL.D.tyN, DL.D.isX, fInts, DL.D.seqI, fLenSet, fLR, fLR1, gLR2, rgOk, fDict, fAbs, fInt1, gMax2, gMin2, g1S, g2S, fItems, fR1, fR2, bd62, lowE, clr, bakE, kpE, fApp, fIns, fPop, fPopA, fPopI, fClr, fRev, fExt, allTop, fEq, fNe, fNeg, fIsN, DL.D.isNon, DL.D.key, dGet, canE, nrm, cT, sAug_k, ixN, fRvS, fAll, dBls_map, fIsB, fIdx, msk, Function.comp_def, cut_hi, cut_lo, cut_both, Sl.tm, Sl.own, Sl.rst, ownL, rstL]) (fun a h => by simp [mkS, finS, bNs, gL1, gL2, gLL2, fI2, tkA, ptA, GS, GL, fPut, ful, l12, l02, DL.D.mut, DL.D.imm, DL.D.imm.immAll, fdOk, fIx, fMul, fAdd, powOk, gLstL, gTupL, DL.D.ty, lvN, szOk, fLen, fListOf, fTupOf, fSl, gSlN, gSlH, gSlL, gSlB, fIsi, fIsiT, isT, DL.D.tyN, DL.D.isX, fInts, DL.D.seqI, fLenSet, fLR, fLR1, gLR2, rgOk, fDict, fAbs, fInt1, gMax2, gMin2, g1S, g2S, fItems, fR1, fR2, bd62, lowE, clr, bakE, kpE, fApp, fIns, fPop, fPopA, fPopI, fClr, fRev, fExt, allTop, fEq, fNe, fNeg, fIsN, DL.D.isNon, DL.D.key, dGet, canE, nrm, cT, sAug_k, ixN, fRvS, fAll, dBls_map, fIsB, fIdx, msk, Function.comp_def, cut_hi, cut_lo, cut_both, Sl.tm, Sl.own, ownL] at h) fun a h => by simp [mkS, finS, bNs, gL1, gL2, gLL2, fI2, tkA, ptA, GS, GL, fPut, ful, l12, l02, DL.D.mut, DL.D.imm, DL.D.imm.immAll, fdOk, fIx, fMul, fAdd, powOk, gLstL, gTupL, DL.D.ty, lvN, szOk, fLen, fListOf, fTupOf, fSl, gSlN, gSlH, gSlL, gSlB, fIsi, fIsiT, isT, DL.D.tyN, DL.D.isX, fInts, DL.D.seqI, fLenSet, fLR, fLR1, gLR2, rgOk, fDict, fAbs, fInt1, gMax2, gMin2, g1S, g2S, fItems, fR1, fR2, bd62, lowE, clr, bakE, kpE, fApp, fIns, fPop, fPopA, fPopI, fClr, fRev, fExt, allTop, fEq, fNe, fNeg, fIsN, DL.D.isNon, DL.D.key, dGet, canE, nrm, cT, sAug_k, ixN, fRvS, fAll, dBls_map, fIsB, fIdx, msk, Function.comp_def, cut_hi, cut_lo, cut_both, Sl.tm, Sl.rst, rstL] at h
theorem cE_inst {K : PySem.W.Frag} {σ : L2.St} {H : Hp} {Q : VK} {v : V} {x : D} (q : tDE K W (cE x) σ H Q) (h : Rd K H v x []) : Q v H := by
  obtain ⟨Z, L, M, R, q⟩ := q
  exact q v [] H L rfl (imm_tm R h) fun _ h => nomatch h
abbrev putT : TSet := fun o i v H Q => rPut o [v, i] H fun _ H' => Q H'
theorem put_tgt {K : PySem.W.Frag} {mg : Str → Option Value} {σ : L2.St} {H : Hp} {D : Ends} {v : V} {x : DL.D} {i : Nat} {fk : EF} (q : tDS K W (sPut (GS fPut) (cE x) i fk) D σ H) (h : Rd K H v x []) : L2.gSub (tVar i) (tDE K W fk) putT v σ H D.nx := by
  have q1 := expr_core q fun _ _ _ => trivial
  have q2 := call_core (W := W) (mg := mg) (n := 3) (io := [false, true, false]) (F := GS fPut) (r := r3s rPut) (E := fun c _ H' => ∃ d, c = xc mg d ∧ W d σ H') (fun vs H Q p => MOk.store l_put vs H Q _ p) (fun c H' w => ⟨c, rfl, w⟩) (as := [.inr (cE x), .inl i, .inr fk]) rfl rfl q1
  exact cE_inst (W := W) q2 h
theorem s_par2 {i : Nat} {o o2 ix ix2 value : Expr} {fv fa fb : EF} {pos p1 p2 pt : Pos} {k : Nat} (hc : X.calm = true) (hu : X.A.units + 1 < cLine) (hv : DE X W value fv) (ho : PE X o (tVar i)) (ho2 : PE X o2 (tVar i)) (ha : DE X W ix fa) (hb : DE X W ix2 fb)
    (hs : swapsWithSole [.Tuple [.Subscript o ix p1, .Subscript o2 ix2 p2] k pt] value pos.line X.env = pure false := by rfl) (hw : swappedStores [.Tuple [.Subscript o ix p1, .Subscript o2 ix2 p2] k pt] value X.env = pure none := by rfl)
    (h1 : (assignEach [.Tuple [.Subscript o ix p1, .Subscript o2 ix2 p2] k pt] X.env).map (·.2) = [assign (.Tuple [.Subscript o ix p1, .Subscript o2 ix2 p2] k pt) X.env] := by rfl)
    (hn : (assignEach [.Subscript o ix p1, .Subscript o2 ix2 p2] X.env).length = 2 := by rfl) (hst : (assignEach [.Subscript o ix p1, .Subscript o2 ix2 p2] X.env).findIdx? (·.1) = none := by rfl)
    (g1 : ∀ v, assign (.Subscript o ix p1) X.env v = (do
      let ov ← holding [v] (eval o X.env)
      let iv ← holding [v, ov] (eval ix X.env)
      standAt p1
      holding [v, ov, iv] (setItem ov iv v)
      release [v, ov, iv] []) := by intro _; rfl)
    (g2 : ∀ v, assign (.Subscript o2 ix2 p2) X.env v = (do
      let ov ← holding [v] (eval o2 X.env)
      let iv ← holding [v, ov] (eval ix2 X.env)
      standAt p2
      holding [v, ov, iv] (setItem ov iv v)
      release [v, ov, iv] []) := by intro _; rfl)
    (c1 : (assignEach (.Subscript o ix p1 :: [.Subscript o2 ix2 p2]) X.env).map (·.2) = assign (.Subscript o ix p1) X.env :: (assignEach [.Subscript o2 ix2 p2] X.env).map (·.2) := by rfl)
    (c2 : (assignEach (.Subscript o2 ix2 p2 :: []) X.env).map (·.2) = assign (.Subscript o2 ix2 p2) X.env :: (assignEach [] X.env).map (·.2) := by rfl) :
    DS X W (.Assign [.Tuple [.Subscript o ix p1, .Subscript o2 ix2 p2] k pt] value pos) (sPar2 fv i fa fb) :=
  PS.imp (ps_asg hv (pg_tup hc (pgs_cons (pg_sub ho ha (set_put hu) g1) (pgs_cons (pg_sub ho2 hb (set_put hu) g2) pgs_nil c2) c1) hn hst) hs hw h1) fun D σ H q => by
    obtain ⟨Z, L, M, R, q⟩ := q
    refine ⟨Z, L, M, R, ?_⟩
    unfold sPar2 at q
    cases ef : fv (er L) with
    | bad => rw [ef] at q; exact q
    | exc c Γ' => rw [ef] at q; exact fun H' L' e R' => q σ H' L' e R'
    | ok ld Γ' =>
      obtain ⟨l, d⟩ := ld
      rw [ef] at q
      dsimp only at q ⊢
      split at q
      · next x y Γ2 e =>
        cases e
        split at q
        · next c =>
          rw [Bool.and_eq_true] at c
          intro v ns H' L' e' R' _
          subst e'
          have rd := (R'.tms _ (List.mem_cons_self ..)).1
          have rd : Rd X.K H' v (.tup [x, y]) ns := rd
          cases rd with
          | tup hq r =>
            cases r with
            | cons r1 r =>
              cases r with
              | cons r2 r3 =>
                cases r3
                have i1 := r1.imm _ _ _ c.1
                have i2 := r2.imm _ _ _ c.2
                subst i1 i2
                have R2 := imm_tm R'.pop r2
                refine ⟨_, _, rfl, hq, rfl, _, _, rfl, ?_⟩
                refine put_tgt (mg := X.mg) (W := W) (x := x) (D := { nx := fun σ' H' => gCons (L2.gSub (tVar i) (tDE X.K W fb) putT) gNil [_] σ' H' D.nx, rt := fun _ _ => True, bk := fun _ _ => True, ct := fun _ _ => True }) ⟨Z, L', _, R2, ?_⟩ r1
                unfold sSeq at q
                cases ef1 : sPut (GS fPut) (cE x) i fa (er L') with
                | nx Γ3 =>
                  rw [ef1] at q
                  dsimp only at q
                  intro σ3 H3 L3 e3 R3
                  have rd3 : Rd X.K H3 _ y [] := (R3.tms _ (List.mem_cons_self ..)).1
                  refine ⟨_, _, rfl, ?_⟩
                  subst e3
                  exact put_tgt (mg := X.mg) (W := W) (x := y) (D := { nx := fun σ' H' => [] = [] ∧ D.nx σ' H', rt := D.rt, bk := D.bk, ct := D.ct }) ⟨Z, L3, M, R3.pop, by
                    cases e4 : sPut (GS fPut) (cE y) i fb (er L3) with
                    | nx Γ4 => rw [e4] at q; exact fun σ' H' L' e R' => ⟨rfl, q σ' H' L' e R'⟩
                    | rt x Γ4 => rw [e4] at q; exact q
                    | bk Γ4 => rw [e4] at q; exact q
                    | ct Γ4 => rw [e4] at q; exact q
                    | exc c Γ4 => rw [e4] at q; exact q
                    | bad => rw [e4] at q; exact q⟩ rd3
                | rt z Γ3 =>
                  obtain ⟨l3, d3⟩ := z
                  exact fun _ _ _ _ _ _ _ _ => trivial
                | bk Γ3 => exact fun _ _ _ _ _ => trivial
                | ct Γ3 => exact fun _ _ _ _ _ => trivial
                | exc c Γ3 => rw [ef1] at q; exact fun σ' H' L' e R' => q σ' H' L' e R'.pop
                | bad => rw [ef1] at q; exact q
        · exact q.elim
      · next e => cases e
      · exact q.elim
end
def kPar2 (r : R LD) (i : Nat) (fa fb : EF) : O := match r with
  | .ok (_, .tup [x, y]) Γ' => if x.imm && y.imm then sSeq (sPut (GS fPut) (cE x) i fa) (sPut (GS fPut) (cE y) i fb) Γ' else .bad
  | .exc c Γ' => .exc c Γ'
  | _ => .bad
@[simp] theorem sPar2_k (fv : EF) (i : Nat) (fa fb : EF) (Γ : Env) : sPar2 fv i fa fb Γ = kPar2 (fv Γ) i fa fb := rfl
@[simp] theorem kPar2_ok (l : Nat) (x y : D) (Γ : Env) (i : Nat) (fa fb : EF) : kPar2 (.ok (l, .tup [x, y]) Γ) i fa fb = if x.imm && y.imm then sSeq (sPut (GS fPut) (cE x) i fa) (sPut (GS fPut) (cE y) i fb) Γ else .bad := rfl
@[simp] theorem cE_k (x : D) (Γ : Env) : cE x Γ = .ok (2, x) Γ := rfl
end DL

/-! DL36: repr of things within things, in a def that nothing that shows calls -/
namespace DL
open L2 PySem PySem.Spec PyProof.Rows
/-- a def's promise where no text is under way -/
def FnG (P : Program) (w : World) (K : PySem.W.Frag) (mg : Str → Option Value) (base : Heap) (CX : CXT) (k : Nat) (f : Addr) (fd : FuncData) (ps : List Str) (sp : Sp) : Prop :=
  ∀ (A : Around) (outer : List PySem.Env) (s : Shared) (H : Hp) (args : Args) (us : List Value) (vs : List V) (Q : VK) (E : XK), A.guards = some [] → Room k A → Env0 P w K mg base A outer s H → BindsTo s fd args (ps.zip us) → Vals vs us → sp vs H Q E →
    codeAny (model P w) A (.call (.ref f) args) (CR CX outer P w H s Q E) s
theorem FnG.imp {P : Program} {w : World} {K : PySem.W.Frag} {mg : Str → Option Value} {base : Heap} {CX : CXT} {k : Nat} {f : Addr} {fd : FuncData} {ps : List Str} {sp sp' : Sp} (F : FnG P w K mg base CX k f fd ps sp)
    (h : ∀ vs H Q E, sp' vs H Q E → sp vs H Q E) : FnG P w K mg base CX k f fd ps sp' :=
  fun A outer s H args us vs Q E hg hr he hb hv hs => F A outer s H args us vs Q E hg hr he hb hv (h _ _ _ _ hs)
theorem fn_ofG {CX : CXT} {P : Program} {w : World} {K : PySem.W.Frag} {mg : Str → Option Value} {base : Heap} {k : Nat} {f : Addr} {name qual : Str} {params : Arguments} {body : List Stmt} {scope : Scope} {dV kV doc pm cdv ct oc : Value} {an od : Option Addr}
    {osl : Array (Option Value)} {N ps : List Str} {sp : Sp} (luk : K.lookup f = some ⟨oc, od, .func (PySem.W.fnOf name qual params body scope dV kV doc pm an cdv ct), osl⟩) (cdk : PySem.W.codeIn K cdv qual = true) (S : FnScope N ps scope)
    (lenS : ∀ vs H Q E, sp vs H Q E → vs.length = ps.length)
    (bodyS : ∀ (A : Around) (outer : List PySem.Env) (s : Shared) (H : Hp) (vs : List V) (Q : VK) (E : XK), A.guards = some [] → Room k (A.deeper (envOfC qual scope s.heap.objs.size f cdv)) → sp vs H Q E →
      ∃ t, PSs (cxOf CX P w K mg base N qual scope f cdv A outer s H E) body t ∧ t { nx := fun _ H' => Q .non H', rt := Q } (start N vs) H) :
    FnG P w K mg base CX (k + 1) f (PySem.W.fnOf name qual params body scope dV kV doc pm an cdv ct) ps sp := by
  intro A outer s H args us vs Q E hgd hr envB hb r prom
  have lenN := lenS _ _ _ _ prom
  have kin : K.In s.heap := envB.mod.kin.keeps fun b o e => (envB.bs b o e).1
  have noLim : s.heap.NoLimit := envB.mod.nolimit.keeps fun b o e => (envB.bs b o e).1
  have kinds : ∀ y ∈ ps.zip us, scope.names.lookup y.1 = some .local ∨ (scope.names.lookup y.1 = some .cell ∧ ((cellsFrom (s.heap.objs.size + 1) scope.names []).lookup y.1).isSome = true) := fun ⟨n, v⟩ hy => by
    rcases S.par n (List.of_mem_zip hy).1 with q | q
    · exact .inl q
    · exact .inr ⟨q, PySem.W.cellsFrom_some _ _ _ (.inl q)⟩
  refine codeAny_call_function hr.depth (kin _ _ luk) rfl S.co S.gen rfl (PySem.W.codeRec_of kin cdk) (hb _ _ _ _ ?_)
  refine wpAny_newFunctionEnv_cells S.kind kinds fun env he s1 x => ?_
  subst he
  refine ⟨noLim.keeps x.toInCall.keep, codeAny_func ?_⟩
  obtain ⟨t, ht, qq⟩ := bodyS A outer s H vs Q E hgd (hr.deeper _) prom
  have I : Inv (cxOf CX P w K mg base N qual scope f cdv A outer s H E) [] (start N vs) H s1 := inv_start S hr.hd envB lenN r x
  refine wpAny_mono (ht.run [] s1 (start N vs) H _ I qq) (fun fl s' hS2 => ?_) fun e s' hS2 => hS2
  have done : ∀ {σ' : L2.St} {H' : Hp} {v : V} {u : Value}, Inv (cxOf CX P w K mg base N qual scope f cdv A outer s H E) [] σ' H' s' → RelV v u → Q v H' → CE outer P w H s Q u s' :=
    fun {σ' H' v u} J valV q => ⟨v, H', J.os, J.bare, J.base, J.hok, valV, q⟩
  cases fl with
  | ret u =>
    obtain ⟨v, σ', H', J, valV, q⟩ := hS2
    exact done J valV q
  | next =>
    obtain ⟨σ', H', J, q⟩ := hS2
    exact done (v := V.non) (u := Value.none) J rfl q
  | brk =>
    obtain ⟨_, _, _, q⟩ := hS2
    exact False.elim q
  | cont =>
    obtain ⟨_, _, _, q⟩ := hS2
    exact False.elim q
section
variable {P : Program} {w : World} {K : PySem.W.Frag} {mg : Str → Option Value} {base : Heap}
theorem fun_okG {x qual : Str} {st : Stmt} {f : Addr} {fd : FuncData} {N ps : List Str} {k : Nat} {sp : Sp} (F : Fun K x qual st f fd) (S : FnScope N ps (defScope st)) (lenS : ∀ vs H Q E, sp vs H Q E → vs.length = ps.length)
    (bodyS : ∀ (cdv : Value) (A : Around) (outer : List PySem.Env) (s : Shared) (H : Hp) (vs : List V) (Q : VK) (E : XK), A.guards = some [] → Room k (A.deeper (envOfC qual (defScope st) s.heap.objs.size f cdv)) → sp vs H Q E →
      ∃ t, PSs (cxOf (L2.CX P w) P w K mg base N qual (defScope st) f cdv A outer s H E) (defBody st) t ∧ t { nx := fun _ H' => Q .non H', rt := Q } (start N vs) H) : FnG P w K mg base (L2.CX P w) (k + 1) f fd ps sp := by
  obtain ⟨oc, od, kV, doc, pm, an, cdv, ct, osl, rfl, luk, cdk⟩ := F.ex
  exact fn_ofG luk cdk S lenS fun A outer s H vs Q E hgd hr prom => bodyS cdv A outer s H vs Q E hgd hr prom
end
theorem law_callG {P : Program} {w : World} {K : PySem.W.Frag} {mg mb : Str → Option Value} {CX : CXT} {k : Nat} {fa a : Addr} {fd : FuncData} {x : Str} {sp : Sp} {s₁ : Shared} {vs : List Value} {ns : List Int}
    (kin : K.In s₁.heap) (nsM : s₁.heap.Ns mainGlobals mg) (hb : s₁.heap.Ns builtinsNs mb) (bltB : ∀ x : Str, x ≠ "__name__" → mb x = bootBuiltins x) (noL : s₁.heap.NoLimit) (hg : s₁.gens = #[])
    (getA : s₁.heap.get? a = some { cls := .type "list", data := .seq vs.toArray }) (isI : IntsAre vs ns) (lenN : ns.length ≤ sizeLine) (hr : Room k callerA)
    (F : ∀ base : Heap, K.In base → base.Ns mainGlobals mg → FnG P w K mg base CX k fa fd [x] sp) (hbind : ∀ (s : Shared) (u : Value), BindsTo s fd ⟨[u], []⟩ [(x, u)])
    (prom : ∀ H : Hp, Only H → SqL K H a (ns.map V.int) → sp [.ref a] H (fun v _ => v = .bl true) fun _ _ _ => False)
    (outX : ∀ H e s', CX [] H s₁ (fun _ _ _ => False) e s' → False) :
    codeAny (model P w) callerA (.call (.ref fa) ⟨[.ref a], []⟩) (fun r s' => r = .ok (.ret (.bool true)) ∧ OldK s₁.heap s'.heap ∧ s'.os = s₁.os ∧ AllBare s'.gens) s₁ := by
  have valV := vals_ints isI
  have lenU := isI.length
  -- from an abstract heap in which nothing but the script may be tracked
  have heart : ∀ H : Hp, Only H → SqL K H a (ns.map V.int) → HOk P w H s₁.heap → (∀ b, H b ≠ none → b = a) → (H a ≠ none → K.lookup a = none) →
      codeAny (model P w) callerA (.call (.ref fa) ⟨[.ref a], []⟩) (fun r s' => r = .ok (.ret (.bool true)) ∧ OldK s₁.heap s'.heap ∧ s'.os = s₁.os ∧ AllBare s'.gens) s₁ := by
    intro H onlyH seqA okH oneA notK
    have toBase : ∀ {b : Addr} {o : Obj}, s₁.heap.get? b = some o → H b = none → (hidT s₁.heap H).get? b = some o := fun e n => hidT_get e n
    have noDict : ∀ {b : Addr} {o : Obj} {es : Array DictEntry} {ep : Nat}, s₁.heap.get? b = some o → o.data = .dict es ep → H b = none := fun {b o es ep} e d => by
      cases q : H b with
      | none => rfl
      | some u =>
        have e' : b = a := oneA b (by rw [q]; simp [mkS, finS, bNs, gL1, gL2, gLL2, fI2, tkA, ptA, GS, GL, fPut, ful, l12, l02, DL.D.mut, DL.D.imm, DL.D.imm.immAll, fdOk, fIx, fMul, fAdd, powOk, gLstL, gTupL, DL.D.ty, lvN, szOk, fLen, fListOf, fTupOf, fSl, gSlN, gSlH, gSlL, gSlB, fIsi, fIsiT, isT, DL.D.tyN, DL.D.isX, fInts, DL.D.seqI, fLenSet, fLR, fLR1, gLR2, rgOk, fDict, fAbs, fInt1, gMax2, gMin2, g1S, g2S, fItems, fR1, fR2, bd62, lowE, clr, bakE, kpE, fApp, fIns, fPop, fPopA, fPopI, fClr, fRev, fExt, allTop, fEq, fNe, fNeg, fIsN, DL.D.isNon, DL.D.key, dGet, canE, nrm, cT, sAug_k, ixN, fRvS, fAll, dBls_map, fIsB, fIdx, msk, Function.comp_def, cut_hi, cut_lo, cut_both])
        subst e'
        rw [getA] at e; cases e
        have d' : Data.seq vs.toArray _ = Data.dict es ep := d
        cases d'
    have nsB : ∀ {b : Addr} {m : Str → Option Value}, s₁.heap.Ns b m → (hidT s₁.heap H).Ns b m := fun {b m} ⟨o, es, ep, e, d, r⟩ => ⟨o, es, ep, toBase e (noDict e d), d, r⟩
    have kinB : K.In (hidT s₁.heap H) := fun b o e => toBase (kin b o e) (by
      cases q : H b with
      | none => rfl
      | some u =>
        have e' : b = a := oneA b (by rw [q]; simp [mkS, finS, bNs, gL1, gL2, gLL2, fI2, tkA, ptA, GS, GL, fPut, ful, l12, l02, DL.D.mut, DL.D.imm, DL.D.imm.immAll, fdOk, fIx, fMul, fAdd, powOk, gLstL, gTupL, DL.D.ty, lvN, szOk, fLen, fListOf, fTupOf, fSl, gSlN, gSlH, gSlL, gSlB, fIsi, fIsiT, isT, DL.D.tyN, DL.D.isX, fInts, DL.D.seqI, fLenSet, fLR, fLR1, gLR2, rgOk, fDict, fAbs, fInt1, gMax2, gMin2, g1S, g2S, fItems, fR1, fR2, bd62, lowE, clr, bakE, kpE, fApp, fIns, fPop, fPopA, fPopI, fClr, fRev, fExt, allTop, fEq, fNe, fNeg, fIsN, DL.D.isNon, DL.D.key, dGet, canE, nrm, cT, sAug_k, ixN, fRvS, fAll, dBls_map, fIsB, fIdx, msk, Function.comp_def, cut_hi, cut_lo, cut_both])
        subst e'
        rw [notK (by rw [q]; simp [mkS, finS, bNs, gL1, gL2, gLL2, fI2, tkA, ptA, GS, GL, fPut, ful, l12, l02, DL.D.mut, DL.D.imm, DL.D.imm.immAll, fdOk, fIx, fMul, fAdd, powOk, gLstL, gTupL, DL.D.ty, lvN, szOk, fLen, fListOf, fTupOf, fSl, gSlN, gSlH, gSlL, gSlB, fIsi, fIsiT, isT, DL.D.tyN, DL.D.isX, fInts, DL.D.seqI, fLenSet, fLR, fLR1, gLR2, rgOk, fDict, fAbs, fInt1, gMax2, gMin2, g1S, g2S, fItems, fR1, fR2, bd62, lowE, clr, bakE, kpE, fApp, fIns, fPop, fPopA, fPopI, fClr, fRev, fExt, allTop, fEq, fNe, fNeg, fIsN, DL.D.isNon, DL.D.key, dGet, canE, nrm, cT, sAug_k, ixN, fRvS, fAll, dBls_map, fIsB, fIdx, msk, Function.comp_def, cut_hi, cut_lo, cut_both])] at e; cases e)
    have modB : Mod K mg (hidT s₁.heap H) := ⟨kinB, nsB nsM, ⟨mb, nsB hb, bltB⟩, let ⟨mc, h1, h2⟩ := noL; ⟨mc, nsB h1, h2⟩⟩
    have envB : Env0 P w K mg (hidT s₁.heap H) callerA [] s₁ H := ⟨rfl, modB, fun b o e => of_hidT e, Nat.le_of_eq (hidT_size _ _), trivial, fun b hb => absurd (show b ∈ ([] : List Addr) from hb) (by simp [mkS, finS, bNs, gL1, gL2, gLL2, fI2, tkA, ptA, GS, GL, fPut, ful, l12, l02, DL.D.mut, DL.D.imm, DL.D.imm.immAll, fdOk, fIx, fMul, fAdd, powOk, gLstL, gTupL, DL.D.ty, lvN, szOk, fLen, fListOf, fTupOf, fSl, gSlN, gSlH, gSlL, gSlB, fIsi, fIsiT, isT, DL.D.tyN, DL.D.isX, fInts, DL.D.seqI, fLenSet, fLR, fLR1, gLR2, rgOk, fDict, fAbs, fInt1, gMax2, gMin2, g1S, g2S, fItems, fR1, fR2, bd62, lowE, clr, bakE, kpE, fApp, fIns, fPop, fPopA, fPopI, fClr, fRev, fExt, allTop, fEq, fNe, fNeg, fIsN, DL.D.isNon, DL.D.key, dGet, canE, nrm, cT, sAug_k, ixN, fRvS, fAll, dBls_map, fIsB, fIdx, msk, Function.comp_def, cut_hi, cut_lo, cut_both]), okH, .of_eq hg⟩
    refine codeAny_mono ((F _ kinB (nsB nsM)) callerA [] s₁ H ⟨[.ref a], []⟩ [.ref a] [.ref a] _ _ rfl hr envB (hbind s₁ (.ref a)) (.cons rfl .nil) (prom H onlyH seqA)) fun r s' h => ?_
    cases r with
    | error e => exact (outX H e s' h).elim
    | ok fl =>
      cases fl with
      | next => exact False.elim h
      | brk => exact False.elim h
      | cont => exact False.elim h
      | ret u =>
        obtain ⟨v, H', os, bare, un, hok', r', q⟩ := h
        have q' : v = .bl true := q
        subst q'
        obtain rfl : u = Value.bool true := r'
        refine ⟨rfl, OldK.of_keep fun b o e => ?_, os, bare⟩
        cases q : H b with
        | none => exact un.keep b o e q (by intro z; exact absurd (show b ∈ ([] : List Addr) from z) (by simp [mkS, finS, bNs, gL1, gL2, gLL2, fI2, tkA, ptA, GS, GL, fPut, ful, l12, l02, DL.D.mut, DL.D.imm, DL.D.imm.immAll, fdOk, fIx, fMul, fAdd, powOk, gLstL, gTupL, DL.D.ty, lvN, szOk, fLen, fListOf, fTupOf, fSl, gSlN, gSlH, gSlL, gSlB, fIsi, fIsiT, isT, DL.D.tyN, DL.D.isX, fInts, DL.D.seqI, fLenSet, fLR, fLR1, gLR2, rgOk, fDict, fAbs, fInt1, gMax2, gMin2, g1S, g2S, fItems, fR1, fR2, bd62, lowE, clr, bakE, kpE, fApp, fIns, fPop, fPopA, fPopI, fClr, fRev, fExt, allTop, fEq, fNe, fNeg, fIsN, DL.D.isNon, DL.D.key, dGet, canE, nrm, cT, sAug_k, ixN, fRvS, fAll, dBls_map, fIsB, fIdx, msk, Function.comp_def, cut_hi, cut_lo, cut_both])) (by simp [mkS, finS, bNs, gL1, gL2, gLL2, fI2, tkA, ptA, GS, GL, fPut, ful, l12, l02, DL.D.mut, DL.D.imm, DL.D.imm.immAll, fdOk, fIx, fMul, fAdd, powOk, gLstL, gTupL, DL.D.ty, lvN, szOk, fLen, fListOf, fTupOf, fSl, gSlN, gSlH, gSlL, gSlB, fIsi, fIsiT, isT, DL.D.tyN, DL.D.isX, fInts, DL.D.seqI, fLenSet, fLR, fLR1, gLR2, rgOk, fDict, fAbs, fInt1, gMax2, gMin2, g1S, g2S, fItems, fR1, fR2, bd62, lowE, clr, bakE, kpE, fApp, fIns, fPop, fPopA, fPopI, fClr, fRev, fExt, allTop, fEq, fNe, fNeg, fIsN, DL.D.isNon, DL.D.key, dGet, canE, nrm, cT, sAug_k, ixN, fRvS, fAll, dBls_map, fIsB, fIdx, msk, Function.comp_def, cut_hi, cut_lo, cut_both])
        | some u =>
          rcases onlyH b with z | ⟨ob, xs, z⟩
          · rw [q] at z; cases z
          · have z2 := un.frzs b ob _ z
            obtain ⟨e1, _⟩ := okH b _ z
            obtain ⟨e2, _⟩ := hok' b _ z2
            rw [e] at e1; cases e1
            exact e2
  cases eK : K.lookup a with
  | some o =>
    -- the script is one of the module's own objects
    have e := kin a o eK
    rw [getA] at e
    cases e
    refine heart (fun _ => none) (fun _ => .inl rfl) (.inr ⟨_, vs.toArray, _, eK, rfl, rfl, rfl, by rw [List.size_toArray, lenU]; exact lenN, by simpa [mkS, finS, bNs, gL1, gL2, gLL2, fI2, tkA, ptA, GS, GL, fPut, ful, l12, l02, DL.D.mut, DL.D.imm, DL.D.imm.immAll, fdOk, fIx, fMul, fAdd, powOk, gLstL, gTupL, DL.D.ty, lvN, szOk, fLen, fListOf, fTupOf, fSl, gSlN, gSlH, gSlL, gSlB, fIsi, fIsiT, isT, DL.D.tyN, DL.D.isX, fInts, DL.D.seqI, fLenSet, fLR, fLR1, gLR2, rgOk, fDict, fAbs, fInt1, gMax2, gMin2, g1S, g2S, fItems, fR1, fR2, bd62, lowE, clr, bakE, kpE, fApp, fIns, fPop, fPopA, fPopI, fClr, fRev, fExt, allTop, fEq, fNe, fNeg, fIsN, DL.D.isNon, DL.D.key, dGet, canE, nrm, cT, sAug_k, ixN, fRvS, fAll, dBls_map, fIsB, fIdx, msk, Function.comp_def, cut_hi, cut_lo, cut_both] using valV⟩) (fun b u z => by have z' : (none : Option HO) = some u := z; cases z') (fun b z => absurd rfl z) fun z => absurd rfl z
  | none =>
    refine heart (fun b => if b = a then some (.frz { cls := .type "list", data := .seq vs.toArray } (.lst (ns.map V.int))) else none) (fun b => ?_) (.inl (.inr ⟨{ cls := .type "list", data := .seq vs.toArray }, if_pos rfl⟩)) (fun b u z => ?_) (fun b z => ?_) fun _ => eK
    · by_cases hb : b = a
      · exact .inr ⟨_, _, if_pos hb⟩
      · exact .inl (if_neg hb)
    · by_cases hb : b = a
      · have z' := (if_pos hb).symm.trans z
        cases z'
        subst hb
        exact ⟨getA, by rw [List.length_map]; exact lenN, vs, _, valV, getA⟩
      · have z' := (if_neg hb).symm.trans z
        cases z'
    · by_cases hb : b = a
      · exact hb
      · exact absurd (if_neg hb) z
theorem walk_ofG {l : PySem.W.OpenLaw} {n k : Nat} {q : Program} {loose : List Str} {XP : (Str → Option Value) → Heap → Prop} {YP : World → Heap → Prop} {d : DefRec} {K : Params → PySem.W.Frag} {CX : World → CXT} {sp : World → Sp} {x : Str}
    (mostN : l.most = some n) (fitN : n ≤ sizeLine) (noDf : d.params.defaults = []) (hr : Room k callerA)
    (inY : ∀ (w : World) (h : Heap), YP w h → (K w.params).In h)
    (F : ∀ (w : World) (mg : Str → Option Value) (fa : Addr) (h : Heap), (K w.params).In h → h.Ns mainGlobals mg → mg d.name = some (.ref fa) →
      ∃ fd : FuncData, (∀ (s : Shared) (u : Value), BindsTo s fd ⟨[u], []⟩ [(x, u)]) ∧
        ∀ base : Heap, (K w.params).In base → base.Ns mainGlobals mg → FnG l.prog w (K w.params) mg base (CX w) k fa fd [x] (sp w))
    (prom : ∀ (w : World) (H : Hp) (a : Addr) (ns : List Int), ns.length ≤ n → Only H → SqL (K w.params) H a (ns.map V.int) → sp w [.ref a] H (fun v _ => v = .bl true) fun _ _ _ => False)
    (outX : ∀ (w : World) (H : Hp) (s : Shared) (e : Value) (s' : Shared), CX w [] H s (fun _ _ _ => False) e s' → False) :
    PySem.W.WalkO q loose XP YP l.row.toRowW d [] (fun f vs => PySem.call f vs) := by
  refine Att.attach_call mostN noDf fun w s₀ s₁ mg mb fa o pm cd doc a vs ns G Y hO2 hD2 cdk mgd atObj isInts short hg => ?_
  have kin := inY w _ Y
  obtain ⟨fd, hb, pF⟩ := F w mg fa _ kin G.T.g mgd
  exact law_callG kin G.T.g G.T.b G.T.builtins G.T.nolimit hg atObj isInts (Nat.le_trans short fitN) hr pF hb (fun H onlyH seqA => prom w H a ns short onlyH seqA) fun H e s' => outX w H s₁ e s'

theorem def_okG {P : Program} {w : World} {K : PySem.W.Frag} {mg : Str → Option Value} {base : Heap} {x qual : Str} {st : Stmt} {f : Addr} {fd : FuncData} {N ps : List Str} {k : Nat} (n m : Nat) (io : List Bool) (body : SF) (F : Fun K x qual st f fd) (S : FnScope N ps (defScope st))
    (hps : ps.length = n) (hN : N.length = m) (hio : io.length ≤ n) (hnm : n ≤ m)
    (hb : ∀ (cdv : Value) (A : Around) (outer : List PySem.Env) (s : Shared) (H : Hp) (E : XK) (W : WW), A.guards = some [] → Room k (A.deeper (envOfC qual (defScope st) s.heap.objs.size f cdv)) → Takes (cxOf (L2.CX P w) P w K mg base N qual (defScope st) f cdv A outer s H E) (wx (cxOf (L2.CX P w) P w K mg base N qual (defScope st) f cdv A outer s H E) W) →
      DSs (cxOf (L2.CX P w) P w K mg base N qual (defScope st) f cdv A outer s H E) W (defBody st) body) : FnG P w K mg base (L2.CX P w) (k + 1) f fd ps (spF K mg n io (runF n m io body)) := by
  refine fun_okG F S (spF_len hps) fun cdv A outer s H vs Q E hgd hr h => ?_
  obtain ⟨As, ev, hl, ok, q⟩ := h
  have tk : Takes (cxOf (L2.CX P w) P w K mg base N qual (defScope st) f cdv A outer s H E) (wx (cxOf (L2.CX P w) P w K mg base N qual (defScope st) f cdv A outer s H E) (fun c _ H' => E (xc mg c) none H')) :=
    Takes.imp (takes_of rfl rfl rfl rfl) fun cls d σ H' ⟨c, h1, h2, h3⟩ => by
      subst h1 h2
      exact h3
  refine ⟨_, hb cdv A outer s H E _ hgd hr tk, ?_⟩
  subst ev
  have hz : ∀ a, H a = none → H a = none ∨ ∃ s ∈ As, a ∈ s.ns := fun a h => .inl h
  let Z : Zone := ⟨fun a => H a = none ∨ ∃ s ∈ As, a ∈ s.ns, fun a => H a = none, hz, fun i => ((As.map Sl.v)[i]?).getD .non⟩
  let pr : Tm := ⟨fun _ => 0, fun a => if (H a).isSome = true ∧ oL As a = 0 then 1 else 0, fun H' => ∀ a o, H a = some o → oL As a = 0 → H' a = some o⟩
  have prs : pr.Stab K := fun H1 H2 h1 _ e a o ho h0 => by
    rw [e a (by show 0 < 0 + (if (H a).isSome = true ∧ oL As a = 0 then 1 else 0); rw [if_pos ⟨by rw [ho]; rfl, h0⟩]; decide)]
    exact h1 a o ho h0
  have R : Rel K Z (start N (As.map Sl.v)) H (sls io As ++ List.replicate (m - n) none) [pr] := by
    refine ⟨?_, fun i t ht => ?_, fun t ht => ?_, fun a => ?_, fun a ha => ?_, fun a h => h, fun i t ht hp => ?_⟩
    · unfold L2.start
      simp [mkS, finS, bNs, gL1, gL2, gLL2, fI2, tkA, ptA, GS, GL, fPut, ful, l12, l02, DL.D.mut, DL.D.imm, DL.D.imm.immAll, fdOk, fIx, fMul, fAdd, powOk, gLstL, gTupL, DL.D.ty, lvN, szOk, fLen, fListOf, fTupOf, fSl, gSlN, gSlH, gSlL, gSlB, fIsi, fIsiT, isT, DL.D.tyN, DL.D.isX, fInts, DL.D.seqI, fLenSet, fLR, fLR1, gLR2, rgOk, fDict, fAbs, fInt1, gMax2, gMin2, g1S, g2S, fItems, fR1, fR2, bd62, lowE, clr, bakE, kpE, fApp, fIns, fPop, fPopA, fPopI, fClr, fRev, fExt, allTop, fEq, fNe, fNeg, fIsN, DL.D.isNon, DL.D.key, dGet, canE, nrm, cT, sAug_k, ixN, fRvS, fAll, dBls_map, fIsB, fIdx, msk, Function.comp_def, cut_hi, cut_lo, cut_both, sls_len, hN, hl]
    · by_cases hi : i < As.length
      · rw [List.getElem?_append_left (by rw [sls_len]; exact hi)] at ht
        obtain ⟨u, h1, e1, e2, e3⟩ := sls_get io As i t ht
        have hu : u ∈ As := List.mem_of_getElem? h1
        refine ⟨?_, by rw [e1, e2, e3]; exact ok.rd u hu, fun a ha => .inr ⟨u, hu, by rw [← e3]; exact ha⟩⟩
        unfold L2.start
        rw [List.getElem?_append_left (by simpa [mkS, finS, bNs, gL1, gL2, gLL2, fI2, tkA, ptA, GS, GL, fPut, ful, l12, l02, DL.D.mut, DL.D.imm, DL.D.imm.immAll, fdOk, fIx, fMul, fAdd, powOk, gLstL, gTupL, DL.D.ty, lvN, szOk, fLen, fListOf, fTupOf, fSl, gSlN, gSlH, gSlL, gSlB, fIsi, fIsiT, isT, DL.D.tyN, DL.D.isX, fInts, DL.D.seqI, fLenSet, fLR, fLR1, gLR2, rgOk, fDict, fAbs, fInt1, gMax2, gMin2, g1S, g2S, fItems, fR1, fR2, bd62, lowE, clr, bakE, kpE, fApp, fIns, fPop, fPopA, fPopI, fClr, fRev, fExt, allTop, fEq, fNe, fNeg, fIsN, DL.D.isNon, DL.D.key, dGet, canE, nrm, cT, sAug_k, ixN, fRvS, fAll, dBls_map, fIsB, fIdx, msk, Function.comp_def, cut_hi, cut_lo, cut_both] using hi)]
        simp [mkS, finS, bNs, gL1, gL2, gLL2, fI2, tkA, ptA, GS, GL, fPut, ful, l12, l02, DL.D.mut, DL.D.imm, DL.D.imm.immAll, fdOk, fIx, fMul, fAdd, powOk, gLstL, gTupL, DL.D.ty, lvN, szOk, fLen, fListOf, fTupOf, fSl, gSlN, gSlH, gSlL, gSlB, fIsi, fIsiT, isT, DL.D.tyN, DL.D.isX, fInts, DL.D.seqI, fLenSet, fLR, fLR1, gLR2, rgOk, fDict, fAbs, fInt1, gMax2, gMin2, g1S, g2S, fItems, fR1, fR2, bd62, lowE, clr, bakE, kpE, fApp, fIns, fPop, fPopA, fPopI, fClr, fRev, fExt, allTop, fEq, fNe, fNeg, fIsN, DL.D.isNon, DL.D.key, dGet, canE, nrm, cT, sAug_k, ixN, fRvS, fAll, dBls_map, fIsB, fIdx, msk, Function.comp_def, cut_hi, cut_lo, cut_both, h1, e1]
      · rw [List.getElem?_append_right (by rw [sls_len]; omega), List.getElem?_replicate] at ht
        split at ht <;> cases ht
    · rw [List.mem_singleton.mp ht]
      refine ⟨fun a o h _ => h, prs, fun a ha => ?_⟩
      have ha : 0 < 0 + (if (H a).isSome = true ∧ oL As a = 0 then 1 else 0) := ha
      split at ha
      · rename_i c
        intro z
        rw [z] at c
        exact absurd c.1 (by simp [mkS, finS, bNs, gL1, gL2, gLL2, fI2, tkA, ptA, GS, GL, fPut, ful, l12, l02, DL.D.mut, DL.D.imm, DL.D.imm.immAll, fdOk, fIx, fMul, fAdd, powOk, gLstL, gTupL, DL.D.ty, lvN, szOk, fLen, fListOf, fTupOf, fSl, gSlN, gSlH, gSlL, gSlB, fIsi, fIsiT, isT, DL.D.tyN, DL.D.isX, fInts, DL.D.seqI, fLenSet, fLR, fLR1, gLR2, rgOk, fDict, fAbs, fInt1, gMax2, gMin2, g1S, g2S, fItems, fR1, fR2, bd62, lowE, clr, bakE, kpE, fApp, fIns, fPop, fPopA, fPopI, fClr, fRev, fExt, allTop, fEq, fNe, fNeg, fIsN, DL.D.isNon, DL.D.key, dGet, canE, nrm, cT, sAug_k, ixN, fRvS, fAll, dBls_map, fIsB, fIdx, msk, Function.comp_def, cut_hi, cut_lo, cut_both])
      · omega
    · have h1 := ok.sep a
      obtain ⟨q1, q2⟩ := sls_cnt a io As
      obtain ⟨q3, q4⟩ := oS_rep (m - n) a
      rw [oS_append, rS_append, q1, q2, q3, q4]
      show oL As a + 0 + (0 + 0) ≤ 1 ∧ (0 < oL As a + 0 + (0 + 0) → rL As a + 0 + ((if (H a).isSome = true ∧ oL As a = 0 then 1 else 0) + 0) = 0)
      refine ⟨by omega, fun c => ?_⟩
      rw [if_neg (by omega)]
      omega
    · obtain ⟨q1, q2⟩ := sls_cnt a io As
      obtain ⟨q3, q4⟩ := oS_rep (m - n) a
      rw [oS_append, q1, q3] at ha
      exact ok.wr a (by have ha : 0 < oL As a + 0 + (0 + 0) := ha; omega)
    · by_cases hi : i < As.length
      · rw [List.getElem?_append_left (by rw [sls_len]; exact hi)] at ht
        obtain ⟨u, h1, e1, _, _⟩ := sls_get io As i t ht
        show t.v = ((As.map Sl.v)[i]?).getD .non
        simp [mkS, finS, bNs, gL1, gL2, gLL2, fI2, tkA, ptA, GS, GL, fPut, ful, l12, l02, DL.D.mut, DL.D.imm, DL.D.imm.immAll, fdOk, fIx, fMul, fAdd, powOk, gLstL, gTupL, DL.D.ty, lvN, szOk, fLen, fListOf, fTupOf, fSl, gSlN, gSlH, gSlL, gSlB, fIsi, fIsiT, isT, DL.D.tyN, DL.D.isX, fInts, DL.D.seqI, fLenSet, fLR, fLR1, gLR2, rgOk, fDict, fAbs, fInt1, gMax2, gMin2, g1S, g2S, fItems, fR1, fR2, bd62, lowE, clr, bakE, kpE, fApp, fIns, fPop, fPopA, fPopI, fClr, fRev, fExt, allTop, fEq, fNe, fNeg, fIsN, DL.D.isNon, DL.D.key, dGet, canE, nrm, cT, sAug_k, ixN, fRvS, fAll, dBls_map, fIsB, fIdx, msk, Function.comp_def, cut_hi, cut_lo, cut_both, h1, e1]
      · rw [List.getElem?_append_right (by rw [sls_len]; omega), List.getElem?_replicate] at ht
        split at ht <;> cases ht
  have e0 : er (sls io As ++ List.replicate (m - n) none) = mkS io (As.map Sl.ld) ++ List.replicate (m - n) none := by rw [er_append, er_sls, er_rep]
  -- the end of it: what has come
  have endd : ∀ {σ' : L2.St} {H' : Hp} {L' : List (Option Sl)} {xs : List Sl} {M : List Tm} {fs : List LD}, Rel K Z σ' H' L' (tmA K xs :: pr :: M) → (∀ t ∈ xs, ∀ a ∈ t.ns, Z a) → finS io (er L') = some fs →
      ∃ Fs : List Sl, Fs.map Sl.ld = fs ∧ Fs.map Sl.v = msk io (As.map Sl.v) ∧ Fram As H H' ∧ ArgsOk K H' (xs ++ Fs) ∧ From As H (xs ++ Fs) := fun {σ' H' L' xs M fs} R' zx hf => by
    obtain ⟨Fs, f1, f2, f3, f4⟩ := fin_of io L' fs 0 [] hf (by simpa [mkS, finS, bNs, gL1, gL2, gLL2, fI2, tkA, ptA, GS, GL, fPut, ful, l12, l02, DL.D.mut, DL.D.imm, DL.D.imm.immAll, fdOk, fIx, fMul, fAdd, powOk, gLstL, gTupL, DL.D.ty, lvN, szOk, fLen, fListOf, fTupOf, fSl, gSlN, gSlH, gSlL, gSlB, fIsi, fIsiT, isT, DL.D.tyN, DL.D.isX, fInts, DL.D.seqI, fLenSet, fLR, fLR1, gLR2, rgOk, fDict, fAbs, fInt1, gMax2, gMin2, g1S, g2S, fItems, fR1, fR2, bd62, lowE, clr, bakE, kpE, fApp, fIns, fPop, fPopA, fPopI, fClr, fRev, fExt, allTop, fEq, fNe, fNeg, fIsN, DL.D.isNon, DL.D.key, dGet, canE, nrm, cT, sAug_k, ixN, fRvS, fAll, dBls_map, fIsB, fIdx, msk, Function.comp_def, cut_hi, cut_lo, cut_both] using R') rfl
    have hprm : pr ∈ tmA K xs :: pr :: M := List.mem_cons_of_mem _ (List.mem_cons_self ..)
    obtain ⟨p1, _, _⟩ := R'.tms pr hprm
    obtain ⟨x1, _, _⟩ := R'.tms _ (List.mem_cons_self ..)
    have sp : ∀ a, oS L' a + (oL xs a + (0 + oM M a)) ≤ 1 ∧ (0 < oS L' a + (oL xs a + (0 + oM M a)) → rS L' a + (rL xs a + ((if (H a).isSome = true ∧ oL As a = 0 then 1 else 0) + rM M a)) = 0) := fun a => R'.sep a
    have oldOr : ∀ a, 0 < oS L' a + oL xs a → H a = none ∨ 0 < oL As a := fun a ha => by
      have h1 := (sp a).2 (by omega)
      by_cases c : (H a).isSome = true ∧ oL As a = 0
      · rw [if_pos c] at h1; omega
      · by_cases c2 : oL As a = 0
        · left
          cases e : H a with
          | none => rfl
          | some o => exact absurd ⟨by rw [e]; rfl, c2⟩ c
        · right; omega
    have zone : ∀ a, Z a → H a = none ∨ 0 < oL As a + rL As a := fun a ha => by
      rcases ha with ha | ⟨u, h1, h2⟩
      · exact .inl ha
      · have := oL_mem a h1
        have := (u.mem a).mpr h2
        exact .inr (by omega)
    refine ⟨Fs, f1, by rw [f4]; exact msk_pv io (As.map Sl.v) (by simpa [mkS, finS, bNs, gL1, gL2, gLL2, fI2, tkA, ptA, GS, GL, fPut, ful, l12, l02, DL.D.mut, DL.D.imm, DL.D.imm.immAll, fdOk, fIx, fMul, fAdd, powOk, gLstL, gTupL, DL.D.ty, lvN, szOk, fLen, fListOf, fTupOf, fSl, gSlN, gSlH, gSlL, gSlB, fIsi, fIsiT, isT, DL.D.tyN, DL.D.isX, fInts, DL.D.seqI, fLenSet, fLR, fLR1, gLR2, rgOk, fDict, fAbs, fInt1, gMax2, gMin2, g1S, g2S, fItems, fR1, fR2, bd62, lowE, clr, bakE, kpE, fApp, fIns, fPop, fPopA, fPopI, fClr, fRev, fExt, allTop, fEq, fNe, fNeg, fIsN, DL.D.isNon, DL.D.key, dGet, canE, nrm, cT, sAug_k, ixN, fRvS, fAll, dBls_map, fIsB, fIdx, msk, Function.comp_def, cut_hi, cut_lo, cut_both, hl] using hio), ⟨p1, fun a h => R'.zf a h⟩, ⟨fun t ht => ?_, fun a => ?_, fun a ha => ?_⟩, fun a => ?_⟩
    · rcases List.mem_append.mp ht with ht | ht
      · exact x1 t ht
      · exact (f2 t ht).1
    · rw [oL_append, rL_append]
      have h1 := sp a
      have h2 := f3 a
      omega
    · rw [oL_append] at ha
      have h2 := f3 a
      exact R'.wr a (by show 0 < oS L' a + (oL xs a + (0 + oM M a)); omega)
    · rw [oL_append, rL_append]
      have h2 := f3 a
      refine ⟨fun h => oldOr a (by omega), fun h => zone a ?_⟩
      by_cases c : 0 < oL xs a + rL xs a
      · obtain ⟨t, g1, g2⟩ := oL_pos c
        exact zx t g1 a g2
      · obtain ⟨t, g1, g2⟩ := oL_pos (As := Fs) (a := a) (by omega)
        exact (f2 t g1).2 a g2
  refine ⟨Z, _, _, R, ?_⟩
  rw [e0]
  unfold runF at q
  rw [List.length_map, if_pos hl] at q
  cases eb : body (mkS io (As.map Sl.ld) ++ List.replicate (m - n) none) with
  | bad => rw [eb] at q; exact q
  | bk Γ => rw [eb] at q; exact q.elim
  | ct Γ => rw [eb] at q; exact q.elim
  | nx Γ =>
    rw [eb] at q
    dsimp only at q
    intro σ' H' L' e R'
    cases ef : finS io Γ with
    | none => rw [ef] at q; exact q.elim
    | some fs =>
      rw [ef] at q
      dsimp only at q
      obtain ⟨Fs, f1, f2, f3, f4, f5⟩ := endd (R'.push (m := (Sl.mk 2 .non .non []).tm K) .non (Sl.stab _ _) (fun a h => by simp [mkS, finS, bNs, gL1, gL2, gLL2, fI2, tkA, ptA, GS, GL, fPut, ful, l12, l02, DL.D.mut, DL.D.imm, DL.D.imm.immAll, fdOk, fIx, fMul, fAdd, powOk, gLstL, gTupL, DL.D.ty, lvN, szOk, fLen, fListOf, fTupOf, fSl, gSlN, gSlH, gSlL, gSlB, fIsi, fIsiT, isT, DL.D.tyN, DL.D.isX, fInts, DL.D.seqI, fLenSet, fLR, fLR1, gLR2, rgOk, fDict, fAbs, fInt1, gMax2, gMin2, g1S, g2S, fItems, fR1, fR2, bd62, lowE, clr, bakE, kpE, fApp, fIns, fPop, fPopA, fPopI, fClr, fRev, fExt, allTop, fEq, fNe, fNeg, fIsN, DL.D.isNon, DL.D.key, dGet, canE, nrm, cT, sAug_k, ixN, fRvS, fAll, dBls_map, fIsB, fIdx, msk, Function.comp_def, cut_hi, cut_lo, cut_both, Sl.tm, Sl.own, Sl.rst, ownL, rstL] at h) (fun a => by simp [mkS, finS, bNs, gL1, gL2, gLL2, fI2, tkA, ptA, GS, GL, fPut, ful, l12, l02, DL.D.mut, DL.D.imm, DL.D.imm.immAll, fdOk, fIx, fMul, fAdd, powOk, gLstL, gTupL, DL.D.ty, lvN, szOk, fLen, fListOf, fTupOf, fSl, gSlN, gSlH, gSlL, gSlB, fIsi, fIsiT, isT, DL.D.tyN, DL.D.isX, fInts, DL.D.seqI, fLenSet, fLR, fLR1, gLR2, rgOk, fDict, fAbs, fInt1, gMax2, gMin2, g1S, g2S, fItems, fR1, fR2, bd62, lowE, clr, bakE, kpE, fApp, fIns, fPop, fPopA, fPopI, fClr, fRev, fExt, allTop, fEq, fNe, fNeg, fIsN, DL.D.isNon, DL.D.key, dGet, canE, nrm, cT, sAug_k, ixN, fRvS, fAll, dBls_map, fIsB, fIdx, msk, Function.comp_def, cut_hi, cut_lo, cut_both, Sl.tm, Sl.own, Sl.rst, ownL, rstL]) (fun a h => by simp [mkS, finS, bNs, gL1, gL2, gLL2, fI2, tkA, ptA, GS, GL, fPut, ful, l12, l02, DL.D.mut, DL.D.imm, DL.D.imm.immAll, fdOk, fIx, fMul, fAdd, powOk, gLstL, gTupL, DL.D.ty, lvN, szOk, fLen, fListOf, fTupOf, fSl, gSlN, gSlH, gSlL, gSlB, fIsi, fIsiT, isT, DL.D.tyN, DL.D.isX, fInts, DL.D.seqI, fLenSet, fLR, fLR1, gLR2, rgOk, fDict, fAbs, fInt1, gMax2, gMin2, g1S, g2S, fItems, fR1, fR2, bd62, lowE, clr, bakE, kpE, fApp, fIns, fPop, fPopA, fPopI, fClr, fRev, fExt, allTop, fEq, fNe, fNeg, fIsN, DL.D.isNon, DL.D.key, dGet, canE, nrm, cT, sAug_k, ixN, fRvS, fAll, dBls_map, fIsB, fIdx, msk, Function.comp_def, cut_hi, cut_lo, cut_both, Sl.tm, Sl.own, ownL] at h) fun a h => by simp [mkS, finS, bNs, gL1, gL2, gLL2, fI2, tkA, ptA, GS, GL, fPut, ful, l12, l02, DL.D.mut, DL.D.imm, DL.D.imm.immAll, fdOk, fIx, fMul, fAdd, powOk, gLstL, gTupL, DL.D.ty, lvN, szOk, fLen, fListOf, fTupOf, fSl, gSlN, gSlH, gSlL, gSlB, fIsi, fIsiT, isT, DL.D.tyN, DL.D.isX, fInts, DL.D.seqI, fLenSet, fLR, fLR1, gLR2, rgOk, fDict, fAbs, fInt1, gMax2, gMin2, g1S, g2S, fItems, fR1, fR2, bd62, lowE, clr, bakE, kpE, fApp, fIns, fPop, fPopA, fPopI, fClr, fRev, fExt, allTop, fEq, fNe, fNeg, fIsN, DL.D.isNon, DL.D.key, dGet, canE, nrm, cT, sAug_k, ixN, fRvS, fAll, dBls_map, fIsB, fIdx, msk, Function.comp_def, cut_hi, cut_lo, cut_both, Sl.tm, Sl.rst, rstL] at h).one
        (fun t ht a ha => by rw [List.mem_singleton.mp ht] at ha; cases ha) (by rw [e]; exact ef)
      exact q .non [] Fs H' f1 f2 f3 f4 f5
  | rt x Γ =>
    obtain ⟨l, d⟩ := x
    rw [eb] at q
    dsimp only at q
    intro v ns σ' H' L' e R' z
    cases ef : finS io Γ with
    | none => rw [ef] at q; exact q.elim
    | some fs =>
      rw [ef] at q
      dsimp only at q
      obtain ⟨Fs, f1, f2, f3, f4, f5⟩ := endd R'.one (fun t ht a ha => by rw [List.mem_singleton.mp ht] at ha; exact z a ha) (by rw [e]; exact ef)
      exact q v ns Fs H' f1 f2 f3 f4 f5
  | exc c Γ =>
    rw [eb] at q
    dsimp only at q
    intro σ' H' L' e R'
    cases ef : finS io Γ with
    | none => rw [ef] at q; exact q.elim
    | some fs =>
      rw [ef] at q
      dsimp only at q
      obtain ⟨Fs, f1, f2, f3, f4, f5⟩ := endd R'.args0 (fun t ht => nomatch ht) (by rw [e]; exact ef)
      exact q Fs H' f1 f2 f3 (by simpa [mkS, finS, bNs, gL1, gL2, gLL2, fI2, tkA, ptA, GS, GL, fPut, ful, l12, l02, DL.D.mut, DL.D.imm, DL.D.imm.immAll, fdOk, fIx, fMul, fAdd, powOk, gLstL, gTupL, DL.D.ty, lvN, szOk, fLen, fListOf, fTupOf, fSl, gSlN, gSlH, gSlL, gSlB, fIsi, fIsiT, isT, DL.D.tyN, DL.D.isX, fInts, DL.D.seqI, fLenSet, fLR, fLR1, gLR2, rgOk, fDict, fAbs, fInt1, gMax2, gMin2, g1S, g2S, fItems, fR1, fR2, bd62, lowE, clr, bakE, kpE, fApp, fIns, fPop, fPopA, fPopI, fClr, fRev, fExt, allTop, fEq, fNe, fNeg, fIsN, DL.D.isNon, DL.D.key, dGet, canE, nrm, cT, sAug_k, ixN, fRvS, fAll, dBls_map, fIsB, fIdx, msk, Function.comp_def, cut_hi, cut_lo, cut_both] using f4) (by simpa [mkS, finS, bNs, gL1, gL2, gLL2, fI2, tkA, ptA, GS, GL, fPut, ful, l12, l02, DL.D.mut, DL.D.imm, DL.D.imm.immAll, fdOk, fIx, fMul, fAdd, powOk, gLstL, gTupL, DL.D.ty, lvN, szOk, fLen, fListOf, fTupOf, fSl, gSlN, gSlH, gSlL, gSlB, fIsi, fIsiT, isT, DL.D.tyN, DL.D.isX, fInts, DL.D.seqI, fLenSet, fLR, fLR1, gLR2, rgOk, fDict, fAbs, fInt1, gMax2, gMin2, g1S, g2S, fItems, fR1, fR2, bd62, lowE, clr, bakE, kpE, fApp, fIns, fPop, fPopA, fPopI, fClr, fRev, fExt, allTop, fEq, fNe, fNeg, fIsN, DL.D.isNon, DL.D.key, dGet, canE, nrm, cT, sAug_k, ixN, fRvS, fAll, dBls_map, fIsB, fIdx, msk, Function.comp_def, cut_hi, cut_lo, cut_both] using f5)
theorem room66 {k : Nat} {A : Around} (hr : Room k A) : A.units + 66 < cLine := by have := hr.un; omega
/-- repr(x) -/
def rRepr (K : PySem.W.Frag) : V → Hp → VK → Prop := fun x H Q => ∃ a d, x = V.ref a ∧ Dp K H x d ∧ d.showable = true ∧ d.hasDict = false ∧ d.depth ≤ 64 ∧ d.shown.length ≤ sizeLine ∧ Q (.str d.shown) H
section
variable {X : Cx} {W : WW} {A : List Nat} {f : PF} {pos : Pos} {a : Expr}
theorem pe_repr {ta : TE} {p : Pos} (hgd : X.A.guards = some []) (hu : X.A.units + 66 < cLine) (hg : Gl X "repr") (hm : X.mg "repr" = none) (ha : PE X a ta)
    (na : starEach [a] X.env = (false, eval a X.env) :: starEach [] X.env := by rfl) : PE X (.Call (.Name "repr" p) [a] [] pos) (fun σ H Q => ta σ H fun x H1 => rRepr X.K x H1 Q) := by
  refine ⟨fun pins s σ H Q I h => ?_⟩
  refine Call_ (ld_blt I hg hm PyProof.Rows.boot_repr ?_)
  refine PyProof.Rows.callWith_builtin1 (PyProof.Rows.args_cons (thn (ha.run pins s σ H _ I h) fun v s1 ⟨x, H1, I1, r1, q1⟩ => PyProof.Rows.args_nil ?_) na) na rfl
  obtain ⟨b, d, rfl, hd, h1, h2, h3, h4, q1⟩ := q1
  cases r1
  obtain ⟨as, r2⟩ := Dp.reads I1 d (V.ref b) (Value.ref b) hd rfl
  refine repr_of_reads' r2 h1 (PyData.noDict_hsm h2) hgd (by omega) (fun _ _ e => e) (fun h' u tk hk => ?_) h4
  exact ⟨.str d.shown, H1, I1.kept hk, ⟨u, rfl⟩, q1⟩
def fRepr : LD → Option LD := fun x => match x.2 with
  | .tup ds => if eqd 60 (.tup ds) && (D.tup ds).py.showable && !(D.tup ds).py.hasDict && decide ((D.tup ds).py.depth ≤ 64) && decide ((D.tup ds).py.shown.length ≤ 16777216) then some (2, .str (D.tup ds).py.shown) else none
  | _ => none
theorem vRepr {K : PySem.W.Frag} : VOk K (r1l (rRepr K)) (gL1 fRepr) := vC1 fun s H Q ok h1 l d hg k => by
  obtain ⟨l1, d1, v1, n1⟩ := s
  dsimp only at *
  unfold fRepr at hg
  cases d1 with
  | tup ds =>
    dsimp only at hg
    split at hg
    · next c =>
      cases hg
      simp only [Bool.and_eq_true, decide_eq_true_eq, Bool.not_eq_true'] at c
      obtain ⟨⟨⟨⟨c1, c2⟩, c3⟩, c4⟩, c5⟩ := c
      have hd := h1.dp 60 _ _ _ c1
      cases h1 with
      | tup e1 r1 => exact ⟨_, _, rfl, hd, c2, c3, c4, by rw [sizeLine_eq]; exact c5, k _ [] H (Same.refl H) (.str _) (res_imm rfl)⟩
    · cases hg
  | _ => cases hg
theorem p_repr {p : Pos} (hgd : X.A.guards = some []) (hu : X.A.units + 66 < cLine) (hg : Gl X "repr") (hm : X.mg "repr" = none) (ha : DP X W A a f)
    (na : starEach [a] X.env = (false, eval a X.env) :: starEach [] X.env := by rfl) : DP X W A (.Call (.Name "repr" p) [a] [] pos) (pApp (gL1 fRepr) [f]) :=
  p_app [(A, f)] mem1l vRepr (pe_repr hgd hu hg hm ha na) fun _ _ _ h => h
end
end DL

/-! DL37: try .. except X, without a name -/
namespace DL
open L2 PySem PySem.Spec PyProof.Rows
/-- hl: the exceptions that the clause takes -/
def sTry (hl : List String) (f g : SF) : SF := fun Γ => match f Γ with
  | .exc c Γ' => if c ∈ hl then g Γ' else .bad
  | o => o
theorem mem_one {P : String → Prop} {a : String} {l : List String} (h : P a) (hl : ∀ x ∈ l, P x) : ∀ x ∈ a :: l, P x := fun x hx => by
  rcases List.mem_cons.mp hx with rfl | hx
  · exact h
  · exact hl x hx
/-- an own class of errors in a clause -/
theorem exm_own {K : PySem.W.Frag} {S : Addr} {cls : Value} (h1 : PySem.W.subIn K (.ref S) (.type "BaseException") = some true) (h2 : PySem.W.isClsIn K S = true) (h3 : PySem.W.typeIn K (.ref S) = some (.type "type")) (h4 : PySem.W.subIn K cls (.ref S) = some true) : PySem.W.exmOne K cls (.ref S) = some true := by
  have h2' : (PySem.W.clsIn K S).isSome = true := h2
  unfold PySem.W.exmOne
  rw [h1]
  unfold PySem.W.kitCls
  dsimp only
  rw [h2', h3]
  exact h4
theorem xc_of {mg : Str → Option Value} {c : String} {v : Value} (h : mg (Str.ofString c) = some v) : xc mg c = v := by
  unfold xc
  rw [h]
  rfl
theorem names_x {X : Cx} {x : Str} {c : String} (q : XCls X.K X.mg x) (hx : x = Str.ofString c := by rfl) (hg : Gl X x := by rfl) (hdb : (x == ("__debug__" : Str)) = false := by decide) : Names X x (xc X.mg c) := by
  obtain ⟨C, q1, q2, _⟩ := q
  refine ⟨hg, hdb, .inl ?_⟩
  rw [xc_of (v := .ref C) (by rw [← hx]; exact q2)]
  exact q2
theorem s_try {X : Cx} {W : WW} {x : Str} {c : Value} {body suite : List Stmt} {b₀ : Stmt} {np pos pos' : Pos} {f g : SF} {hl : List String}
    (hs : X.stack = X.env :: X.outer) (hf : X.env.frame = some X.env.locals) (hc : Names X x c) (hm : ∀ a ∈ hl, PySem.W.exmOne X.K (xc X.mg a) c = some true)
    (hb : ∀ (W' : WW) (pn : List (Addr × Obj)) (xe : Value → Shared → Prop), Takes (X.tr pn xe) (wx (X.tr pn xe) W') → PassesOwn (model X.prog X.w) X.A X.env xe → DSs (X.tr pn xe) W' body f)
    (hsu : ∀ (a : Addr) (oe : Obj) (pn : List (Addr × Obj)), DSs (X.suite a ((a, oe) :: pn)) W (b₀ :: suite) g) :
    DS X W (.Try body [.ExceptHandler (some (.Name x np)) none (b₀ :: suite) pos'] [] [] pos) (sTry hl f g) := by
  refine PS.imp (ps_try_only (X := X) (c := c) (tb := fun W0 => tDS X.K (fun c' σ' H' => W0 (xc X.mg c') none σ' H') f) (ts := fun _ _ _ => tDS X.K W g) (Wout := fun _ _ _ _ => False) hs hf hc takes0
    (fun W0 pn xe tk pas => hb _ pn xe (Takes.imp tk fun cls d σ H ⟨c', h1, h2, h3⟩ => by
      subst h1 h2
      exact h3) pas) (fun a oe cls d pn _ _ => hsu a oe pn)) fun D σ H q => ?_
  obtain ⟨Z, L, M, R, q⟩ := q
  refine ⟨Z, L, M, R, ?_⟩
  unfold sTry at q
  cases ef : f (er L) with
  | nx Γ' => rw [ef] at q; exact q
  | rt x Γ' => rw [ef] at q; exact q
  | bk Γ' => rw [ef] at q; exact q
  | ct Γ' => rw [ef] at q; exact q
  | bad => rw [ef] at q; exact q
  | exc c' Γ' =>
    rw [ef] at q
    dsimp only at q
    split at q
    · next h => exact fun σ' H' L' e R' => ⟨true, hm c' h, fun _ a _ => ⟨Z, L', M, R', by rw [e]; exact q⟩, fun h => nomatch h⟩
    · exact q.elim
def kTry (hl : List String) (o : O) (g : SF) : O := match o with
  | .exc c Γ' => if c ∈ hl then g Γ' else .bad
  | o => o
@[simp] theorem sTry_k (hl : List String) (f g : SF) (Γ : Env) : sTry hl f g Γ = kTry hl (f Γ) g := rfl
@[simp] theorem kTry_nx (hl : List String) (g : SF) (Γ : Env) : kTry hl (.nx Γ) g = .nx Γ := rfl
@[simp] theorem kTry_rt (hl : List String) (g : SF) (x : LD) (Γ : Env) : kTry hl (.rt x Γ) g = .rt x Γ := rfl
@[simp] theorem kTry_exc (hl : List String) (g : SF) (c : String) (Γ : Env) : kTry hl (.exc c Γ) g = if c ∈ hl then g Γ else .bad := rfl
end DL

/-! DL38: [x for x in xs if ..] where the things may be changed: the new list is told, but it owns nothing -/
namespace DL
open L2 PySem PySem.Spec PyProof.Rows
/-- the variable's thing, as if it were new -/
def pV2 (i : Nat) : PF := fun Γ => match Γ[i]? with
  | some (some (_, d)) => .ok (2, d)
  | _ => .bad
def fre (Γ : Env) (vs : List Nat) : Bool := vs.all fun i => match Γ[i]? with
  | some (some _) => false
  | _ => true
def kLow0 : P LD → P LD
  | .ok x => .ok (0, x.2)
  | .exc c => .exc c
  | .bad => .bad
def pLc0 (A : List Nat) (src : Env → P (List LD)) (bd : BF) (t : PB) (j : Nat) (vs : List Nat) : PF := fun Γ => if fre Γ vs then kLow0 (pLc A src bd t (pV2 j) vs Γ) else .bad
theorem fre_er {L : List (Option Sl)} {vs : List Nat} (h : fre (er L) vs = true) {i : Nat} (hi : i ∈ vs) (s : Sl) : L[i]? ≠ some (some s) := fun e => by
  have := List.all_eq_true.mp h i hi
  rw [er_get, e] at this
  simp [mkS, finS, bNs, gL1, gL2, gLL2, fI2, tkA, ptA, GS, GL, fPut, ful, l12, l02, DL.D.mut, DL.D.imm, DL.D.imm.immAll, fdOk, fIx, fMul, fAdd, powOk, gLstL, gTupL, DL.D.ty, lvN, szOk, fLen, fListOf, fTupOf, fSl, gSlN, gSlH, gSlL, gSlB, fIsi, fIsiT, isT, DL.D.tyN, DL.D.isX, fInts, DL.D.seqI, fLenSet, fLR, fLR1, gLR2, rgOk, fDict, fAbs, fInt1, gMax2, gMin2, g1S, g2S, fItems, fR1, fR2, bd62, lowE, clr, bakE, kpE, fApp, fIns, fPop, fPopA, fPopI, fClr, fRev, fExt, allTop, fEq, fNe, fNeg, fIsN, DL.D.isNon, DL.D.key, dGet, canE, nrm, cT, sAug_k, ixN, fRvS, fAll, dBls_map, fIsB, fIdx, msk, Function.comp_def, cut_hi, cut_lo, cut_both] at this
theorem clr_get {α : Type} (L : List (Option α)) (i : Nat) : ∀ vs, i ∉ vs → (clr L vs)[i]? = L[i]?
  | [], _ => rfl
  | v :: vs, h => by
    unfold clr
    rw [List.getElem?_set_ne (fun e => h (by rw [e]; exact List.mem_cons_self ..))]
    exact clr_get L i vs fun z => h (List.mem_cons_of_mem _ z)
theorem plc0_ok {K : PySem.W.Frag} {W : WW} {A : List Nat} {src : Env → P (List LD)} {js vs : List Nat} {bd : BF} {g : TG} {t : PB} {j : Nat} {wi : TI} {σ : L2.St} {H : Hp} {Q : VK} (hj : ∀ j ∈ js, j ∈ vs) (hjv : j ∈ vs) (hg : TgOk K js g bd)
    (hw : ∀ σ H R', (∃ Z L M, Rel K Z σ H L M ∧ match src (er L) with
    | .ok xs => ∀ (Bs : List Sl) H' J (ds : List D), xs = ds.map (fun d => (0, d)) → PArgs K Z A H L M H' Bs → WalkV K Bs J ds → R' J H'
    | .exc c => ∀ H', Same H H' → W c σ H'
    | .bad => False) → wi σ H R') (h : tDP K W A (pLc0 A src bd t j vs) σ H Q) : tLc wi g (tDTP K W0 t) (tDP K W0 [j] (pVar j)) vs σ H Q := by
  obtain ⟨Z, L, M, R, q⟩ := h
  refine hw σ H _ ⟨Z, L, M, R, ?_⟩
  unfold pLc0 at q
  by_cases hf : fre (er L) vs = true
  rotate_left
  · rw [if_neg hf] at q; exact q.elim
  rw [if_pos hf] at q
  unfold pLc at q
  cases es : src (er L) with
  | bad => rw [es] at q; exact q
  | exc c => rw [es] at q; exact q
  | ok xs =>
    rw [es] at q
    dsimp only at q ⊢
    intro Bs H1 J ds hx p1 wk D hD
    by_cases hz : szOk xs.length = true
    rotate_left
    · rw [if_neg hz] at q; exact q.elim
    rw [if_pos hz] at q
    have hsz := szOk_ok hz
    cases ec : colM (turnP bd t (pV2 j) (clr (lowE A (er L)) vs)) xs with
    | none => rw [ec] at q; exact q.elim
    | some fin =>
    rw [ec] at q
    have hlen : xs.length = ds.length := by rw [hx, List.length_map]
    have sm1 := p1.same
    have DH : H D = none := sm1.free hD
    have start : Same H1 (upd H1 D (.lst [])) := same_upd hD
    refine ⟨fun i n Hh => n = xs.length - i ∧ i ≤ xs.length ∧ ∃ (es : List DL.D) (acc : List V) (ns : List Addr), Same H1 Hh ∧ Hh D = some (.lst acc) ∧ Rds K Hh acc es ns ∧ es.length ≤ i ∧
      (∀ a ∈ ns, a ≠ D ∧ Z a ∧ oS (low A L) a = 0 ∧ oM M a = 0) ∧ ∃ rest, colM (turnP bd t (pV2 j) (clr (lowE A (er L)) vs)) (xs.drop i) = some rest ∧ es ++ rest = fin,
      ⟨xs.length, by simp, Nat.zero_le _, [], [], [], start, upd_same, .nil, Nat.le_refl _, fun a h => (nomatch h), fin, by rw [List.drop_zero]; exact ec, rfl⟩, ?_⟩
    rintro i n Hh ⟨rfl, hil, es, acc, ns, smh, hDa, rds, hes, hns, rest, hc, hfin⟩
    have rdB : ∀ s ∈ Bs, Rd K Hh s.v s.d s.ns := fun s hs => (p1.ok.rd s hs).same smh
    by_cases hlt : i < xs.length
    · refine .inr ⟨wk.goes i Hh (by omega) rdB, fun H' => i + 1 ≤ xs.length ∧ ∃ (es : List DL.D) (acc : List V) (ns : List Addr), Same H1 H' ∧ H' D = some (.lst acc) ∧ Rds K H' acc es ns ∧ es.length ≤ i + 1 ∧
        (∀ a ∈ ns, a ≠ D ∧ Z a ∧ oS (low A L) a = 0 ∧ oM M a = 0) ∧ ∃ rest, colM (turnP bd t (pV2 j) (clr (lowE A (er L)) vs)) (xs.drop (i + 1)) = some rest ∧ es ++ rest = fin, fun H' h => ⟨xs.length - (i + 1), by omega, rfl, h.1, h.2⟩, fun v H3 y => ?_⟩
      have hdi : ds[i]? = some ds[i] := List.getElem?_eq_getElem (by omega)
      obtain ⟨sm2, nx, rd, hnx⟩ := wk.step i ds[i] Hh v H3 hdi rdB y
      have hxi : xs[i] = (0, ds[i]) := by subst hx; simp [mkS, finS, bNs, gL1, gL2, gLL2, fI2, tkA, ptA, GS, GL, fPut, ful, l12, l02, DL.D.mut, DL.D.imm, DL.D.imm.immAll, fdOk, fIx, fMul, fAdd, powOk, gLstL, gTupL, DL.D.ty, lvN, szOk, fLen, fListOf, fTupOf, fSl, gSlN, gSlH, gSlL, gSlB, fIsi, fIsiT, isT, DL.D.tyN, DL.D.isX, fInts, DL.D.seqI, fLenSet, fLR, fLR1, gLR2, rgOk, fDict, fAbs, fInt1, gMax2, gMin2, g1S, g2S, fItems, fR1, fR2, bd62, lowE, clr, bakE, kpE, fApp, fIns, fPop, fPopA, fPopI, fClr, fRev, fExt, allTop, fEq, fNe, fNeg, fIsN, DL.D.isNon, DL.D.key, dGet, canE, nrm, cT, sAug_k, ixN, fRvS, fAll, dBls_map, fIsB, fIdx, msk, Function.comp_def, cut_hi, cut_lo, cut_both]
      have ed : xs.drop i = xs[i] :: xs.drop (i + 1) := by simp [mkS, finS, bNs, gL1, gL2, gLL2, fI2, tkA, ptA, GS, GL, fPut, ful, l12, l02, DL.D.mut, DL.D.imm, DL.D.imm.immAll, fdOk, fIx, fMul, fAdd, powOk, gLstL, gTupL, DL.D.ty, lvN, szOk, fLen, fListOf, fTupOf, fSl, gSlN, gSlH, gSlL, gSlB, fIsi, fIsiT, isT, DL.D.tyN, DL.D.isX, fInts, DL.D.seqI, fLenSet, fLR, fLR1, gLR2, rgOk, fDict, fAbs, fInt1, gMax2, gMin2, g1S, g2S, fItems, fR1, fR2, bd62, lowE, clr, bakE, kpE, fApp, fIns, fPop, fPopA, fPopI, fClr, fRev, fExt, allTop, fEq, fNe, fNeg, fIsN, DL.D.isNon, DL.D.key, dGet, canE, nrm, cT, sAug_k, ixN, fRvS, fAll, dBls_map, fIsB, fIdx, msk, Function.comp_def, cut_hi, cut_lo, cut_both]
      rw [ed, colM] at hc
      have hT : turnP bd t (pV2 j) (clr (lowE A (er L)) vs) xs[i] = match bd xs[i] (clr (lowE A (er L)) vs) with
        | none => none
        | some Γ2 => match t Γ2 with
          | .ok b => if b = true then keepD (pV2 j Γ2) else some none
          | _ => none := rfl
      rw [hT] at hc
      -- the slots
      have sm3 : Same H H3 := (sm1.trans smh).trans sm2
      have R3 : Rel K Z (L2.wipe σ vs) H3 (clr (low A L) vs) M := ((R.same sm3).low A).wipe vs
      have cz : ∀ a, a ∈ nx → oS (clr (low A L) vs) a = 0 ∧ oM M a = 0 := fun a ha => by
        have h1 := hnx a ha
        have h2 := cnt_clr (low A L) a vs
        by_cases c : 0 < oL Bs a
        · have h3 := R.free (p1.own a c)
          have := low_counts A a L
          omega
        · have h3 := p1.rst a (by omega)
          omega
      have nz : ∀ a ∈ nx, Z a := fun a ha => by
        obtain ⟨s, g1, g2⟩ := oL_pos (hnx a ha)
        exact p1.z s g1 a g2
      have nD : D ∉ nx := fun ha => by
        have h1 := hnx D ha
        obtain ⟨s, g1, g2⟩ := oL_pos h1
        exact (p1.ok.rd s g1).dom _ _ _ D g2 hD
      have hD3 : H3 D = some (.lst acc) := sm2 _ _ hDa
      have hDns : D ∉ ns := fun z => (hns D z).1 rfl
      have rds3 := rds.same sm2
      -- the new list, held
      obtain ⟨DT, hDT⟩ : ∃ DT : Sl, DT = ⟨1, .lst es, .ref D, D :: ns⟩ := ⟨_, rfl⟩
      have dO : ∀ a, DT.own a = if D = a then 1 else 0 := fun a => by rw [hDT]; simp [mkS, finS, bNs, gL1, gL2, gLL2, fI2, tkA, ptA, GS, GL, fPut, ful, l12, l02, DL.D.mut, DL.D.imm, DL.D.imm.immAll, fdOk, fIx, fMul, fAdd, powOk, gLstL, gTupL, DL.D.ty, lvN, szOk, fLen, fListOf, fTupOf, fSl, gSlN, gSlH, gSlL, gSlB, fIsi, fIsiT, isT, DL.D.tyN, DL.D.isX, fInts, DL.D.seqI, fLenSet, fLR, fLR1, gLR2, rgOk, fDict, fAbs, fInt1, gMax2, gMin2, g1S, g2S, fItems, fR1, fR2, bd62, lowE, clr, bakE, kpE, fApp, fIns, fPop, fPopA, fPopI, fClr, fRev, fExt, allTop, fEq, fNe, fNeg, fIsN, DL.D.isNon, DL.D.key, dGet, canE, nrm, cT, sAug_k, ixN, fRvS, fAll, dBls_map, fIsB, fIdx, msk, Function.comp_def, cut_hi, cut_lo, cut_both, Sl.own, ownL, DL.D.mut, List.count_cons]
      have dR : ∀ a, DT.rst a = ns.count a := fun a => by rw [hDT]; simp [mkS, finS, bNs, gL1, gL2, gLL2, fI2, tkA, ptA, GS, GL, fPut, ful, l12, l02, DL.D.mut, DL.D.imm, DL.D.imm.immAll, fdOk, fIx, fMul, fAdd, powOk, gLstL, gTupL, DL.D.ty, lvN, szOk, fLen, fListOf, fTupOf, fSl, gSlN, gSlH, gSlL, gSlB, fIsi, fIsiT, isT, DL.D.tyN, DL.D.isX, fInts, DL.D.seqI, fLenSet, fLR, fLR1, gLR2, rgOk, fDict, fAbs, fInt1, gMax2, gMin2, g1S, g2S, fItems, fR1, fR2, bd62, lowE, clr, bakE, kpE, fApp, fIns, fPop, fPopA, fPopI, fClr, fRev, fExt, allTop, fEq, fNe, fNeg, fIsN, DL.D.isNon, DL.D.key, dGet, canE, nrm, cT, sAug_k, ixN, fRvS, fAll, dBls_map, fIsB, fIdx, msk, Function.comp_def, cut_hi, cut_lo, cut_both, Sl.rst, rstL, DL.D.mut]
      have R4 : Rel K Z (L2.wipe σ vs) H3 (clr (low A L) vs) (DT.tm K :: M) := by
        refine R3.push (m := DT.tm K) (by rw [hDT]; exact .lst hD3 rds3) (Sl.stab _ _) (fun a ha => ?_) (fun a => ⟨by show DT.own a ≤ 1; rw [dO]; split <;> omega, fun h => ?_⟩) (fun a ha => ?_) fun a ha => ?_
        · have ha := (DT.mem a).mp ha
          rw [hDT] at ha
          rcases List.mem_cons.mp ha with ha | ha
          · rw [ha, hD3]; exact fun z => nomatch z
          · exact rds3.dom _ _ _ a ha
        · have h : 0 < DT.own a := h
          show DT.rst a = 0
          rw [dO] at h
          rw [dR]
          by_cases e : D = a
          · subst e; exact List.count_eq_zero.mpr hDns
          · rw [if_neg e] at h; omega
        · have h : 0 < DT.own a := ha
          rw [dO] at h
          by_cases e : D = a
          · subst e
            have f := R.free DH
            have c1 := cnt_clr (low A L) D vs
            have c2 := low_counts A D L
            exact ⟨by rw [hD3]; trivial, by omega, by omega, by omega, by omega⟩
          · rw [if_neg e] at h; omega
        · have h : 0 < DT.rst a := ha
          rw [dR] at h
          have := hns a (List.count_pos_iff.mp h)
          have c1 := cnt_clr (low A L) a vs
          omega
      have e0 : ∀ a, (Sl.mk 0 ds[i] v nx).own a = 0 := fun a => by simp [mkS, finS, bNs, gL1, gL2, gLL2, fI2, tkA, ptA, GS, GL, fPut, ful, l12, l02, DL.D.mut, DL.D.imm, DL.D.imm.immAll, fdOk, fIx, fMul, fAdd, powOk, gLstL, gTupL, DL.D.ty, lvN, szOk, fLen, fListOf, fTupOf, fSl, gSlN, gSlH, gSlL, gSlB, fIsi, fIsiT, isT, DL.D.tyN, DL.D.isX, fInts, DL.D.seqI, fLenSet, fLR, fLR1, gLR2, rgOk, fDict, fAbs, fInt1, gMax2, gMin2, g1S, g2S, fItems, fR1, fR2, bd62, lowE, clr, bakE, kpE, fApp, fIns, fPop, fPopA, fPopI, fClr, fRev, fExt, allTop, fEq, fNe, fNeg, fIsN, DL.D.isNon, DL.D.key, dGet, canE, nrm, cT, sAug_k, ixN, fRvS, fAll, dBls_map, fIsB, fIdx, msk, Function.comp_def, cut_hi, cut_lo, cut_both, Sl.own, ownL]
      have e1 : ∀ a, (Sl.mk 0 ds[i] v nx).rst a = nx.count a := fun a => by simp [mkS, finS, bNs, gL1, gL2, gLL2, fI2, tkA, ptA, GS, GL, fPut, ful, l12, l02, DL.D.mut, DL.D.imm, DL.D.imm.immAll, fdOk, fIx, fMul, fAdd, powOk, gLstL, gTupL, DL.D.ty, lvN, szOk, fLen, fListOf, fTupOf, fSl, gSlN, gSlH, gSlL, gSlB, fIsi, fIsiT, isT, DL.D.tyN, DL.D.isX, fInts, DL.D.seqI, fLenSet, fLR, fLR1, gLR2, rgOk, fDict, fAbs, fInt1, gMax2, gMin2, g1S, g2S, fItems, fR1, fR2, bd62, lowE, clr, bakE, kpE, fApp, fIns, fPop, fPopA, fPopI, fClr, fRev, fExt, allTop, fEq, fNe, fNeg, fIsN, DL.D.isNon, DL.D.key, dGet, canE, nrm, cT, sAug_k, ixN, fRvS, fAll, dBls_map, fIsB, fIdx, msk, Function.comp_def, cut_hi, cut_lo, cut_both, Sl.rst, rstL]
      have R5 : Rel K Z (L2.wipe σ vs) H3 (clr (low A L) vs) ((Sl.mk 0 ds[i] v nx).tm K :: DT.tm K :: M) := by
        refine R4.push (m := (Sl.mk 0 ds[i] v nx).tm K) rd (Sl.stab _ _) (fun a ha => rd.dom _ _ _ a (((Sl.mk 0 ds[i] v nx).mem a).mp ha)) (fun a => ⟨by show (Sl.mk 0 ds[i] v nx).own a ≤ 1; rw [e0]; omega, fun h => by have h : 0 < (Sl.mk 0 ds[i] v nx).own a := h; rw [e0] at h; omega⟩) (fun a ha => ?_) fun a ha => ?_
        · have ha : 0 < (Sl.mk 0 ds[i] v nx).own a := ha
          rw [e0] at ha
          omega
        · have ha : 0 < (Sl.mk 0 ds[i] v nx).rst a := ha
          rw [e1] at ha
          have ha := List.count_pos_iff.mp ha
          have := cz a ha
          refine ⟨this.1, ?_⟩
          show DT.own a + oM M a = 0
          rw [dO, if_neg (show ¬ D = a from fun e => nD (by rw [e]; exact ha))]
          omega
      have ee : er (clr (low A L) vs) = clr (lowE A (er L)) vs := by rw [er_clr, er_low]
      rw [hxi] at hc
      cases eb : bd (0, ds[i]) (clr (lowE A (er L)) vs) with
      | none => rw [eb] at hc; cases hc
      | some Γ2 =>
        rw [eb] at hc
        dsimp only at hc
        refine hg Z ⟨0, ds[i], v, nx⟩ _ H3 (clr (low A L) vs) (DT.tm K :: M) Γ2 _ R5 nz (by rw [ee]; exact eb) fun σ4 L4 e4 R6 bt => ⟨wipe_but hj bt, Z, L4, DT.tm K :: M, R6, ?_⟩
        rw [e4]
        cases et : t Γ2 with
        | bad => rw [et] at hc; cases hc
        | exc c => rw [et] at hc; cases hc
        | ok k =>
          rw [et] at hc
          dsimp only at hc ⊢
          intro H4 sm4
          have s14 : Same H1 H4 := (smh.trans sm2).trans sm4
          have sh4 : Same Hh H4 := sm2.trans sm4
          cases k with
          | false =>
            simp only [Bool.false_eq_true, if_false] at hc
            rw [if_neg (by decide)]
            exact ⟨by omega, es, acc, ns, s14, sh4 _ _ hDa, rds.same sh4, by omega, hns, rest, hc, hfin⟩
          | true =>
            simp only [if_true] at hc
            rw [if_pos rfl]
            refine ⟨Z, L4, DT.tm K :: M, R6.same sm4, ?_⟩
            rw [e4]
            have key : ∀ o, Γ2[j]? = o → pV2 j Γ2 = match o with
              | some (some (_, d)) => .ok (2, d)
              | _ => .bad := fun o e => by unfold pV2; rw [e]
            unfold pVar
            cases ey : Γ2[j]? with
            | none => rw [key _ ey] at hc; cases hc
            | some o =>
            cases o with
            | none => rw [key _ ey] at hc; cases hc
            | some y =>
              obtain ⟨ly, dy⟩ := y
              rw [key _ ey] at hc
              unfold keepD at hc
              dsimp only at hc ⊢
              rw [if_pos (.inl (by decide))] at hc
              intro vy ny H5 B5
              dsimp only at hc
              cases er' : colM (turnP bd t (pV2 j) (clr (lowE A (er L)) vs)) (xs.drop (i + 1)) with
              | none => rw [er'] at hc; cases hc
              | some rest' =>
              rw [er'] at hc
              simp only [Option.some.injEq] at hc
              have sh5 : Same Hh H5 := sh4.trans B5.same
              have s15 : Same H1 H5 := s14.trans B5.same
              have hD5 : H5 D = some (.lst acc) := sh5 _ _ hDa
              have newn : ∀ a ∈ ny, a ≠ D ∧ Z a ∧ oS (low A L) a = 0 ∧ oM M a = 0 := fun a ha => by
                have r1 := B5.rst a (by
                  have : (Sl.mk 0 dy vy ny).rst a = ny.count a := by simp [mkS, finS, bNs, gL1, gL2, gLL2, fI2, tkA, ptA, GS, GL, fPut, ful, l12, l02, DL.D.mut, DL.D.imm, DL.D.imm.immAll, fdOk, fIx, fMul, fAdd, powOk, gLstL, gTupL, DL.D.ty, lvN, szOk, fLen, fListOf, fTupOf, fSl, gSlN, gSlH, gSlL, gSlB, fIsi, fIsiT, isT, DL.D.tyN, DL.D.isX, fInts, DL.D.seqI, fLenSet, fLR, fLR1, gLR2, rgOk, fDict, fAbs, fInt1, gMax2, gMin2, g1S, g2S, fItems, fR1, fR2, bd62, lowE, clr, bakE, kpE, fApp, fIns, fPop, fPopA, fPopI, fClr, fRev, fExt, allTop, fEq, fNe, fNeg, fIsN, DL.D.isNon, DL.D.key, dGet, canE, nrm, cT, sAug_k, ixN, fRvS, fAll, dBls_map, fIsB, fIdx, msk, Function.comp_def, cut_hi, cut_lo, cut_both, Sl.rst, rstL]
                  rw [this]
                  exact List.count_pos_iff.mpr ha)
                have r2 : DT.own a + oM M a = 0 := r1.2
                rw [dO] at r2
                refine ⟨fun e => ?_, B5.z a ha, ?_, by omega⟩
                · rw [if_pos e.symm] at r2; omega
                · refine Nat.eq_zero_of_not_pos fun z => ?_
                  obtain ⟨k, s, z1, z2⟩ := oS_pos z
                  have kv : k ∉ vs := fun hk => by
                    have : (low A L)[k]? = some (some s) := z1
                    have e2 : (er (low A L))[k]? = some (some s.ld) := by rw [er_get, this]; rfl
                    have e3 : fre (er L) vs = true := hf
                    have := List.all_eq_true.mp e3 k hk
                    rw [er_low] at e2
                    unfold lowE at e2
                    rw [List.getElem?_mapIdx] at e2
                    cases el : (er L)[k]? with
                    | none => rw [el] at e2; cases e2
                    | some o =>
                      cases o with
                      | none => rw [el] at e2; simp [mkS, finS, bNs, gL1, gL2, gLL2, fI2, tkA, ptA, GS, GL, fPut, ful, l12, l02, DL.D.mut, DL.D.imm, DL.D.imm.immAll, fdOk, fIx, fMul, fAdd, powOk, gLstL, gTupL, DL.D.ty, lvN, szOk, fLen, fListOf, fTupOf, fSl, gSlN, gSlH, gSlL, gSlB, fIsi, fIsiT, isT, DL.D.tyN, DL.D.isX, fInts, DL.D.seqI, fLenSet, fLR, fLR1, gLR2, rgOk, fDict, fAbs, fInt1, gMax2, gMin2, g1S, g2S, fItems, fR1, fR2, bd62, lowE, clr, bakE, kpE, fApp, fIns, fPop, fPopA, fPopI, fClr, fRev, fExt, allTop, fEq, fNe, fNeg, fIsN, DL.D.isNon, DL.D.key, dGet, canE, nrm, cT, sAug_k, ixN, fRvS, fAll, dBls_map, fIsB, fIdx, msk, Function.comp_def, cut_hi, cut_lo, cut_both] at e2
                      | some w => rw [el] at this; cases this
                  have kj : k ∉ js := fun hk => kv (hj k hk)
                  have g1 := (bt.2 k kj).2
                  rw [clr_get _ _ _ kv, z1] at g1
                  have g4 : (low [j] L4)[k]? = some (some s) := by
                    unfold low
                    rw [List.getElem?_mapIdx, g1]
                    have : k ∉ [j] := fun e => kv (by rw [List.mem_singleton.mp e]; exact hjv)
                    simp [mkS, finS, bNs, gL1, gL2, gLL2, fI2, tkA, ptA, GS, GL, fPut, ful, l12, l02, DL.D.mut, DL.D.imm, DL.D.imm.immAll, fdOk, fIx, fMul, fAdd, powOk, gLstL, gTupL, DL.D.ty, lvN, szOk, fLen, fListOf, fTupOf, fSl, gSlN, gSlH, gSlL, gSlB, fIsi, fIsiT, isT, DL.D.tyN, DL.D.isX, fInts, DL.D.seqI, fLenSet, fLR, fLR1, gLR2, rgOk, fDict, fAbs, fInt1, gMax2, gMin2, g1S, g2S, fItems, fR1, fR2, bd62, lowE, clr, bakE, kpE, fApp, fIns, fPop, fPopA, fPopI, fClr, fRev, fExt, allTop, fEq, fNe, fNeg, fIsN, DL.D.isNon, DL.D.key, dGet, canE, nrm, cT, sAug_k, ixN, fRvS, fAll, dBls_map, fIsB, fIdx, msk, Function.comp_def, cut_hi, cut_lo, cut_both, this]
                  have g2 := oS_get a g4
                  have g3 : oS (low [j] L4) a = 0 := r1.1
                  omega
              have hDny : D ∉ ny := fun z => (newn D z).1 rfl
              have rds5 := rds.same sh5
              have rl := rds5.length
              refine ⟨acc, hD5, by omega, by omega, es ++ [dy], acc ++ [vy], ns ++ (ny ++ []), fun a o ho => ?_, upd_same, ?_, by simp [mkS, finS, bNs, gL1, gL2, gLL2, fI2, tkA, ptA, GS, GL, fPut, ful, l12, l02, DL.D.mut, DL.D.imm, DL.D.imm.immAll, fdOk, fIx, fMul, fAdd, powOk, gLstL, gTupL, DL.D.ty, lvN, szOk, fLen, fListOf, fTupOf, fSl, gSlN, gSlH, gSlL, gSlB, fIsi, fIsiT, isT, DL.D.tyN, DL.D.isX, fInts, DL.D.seqI, fLenSet, fLR, fLR1, gLR2, rgOk, fDict, fAbs, fInt1, gMax2, gMin2, g1S, g2S, fItems, fR1, fR2, bd62, lowE, clr, bakE, kpE, fApp, fIns, fPop, fPopA, fPopI, fClr, fRev, fExt, allTop, fEq, fNe, fNeg, fIsN, DL.D.isNon, DL.D.key, dGet, canE, nrm, cT, sAug_k, ixN, fRvS, fAll, dBls_map, fIsB, fIdx, msk, Function.comp_def, cut_hi, cut_lo, cut_both]; omega, fun a ha => ?_, rest', by first | rfl | exact er', by rw [← hfin, ← hc]; simp [mkS, finS, bNs, gL1, gL2, gLL2, fI2, tkA, ptA, GS, GL, fPut, ful, l12, l02, DL.D.mut, DL.D.imm, DL.D.imm.immAll, fdOk, fIx, fMul, fAdd, powOk, gLstL, gTupL, DL.D.ty, lvN, szOk, fLen, fListOf, fTupOf, fSl, gSlN, gSlH, gSlL, gSlB, fIsi, fIsiT, isT, DL.D.tyN, DL.D.isX, fInts, DL.D.seqI, fLenSet, fLR, fLR1, gLR2, rgOk, fDict, fAbs, fInt1, gMax2, gMin2, g1S, g2S, fItems, fR1, fR2, bd62, lowE, clr, bakE, kpE, fApp, fIns, fPop, fPopA, fPopI, fClr, fRev, fExt, allTop, fEq, fNe, fNeg, fIsN, DL.D.isNon, DL.D.key, dGet, canE, nrm, cT, sAug_k, ixN, fRvS, fAll, dBls_map, fIsB, fIdx, msk, Function.comp_def, cut_hi, cut_lo, cut_both]⟩
              · have : a ≠ D := fun z => by rw [z, hD] at ho; cases ho
                rw [upd_ne this]
                exact s15 a o ho
              · exact (rds5.append (.cons B5.rd .nil)).upd hD5 trivial (by simp [mkS, finS, bNs, gL1, gL2, gLL2, fI2, tkA, ptA, GS, GL, fPut, ful, l12, l02, DL.D.mut, DL.D.imm, DL.D.imm.immAll, fdOk, fIx, fMul, fAdd, powOk, gLstL, gTupL, DL.D.ty, lvN, szOk, fLen, fListOf, fTupOf, fSl, gSlN, gSlH, gSlL, gSlB, fIsi, fIsiT, isT, DL.D.tyN, DL.D.isX, fInts, DL.D.seqI, fLenSet, fLR, fLR1, gLR2, rgOk, fDict, fAbs, fInt1, gMax2, gMin2, g1S, g2S, fItems, fR1, fR2, bd62, lowE, clr, bakE, kpE, fApp, fIns, fPop, fPopA, fPopI, fClr, fRev, fExt, allTop, fEq, fNe, fNeg, fIsN, DL.D.isNon, DL.D.key, dGet, canE, nrm, cT, sAug_k, ixN, fRvS, fAll, dBls_map, fIsB, fIdx, msk, Function.comp_def, cut_hi, cut_lo, cut_both, hDns, hDny])
              · rw [List.append_nil] at ha
                rcases List.mem_append.mp ha with ha | ha
                · exact hns a ha
                · exact newn a ha
    · have e : i = xs.length := by omega
      subst e
      refine .inl ⟨by rw [hlen]; exact wk.stops Hh rdB, ?_⟩
      rw [List.drop_length, colM] at hc
      cases hc
      rw [List.append_nil] at hfin
      subst hfin
      have cn : ∀ a, (Sl.mk 0 (.lst es) (.ref D) (D :: ns)).own a = 0 := fun a => by simp [mkS, finS, bNs, gL1, gL2, gLL2, fI2, tkA, ptA, GS, GL, fPut, ful, l12, l02, DL.D.mut, DL.D.imm, DL.D.imm.immAll, fdOk, fIx, fMul, fAdd, powOk, gLstL, gTupL, DL.D.ty, lvN, szOk, fLen, fListOf, fTupOf, fSl, gSlN, gSlH, gSlL, gSlB, fIsi, fIsiT, isT, DL.D.tyN, DL.D.isX, fInts, DL.D.seqI, fLenSet, fLR, fLR1, gLR2, rgOk, fDict, fAbs, fInt1, gMax2, gMin2, g1S, g2S, fItems, fR1, fR2, bd62, lowE, clr, bakE, kpE, fApp, fIns, fPop, fPopA, fPopI, fClr, fRev, fExt, allTop, fEq, fNe, fNeg, fIsN, DL.D.isNon, DL.D.key, dGet, canE, nrm, cT, sAug_k, ixN, fRvS, fAll, dBls_map, fIsB, fIdx, msk, Function.comp_def, cut_hi, cut_lo, cut_both, Sl.own, ownL]
      have cr : ∀ a, (Sl.mk 0 (.lst es) (.ref D) (D :: ns)).rst a = (D :: ns).count a := fun a => by simp [mkS, finS, bNs, gL1, gL2, gLL2, fI2, tkA, ptA, GS, GL, fPut, ful, l12, l02, DL.D.mut, DL.D.imm, DL.D.imm.immAll, fdOk, fIx, fMul, fAdd, powOk, gLstL, gTupL, DL.D.ty, lvN, szOk, fLen, fListOf, fTupOf, fSl, gSlN, gSlH, gSlL, gSlB, fIsi, fIsiT, isT, DL.D.tyN, DL.D.isX, fInts, DL.D.seqI, fLenSet, fLR, fLR1, gLR2, rgOk, fDict, fAbs, fInt1, gMax2, gMin2, g1S, g2S, fItems, fR1, fR2, bd62, lowE, clr, bakE, kpE, fApp, fIns, fPop, fPopA, fPopI, fClr, fRev, fExt, allTop, fEq, fNe, fNeg, fIsN, DL.D.isNon, DL.D.key, dGet, canE, nrm, cT, sAug_k, ixN, fRvS, fAll, dBls_map, fIsB, fIdx, msk, Function.comp_def, cut_hi, cut_lo, cut_both, Sl.rst, rstL]
      refine q (.ref D) (D :: ns) Hh ⟨sm1.trans smh, .lst hDa rds, fun a ha => ?_, fun a => ⟨?_, fun ha => ?_⟩, fun a ha => ?_⟩
      · rcases List.mem_cons.mp ha with ha | ha
        · rw [ha]; exact Z.sub _ (R.zf D DH)
        · exact (hns a ha).2.1
      · rw [cn]; omega
      · rw [cn] at ha; omega
      · rw [cr] at ha
        rcases List.mem_cons.mp (List.count_pos_iff.mp ha) with ha | ha
        · rw [ha]
          have f := R.free DH
          have c2 := low_counts A D L
          exact ⟨by omega, by omega⟩
        · exact (hns a ha).2.2
section
variable {X : Cx} {W : WW} {A : List Nat} {elt tg iter : Expr} {ifs : List Expr} {scope : Scope} {own : List (Str × Nat)} {pos : Pos} {src : Env → P (List LD)} {js : List Nat} {bd : BF} {g : TG} {t : PB} {j : Nat}
theorem p_lc0 (hc : X.calm = true) (hN : X.N.Nodup) (hi : DIP X W A tg iter src) (ok : BlkOk X.N X.env.scope scope own) (hj : ∀ j ∈ js, j ∈ own.map (·.2)) (hjv : j ∈ own.map (·.2)) (htg : TgOk X.K js g bd)
    (hg : ∀ (s : Shared) (H : Hp) (C : Addr) (cl : List (Str × Addr)) (fp : List Addr), PG (X.blk s H scope (compEnvC scope cl C X.env) fp) tg g) (ht : ∀ (s : Shared) (H : Hp) (C : Addr) (cl : List (Str × Addr)) (fp : List Addr), PTs (X.blk s H scope (compEnvC scope cl C X.env) fp) ifs (tDTP X.K W0 t))
    (he : ∀ (s : Shared) (H : Hp) (C : Addr) (cl : List (Str × Addr)) (fp : List Addr), DP (X.blk s H scope (compEnvC scope cl C X.env) fp) W0 [j] elt (pVar j)) (hs : ∀ x, foldedSetIterable iter X.env x = pure x := by intro _; rfl) :
    DP X W A (.ListComp elt [⟨tg, iter, ifs, 0⟩] scope pos) (pLc0 A src bd t j (own.map (·.2))) := by
  obtain ⟨wi, hi, hw⟩ := hi
  exact PE.imp (pe_lc (te := tDP X.K W0 [j] (pVar j)) hc hN hi ok hg ht he hs) fun σ H Q q => plc0_ok hj hjv htg hw q
end
section
variable {Γ : Env}
@[simp] theorem pLc0_k (A : List Nat) (src : Env → P (List LD)) (bd : BF) (t : PB) (j : Nat) (vs : List Nat) : pLc0 A src bd t j vs Γ = if fre Γ vs then kLow0 (pLc A src bd t (pV2 j) vs Γ) else .bad := rfl
@[simp] theorem kLow0_ok (x : LD) : kLow0 (.ok x) = .ok (0, x.2) := rfl
@[simp] theorem fre_nil : fre Γ [] = true := rfl
@[simp] theorem fre_cons (i : Nat) (vs : List Nat) : fre Γ (i :: vs) = ((match Γ[i]? with
  | some (some _) => false
  | _ => true) && fre Γ vs) := rfl
@[simp] theorem pV2_k (i : Nat) : pV2 i Γ = match Γ[i]? with
  | some (some (_, d)) => .ok (2, d)
  | _ => .bad := rfl
end
end DL

/-! DL39: try .. except X as e: the exception is kept as data -/
namespace DL
open L2 PySem PySem.Spec PyProof.Rows
section
variable {X : Cx} {pins : List (Addr × Obj)} {σ : L2.St} {H : Hp} {s : Shared} {a : Addr} {oe : Obj}
theorem inv_into (I : Inv X pins σ H s) (a : Addr) : Inv (X.suite a (X.pn ++ pins)) [] σ H s where
  ok := I.ok.suite _ _
  os := I.os
  bare := I.bare
  base := I.base
  loc := I.loc
  cell := I.cell
  free := I.free
  freeC := I.freeC
  pin := fun p hp => I.pin p (by rw [List.append_nil] at hp; exact hp)
  hok := I.hok
  len := I.len
theorem inv_outof {pn' : List (Addr × Obj)} (I : Inv (X.suite a (X.pn ++ pins)) pn' σ H s) (ok : X.Ok) : Inv X pins σ H s where
  ok := ok
  os := I.os
  bare := I.bare
  base := I.base
  loc := I.loc
  cell := I.cell
  free := I.free
  freeC := I.freeC
  pin := fun p hp => I.pin p (List.mem_append_left _ hp)
  hok := I.hok
  len := I.len
/-- what is told of a known object -/
def uEx (a : Addr) (oe : Obj) : HO := .ext fun h => h.get? a = some oe
/-- an object that is new to the def, and that nobody tells of, is known from now on -/
theorem inv_known (I : Inv X pins σ H s) (hex : X.ex = []) {vs : Array Value} (ha : s.heap.get? a = some oe) (hd : oe.data = .fields vs) (na : H a = none) (nL : a ≠ X.env.locals) (n0 : X.s_0.heap.get? a = none) (np : ∀ p ∈ X.pn ++ pins, p.1 ≠ a) :
    Inv X pins σ (upd H a (.frz oe (uEx a oe))) s where
  ok := I.ok
  os := I.os
  bare := I.bare
  base := ⟨I.base.keep, I.base.slot, fun b o e n hx => by
    have : b ≠ a := fun z => by rw [z, n0] at e; cases e
    rw [upd_ne this]
    exact I.base.free b o e n hx, I.base.there, fun b xs e => by
    have q := I.base.tups b xs e
    rw [upd_ne (ne_of_none q na)]
    exact q, fun b o u e => by
    have q := I.base.frzs b o u e
    rw [upd_ne (ne_of_none q na)]
    exact q, fun b ps e => by
    obtain ⟨m, q⟩ := I.base.tbls b ps e
    refine ⟨m, ?_⟩
    rw [upd_ne (ne_of_none q na)]
    exact q⟩
  loc := I.loc
  cell := I.cell
  free := by rw [upd_ne (Ne.symm nL)]; exact I.free
  freeC := fun x c e => by
    obtain ⟨v, o, ho, hv⟩ := I.cell x c e
    have : c ≠ a := fun z => by
      rw [z, ha] at ho
      cases ho
      rw [hd] at hv
      cases hv
    rw [upd_ne this]
    exact I.freeC x c e
  pin := fun p hp => by
    obtain ⟨h1, h2, h3⟩ := I.pin p hp
    exact ⟨h1, by rw [upd_ne (np p hp)]; exact h2, h3⟩
  hok := fun b o e => by
    by_cases c : b = a
    · subst c
      rw [upd_same] at e
      cases e
      exact ⟨ha, ha, ⟨_, ha⟩, fun h1 h2 e k => k _ e⟩
    · rw [upd_ne c] at e
      refine (I.hok b o e).stay (fun _ _ _ q => q) (fun c q => ?_) fun c xs q => ?_
      · rw [upd_ne (ne_of_none q na)]; exact q
      · rw [upd_ne (ne_of_none q na)]; exact q
  len := I.len
end
/-- the wish that such a clause has of the body's exceptions: the clause takes each of them -/
def wExn (K : PySem.W.Frag) (c : Value) (i : Nat) (ts : TS) (D : Ends) : WX := fun cls d σ H =>
  PySem.W.exmOne K cls c = some true ∧ ∀ (a : Addr) (oe : Obj), H a = none → oe.cls = cls → oe.dict = d → (∃ vs, oe.data = .fields vs) →
    ts { nx := fun σ' H' => D.nx (σ'.set i none) H', rt := D.rt, bk := fun σ' H' => D.bk (σ'.set i none) H', ct := fun σ' H' => D.ct (σ'.set i none) H' } (σ.set i (some (.ref a))) (upd H a (.frz oe (uEx a oe)))
section
variable {X : Cx} {x n : Str} {c : Value} {i : Nat} {body suite : List Stmt} {b₀ : Stmt} {np pos pos' : Pos} {tb : WX → TS} {ts : TS}
theorem ps_try_exn (hs : X.stack = X.env :: X.outer) (hf : X.env.frame = some X.env.locals) (hN : X.N.Nodup) (hi : X.N[i]? = some n) (hln : X.env.kindOf n = some .local) (hex : X.ex = []) (hc : Names X x c)
    (hb : ∀ (W : WX) (pn : List (Addr × Obj)) (xe : Value → Shared → Prop), Takes (X.tr pn xe) W → PassesOwn (model X.prog X.w) X.A X.env xe → PSs (X.tr pn xe) body (tb W))
    (hsu : ∀ (a : Addr) (pn : List (Addr × Obj)), PSs (X.suite a pn) (b₀ :: suite) ts) :
    PS X (.Try body [.ExceptHandler (some (.Name x np)) (some n) (b₀ :: suite) pos'] [] [] pos) (fun D σ H => tb (wExn X.K c i ts D) D σ H) := by
  refine ⟨fun pins s σ H D I h => ?_⟩
  have ok := I.ok
  have hfr : X.A.frames = some (X.env :: X.outer) := by rw [ok.frames, hs]
  refine wpAny_Try_except (wpAny_mono ((hb (wExn X.K c i ts D) (X.pn ++ pins) _ (fun u s' xx => ?_) PassesOwn.looking).run [] s σ H D (I.toTry _) h) (fun f s1 q => ?_) fun _ _ z => z)
  · obtain ⟨a, B, sI, pins', σ', H', cls, d, rfl, J', nb, up, sky, na, os, ag, take, suit⟩ := xx
    have J : Inv X pins σ' H' sI := J'.ofTry ok
    have sky2 : Sky B (X.env :: X.outer) a (Zc cls d) X.env.locals s'.heap := by rw [← hs]; exact sky
    show wpAny (model X.prog X.w) X.A (noteFrame (.ref a) X.env) _ _ _
    refine Sky.land Zc.steady hfr hf sky2 fun h3 fl3 up3 => ?_
    obtain ⟨oe3, vs3, he3, hz3, hd3⟩ := fl3.there
    have J3 : Inv X pins σ' H' { s' with heap := h3 } := J.landed nb fl3.1 (up.trans up3) os ag
    have S3 := inv_into J3 a
    have nfr : a ∉ frs (X.env :: X.outer) := fun hm => by
      obtain ⟨_, o', e', hnf⟩ := fl3.2.2.1.mem hm
      rw [he3] at e'
      cases e'
      exact hnf _ hd3
    have nL : a ≠ X.env.locals := fun z => nfr (List.mem_filterMap.mpr ⟨X.env, List.mem_cons_self, by rw [hf, z]⟩)
    have newI : sI.heap.get? a = none := by
      cases e : sI.heap.get? a with
      | none => rfl
      | some o =>
        have q := nb a o e (by rw [hs]; exact nfr)
        rw [fl3.2.1] at q
        cases q
    have n0 : X.s_0.heap.get? a = none := by
      cases e : X.s_0.heap.get? a with
      | none => rfl
      | some o =>
        obtain ⟨o', q⟩ := J.base.there a o e (by rw [hex]; simp [mkS, finS, bNs, gL1, gL2, gLL2, fI2, tkA, ptA, GS, GL, fPut, ful, l12, l02, DL.D.mut, DL.D.imm, DL.D.imm.immAll, fdOk, fIx, fMul, fAdd, powOk, gLstL, gTupL, DL.D.ty, lvN, szOk, fLen, fListOf, fTupOf, fSl, gSlN, gSlH, gSlL, gSlB, fIsi, fIsiT, isT, DL.D.tyN, DL.D.isX, fInts, DL.D.seqI, fLenSet, fLR, fLR1, gLR2, rgOk, fDict, fAbs, fInt1, gMax2, gMin2, g1S, g2S, fItems, fR1, fR2, bd62, lowE, clr, bakE, kpE, fApp, fIns, fPop, fPopA, fPopI, fClr, fRev, fExt, allTop, fEq, fNe, fNeg, fIsN, DL.D.isNon, DL.D.key, dGet, canE, nrm, cT, sAug_k, ixN, fRvS, fAll, dBls_map, fIsB, fIdx, msk, Function.comp_def, cut_hi, cut_lo, cut_both])
        rw [newI] at q
        cases q
    refine wpAny_handleBy_cons (codeAny_handlers_test ?_) (by intro q; cases q)
    have LM := PySem.W.exm_one (M := model X.prog X.w) S3.kIn (fun A Q E s k q => wpAny_typeOf_ref (k _ _ he3) (by rw [hz3.1]; exact q)) take
    have test : ∀ {Q : Value → Shared → Prop} {E : Value → Shared → Prop}, Q c { s' with heap := h3 } → wpAny (model X.prog X.w) (X.A.mark (some (.ref a))) (eval (.Name x np) X.env) Q E { s' with heap := h3 } := fun {Q E} q => by
      obtain ⟨hg, hdbg, hm | ⟨hm, hv, hnn⟩⟩ := hc
      · exact ld_glob (X := X.suite a (X.pn ++ pins)) S3 hg hm q hdbg
      · exact ld_blt (X := X.suite a (X.pn ++ pins)) S3 hg hm hv q hnn hdbg
    refine test (LM.here (codeAny_handlers_suite_as ?_))
    refine HandSPX.lands_againZ fl3 fun h4 fl4 up4 => ?_
    have J4 : Inv X pins σ' H' { s' with heap := h4 } := J.landed nb fl4.1 ((up.trans up3).trans up4) os ag
    obtain ⟨oe4, vs4, he4, hz4, hd4⟩ := fl4.there
    have K4 := inv_known J4 hex he4 hd4 na nL n0 fun p hp z => by
      have q := (J.pin p hp).1
      rw [z, newI] at q
      cases q
    refine store_ok (X := X.suite a (X.pn ++ pins)) (v := .ref a) (inv_into K4 a) hN hi (show Loc X.env.scope n from .inl hln) rfl (fun s5 S5 => ?_) (.inr hln)
    refine wpAny_mono ((hsu a (X.pn ++ pins)).run [] s5 _ _ _ S5 (suit a oe4 na hz4.1 hz4.2 ⟨_, hd4⟩)) (fun f s6 q => ?_) (fun _ _ z => False.elim z)
    have fin : ∀ {σ6 : L2.St} {H6 : Hp} {Q : Shared → Prop}, Inv (X.suite a (X.pn ++ pins)) [] σ6 H6 s6 → (∀ s7, Inv X pins (σ6.set i none) H6 s7 → Q s7) →
        wpAny (model X.prog X.w) X.A (do bindName X.env n .none; unbindBehindTheSuite X.env n pos') (fun _ s7 => Q s7) X.xe s6 := fun S6 hq => gone_ok (inv_outof S6 ok) hN hi hln hq
    cases f with
    | next => obtain ⟨_, _, S6, q6⟩ := q; exact fin S6 fun _ J7 => ⟨_, _, J7, q6⟩
    | brk => obtain ⟨_, _, S6, q6⟩ := q; exact fin S6 fun _ J7 => ⟨_, _, J7, q6⟩
    | cont => obtain ⟨_, _, S6, q6⟩ := q; exact fin S6 fun _ J7 => ⟨_, _, J7, q6⟩
    | ret u => obtain ⟨_, _, _, S6, r6, q6⟩ := q; exact fin S6 fun _ J7 => ⟨_, _, _, J7, r6, q6⟩
  · cases f with
    | next => obtain ⟨_, _, J, q⟩ := q; exact wpAny_execs_nil ⟨_, _, J.ofTry ok, q⟩
    | brk => obtain ⟨_, _, J, q⟩ := q; exact ⟨_, _, J.ofTry ok, q⟩
    | cont => obtain ⟨_, _, J, q⟩ := q; exact ⟨_, _, J.ofTry ok, q⟩
    | ret u => obtain ⟨_, _, _, J, r, q⟩ := q; exact ⟨_, _, _, J.ofTry ok, r, q⟩
end
end DL

/-! DL40: isinstance of a caught exception; try .. except X as e -/
namespace DL
open L2 PySem PySem.Spec PyProof.Rows
/-! ### the answers -/
def IsC (K : PySem.W.Frag) (u : Value) (ys ns : List String) : Prop := (∀ n ∈ ys, ∀ C, clsN K n C → PySem.W.kitOne K (.ref C) u = some true) ∧ (∀ n ∈ ns, ∀ C, clsN K n C → PySem.W.kitOne K (.ref C) u = some false) ∧ PySem.W.kitOne K (.type "NoneType") u = some false
def IsA (K : PySem.W.Frag) (us : List Value) (ys ns : List String) : Prop := (∀ n ∈ ys, ∀ C, clsN K n C → PySem.W.kitAny K (.ref C) us = some true) ∧ (∀ n ∈ ns, ∀ C, clsN K n C → PySem.W.kitAny K (.ref C) us = some false) ∧ PySem.W.kitAny K (.type "NoneType") us = some false
/-- what isinstance asks of the classes of such names -/
def ExA (K : PySem.W.Frag) (ns : List String) : Prop := ∀ n ∈ ns, ∀ C, clsN K n C → ExcC K C
theorem isA_nil {K : PySem.W.Frag} {N : List String} : IsA K [] [] N := ⟨fun n h => (nomatch h), fun n _ C _ => rfl, rfl⟩
theorem isA_cons {K : PySem.W.Frag} {u : Value} {us : List Value} {ys ns YS NS Y N : List String} (h : IsC K u ys ns) (t : IsA K us YS NS) (hy : Y.all (fun n => ys.contains n || (ns.contains n && YS.contains n)) = true) (hn : N.all (fun n => ns.contains n && NS.contains n) = true) : IsA K (u :: us) Y N := by
  refine ⟨?_, ?_, ?_⟩
  · intro n hm C hC
    have q := List.all_eq_true.mp hy n hm
    simp only [Bool.or_eq_true, Bool.and_eq_true, List.contains_iff_mem] at q
    unfold PySem.W.kitAny
    rcases q with q | ⟨q1, q2⟩
    · rw [h.1 n q C hC]
    · rw [h.2.1 n q1 C hC]; exact t.1 n q2 C hC
  · intro n hm C hC
    have q := List.all_eq_true.mp hn n hm
    simp only [Bool.and_eq_true, List.contains_iff_mem] at q
    unfold PySem.W.kitAny
    rw [h.2.1 n q.1 C hC]
    exact t.2.1 n q.2 C hC
  · unfold PySem.W.kitAny
    rw [h.2.2]
    exact t.2.2
theorem cls_is {K : PySem.W.Frag} {n : String} {C D : Addr} (h : PySem.W.nsIn K mainGlobals (Str.ofString n) = some (some (.ref D))) (q : clsN K n C) : C = D := by
  unfold clsN at q
  rw [h] at q
  cases q
  rfl
theorem all_nil {P : String → Addr → Prop} {K : PySem.W.Frag} : ∀ n ∈ ([] : List String), ∀ C, clsN K n C → P n C := fun n h => (nomatch h)
theorem all_cons {P : String → Addr → Prop} {K : PySem.W.Frag} {n : String} {D : Addr} {l : List String} (h : PySem.W.nsIn K mainGlobals (Str.ofString n) = some (some (.ref D))) (hp : P n D) (t : ∀ n ∈ l, ∀ C, clsN K n C → P n C) : ∀ m ∈ n :: l, ∀ C, clsN K m C → P m C := fun m hm C hC => by
  rcases List.mem_cons.mp hm with rfl | hm
  · rw [cls_is h hC]; exact hp
  · exact t m hm C hC
theorem kit_own {K : PySem.W.Frag} {D S : Addr} {b : Bool} (h2 : PySem.W.isClsIn K S = true) (h3 : PySem.W.typeIn K (.ref S) = some (.type "type")) (h4 : PySem.W.subIn K (.ref D) (.ref S) = some b) (h : b = true ∨ (D == S) = false) : PySem.W.kitOne K (.ref D) (.ref S) = some b := by
  have h2' : (PySem.W.clsIn K S).isSome = true := h2
  unfold PySem.W.kitOne
  split
  · next e =>
    rcases h with h | h
    · rw [h]
    · rw [show D = S from Value.ref.inj (beq_iff_eq.mp e)] at h
      simp [mkS, finS, bNs, gL1, gL2, gLL2, fI2, tkA, ptA, GS, GL, fPut, ful, l12, l02, DL.D.mut, DL.D.imm, DL.D.imm.immAll, fdOk, fIx, fMul, fAdd, powOk, gLstL, gTupL, DL.D.ty, lvN, szOk, fLen, fListOf, fTupOf, fSl, gSlN, gSlH, gSlL, gSlB, fIsi, fIsiT, isT, DL.D.tyN, DL.D.isX, fInts, DL.D.seqI, fLenSet, fLR, fLR1, gLR2, rgOk, fDict, fAbs, fInt1, gMax2, gMin2, g1S, g2S, fItems, fR1, fR2, bd62, lowE, clr, bakE, kpE, fApp, fIns, fPop, fPopA, fPopI, fClr, fRev, fExt, allTop, fEq, fNe, fNeg, fIsN, DL.D.isNon, DL.D.key, dGet, canE, nrm, cT, sAug_k, ixN, fRvS, fAll, dBls_map, fIsB, fIdx, msk, Function.comp_def, cut_hi, cut_lo, cut_both] at h
  · unfold PySem.W.kitCls
    dsimp only
    rw [h2', h3]
    exact h4
theorem kit_blt {K : PySem.W.Frag} {D : Addr} {T : String} {b : Bool} (hk : PySem.W.kitMeta T = true) (h4 : PySem.W.subIn K (.ref D) (.type T) = some b) : PySem.W.kitOne K (.ref D) (.type T) = some b := by
  unfold PySem.W.kitOne
  split
  · next e => exact nomatch (beq_iff_eq.mp e)
  · unfold PySem.W.kitCls
    dsimp only
    rw [hk]
    exact h4
theorem kit_none {K : PySem.W.Frag} {S : Addr} (h2 : PySem.W.isClsIn K S = true) (h3 : PySem.W.typeIn K (.ref S) = some (.type "type")) : PySem.W.kitOne K (.type "NoneType") (.ref S) = some false := by
  have h2' : (PySem.W.clsIn K S).isSome = true := h2
  unfold PySem.W.kitOne
  split
  · next e => exact nomatch (beq_iff_eq.mp e)
  · unfold PySem.W.kitCls
    dsimp only
    rw [h2', h3]
    rfl
/-! ### the rules -/
def rIsX (K : PySem.W.Frag) : List V → Hp → VK → Prop := fun xs H Q => ∃ (a C : Addr) (c : V) (u : Value) (b : Bool), xs = [.ref a, c] ∧ ClsV c u ∧ ExF H a C ∧ ExcC K C ∧ PySem.W.kitOne K (.ref C) u = some b ∧ Q (.bl b) H
def rIsXT (K : PySem.W.Frag) : List V → Hp → VK → Prop := fun xs H Q => ∃ (a C tp : Addr) (cs : List V) (us : List Value) (b : Bool), xs = [.ref a, .ref tp] ∧ H tp = some (.tup cs) ∧ Paired ClsV cs us ∧ ExF H a C ∧ ExcC K C ∧ PySem.W.kitAny K (.ref C) us = some b ∧ Q (.bl b) H
section
variable {X : Cx}
theorem exf_at {pins : List (Addr × Obj)} {σ : L2.St} {H : Hp} {s : Shared} {a C : Addr} (I : Inv X pins σ H s) (h : ExF H a C) : ∃ oe, PySem.W.InstAt s.heap a oe C none := by
  obtain ⟨oe, u, h1, h2, h3, vs, h4⟩ := h
  obtain ⟨hg, _⟩ := (show ObjOk X.prog X.w H s.heap a (.frz oe u) from I.hok a _ h1)
  obtain ⟨oc, od, oda, osl⟩ := oe
  dsimp only at h2 h3 h4
  subst h2 h3 h4
  exact ⟨_, hg, rfl, rfl, trivial⟩
theorem call_isX : CallR X (.builtin "isinstance") (rIsX X.K) := by
  intro pins s σ H xs us Q I r h
  obtain ⟨a, C, c, u, b, rfl, k, ex, E, e, q⟩ := h
  obtain ⟨u1, u2, rfl, r1, r2⟩ := vals2 r
  have e2 := k.eq r2
  subst e2
  cases (show u1 = Value.ref a from r1)
  obtain ⟨oe, J⟩ := exf_at I ex
  exact PySem.W.kia_one (PySem.W.handS_kitx_exc E.hg E.hk E.hs E.hd E.ha E.hn E.ht E.hm) I.kIn J e (fun z => nomatch z) fun tk => ⟨.bl b, H, I.kept (t' := tk) fun _ _ z => z, rfl, q⟩
theorem call_isXN : CallR X (.builtin "isinstance") (fun xs H Q => rIsX X.K xs H Q ∨ rIsi X.K xs H Q) := by
  intro pins s σ H xs us Q I r h
  rcases h with h | h
  · exact call_isX pins s σ H xs us Q I r h
  · exact call_isi pins s σ H xs us Q I r h
theorem call_isXT : CallR X (.builtin "isinstance") (rIsXT X.K) := by
  intro pins s σ H xs us Q I r h
  obtain ⟨a, C, tp, cs, ws, b, rfl, hT, k, ex, E, e, q⟩ := h
  obtain ⟨u1, u2, rfl, r1, r2⟩ := vals2 r
  cases (show u1 = Value.ref a from r1)
  cases (show u2 = Value.ref tp from r2)
  obtain ⟨oe, J⟩ := exf_at I ex
  obtain ⟨_, its, rv, o, h1, h2, n, h3⟩ := (show ObjOk X.prog X.w H s.heap tp (.tup cs) from I.hok tp _ hT)
  have e3 := ClsV.all k rv
  subst e3
  obtain ⟨oc, od, dt, sl⟩ := o
  simp only at h2 h3
  subst h2 h3
  exact PySem.W.kia_tup (PySem.W.handS_kitx_exc E.hg E.hk E.hs E.hd E.ha E.hn E.ht E.hm) I.kIn J h1 e (fun z => nomatch z) fun tk => ⟨.bl b, H, I.kept (t' := tk) fun _ _ z => z, rfl, q⟩
theorem call_isXTN : CallR X (.builtin "isinstance") (fun xs H Q => rIsXT X.K xs H Q ∨ rIsiT X.K xs H Q) := by
  intro pins s σ H xs us Q I r h
  rcases h with h | h
  · exact call_isXT pins s σ H xs us Q I r h
  · exact call_isiT pins s σ H xs us Q I r h
end
def fIsX (ys ns : List String) : LD → Option LD := fun x => match x.2 with
  | .non => some (2, .bl false)
  | .exn c => if c ∈ ys then some (2, .bl true) else if c ∈ ns then some (2, .bl false) else none
  | _ => none
theorem vIsX {K : PySem.W.Frag} {c : V} {u : Value} {ys ns : List String} (hc : ClsV c u) (hi : IsC K u ys ns) (hx : ExA K (ys ++ ns)) : VOk K (r1l fun x H Q => rIsX K [x, c] H Q ∨ rIsi K [x, c] H Q) (gL1 (fIsX ys ns)) := vL1 fun s H Q ok h1 l d hg k => by
  obtain ⟨l1, d1, v1, n1⟩ := s
  unfold fIsX at hg
  dsimp only at hg
  cases h1 with
  | exn ex cl =>
    dsimp only at hg
    split at hg
    · next hm =>
      cases hg
      exact .inl ⟨_, _, _, _, _, rfl, hc, ex, hx _ (List.mem_append_left _ hm) _ cl, hi.1 _ hm _ cl, k _ [] H (Same.refl H) (.bl _) (res_imm rfl)⟩
    · split at hg
      · next hm =>
        cases hg
        exact .inl ⟨_, _, _, _, _, rfl, hc, ex, hx _ (List.mem_append_right _ hm) _ cl, hi.2.1 _ hm _ cl, k _ [] H (Same.refl H) (.bl _) (res_imm rfl)⟩
      · cases hg
  | non =>
    cases hg
    exact .inr ⟨_, _, _, _, _, rfl, hc, .base .non, hi.2.2, k _ [] H (Same.refl H) (.bl _) (res_imm rfl)⟩
  | _ => cases hg
theorem vIsXT {K : PySem.W.Frag} {cs : List V} {us : List Value} {ys ns : List String} (hc : Paired ClsV cs us) (hi : IsA K us ys ns) (hx : ExA K (ys ++ ns)) : VOk K (r1l fun x H Q => ∀ p, H p = none → rIsXT K [x, .ref p] (upd H p (.tup cs)) Q ∨ rIsiT K [x, .ref p] (upd H p (.tup cs)) Q) (gL1 (fIsX ys ns)) := vL1 fun s H Q ok h1 l d hg k => by
  obtain ⟨l1, d1, v1, n1⟩ := s
  unfold fIsX at hg
  dsimp only at hg
  intro p hp
  have same := same_upd (o := HO.tup cs) hp
  cases h1 with
  | @exn a C n ex cl =>
    dsimp only at hg
    have ex2 : ExF (upd H p (.tup cs)) a C := by
      obtain ⟨oe, u, h, h2⟩ := ex
      exact ⟨oe, u, same _ _ h, h2⟩
    split at hg
    · next hm =>
      cases hg
      exact .inl ⟨_, _, p, _, _, _, rfl, upd_same, hc, ex2, hx _ (List.mem_append_left _ hm) _ cl, hi.1 _ hm _ cl, k _ [] _ same (.bl _) (res_imm rfl)⟩
    · split at hg
      · next hm =>
        cases hg
        exact .inl ⟨_, _, p, _, _, _, rfl, upd_same, hc, ex2, hx _ (List.mem_append_right _ hm) _ cl, hi.2.1 _ hm _ cl, k _ [] _ same (.bl _) (res_imm rfl)⟩
      · cases hg
  | non =>
    cases hg
    exact .inr ⟨_, p, _, _, _, _, rfl, upd_same, hc, .base .non, hi.2.2, k _ [] _ same (.bl _) (res_imm rfl)⟩
  | _ => cases hg
end DL

/-! DL41: the statements of DL39 and DL40 -/
namespace DL
open L2 PySem PySem.Spec PyProof.Rows
/-- an expression that tells a class -/
def ClE (X : Cx) (e : Expr) (ys ns : List String) : Prop := ∃ c u, ClsV c u ∧ PE X e (tC c) ∧ IsC X.K u ys ns
def tKs (cs : List V) : TA := fun σ H Q => Q cs H
def ClEs (X : Cx) (es : List Expr) (ys ns : List String) : Prop := ∃ cs us, Paired ClsV cs us ∧ cs.length = es.length ∧ PA X es (tKs cs) ∧ IsA X.K us ys ns
section
variable {X : Cx} {W : WW} {A : List Nat} {a e : Expr} {es : List Expr} {f : PF} {x : Str} {ys ns YS NS Y N : List String} {p p2 pos : Pos} {kk : Nat}
theorem cl_own (hg : Gl X x) (h : ∃ C, X.mg x = some (.ref C) ∧ IsC X.K (.ref C) ys ns) (hd : (x == ("__debug__" : Str)) = false := by decide) : ClE X (.Name x p) ys ns := by
  obtain ⟨C, h1, h2⟩ := h
  exact ⟨.ref C, .ref C, .own C, pe_glob hg h1 rfl hd, h2⟩
theorem cl_blt {T : String} (hg : Gl X x) (hm : X.mg x = none) (hb : bootBuiltins x = some (.type T)) (h : IsC X.K (.type T) ys ns) (hn : x ≠ "__name__" := by decide) (hd : (x == ("__debug__" : Str)) = false := by decide) : ClE X (.Name x p) ys ns :=
  ⟨.ty T, .type T, .ty T, pe_bltn hg hm hb rfl hn hd, h⟩
theorem cls_nil : ClEs X [] [] N := ⟨[], [], .nil, rfl, pa_nil, isA_nil⟩
theorem cls_cons (h : ClE X e ys ns) (t : ClEs X es YS NS) (hy : Y.all (fun n => ys.contains n || (ns.contains n && YS.contains n)) = true) (hn : N.all (fun n => ns.contains n && NS.contains n) = true) (hs : starEach (e :: es) X.env = (false, eval e X.env) :: starEach es X.env := by rfl) : ClEs X (e :: es) Y N := by
  obtain ⟨c, u, h1, h2, h3⟩ := h
  obtain ⟨cs, us, t1, t2, t3, t4⟩ := t
  exact ⟨c :: cs, u :: us, .cons h1 t1, by simp [mkS, finS, bNs, gL1, gL2, gLL2, fI2, tkA, ptA, GS, GL, fPut, ful, l12, l02, DL.D.mut, DL.D.imm, DL.D.imm.immAll, fdOk, fIx, fMul, fAdd, powOk, gLstL, gTupL, DL.D.ty, lvN, szOk, fLen, fListOf, fTupOf, fSl, gSlN, gSlH, gSlL, gSlB, fIsi, fIsiT, isT, DL.D.tyN, DL.D.isX, fInts, DL.D.seqI, fLenSet, fLR, fLR1, gLR2, rgOk, fDict, fAbs, fInt1, gMax2, gMin2, g1S, g2S, fItems, fR1, fR2, bd62, lowE, clr, bakE, kpE, fApp, fIns, fPop, fPopA, fPopI, fClr, fRev, fExt, allTop, fEq, fNe, fNeg, fIsN, DL.D.isNon, DL.D.key, dGet, canE, nrm, cT, sAug_k, ixN, fRvS, fAll, dBls_map, fIsB, fIdx, msk, Function.comp_def, cut_hi, cut_lo, cut_both, t2], pa_cons h2 t3 hs, isA_cons h3 t4 hy hn⟩
theorem p_isX (hg : Gl X "isinstance") (hm : X.mg "isinstance" = none) (hx : ExA X.K (ys ++ ns)) (hc : ClE X e ys ns) (ha : DP X W A a f)
    (na : starEach [a, e] X.env = (false, eval a X.env) :: starEach [e] X.env := by rfl) (nb : starEach [e] X.env = (false, eval e X.env) :: starEach [] X.env := by rfl) (hp : (backTo pos (starEach [e] X.env)).any (·.1) = false := by rfl) :
    DP X W A (.Call (.Name "isinstance" p) [a, e] [] pos) (pApp (gL1 (fIsX ys ns)) [f]) := by
  obtain ⟨c, u, h1, h2, h3⟩ := hc
  exact p_app [(A, f)] mem1l (vIsX h1 h3 hx) (pe_callB call_isXN hg hm (by rfl) (pa_cons ha (pa_cons h2 pa_nil nb) na) (by decide) (by decide) na hp) fun _ _ _ h => h
theorem p_isXT (hg : Gl X "isinstance") (hm : X.mg "isinstance" = none) (hx : ExA X.K (ys ++ ns)) (hc : ClEs X es ys ns) (hz : es.length ≤ 100) (ha : DP X W A a f)
    (na : starEach [a, .Tuple es kk p2] X.env = (false, eval a X.env) :: starEach [.Tuple es kk p2] X.env := by rfl) (nb : starEach [.Tuple es kk p2] X.env = (false, eval (.Tuple es kk p2) X.env) :: starEach [] X.env := by rfl) (hp : (backTo pos (starEach [.Tuple es kk p2] X.env)).any (·.1) = false := by rfl) :
    DP X W A (.Call (.Name "isinstance" p) [a, .Tuple es kk p2] [] pos) (pApp (gL1 (fIsX ys ns)) [f]) := by
  obtain ⟨cs, us, h1, h2, h3, h4⟩ := hc
  exact p_app [(A, f)] mem1l (vIsXT h1 h4 hx) (pe_callB call_isXTN hg hm (by rfl) (pa_cons ha (pa_cons (pe_tup h3) pa_nil nb) na) (by decide) (by decide) na hp) fun σ H Q h =>
    tDP_mono h fun v H1 q => ⟨by rw [sizeLine_eq, h2]; omega, q⟩
end
/-! ### try -/
/-- a slot's name goes -/
def offO (i : Nat) : O → O
  | .nx Γ => .nx (Γ.set i none)
  | .bk Γ => .bk (Γ.set i none)
  | .ct Γ => .ct (Γ.set i none)
  | .exc _ _ => .bad
  | o => o
/-- hl: the exceptions that the clause takes; i: the slot of its name -/
def sTryE (hl : List String) (i : Nat) (f g : SF) : SF := fun Γ => match f Γ with
  | .exc c Γ' => if c ∈ hl then (match bName i (2, .exn c) Γ' with
    | some Γ1 => offO i (g Γ1)
    | none => .bad) else .bad
  | o => o
theorem rel_off {K : PySem.W.Frag} {Z : Zone} {σ : L2.St} {H : Hp} {L : List (Option Sl)} {M : List Tm} (i : Nat) (R : Rel K Z σ H L M) : Rel K Z (σ.set i none) H (L.set i none) M := by
  have := R.wipe [i]
  rw [wipe_eq] at this
  exact this
theorem s_tryE {X : Cx} {W : WW} {x n : Str} {c : Value} {i : Nat} {body suite : List Stmt} {b₀ : Stmt} {np pos pos' : Pos} {f g : SF} {hl : List String}
    (hs : X.stack = X.env :: X.outer) (hf : X.env.frame = some X.env.locals) (hN : X.N.Nodup) (hi : X.N[i]? = some n) (hln : X.env.kindOf n = some .local) (hex : X.ex = []) (hc : Names X x c)
    (hm : ∀ a ∈ hl, PySem.W.exmOne X.K (xc X.mg a) c = some true ∧ ∃ C, xc X.mg a = .ref C ∧ clsN X.K a C)
    (hb : ∀ (W' : WW) (pn : List (Addr × Obj)) (xe : Value → Shared → Prop), Takes (X.tr pn xe) (wx (X.tr pn xe) W') → PassesOwn (model X.prog X.w) X.A X.env xe → DSs (X.tr pn xe) W' body f)
    (hsu : ∀ (a : Addr) (pn : List (Addr × Obj)), DSs (X.suite a pn) W0 (b₀ :: suite) g) :
    DS X W (.Try body [.ExceptHandler (some (.Name x np)) (some n) (b₀ :: suite) pos'] [] [] pos) (sTryE hl i f g) := by
  refine PS.imp (ps_try_exn (X := X) (c := c) (tb := fun W1 => tDS X.K (fun c' σ' H' => W1 (xc X.mg c') none σ' H') f) (ts := tDS X.K W0 g) hs hf hN hi hln hex hc
    (fun W1 pn xe tk pas => hb _ pn xe (Takes.imp tk fun cls d σ H ⟨c', h1, h2, h3⟩ => by
      subst h1 h2
      exact h3) pas) hsu) fun D σ H q => ?_
  obtain ⟨Z, L, M, R, q⟩ := q
  refine ⟨Z, L, M, R, ?_⟩
  unfold sTryE at q
  cases ef : f (er L) with
  | nx Γ' => rw [ef] at q; exact q
  | rt x Γ' => rw [ef] at q; exact q
  | bk Γ' => rw [ef] at q; exact q
  | ct Γ' => rw [ef] at q; exact q
  | bad => rw [ef] at q; exact q
  | exc c' Γ' =>
    rw [ef] at q
    dsimp only at q
    split at q
    · next hml =>
      obtain ⟨m1, C, m2, m3⟩ := hm c' hml
      intro σ' H' L' e R'
      refine ⟨m1, fun a oe na h1 h2 h3 => ?_⟩
      cases eb : bName i (2, .exn c') Γ' with
      | none => rw [eb] at q; exact q.elim
      | some Γ1 =>
        rw [eb] at q
        dsimp only at q
        have sm : Same H' (upd H' a (.frz oe (uEx a oe))) := same_upd na
        have rd : Rd X.K (upd H' a (.frz oe (uEx a oe))) (.ref a) (.exn c') [] := .exn ⟨oe, uEx a oe, upd_same, by rw [h1, m2], h2, h3⟩ m3
        have R2 : Rel X.K Z σ' (upd H' a (.frz oe (uEx a oe))) L' ((Sl.mk 2 (.exn c') (.ref a) []).tm X.K :: M) :=
          (R'.same sm).push (m := (Sl.mk 2 (.exn c') (.ref a) []).tm X.K) rd (Sl.stab _ _) (fun b hb => absurd (((Sl.mk 2 (.exn c') (.ref a) []).mem b).mp hb) (by simp [mkS, finS, bNs, gL1, gL2, gLL2, fI2, tkA, ptA, GS, GL, fPut, ful, l12, l02, DL.D.mut, DL.D.imm, DL.D.imm.immAll, fdOk, fIx, fMul, fAdd, powOk, gLstL, gTupL, DL.D.ty, lvN, szOk, fLen, fListOf, fTupOf, fSl, gSlN, gSlH, gSlL, gSlB, fIsi, fIsiT, isT, DL.D.tyN, DL.D.isX, fInts, DL.D.seqI, fLenSet, fLR, fLR1, gLR2, rgOk, fDict, fAbs, fInt1, gMax2, gMin2, g1S, g2S, fItems, fR1, fR2, bd62, lowE, clr, bakE, kpE, fApp, fIns, fPop, fPopA, fPopI, fClr, fRev, fExt, allTop, fEq, fNe, fNeg, fIsN, DL.D.isNon, DL.D.key, dGet, canE, nrm, cT, sAug_k, ixN, fRvS, fAll, dBls_map, fIsB, fIdx, msk, Function.comp_def, cut_hi, cut_lo, cut_both]))
            (fun b => ⟨by show (Sl.mk 2 (.exn c') (.ref a) []).own b ≤ 1; simp [mkS, finS, bNs, gL1, gL2, gLL2, fI2, tkA, ptA, GS, GL, fPut, ful, l12, l02, DL.D.mut, DL.D.imm, DL.D.imm.immAll, fdOk, fIx, fMul, fAdd, powOk, gLstL, gTupL, DL.D.ty, lvN, szOk, fLen, fListOf, fTupOf, fSl, gSlN, gSlH, gSlL, gSlB, fIsi, fIsiT, isT, DL.D.tyN, DL.D.isX, fInts, DL.D.seqI, fLenSet, fLR, fLR1, gLR2, rgOk, fDict, fAbs, fInt1, gMax2, gMin2, g1S, g2S, fItems, fR1, fR2, bd62, lowE, clr, bakE, kpE, fApp, fIns, fPop, fPopA, fPopI, fClr, fRev, fExt, allTop, fEq, fNe, fNeg, fIsN, DL.D.isNon, DL.D.key, dGet, canE, nrm, cT, sAug_k, ixN, fRvS, fAll, dBls_map, fIsB, fIdx, msk, Function.comp_def, cut_hi, cut_lo, cut_both, Sl.own, ownL], fun _ => by show (Sl.mk 2 (.exn c') (.ref a) []).rst b = 0; simp [mkS, finS, bNs, gL1, gL2, gLL2, fI2, tkA, ptA, GS, GL, fPut, ful, l12, l02, DL.D.mut, DL.D.imm, DL.D.imm.immAll, fdOk, fIx, fMul, fAdd, powOk, gLstL, gTupL, DL.D.ty, lvN, szOk, fLen, fListOf, fTupOf, fSl, gSlN, gSlH, gSlL, gSlB, fIsi, fIsiT, isT, DL.D.tyN, DL.D.isX, fInts, DL.D.seqI, fLenSet, fLR, fLR1, gLR2, rgOk, fDict, fAbs, fInt1, gMax2, gMin2, g1S, g2S, fItems, fR1, fR2, bd62, lowE, clr, bakE, kpE, fApp, fIns, fPop, fPopA, fPopI, fClr, fRev, fExt, allTop, fEq, fNe, fNeg, fIsN, DL.D.isNon, DL.D.key, dGet, canE, nrm, cT, sAug_k, ixN, fRvS, fAll, dBls_map, fIsB, fIdx, msk, Function.comp_def, cut_hi, cut_lo, cut_both, Sl.rst, rstL]⟩)
            (fun b hb => absurd (show 0 < (Sl.mk 2 (.exn c') (.ref a) []).own b from hb) (by simp [mkS, finS, bNs, gL1, gL2, gLL2, fI2, tkA, ptA, GS, GL, fPut, ful, l12, l02, DL.D.mut, DL.D.imm, DL.D.imm.immAll, fdOk, fIx, fMul, fAdd, powOk, gLstL, gTupL, DL.D.ty, lvN, szOk, fLen, fListOf, fTupOf, fSl, gSlN, gSlH, gSlL, gSlB, fIsi, fIsiT, isT, DL.D.tyN, DL.D.isX, fInts, DL.D.seqI, fLenSet, fLR, fLR1, gLR2, rgOk, fDict, fAbs, fInt1, gMax2, gMin2, g1S, g2S, fItems, fR1, fR2, bd62, lowE, clr, bakE, kpE, fApp, fIns, fPop, fPopA, fPopI, fClr, fRev, fExt, allTop, fEq, fNe, fNeg, fIsN, DL.D.isNon, DL.D.key, dGet, canE, nrm, cT, sAug_k, ixN, fRvS, fAll, dBls_map, fIsB, fIdx, msk, Function.comp_def, cut_hi, cut_lo, cut_both, Sl.own, ownL])) fun b hb => absurd (show 0 < (Sl.mk 2 (.exn c') (.ref a) []).rst b from hb) (by simp [mkS, finS, bNs, gL1, gL2, gLL2, fI2, tkA, ptA, GS, GL, fPut, ful, l12, l02, DL.D.mut, DL.D.imm, DL.D.imm.immAll, fdOk, fIx, fMul, fAdd, powOk, gLstL, gTupL, DL.D.ty, lvN, szOk, fLen, fListOf, fTupOf, fSl, gSlN, gSlH, gSlL, gSlB, fIsi, fIsiT, isT, DL.D.tyN, DL.D.isX, fInts, DL.D.seqI, fLenSet, fLR, fLR1, gLR2, rgOk, fDict, fAbs, fInt1, gMax2, gMin2, g1S, g2S, fItems, fR1, fR2, bd62, lowE, clr, bakE, kpE, fApp, fIns, fPop, fPopA, fPopI, fClr, fRev, fExt, allTop, fEq, fNe, fNeg, fIsN, DL.D.isNon, DL.D.key, dGet, canE, nrm, cT, sAug_k, ixN, fRvS, fAll, dBls_map, fIsB, fIdx, msk, Function.comp_def, cut_hi, cut_lo, cut_both, Sl.rst, rstL])
        refine tg_name Z ⟨2, .exn c', .ref a, []⟩ σ' _ L' M Γ1 (fun σ2 H2 => tDS X.K W0 g _ σ2 H2) R2 (fun _ h => (nomatch h)) (by rw [e]; exact eb) fun σ2 L2 e2 R3 _ => ⟨Z, L2, M, R3, ?_⟩
        rw [e2]
        cases eg : g Γ1 with
        | nx Γ2 => rw [eg] at q; exact fun σ3 H3 L3 e3 R4 => q _ _ _ (by rw [er_set, e3]; rfl) (rel_off i R4)
        | bk Γ2 => rw [eg] at q; exact fun σ3 H3 L3 e3 R4 => q _ _ _ (by rw [er_set, e3]; rfl) (rel_off i R4)
        | ct Γ2 => rw [eg] at q; exact fun σ3 H3 L3 e3 R4 => q _ _ _ (by rw [er_set, e3]; rfl) (rel_off i R4)
        | rt y Γ2 => rw [eg] at q; exact q
        | exc c3 Γ2 => rw [eg] at q; exact q.elim
        | bad => rw [eg] at q; exact q
    · exact q.elim
theorem exA_sub {K : PySem.W.Frag} {U l : List String} (h : ExA K U) (hs : l.all (fun n => U.contains n) = true) : ExA K l := fun n hn => h n (by
  have := List.all_eq_true.mp hs n hn
  simpa [mkS, finS, bNs, gL1, gL2, gLL2, fI2, tkA, ptA, GS, GL, fPut, ful, l12, l02, DL.D.mut, DL.D.imm, DL.D.imm.immAll, fdOk, fIx, fMul, fAdd, powOk, gLstL, gTupL, DL.D.ty, lvN, szOk, fLen, fListOf, fTupOf, fSl, gSlN, gSlH, gSlL, gSlB, fIsi, fIsiT, isT, DL.D.tyN, DL.D.isX, fInts, DL.D.seqI, fLenSet, fLR, fLR1, gLR2, rgOk, fDict, fAbs, fInt1, gMax2, gMin2, g1S, g2S, fItems, fR1, fR2, bd62, lowE, clr, bakE, kpE, fApp, fIns, fPop, fPopA, fPopI, fClr, fRev, fExt, allTop, fEq, fNe, fNeg, fIsN, DL.D.isNon, DL.D.key, dGet, canE, nrm, cT, sAug_k, ixN, fRvS, fAll, dBls_map, fIsB, fIdx, msk, Function.comp_def, cut_hi, cut_lo, cut_both] using this)
def kTryE (hl : List String) (i : Nat) (o : O) (g : SF) : O := match o with
  | .exc c Γ' => if c ∈ hl then (match bName i (2, .exn c) Γ' with
    | some Γ1 => offO i (g Γ1)
    | none => .bad) else .bad
  | o => o
@[simp] theorem sTryE_k (hl : List String) (i : Nat) (f g : SF) (Γ : Env) : sTryE hl i f g Γ = kTryE hl i (f Γ) g := rfl
@[simp] theorem kTryE_nx (hl : List String) (i : Nat) (g : SF) (Γ : Env) : kTryE hl i (.nx Γ) g = .nx Γ := rfl
@[simp] theorem kTryE_rt (hl : List String) (i : Nat) (g : SF) (x : LD) (Γ : Env) : kTryE hl i (.rt x Γ) g = .rt x Γ := rfl
@[simp] theorem kTryE_exc (hl : List String) (i : Nat) (g : SF) (c : String) (Γ : Env) : kTryE hl i (.exc c Γ) g = if c ∈ hl then (if i < Γ.length then offO i (g (Γ.set i (some (2, .exn c)))) else .bad) else .bad := by
  by_cases h : c ∈ hl <;> by_cases h2 : i < Γ.length <;> simp [mkS, finS, bNs, gL1, gL2, gLL2, fI2, tkA, ptA, GS, GL, fPut, ful, l12, l02, DL.D.mut, DL.D.imm, DL.D.imm.immAll, fdOk, fIx, fMul, fAdd, powOk, gLstL, gTupL, DL.D.ty, lvN, szOk, fLen, fListOf, fTupOf, fSl, gSlN, gSlH, gSlL, gSlB, fIsi, fIsiT, isT, DL.D.tyN, DL.D.isX, fInts, DL.D.seqI, fLenSet, fLR, fLR1, gLR2, rgOk, fDict, fAbs, fInt1, gMax2, gMin2, g1S, g2S, fItems, fR1, fR2, bd62, lowE, clr, bakE, kpE, fApp, fIns, fPop, fPopA, fPopI, fClr, fRev, fExt, allTop, fEq, fNe, fNeg, fIsN, DL.D.isNon, DL.D.key, dGet, canE, nrm, cT, sAug_k, ixN, fRvS, fAll, dBls_map, fIsB, fIdx, msk, Function.comp_def, cut_hi, cut_lo, cut_both, kTryE, bName, h, h2]
@[simp] theorem offO_nx (i : Nat) (Γ : Env) : offO i (.nx Γ) = .nx (Γ.set i none) := rfl
@[simp] theorem offO_rt (i : Nat) (x : LD) (Γ : Env) : offO i (.rt x Γ) = .rt x Γ := rfl
@[simp] theorem fIsX_exn (ys ns : List String) (l : Nat) (c : String) : fIsX ys ns (l, .exn c) = if c ∈ ys then some (2, .bl true) else if c ∈ ns then some (2, .bl false) else none := rfl
@[simp] theorem fIsX_non (ys ns : List String) (l : Nat) : fIsX ys ns (l, .non) = some (2, .bl false) := rfl
@[simp] theorem imm_exn (c : String) : (D.exn c).imm = true := rfl
end DL

/-! DL42: x[..] of a name, the place told by a call that changes things; the thing there may not be changed -/
namespace DL
open L2 PySem PySem.Spec PyProof.Rows
def ixV (i : Nat) (x : LD) (Γ : Env) : R LD := match Γ[i]? with
  | some (some (_, d)) => (if x.2.imm then (match gIx [(0, d), (0, x.2)] with
    | some (_, y) => if y.imm then .ok (2, y) Γ else .bad
    | none => .bad) else .bad)
  | _ => .bad
def eIxV (i : Nat) (f : EF) : EF := fun Γ => match Γ[i]? with
  | some (some _) => (match f Γ with
    | .ok x Γ' => ixV i x Γ'
    | .exc c Γ' => .exc c Γ'
    | .bad => .bad)
  | _ => .bad
theorem args_flat {K : PySem.W.Frag} {H : Hp} {s t : Sl} (h1 : Rd K H s.v s.d s.ns) (hs : s.l = 0) (h2 : Rd K H t.v t.d t.ns) (ht : t.l = 0) : ArgsOk K H [s, t] := by
  obtain ⟨l1, d1, v1, n1⟩ := s
  obtain ⟨l2, d2, v2, n2⟩ := t
  dsimp only at hs ht h1 h2
  subst hs ht
  have o : ∀ a, oL [(⟨0, d1, v1, n1⟩ : Sl), ⟨0, d2, v2, n2⟩] a = 0 := fun a => by simp [mkS, finS, bNs, gL1, gL2, gLL2, fI2, tkA, ptA, GS, GL, fPut, ful, l12, l02, DL.D.mut, DL.D.imm, DL.D.imm.immAll, fdOk, fIx, fMul, fAdd, powOk, gLstL, gTupL, DL.D.ty, lvN, szOk, fLen, fListOf, fTupOf, fSl, gSlN, gSlH, gSlL, gSlB, fIsi, fIsiT, isT, DL.D.tyN, DL.D.isX, fInts, DL.D.seqI, fLenSet, fLR, fLR1, gLR2, rgOk, fDict, fAbs, fInt1, gMax2, gMin2, g1S, g2S, fItems, fR1, fR2, bd62, lowE, clr, bakE, kpE, fApp, fIns, fPop, fPopA, fPopI, fClr, fRev, fExt, allTop, fEq, fNe, fNeg, fIsN, DL.D.isNon, DL.D.key, dGet, canE, nrm, cT, sAug_k, ixN, fRvS, fAll, dBls_map, fIsB, fIdx, msk, Function.comp_def, cut_hi, cut_lo, cut_both, oL, Sl.own, ownL]
  refine ⟨fun s hs => ?_, fun a => by rw [o a]; exact ⟨Nat.zero_le _, fun z => absurd z (Nat.lt_irrefl 0)⟩, fun a ha => by rw [o a] at ha; exact absurd ha (Nat.lt_irrefl 0)⟩
  rcases List.mem_cons.mp hs with rfl | hs
  · exact h1
  · rw [List.mem_singleton.mp hs]; exact h2
section
variable {X : Cx} {W : WW} {a b : Expr} {f : EF} {i : Nat} {pos : Pos}
theorem e_ixv (hu : X.A.units + 100 < cLine) (ha : PE X a (tVar i)) (hb : DE X W b f) (hs : PlainIx b) : DE X W (.Subscript a b pos) (eIxV i f) := by
  refine PE.imp (pe_ix (ix_any (by omega)) ha hb hs) fun σ H Q ⟨Z, L, M, R, q⟩ => ?_
  unfold eIxV at q
  cases el : (er L)[i]? with
  | none => rw [el] at q; exact q.elim
  | some o =>
  cases o with
  | none => rw [el] at q; exact q.elim
  | some w =>
  obtain ⟨l0, d0⟩ := w
  rw [el] at q
  dsimp only at q
  obtain ⟨s, hs1, _, _⟩ := er_some el
  obtain ⟨hv, _, _⟩ := R.slot i s hs1
  refine ⟨s.v, hv, Z, L, M, R, ?_⟩
  cases ef : f (er L) with
  | bad => rw [ef] at q; exact q
  | exc c Γ' => rw [ef] at q; exact q
  | ok x Γ' =>
    obtain ⟨lx, dx⟩ := x
    rw [ef] at q
    dsimp only at q ⊢
    intro v2 ns2 H2 L2 e2 R2 z2
    unfold ixV at q
    cases el2 : Γ'[i]? with
    | none => rw [el2] at q; exact q.elim
    | some o =>
    cases o with
    | none => rw [el2] at q; exact q.elim
    | some w =>
    obtain ⟨l1, d1⟩ := w
    rw [el2] at q
    dsimp only at q
    by_cases im : dx.imm = true
    rotate_left
    · rw [if_neg im] at q; exact q.elim
    rw [if_pos im] at q
    obtain ⟨s2, hs2, _, ed⟩ := er_some (by rw [e2]; exact el2)
    obtain ⟨hv2, rd2, _⟩ := R2.slot i s2 hs2
    have ev : s2.v = s.v := by
      rw [hv] at hv2
      injection hv2 with hv2
      injection hv2 with hv2
      exact hv2.symm
    have rdx : Rd X.K H2 v2 dx ns2 := (R2.tms _ (List.mem_cons_self ..)).1
    cases eg : gIx [(0, d1), (0, dx)] with
    | none => rw [eg] at q; exact q.elim
    | some y =>
    obtain ⟨ly, dy⟩ := y
    rw [eg] at q
    dsimp only at q
    by_cases iy : dy.imm = true
    rotate_left
    · rw [if_neg iy] at q; exact q.elim
    rw [if_pos iy] at q
    dsimp only at q
    have ok : ArgsOk X.K H2 [⟨0, d1, s.v, s2.ns⟩, ⟨0, dx, v2, ns2⟩] := args_flat (by rw [← ed, ← ev]; exact rd2) rfl rdx rfl
    refine vIx [⟨0, d1, s.v, s2.ns⟩, ⟨0, dx, v2, ns2⟩] H2 Q ok ly dy eg fun v ns H3 sm rd _ => ?_
    have en := rd.imm _ _ _ iy
    subst en
    exact q v [] H3 L2 e2 ((R2.pop.same sm).push (m := (Sl.mk 2 dy v []).tm X.K) rd (Sl.stab _ _) (fun b hb => absurd (((Sl.mk 2 dy v []).mem b).mp hb) (by simp [mkS, finS, bNs, gL1, gL2, gLL2, fI2, tkA, ptA, GS, GL, fPut, ful, l12, l02, DL.D.mut, DL.D.imm, DL.D.imm.immAll, fdOk, fIx, fMul, fAdd, powOk, gLstL, gTupL, DL.D.ty, lvN, szOk, fLen, fListOf, fTupOf, fSl, gSlN, gSlH, gSlL, gSlB, fIsi, fIsiT, isT, DL.D.tyN, DL.D.isX, fInts, DL.D.seqI, fLenSet, fLR, fLR1, gLR2, rgOk, fDict, fAbs, fInt1, gMax2, gMin2, g1S, g2S, fItems, fR1, fR2, bd62, lowE, clr, bakE, kpE, fApp, fIns, fPop, fPopA, fPopI, fClr, fRev, fExt, allTop, fEq, fNe, fNeg, fIsN, DL.D.isNon, DL.D.key, dGet, canE, nrm, cT, sAug_k, ixN, fRvS, fAll, dBls_map, fIsB, fIdx, msk, Function.comp_def, cut_hi, cut_lo, cut_both]))
      (fun b => ⟨by show (Sl.mk 2 dy v []).own b ≤ 1; simp [mkS, finS, bNs, gL1, gL2, gLL2, fI2, tkA, ptA, GS, GL, fPut, ful, l12, l02, DL.D.mut, DL.D.imm, DL.D.imm.immAll, fdOk, fIx, fMul, fAdd, powOk, gLstL, gTupL, DL.D.ty, lvN, szOk, fLen, fListOf, fTupOf, fSl, gSlN, gSlH, gSlL, gSlB, fIsi, fIsiT, isT, DL.D.tyN, DL.D.isX, fInts, DL.D.seqI, fLenSet, fLR, fLR1, gLR2, rgOk, fDict, fAbs, fInt1, gMax2, gMin2, g1S, g2S, fItems, fR1, fR2, bd62, lowE, clr, bakE, kpE, fApp, fIns, fPop, fPopA, fPopI, fClr, fRev, fExt, allTop, fEq, fNe, fNeg, fIsN, DL.D.isNon, DL.D.key, dGet, canE, nrm, cT, sAug_k, ixN, fRvS, fAll, dBls_map, fIsB, fIdx, msk, Function.comp_def, cut_hi, cut_lo, cut_both, Sl.own, ownL], fun _ => by show (Sl.mk 2 dy v []).rst b = 0; simp [mkS, finS, bNs, gL1, gL2, gLL2, fI2, tkA, ptA, GS, GL, fPut, ful, l12, l02, DL.D.mut, DL.D.imm, DL.D.imm.immAll, fdOk, fIx, fMul, fAdd, powOk, gLstL, gTupL, DL.D.ty, lvN, szOk, fLen, fListOf, fTupOf, fSl, gSlN, gSlH, gSlL, gSlB, fIsi, fIsiT, isT, DL.D.tyN, DL.D.isX, fInts, DL.D.seqI, fLenSet, fLR, fLR1, gLR2, rgOk, fDict, fAbs, fInt1, gMax2, gMin2, g1S, g2S, fItems, fR1, fR2, bd62, lowE, clr, bakE, kpE, fApp, fIns, fPop, fPopA, fPopI, fClr, fRev, fExt, allTop, fEq, fNe, fNeg, fIsN, DL.D.isNon, DL.D.key, dGet, canE, nrm, cT, sAug_k, ixN, fRvS, fAll, dBls_map, fIsB, fIdx, msk, Function.comp_def, cut_hi, cut_lo, cut_both, Sl.rst, rstL]⟩)
      (fun b hb => absurd (show 0 < (Sl.mk 2 dy v []).own b from hb) (by simp [mkS, finS, bNs, gL1, gL2, gLL2, fI2, tkA, ptA, GS, GL, fPut, ful, l12, l02, DL.D.mut, DL.D.imm, DL.D.imm.immAll, fdOk, fIx, fMul, fAdd, powOk, gLstL, gTupL, DL.D.ty, lvN, szOk, fLen, fListOf, fTupOf, fSl, gSlN, gSlH, gSlL, gSlB, fIsi, fIsiT, isT, DL.D.tyN, DL.D.isX, fInts, DL.D.seqI, fLenSet, fLR, fLR1, gLR2, rgOk, fDict, fAbs, fInt1, gMax2, gMin2, g1S, g2S, fItems, fR1, fR2, bd62, lowE, clr, bakE, kpE, fApp, fIns, fPop, fPopA, fPopI, fClr, fRev, fExt, allTop, fEq, fNe, fNeg, fIsN, DL.D.isNon, DL.D.key, dGet, canE, nrm, cT, sAug_k, ixN, fRvS, fAll, dBls_map, fIsB, fIdx, msk, Function.comp_def, cut_hi, cut_lo, cut_both, Sl.own, ownL])) fun b hb => absurd (show 0 < (Sl.mk 2 dy v []).rst b from hb) (by simp [mkS, finS, bNs, gL1, gL2, gLL2, fI2, tkA, ptA, GS, GL, fPut, ful, l12, l02, DL.D.mut, DL.D.imm, DL.D.imm.immAll, fdOk, fIx, fMul, fAdd, powOk, gLstL, gTupL, DL.D.ty, lvN, szOk, fLen, fListOf, fTupOf, fSl, gSlN, gSlH, gSlL, gSlB, fIsi, fIsiT, isT, DL.D.tyN, DL.D.isX, fInts, DL.D.seqI, fLenSet, fLR, fLR1, gLR2, rgOk, fDict, fAbs, fInt1, gMax2, gMin2, g1S, g2S, fItems, fR1, fR2, bd62, lowE, clr, bakE, kpE, fApp, fIns, fPop, fPopA, fPopI, fClr, fRev, fExt, allTop, fEq, fNe, fNeg, fIsN, DL.D.isNon, DL.D.key, dGet, canE, nrm, cT, sAug_k, ixN, fRvS, fAll, dBls_map, fIsB, fIdx, msk, Function.comp_def, cut_hi, cut_lo, cut_both, Sl.rst, rstL])) fun _ h => nomatch h
end
section
variable {Γ : Env}
def kIxV (i : Nat) : R LD → R LD
  | .ok x Γ' => ixV i x Γ'
  | .exc c Γ' => .exc c Γ'
  | .bad => .bad
@[simp] theorem eIxV_k (i : Nat) (f : EF) : eIxV i f Γ = match Γ[i]? with
  | some (some _) => kIxV i (f Γ)
  | _ => .bad := rfl
@[simp] theorem kIxV_ok (i : Nat) (x : LD) (Γ' : Env) : kIxV i (.ok x Γ') = ixV i x Γ' := rfl
@[simp] theorem ixV_k (i : Nat) (x : LD) : ixV i x Γ = match Γ[i]? with
  | some (some (_, d)) => (if x.2.imm then (match gIx [(0, d), (0, x.2)] with
    | some (_, y) => if y.imm then .ok (2, y) Γ else .bad
    | none => .bad) else .bad)
  | _ => .bad := rfl
end
end DL

/-! DL43: defs that are called in an except suite and raise nothing -/
namespace DL
open L2 PySem PySem.Spec PyProof.Rows
structure RoomN (k : Nat) (A : Around) : Prop where
  dp : A.depth + 3 * k + 5 < recursionLimit
  un : A.units + 16 * k + 200 < cLine
theorem RoomN.mono {j k : Nat} {A : Around} (r : RoomN k A) (h : j ≤ k) : RoomN j A := ⟨by have := r.dp; omega, by have := r.un; omega⟩
theorem RoomN.deeper {k : Nat} {A : Around} (r : RoomN (k + 1) A) (env : PySem.Env) : RoomN k (A.deeper env) :=
  ⟨by have := r.dp; show A.depth + 1 + 3 * k + 5 < _; omega, by have := r.un; show A.units + 3 + 16 * k + 200 < _; omega⟩
theorem RoomN.depth {k : Nat} {A : Around} (r : RoomN k A) : A.depth < recursionLimit := by have := r.dp; omega
theorem roomN_of {k : Nat} {A : Around} (r : Room k A) : RoomN k A := ⟨r.dp, r.un⟩
theorem roomN100 {k : Nat} {A : Around} (hr : RoomN k A) : A.units + 100 < cLine := by have := hr.un; omega
theorem roomN65 {k : Nat} {A : Around} (hr : RoomN k A) : A.units + 65 < cLine := by have := hr.un; omega
theorem roomN64 {k : Nat} {A : Around} (hr : RoomN k A) : A.units + 64 < cLine := by have := hr.un; omega
theorem roomN1 {k : Nat} {A : Around} (hr : RoomN k A) : A.units + 1 < cLine := by have := hr.un; omega
/-- what such a def promises -/
structure FnN (P : Program) (w : World) (K : PySem.W.Frag) (mg : Str → Option Value) (base : Heap) (k : Nat) (f : Addr) (fd : FuncData) (ps : List Str) (sp : Sp) : Prop where
  len : ∀ vs H Q E, sp vs H Q E → vs.length = ps.length
  run : ∀ (A : Around) (outer : List PySem.Env) (s : Shared) (H : Hp) (args : Args) (us : List Value) (vs : List V) (Q : VK) (E : XK), RoomN k A → (∀ c d H', E c d H' → False) → Env0 P w K mg base A outer s H → BindsTo s fd args (ps.zip us) → Vals vs us → sp vs H Q E →
    codeAny (model P w) A (.call (.ref f) args) (CR (L2.CX P w) outer P w H s Q E) s
/-- the context of its body -/
abbrev cxN (P : Program) (w : World) (K : PySem.W.Frag) (mg : Str → Option Value) (base : Heap) (N : List Str) (qual : Str) (scope : Scope) (f : Addr) (cd : Value) (A : Around) (outer : List PySem.Env) (s : Shared) (H : Hp) (E : XK) : Cx :=
  { cxOf (L2.CX P w) P w K mg base N qual scope f cd A outer s H E with calm := false }
section
variable {P : Program} {w : World} {K : PySem.W.Frag} {mg : Str → Option Value} {base : Heap} {N ps : List Str} {qual : Str} {scope : Scope} {f : Addr} {cd : Value} {A : Around} {outer : List PySem.Env} {s s1 : Shared} {H : Hp} {E : XK} {us : List Value} {vs : List V}
theorem inv_startN (S : FnScope N ps scope) (e0 : Env0 P w K mg base A outer s H) (hl : vs.length = ps.length) (r : Vals vs us)
    (x : InCallC s s.heap.objs.size (bindL (envOfC qual scope s.heap.objs.size f cd).kindOf (ps.zip us) fun _ => none) (cellsFrom (s.heap.objs.size + 1) scope.names []) (bindC (envOfC qual scope s.heap.objs.size f cd).kindOf (ps.zip us) fun _ => none) s1) :
    Inv (cxN P w K mg base N qual scope f cd A outer s H E) [] (L2.start N vs) H s1 := by
  have e1 : Env0 P w K mg base { A with handled := none } outer s H := ⟨e0.frames, e0.mod, e0.bs, e0.bsz, e0.funs, e0.frf, e0.hok, e0.bare⟩
  have I := inv_start (CX := L2.CX P w) (E := E) S (A := { A with handled := none }) rfl e1 hl r x
  exact ⟨⟨I.ok.mod, I.ok.kind, I.ok.glob, I.ok.blt, I.ok.above, I.ok.inj, I.ok.has, I.ok.cab, (fun z => Bool.noConfusion (show false = true from z)), I.ok.frames, I.ok.stk, I.ok.exf, I.ok.bs, I.ok.bsz, I.ok.noex, I.ok.exfs, I.ok.funs, I.ok.frf⟩,
    I.os, I.bare, I.base, I.loc, I.cell, I.free, I.freeC, I.pin, I.hok, I.len⟩
end
theorem fun_okN {P : Program} {w : World} {K : PySem.W.Frag} {mg : Str → Option Value} {base : Heap} {x qual : Str} {st : Stmt} {f : Addr} {fd : FuncData} {N ps : List Str} {k : Nat} {sp : Sp} (F : Fun K x qual st f fd) (S : FnScope N ps (defScope st)) (len : ∀ vs H Q E, sp vs H Q E → vs.length = ps.length)
    (hbody : ∀ (cdv : Value) (A : Around) (outer : List PySem.Env) (s : Shared) (H : Hp) (vs : List V) (Q : VK) (E : XK), (∀ c d H', E c d H' → False) → RoomN k (A.deeper (envOfC qual (defScope st) s.heap.objs.size f cdv)) → sp vs H Q E →
      ∃ t, PSs (cxN P w K mg base N qual (defScope st) f cdv A outer s H E) (defBody st) t ∧ t { nx := fun _ H' => Q .non H', rt := Q } (L2.start N vs) H) : FnN P w K mg base (k + 1) f fd ps sp := by
  obtain ⟨oc, od, kV, doc, pm, an, cdv, ct, osl, rfl, lk, hcd⟩ := F.ex
  refine ⟨len, fun A outer s H args us vs Q E hr hE e0 hb r hsp => ?_⟩
  have hl := len _ _ _ _ hsp
  have KX : K.In s.heap := e0.mod.kin.keeps fun b o e => (e0.bs b o e).1
  have lim : s.heap.NoLimit := e0.mod.nolimit.keeps fun b o e => (e0.bs b o e).1
  have hkind : ∀ y ∈ ps.zip us, (defScope st).names.lookup y.1 = some .local ∨ ((defScope st).names.lookup y.1 = some .cell ∧ ((cellsFrom (s.heap.objs.size + 1) (defScope st).names []).lookup y.1).isSome = true) := fun ⟨n, v⟩ hy => by
    rcases S.par n (List.of_mem_zip hy).1 with q | q
    · exact .inl q
    · exact .inr ⟨q, PySem.W.cellsFrom_some _ _ _ (.inl q)⟩
  refine codeAny_call_function hr.depth (KX _ _ lk) rfl S.co S.gen rfl (PySem.W.codeRec_of KX hcd) (hb _ _ _ _ ?_)
  refine wpAny_newFunctionEnv_cells S.kind hkind fun env he s1 x => ?_
  subst he
  refine ⟨lim.keeps x.toInCall.keep, codeAny_func ?_⟩
  obtain ⟨t, ht, hq⟩ := hbody cdv A outer s H vs Q E hE (hr.deeper _) hsp
  have I : Inv (cxN P w K mg base N qual (defScope st) f cdv A outer s H E) [] (L2.start N vs) H s1 := inv_startN S e0 hl r x
  refine wpAny_mono (ht.run [] s1 (L2.start N vs) H _ I hq) (fun fl s' hs => ?_) fun e s' hs => hs
  have fin : ∀ {σ' : L2.St} {H' : Hp} {v : V} {u : Value}, Inv (cxN P w K mg base N qual (defScope st) f cdv A outer s H E) [] σ' H' s' → RelV v u → Q v H' → CE outer P w H s Q u s' :=
    fun {σ' H' v u} J rv q => ⟨v, H', J.os, J.bare, J.base, J.hok, rv, q⟩
  cases fl with
  | ret u =>
    obtain ⟨v, σ', H', J, rv, q⟩ := hs
    exact fin J rv q
  | next =>
    obtain ⟨σ', H', J, q⟩ := hs
    exact fin (v := V.non) (u := Value.none) J rfl q
  | brk =>
    obtain ⟨_, _, _, q⟩ := hs
    exact False.elim q
  | cont =>
    obtain ⟨_, _, _, q⟩ := hs
    exact False.elim q
theorem tDS_w {K : PySem.W.Frag} {W : WW} {f : SF} {D : Ends} {σ : L2.St} {H : Hp} (hW : ∀ c σ H, W c σ H → False) (h : tDS K W f D σ H) : tDS K W0 f D σ H := by
  obtain ⟨Z, L, M, R, q⟩ := h
  refine ⟨Z, L, M, R, ?_⟩
  cases e : f (er L) with
  | nx Γ' => rw [e] at q; exact q
  | rt x Γ' => rw [e] at q; exact q
  | bk Γ' => rw [e] at q; exact q
  | ct Γ' => rw [e] at q; exact q
  | bad => rw [e] at q; exact q
  | exc c Γ' => rw [e] at q; exact fun σ' H' L' e' R' => (hW c σ' H' (q σ' H' L' e' R')).elim
theorem def_okN {P : Program} {w : World} {K : PySem.W.Frag} {mg : Str → Option Value} {base : Heap} {x qual : Str} {st : Stmt} {f : Addr} {fd : FuncData} {N ps : List Str} {k : Nat} (n m : Nat) (io : List Bool) (body : SF) (F : Fun K x qual st f fd) (S : FnScope N ps (defScope st))
    (hps : ps.length = n) (hN : N.length = m) (hio : io.length ≤ n) (hnm : n ≤ m)
    (hb : ∀ (cdv : Value) (A : Around) (outer : List PySem.Env) (s : Shared) (H : Hp) (E : XK), RoomN k (A.deeper (envOfC qual (defScope st) s.heap.objs.size f cdv)) →
      DSs (cxN P w K mg base N qual (defScope st) f cdv A outer s H E) W0 (defBody st) body) : FnN P w K mg base (k + 1) f fd ps (spF K mg n io (runF n m io body)) := by
  refine fun_okN F S (spF_len hps) fun cdv A outer s H vs Q E hE hr h => ?_
  obtain ⟨As, ev, hl, ok, q⟩ := h
  refine ⟨_, hb cdv A outer s H E hr, tDS_w (W := fun c _ H' => E (xc mg c) none H') (fun c _ H' h => hE _ _ _ h) ?_⟩
  subst ev
  have hz : ∀ a, H a = none → H a = none ∨ ∃ s ∈ As, a ∈ s.ns := fun a h => .inl h
  let Z : Zone := ⟨fun a => H a = none ∨ ∃ s ∈ As, a ∈ s.ns, fun a => H a = none, hz, fun i => ((As.map Sl.v)[i]?).getD .non⟩
  let pr : Tm := ⟨fun _ => 0, fun a => if (H a).isSome = true ∧ oL As a = 0 then 1 else 0, fun H' => ∀ a o, H a = some o → oL As a = 0 → H' a = some o⟩
  have prs : pr.Stab K := fun H1 H2 h1 _ e a o ho h0 => by
    rw [e a (by show 0 < 0 + (if (H a).isSome = true ∧ oL As a = 0 then 1 else 0); rw [if_pos ⟨by rw [ho]; rfl, h0⟩]; decide)]
    exact h1 a o ho h0
  have R : Rel K Z (start N (As.map Sl.v)) H (sls io As ++ List.replicate (m - n) none) [pr] := by
    refine ⟨?_, fun i t ht => ?_, fun t ht => ?_, fun a => ?_, fun a ha => ?_, fun a h => h, fun i t ht hp => ?_⟩
    · unfold L2.start
      simp [mkS, finS, bNs, gL1, gL2, gLL2, fI2, tkA, ptA, GS, GL, fPut, ful, l12, l02, DL.D.mut, DL.D.imm, DL.D.imm.immAll, fdOk, fIx, fMul, fAdd, powOk, gLstL, gTupL, DL.D.ty, lvN, szOk, fLen, fListOf, fTupOf, fSl, gSlN, gSlH, gSlL, gSlB, fIsi, fIsiT, isT, DL.D.tyN, DL.D.isX, fInts, DL.D.seqI, fLenSet, fLR, fLR1, gLR2, rgOk, fDict, fAbs, fInt1, gMax2, gMin2, g1S, g2S, fItems, fR1, fR2, bd62, lowE, clr, bakE, kpE, fApp, fIns, fPop, fPopA, fPopI, fClr, fRev, fExt, allTop, fEq, fNe, fNeg, fIsN, DL.D.isNon, DL.D.key, dGet, canE, nrm, cT, sAug_k, ixN, fRvS, fAll, dBls_map, fIsB, fIdx, msk, Function.comp_def, cut_hi, cut_lo, cut_both, sls_len, hN, hl]
    · by_cases hi : i < As.length
      · rw [List.getElem?_append_left (by rw [sls_len]; exact hi)] at ht
        obtain ⟨u, h1, e1, e2, e3⟩ := sls_get io As i t ht
        have hu : u ∈ As := List.mem_of_getElem? h1
        refine ⟨?_, by rw [e1, e2, e3]; exact ok.rd u hu, fun a ha => .inr ⟨u, hu, by rw [← e3]; exact ha⟩⟩
        unfold L2.start
        rw [List.getElem?_append_left (by simpa [mkS, finS, bNs, gL1, gL2, gLL2, fI2, tkA, ptA, GS, GL, fPut, ful, l12, l02, DL.D.mut, DL.D.imm, DL.D.imm.immAll, fdOk, fIx, fMul, fAdd, powOk, gLstL, gTupL, DL.D.ty, lvN, szOk, fLen, fListOf, fTupOf, fSl, gSlN, gSlH, gSlL, gSlB, fIsi, fIsiT, isT, DL.D.tyN, DL.D.isX, fInts, DL.D.seqI, fLenSet, fLR, fLR1, gLR2, rgOk, fDict, fAbs, fInt1, gMax2, gMin2, g1S, g2S, fItems, fR1, fR2, bd62, lowE, clr, bakE, kpE, fApp, fIns, fPop, fPopA, fPopI, fClr, fRev, fExt, allTop, fEq, fNe, fNeg, fIsN, DL.D.isNon, DL.D.key, dGet, canE, nrm, cT, sAug_k, ixN, fRvS, fAll, dBls_map, fIsB, fIdx, msk, Function.comp_def, cut_hi, cut_lo, cut_both] using hi)]
        simp [mkS, finS, bNs, gL1, gL2, gLL2, fI2, tkA, ptA, GS, GL, fPut, ful, l12, l02, DL.D.mut, DL.D.imm, DL.D.imm.immAll, fdOk, fIx, fMul, fAdd, powOk, gLstL, gTupL, DL.D.ty, lvN, szOk, fLen, fListOf, fTupOf, fSl, gSlN, gSlH, gSlL, gSlB, fIsi, fIsiT, isT, DL.D.tyN, DL.D.isX, fInts, DL.D.seqI, fLenSet, fLR, fLR1, gLR2, rgOk, fDict, fAbs, fInt1, gMax2, gMin2, g1S, g2S, fItems, fR1, fR2, bd62, lowE, clr, bakE, kpE, fApp, fIns, fPop, fPopA, fPopI, fClr, fRev, fExt, allTop, fEq, fNe, fNeg, fIsN, DL.D.isNon, DL.D.key, dGet, canE, nrm, cT, sAug_k, ixN, fRvS, fAll, dBls_map, fIsB, fIdx, msk, Function.comp_def, cut_hi, cut_lo, cut_both, h1, e1]
      · rw [List.getElem?_append_right (by rw [sls_len]; omega), List.getElem?_replicate] at ht
        split at ht <;> cases ht
    · rw [List.mem_singleton.mp ht]
      refine ⟨fun a o h _ => h, prs, fun a ha => ?_⟩
      have ha : 0 < 0 + (if (H a).isSome = true ∧ oL As a = 0 then 1 else 0) := ha
      split at ha
      · rename_i c
        intro z
        rw [z] at c
        exact absurd c.1 (by simp [mkS, finS, bNs, gL1, gL2, gLL2, fI2, tkA, ptA, GS, GL, fPut, ful, l12, l02, DL.D.mut, DL.D.imm, DL.D.imm.immAll, fdOk, fIx, fMul, fAdd, powOk, gLstL, gTupL, DL.D.ty, lvN, szOk, fLen, fListOf, fTupOf, fSl, gSlN, gSlH, gSlL, gSlB, fIsi, fIsiT, isT, DL.D.tyN, DL.D.isX, fInts, DL.D.seqI, fLenSet, fLR, fLR1, gLR2, rgOk, fDict, fAbs, fInt1, gMax2, gMin2, g1S, g2S, fItems, fR1, fR2, bd62, lowE, clr, bakE, kpE, fApp, fIns, fPop, fPopA, fPopI, fClr, fRev, fExt, allTop, fEq, fNe, fNeg, fIsN, DL.D.isNon, DL.D.key, dGet, canE, nrm, cT, sAug_k, ixN, fRvS, fAll, dBls_map, fIsB, fIdx, msk, Function.comp_def, cut_hi, cut_lo, cut_both])
      · omega
    · have h1 := ok.sep a
      obtain ⟨q1, q2⟩ := sls_cnt a io As
      obtain ⟨q3, q4⟩ := oS_rep (m - n) a
      rw [oS_append, rS_append, q1, q2, q3, q4]
      show oL As a + 0 + (0 + 0) ≤ 1 ∧ (0 < oL As a + 0 + (0 + 0) → rL As a + 0 + ((if (H a).isSome = true ∧ oL As a = 0 then 1 else 0) + 0) = 0)
      refine ⟨by omega, fun c => ?_⟩
      rw [if_neg (by omega)]
      omega
    · obtain ⟨q1, q2⟩ := sls_cnt a io As
      obtain ⟨q3, q4⟩ := oS_rep (m - n) a
      rw [oS_append, q1, q3] at ha
      exact ok.wr a (by have ha : 0 < oL As a + 0 + (0 + 0) := ha; omega)
    · by_cases hi : i < As.length
      · rw [List.getElem?_append_left (by rw [sls_len]; exact hi)] at ht
        obtain ⟨u, h1, e1, _, _⟩ := sls_get io As i t ht
        show t.v = ((As.map Sl.v)[i]?).getD .non
        simp [mkS, finS, bNs, gL1, gL2, gLL2, fI2, tkA, ptA, GS, GL, fPut, ful, l12, l02, DL.D.mut, DL.D.imm, DL.D.imm.immAll, fdOk, fIx, fMul, fAdd, powOk, gLstL, gTupL, DL.D.ty, lvN, szOk, fLen, fListOf, fTupOf, fSl, gSlN, gSlH, gSlL, gSlB, fIsi, fIsiT, isT, DL.D.tyN, DL.D.isX, fInts, DL.D.seqI, fLenSet, fLR, fLR1, gLR2, rgOk, fDict, fAbs, fInt1, gMax2, gMin2, g1S, g2S, fItems, fR1, fR2, bd62, lowE, clr, bakE, kpE, fApp, fIns, fPop, fPopA, fPopI, fClr, fRev, fExt, allTop, fEq, fNe, fNeg, fIsN, DL.D.isNon, DL.D.key, dGet, canE, nrm, cT, sAug_k, ixN, fRvS, fAll, dBls_map, fIsB, fIdx, msk, Function.comp_def, cut_hi, cut_lo, cut_both, h1, e1]
      · rw [List.getElem?_append_right (by rw [sls_len]; omega), List.getElem?_replicate] at ht
        split at ht <;> cases ht
  have e0 : er (sls io As ++ List.replicate (m - n) none) = mkS io (As.map Sl.ld) ++ List.replicate (m - n) none := by rw [er_append, er_sls, er_rep]
  -- the end of it: what has come
  have endd : ∀ {σ' : L2.St} {H' : Hp} {L' : List (Option Sl)} {xs : List Sl} {M : List Tm} {fs : List LD}, Rel K Z σ' H' L' (tmA K xs :: pr :: M) → (∀ t ∈ xs, ∀ a ∈ t.ns, Z a) → finS io (er L') = some fs →
      ∃ Fs : List Sl, Fs.map Sl.ld = fs ∧ Fs.map Sl.v = msk io (As.map Sl.v) ∧ Fram As H H' ∧ ArgsOk K H' (xs ++ Fs) ∧ From As H (xs ++ Fs) := fun {σ' H' L' xs M fs} R' zx hf => by
    obtain ⟨Fs, f1, f2, f3, f4⟩ := fin_of io L' fs 0 [] hf (by simpa [mkS, finS, bNs, gL1, gL2, gLL2, fI2, tkA, ptA, GS, GL, fPut, ful, l12, l02, DL.D.mut, DL.D.imm, DL.D.imm.immAll, fdOk, fIx, fMul, fAdd, powOk, gLstL, gTupL, DL.D.ty, lvN, szOk, fLen, fListOf, fTupOf, fSl, gSlN, gSlH, gSlL, gSlB, fIsi, fIsiT, isT, DL.D.tyN, DL.D.isX, fInts, DL.D.seqI, fLenSet, fLR, fLR1, gLR2, rgOk, fDict, fAbs, fInt1, gMax2, gMin2, g1S, g2S, fItems, fR1, fR2, bd62, lowE, clr, bakE, kpE, fApp, fIns, fPop, fPopA, fPopI, fClr, fRev, fExt, allTop, fEq, fNe, fNeg, fIsN, DL.D.isNon, DL.D.key, dGet, canE, nrm, cT, sAug_k, ixN, fRvS, fAll, dBls_map, fIsB, fIdx, msk, Function.comp_def, cut_hi, cut_lo, cut_both] using R') rfl
    have hprm : pr ∈ tmA K xs :: pr :: M := List.mem_cons_of_mem _ (List.mem_cons_self ..)
    obtain ⟨p1, _, _⟩ := R'.tms pr hprm
    obtain ⟨x1, _, _⟩ := R'.tms _ (List.mem_cons_self ..)
    have sp : ∀ a, oS L' a + (oL xs a + (0 + oM M a)) ≤ 1 ∧ (0 < oS L' a + (oL xs a + (0 + oM M a)) → rS L' a + (rL xs a + ((if (H a).isSome = true ∧ oL As a = 0 then 1 else 0) + rM M a)) = 0) := fun a => R'.sep a
    have oldOr : ∀ a, 0 < oS L' a + oL xs a → H a = none ∨ 0 < oL As a := fun a ha => by
      have h1 := (sp a).2 (by omega)
      by_cases c : (H a).isSome = true ∧ oL As a = 0
      · rw [if_pos c] at h1; omega
      · by_cases c2 : oL As a = 0
        · left
          cases e : H a with
          | none => rfl
          | some o => exact absurd ⟨by rw [e]; rfl, c2⟩ c
        · right; omega
    have zone : ∀ a, Z a → H a = none ∨ 0 < oL As a + rL As a := fun a ha => by
      rcases ha with ha | ⟨u, h1, h2⟩
      · exact .inl ha
      · have := oL_mem a h1
        have := (u.mem a).mpr h2
        exact .inr (by omega)
    refine ⟨Fs, f1, by rw [f4]; exact msk_pv io (As.map Sl.v) (by simpa [mkS, finS, bNs, gL1, gL2, gLL2, fI2, tkA, ptA, GS, GL, fPut, ful, l12, l02, DL.D.mut, DL.D.imm, DL.D.imm.immAll, fdOk, fIx, fMul, fAdd, powOk, gLstL, gTupL, DL.D.ty, lvN, szOk, fLen, fListOf, fTupOf, fSl, gSlN, gSlH, gSlL, gSlB, fIsi, fIsiT, isT, DL.D.tyN, DL.D.isX, fInts, DL.D.seqI, fLenSet, fLR, fLR1, gLR2, rgOk, fDict, fAbs, fInt1, gMax2, gMin2, g1S, g2S, fItems, fR1, fR2, bd62, lowE, clr, bakE, kpE, fApp, fIns, fPop, fPopA, fPopI, fClr, fRev, fExt, allTop, fEq, fNe, fNeg, fIsN, DL.D.isNon, DL.D.key, dGet, canE, nrm, cT, sAug_k, ixN, fRvS, fAll, dBls_map, fIsB, fIdx, msk, Function.comp_def, cut_hi, cut_lo, cut_both, hl] using hio), ⟨p1, fun a h => R'.zf a h⟩, ⟨fun t ht => ?_, fun a => ?_, fun a ha => ?_⟩, fun a => ?_⟩
    · rcases List.mem_append.mp ht with ht | ht
      · exact x1 t ht
      · exact (f2 t ht).1
    · rw [oL_append, rL_append]
      have h1 := sp a
      have h2 := f3 a
      omega
    · rw [oL_append] at ha
      have h2 := f3 a
      exact R'.wr a (by show 0 < oS L' a + (oL xs a + (0 + oM M a)); omega)
    · rw [oL_append, rL_append]
      have h2 := f3 a
      refine ⟨fun h => oldOr a (by omega), fun h => zone a ?_⟩
      by_cases c : 0 < oL xs a + rL xs a
      · obtain ⟨t, g1, g2⟩ := oL_pos c
        exact zx t g1 a g2
      · obtain ⟨t, g1, g2⟩ := oL_pos (As := Fs) (a := a) (by omega)
        exact (f2 t g1).2 a g2
  refine ⟨Z, _, _, R, ?_⟩
  rw [e0]
  unfold runF at q
  rw [List.length_map, if_pos hl] at q
  cases eb : body (mkS io (As.map Sl.ld) ++ List.replicate (m - n) none) with
  | bad => rw [eb] at q; exact q
  | bk Γ => rw [eb] at q; exact q.elim
  | ct Γ => rw [eb] at q; exact q.elim
  | nx Γ =>
    rw [eb] at q
    dsimp only at q
    intro σ' H' L' e R'
    cases ef : finS io Γ with
    | none => rw [ef] at q; exact q.elim
    | some fs =>
      rw [ef] at q
      dsimp only at q
      obtain ⟨Fs, f1, f2, f3, f4, f5⟩ := endd (R'.push (m := (Sl.mk 2 .non .non []).tm K) .non (Sl.stab _ _) (fun a h => by simp [mkS, finS, bNs, gL1, gL2, gLL2, fI2, tkA, ptA, GS, GL, fPut, ful, l12, l02, DL.D.mut, DL.D.imm, DL.D.imm.immAll, fdOk, fIx, fMul, fAdd, powOk, gLstL, gTupL, DL.D.ty, lvN, szOk, fLen, fListOf, fTupOf, fSl, gSlN, gSlH, gSlL, gSlB, fIsi, fIsiT, isT, DL.D.tyN, DL.D.isX, fInts, DL.D.seqI, fLenSet, fLR, fLR1, gLR2, rgOk, fDict, fAbs, fInt1, gMax2, gMin2, g1S, g2S, fItems, fR1, fR2, bd62, lowE, clr, bakE, kpE, fApp, fIns, fPop, fPopA, fPopI, fClr, fRev, fExt, allTop, fEq, fNe, fNeg, fIsN, DL.D.isNon, DL.D.key, dGet, canE, nrm, cT, sAug_k, ixN, fRvS, fAll, dBls_map, fIsB, fIdx, msk, Function.comp_def, cut_hi, cut_lo, cut_both, Sl.tm, Sl.own, Sl.rst, ownL, rstL] at h) (fun a => by simp [mkS, finS, bNs, gL1, gL2, gLL2, fI2, tkA, ptA, GS, GL, fPut, ful, l12, l02, DL.D.mut, DL.D.imm, DL.D.imm.immAll, fdOk, fIx, fMul, fAdd, powOk, gLstL, gTupL, DL.D.ty, lvN, szOk, fLen, fListOf, fTupOf, fSl, gSlN, gSlH, gSlL, gSlB, fIsi, fIsiT, isT, DL.D.tyN, DL.D.isX, fInts, DL.D.seqI, fLenSet, fLR, fLR1, gLR2, rgOk, fDict, fAbs, fInt1, gMax2, gMin2, g1S, g2S, fItems, fR1, fR2, bd62, lowE, clr, bakE, kpE, fApp, fIns, fPop, fPopA, fPopI, fClr, fRev, fExt, allTop, fEq, fNe, fNeg, fIsN, DL.D.isNon, DL.D.key, dGet, canE, nrm, cT, sAug_k, ixN, fRvS, fAll, dBls_map, fIsB, fIdx, msk, Function.comp_def, cut_hi, cut_lo, cut_both, Sl.tm, Sl.own, Sl.rst, ownL, rstL]) (fun a h => by simp [mkS, finS, bNs, gL1, gL2, gLL2, fI2, tkA, ptA, GS, GL, fPut, ful, l12, l02, DL.D.mut, DL.D.imm, DL.D.imm.immAll, fdOk, fIx, fMul, fAdd, powOk, gLstL, gTupL, DL.D.ty, lvN, szOk, fLen, fListOf, fTupOf, fSl, gSlN, gSlH, gSlL, gSlB, fIsi, fIsiT, isT, DL.D.tyN, DL.D.isX, fInts, DL.D.seqI, fLenSet, fLR, fLR1, gLR2, rgOk, fDict, fAbs, fInt1, gMax2, gMin2, g1S, g2S, fItems, fR1, fR2, bd62, lowE, clr, bakE, kpE, fApp, fIns, fPop, fPopA, fPopI, fClr, fRev, fExt, allTop, fEq, fNe, fNeg, fIsN, DL.D.isNon, DL.D.key, dGet, canE, nrm, cT, sAug_k, ixN, fRvS, fAll, dBls_map, fIsB, fIdx, msk, Function.comp_def, cut_hi, cut_lo, cut_both, Sl.tm, Sl.own, ownL] at h) fun a h => by simp [mkS, finS, bNs, gL1, gL2, gLL2, fI2, tkA, ptA, GS, GL, fPut, ful, l12, l02, DL.D.mut, DL.D.imm, DL.D.imm.immAll, fdOk, fIx, fMul, fAdd, powOk, gLstL, gTupL, DL.D.ty, lvN, szOk, fLen, fListOf, fTupOf, fSl, gSlN, gSlH, gSlL, gSlB, fIsi, fIsiT, isT, DL.D.tyN, DL.D.isX, fInts, DL.D.seqI, fLenSet, fLR, fLR1, gLR2, rgOk, fDict, fAbs, fInt1, gMax2, gMin2, g1S, g2S, fItems, fR1, fR2, bd62, lowE, clr, bakE, kpE, fApp, fIns, fPop, fPopA, fPopI, fClr, fRev, fExt, allTop, fEq, fNe, fNeg, fIsN, DL.D.isNon, DL.D.key, dGet, canE, nrm, cT, sAug_k, ixN, fRvS, fAll, dBls_map, fIsB, fIdx, msk, Function.comp_def, cut_hi, cut_lo, cut_both, Sl.tm, Sl.rst, rstL] at h).one
        (fun t ht a ha => by rw [List.mem_singleton.mp ht] at ha; cases ha) (by rw [e]; exact ef)
      exact q .non [] Fs H' f1 f2 f3 f4 f5
  | rt x Γ =>
    obtain ⟨l, d⟩ := x
    rw [eb] at q
    dsimp only at q
    intro v ns σ' H' L' e R' z
    cases ef : finS io Γ with
    | none => rw [ef] at q; exact q.elim
    | some fs =>
      rw [ef] at q
      dsimp only at q
      obtain ⟨Fs, f1, f2, f3, f4, f5⟩ := endd R'.one (fun t ht a ha => by rw [List.mem_singleton.mp ht] at ha; exact z a ha) (by rw [e]; exact ef)
      exact q v ns Fs H' f1 f2 f3 f4 f5
  | exc c Γ =>
    rw [eb] at q
    dsimp only at q
    intro σ' H' L' e R'
    cases ef : finS io Γ with
    | none => rw [ef] at q; exact q.elim
    | some fs =>
      rw [ef] at q
      dsimp only at q
      obtain ⟨Fs, f1, f2, f3, f4, f5⟩ := endd R'.args0 (fun t ht => nomatch ht) (by rw [e]; exact ef)
      exact q Fs H' f1 f2 f3 (by simpa [mkS, finS, bNs, gL1, gL2, gLL2, fI2, tkA, ptA, GS, GL, fPut, ful, l12, l02, DL.D.mut, DL.D.imm, DL.D.imm.immAll, fdOk, fIx, fMul, fAdd, powOk, gLstL, gTupL, DL.D.ty, lvN, szOk, fLen, fListOf, fTupOf, fSl, gSlN, gSlH, gSlL, gSlB, fIsi, fIsiT, isT, DL.D.tyN, DL.D.isX, fInts, DL.D.seqI, fLenSet, fLR, fLR1, gLR2, rgOk, fDict, fAbs, fInt1, gMax2, gMin2, g1S, g2S, fItems, fR1, fR2, bd62, lowE, clr, bakE, kpE, fApp, fIns, fPop, fPopA, fPopI, fClr, fRev, fExt, allTop, fEq, fNe, fNeg, fIsN, DL.D.isNon, DL.D.key, dGet, canE, nrm, cT, sAug_k, ixN, fRvS, fAll, dBls_map, fIsB, fIdx, msk, Function.comp_def, cut_hi, cut_lo, cut_both] using f4) (by simpa [mkS, finS, bNs, gL1, gL2, gLL2, fI2, tkA, ptA, GS, GL, fPut, ful, l12, l02, DL.D.mut, DL.D.imm, DL.D.imm.immAll, fdOk, fIx, fMul, fAdd, powOk, gLstL, gTupL, DL.D.ty, lvN, szOk, fLen, fListOf, fTupOf, fSl, gSlN, gSlH, gSlL, gSlB, fIsi, fIsiT, isT, DL.D.tyN, DL.D.isX, fInts, DL.D.seqI, fLenSet, fLR, fLR1, gLR2, rgOk, fDict, fAbs, fInt1, gMax2, gMin2, g1S, g2S, fItems, fR1, fR2, bd62, lowE, clr, bakE, kpE, fApp, fIns, fPop, fPopA, fPopI, fClr, fRev, fExt, allTop, fEq, fNe, fNeg, fIsN, DL.D.isNon, DL.D.key, dGet, canE, nrm, cT, sAug_k, ixN, fRvS, fAll, dBls_map, fIsB, fIdx, msk, Function.comp_def, cut_hi, cut_lo, cut_both] using f5)

/-! ### the call -/
section
variable {X : Cx} {A : List Nat}
theorem p_callN {f : Addr} {fd : FuncData} {ps : List Str} {k n : Nat} {F : List LD → FR} {x : Str} {p pos : Pos} {e : Expr} {es : List Expr} {fs : List PF} (G : FnN X.prog X.w X.K X.mg X.base k f fd ps (spF X.K X.mg n [] F)) (hr : RoomN k X.A)
    (hg : Gl X x) (hm : X.mg x = some (.ref f)) (hk : PySem.W.keepIn X.K (.ref f) = true) (hb : Binds X.K fd ps []) (hn : fs.length = n) (h : PArgL X W0 A (e :: es) fs)
    (hdb : (x == ("__debug__" : Str)) = false := by decide) (he : starEach (e :: es) X.env = (false, eval e X.env) :: starEach es X.env := by rfl) (hpl : (backTo pos (starEach es X.env)).any (·.1) = false := by rfl) :
    DP X W0 A (.Call (.Name x p) (e :: es) [] pos) (pCall F fs) := by
  obtain ⟨gs, rfl, e2, e3⟩ := h.pa
  have hE : ∀ σ c d H', WE (wx X W0) σ c d H' → False := fun σ c d H' h => by
    first
      | exact h.elim
      | (obtain ⟨_, _, _, h⟩ := h; exact h)
  have pe : PE X (.Call (.Name x p) (e :: es) [] pos) (tCallS (spF X.K X.mg n [] F) (fun σ => WE (wx X W0) σ) (tAl (gs.map fun p => tDP X.K W0 p.1 p.2))) := by
    refine ⟨fun pins s σ H Q I h => ?_⟩
    refine wpAny_Call_Name_kw (ld_glob I hg hm ?_ hdb)
    refine PySem.W.callWith_K (h₀ := X.base) I.ok.mod.kin hk (thn (e3.run pos pins s σ H _ I h) fun us s1 ⟨vs, H1, I1, r, q⟩ => ⟨I1.kIn, ?_⟩) he hpl
    have hl : us.length = ps.length := by rw [← r.length]; exact G.len _ _ _ _ q
    have b := hb s1 us I1.kIn (by rw [List.append_nil]; exact hl)
    rw [List.append_nil] at b
    refine wpAny_call (codeAny_mono (G.run X.A X.stack s1 H1 ⟨us, []⟩ us vs Q _ hr (hE σ) I1.env0 b r q) fun r s' hq => ?_)
    cases r with
    | error e =>
      obtain ⟨_, _, _, _, _, _, _, _, _, _, _, _, w⟩ := hq
      exact (hE _ _ _ _ w).elim
    | ok fl =>
      cases fl with
      | ret u => exact I1.after hq
      | next => exact False.elim hq
      | brk => exact False.elim hq
      | cont => exact False.elim hq
  refine PE.imp pe fun σ H Q ⟨Z, L, M, R, q⟩ => ?_
  refine tAl_args (r := fun vs H Q => spF X.K X.mg n [] F vs H Q (WE (wx X W0) σ)) _ _ (fun _ _ h => h) (monoP gs) ?_
  refine parts (A := A) (r := fun vs H Q => spF X.K X.mg n [] F vs H Q (WE (wx X W0) σ)) (fun _ _ _ z => z) gs [] H e2 R (PArgs.nil R) ?_
  unfold pCall at q
  cases ev : evP (gs.map (·.2)) (er L) with
  | bad => rw [ev] at q; exact q
  | exc c => rw [ev] at q; exact q
  | ok xs =>
    rw [ev] at q
    intro Bs H1 e1 p1
    simp only [List.nil_append] at p1 ⊢
    have hlen : Bs.length = n := by
      have h1 : xs.length = (gs.map (·.2)).length := by
        have gen : ∀ (fs : List PF) (ys : List LD), evP fs (er L) = .ok ys → ys.length = fs.length := by
          intro fs
          induction fs with
          | nil => intro ys h; cases h; rfl
          | cons f fs ih =>
            intro ys h
            unfold evP at h
            split at h
            · split at h
              · cases h
                rename_i hh
                simp [mkS, finS, bNs, gL1, gL2, gLL2, fI2, tkA, ptA, GS, GL, fPut, ful, l12, l02, DL.D.mut, DL.D.imm, DL.D.imm.immAll, fdOk, fIx, fMul, fAdd, powOk, gLstL, gTupL, DL.D.ty, lvN, szOk, fLen, fListOf, fTupOf, fSl, gSlN, gSlH, gSlL, gSlB, fIsi, fIsiT, isT, DL.D.tyN, DL.D.isX, fInts, DL.D.seqI, fLenSet, fLR, fLR1, gLR2, rgOk, fDict, fAbs, fInt1, gMax2, gMin2, g1S, g2S, fItems, fR1, fR2, bd62, lowE, clr, bakE, kpE, fApp, fIns, fPop, fPopA, fPopI, fClr, fRev, fExt, allTop, fEq, fNe, fNeg, fIsN, DL.D.isNon, DL.D.key, dGet, canE, nrm, cT, sAug_k, ixN, fRvS, fAll, dBls_map, fIsB, fIdx, msk, Function.comp_def, cut_hi, cut_lo, cut_both, ih _ hh]
              · cases h
              · cases h
            · cases h
            · cases h
        exact gen _ _ ev
      rw [← e1, List.length_map] at h1
      rw [h1]; exact hn
    have sm : ∀ {H'}, Fram Bs H1 H' → Same H H' := fun {H'} fr a o ho => fr.1 a o (p1.same a o ho) (Nat.eq_zero_of_not_pos fun z => by
      have := p1.own a z
      rw [ho] at this
      cases this)
    refine ⟨Bs, rfl, hlen, p1.ok, ?_⟩
    rw [e1]
    dsimp only at q
    cases ef : F xs with
    | bad => rw [ef] at q; exact q
    | exc c fin =>
      rw [ef] at q
      exact fun Fs H' _ _ fr _ _ => ⟨c, rfl, rfl, q H' (sm fr)⟩
    | ret x fin =>
      obtain ⟨l, d⟩ := x
      rw [ef] at q
      intro v ns Fs H' _ _ fr ok fm
      refine q v ns H' (p1.res R (sm fr) (ok.rd _ (List.mem_cons_self ..)) fun a => ?_)
      have h1 := ok.sep a
      have h2 := fm a
      have h3 := ok.wr a
      simp only [oL, rL] at h1 h2 h3
      refine ⟨by omega, fun z => ⟨by omega, h3 (by omega), h2.1 (by omega)⟩, fun z => h2.2 (by omega)⟩

def DCalN (P : Program) (w : World) (K : PySem.W.Frag) (mg : Str → Option Value) (base : Heap) (k : Nat) (x : Str) (ps : List Str) (n : Nat) (F : List LD → FR) : Prop :=
  ∃ f fd, FnN P w K mg base k f fd ps (spF K mg n [] F) ∧ mg x = some (.ref f) ∧ PySem.W.keepIn K (.ref f) = true ∧ Binds K fd ps []
theorem p_cN {k n : Nat} {ps : List Str} {F : List LD → FR} {x : Str} {p pos : Pos} {e : Expr} {es : List Expr} {fs : List PF} (C : DCalN X.prog X.w X.K X.mg X.base k x ps n F) (hr : RoomN k X.A) (h : PArgL X W0 A (e :: es) fs) (hg : Gl X x := by rfl) (hn : fs.length = n := by rfl)
    (hdb : (x == ("__debug__" : Str)) = false := by decide) (he : starEach (e :: es) X.env = (false, eval e X.env) :: starEach es X.env := by rfl) (hpl : (backTo pos (starEach es X.env)).any (·.1) = false := by rfl) : DP X W0 A (.Call (.Name x p) (e :: es) [] pos) (pCall F fs) := by
  obtain ⟨f, fd, G, hm, hk, hb⟩ := C
  exact p_callN G hr hg hm hk hb hn h hdb he hpl
end
end DL

/-! DL44: for x in a new list: its things are the body's own -/
namespace DL
open L2 PySem PySem.Spec PyProof.Rows
def srcO (f : EF) : IF' := fun Γ => match f Γ with
  | .ok (l, .lst ds) Γ' => if 2 ≤ l % 10 then .ok (ds.map fun d => (2, d)) Γ' else .bad
  | .ok _ _ => .bad
  | .exc c Γ' => .exc c Γ'
  | .bad => .bad
theorem rds_parts {K : PySem.W.Frag} {H : Hp} : ∀ {vs : List V} {ds : List D} {ns : List Addr}, Rds K H vs ds ns → ∃ nss : List (List Addr), nss.flatten = ns ∧ nss.length = ds.length ∧ ∀ (k : Nat) v d n, vs[k]? = some v → ds[k]? = some d → nss[k]? = some n → Rd K H v d n
  | [], [], _, .nil => ⟨[], rfl, rfl, fun k v d n h => by simp [mkS, finS, bNs, gL1, gL2, gLL2, fI2, tkA, ptA, GS, GL, fPut, ful, l12, l02, DL.D.mut, DL.D.imm, DL.D.imm.immAll, fdOk, fIx, fMul, fAdd, powOk, gLstL, gTupL, DL.D.ty, lvN, szOk, fLen, fListOf, fTupOf, fSl, gSlN, gSlH, gSlL, gSlB, fIsi, fIsiT, isT, DL.D.tyN, DL.D.isX, fInts, DL.D.seqI, fLenSet, fLR, fLR1, gLR2, rgOk, fDict, fAbs, fInt1, gMax2, gMin2, g1S, g2S, fItems, fR1, fR2, bd62, lowE, clr, bakE, kpE, fApp, fIns, fPop, fPopA, fPopI, fClr, fRev, fExt, allTop, fEq, fNe, fNeg, fIsN, DL.D.isNon, DL.D.key, dGet, canE, nrm, cT, sAug_k, ixN, fRvS, fAll, dBls_map, fIsB, fIdx, msk, Function.comp_def, cut_hi, cut_lo, cut_both] at h⟩
  | v :: vs, d :: ds, _, .cons (n := n) h r => by
    obtain ⟨nss, h1, h2, h3⟩ := rds_parts r
    refine ⟨n :: nss, by rw [List.flatten_cons, h1], by simp [mkS, finS, bNs, gL1, gL2, gLL2, fI2, tkA, ptA, GS, GL, fPut, ful, l12, l02, DL.D.mut, DL.D.imm, DL.D.imm.immAll, fdOk, fIx, fMul, fAdd, powOk, gLstL, gTupL, DL.D.ty, lvN, szOk, fLen, fListOf, fTupOf, fSl, gSlN, gSlH, gSlL, gSlB, fIsi, fIsiT, isT, DL.D.tyN, DL.D.isX, fInts, DL.D.seqI, fLenSet, fLR, fLR1, gLR2, rgOk, fDict, fAbs, fInt1, gMax2, gMin2, g1S, g2S, fItems, fR1, fR2, bd62, lowE, clr, bakE, kpE, fApp, fIns, fPop, fPopA, fPopI, fClr, fRev, fExt, allTop, fEq, fNe, fNeg, fIsN, DL.D.isNon, DL.D.key, dGet, canE, nrm, cT, sAug_k, ixN, fRvS, fAll, dBls_map, fIsB, fIdx, msk, Function.comp_def, cut_hi, cut_lo, cut_both, h2], fun k v' d' n' e1 e2 e3 => ?_⟩
    cases k with
    | zero =>
      simp only [List.getElem?_cons_zero, Option.some.injEq] at e1 e2 e3
      subst e1 e2 e3
      exact h
    | succ k =>
      simp only [List.getElem?_cons_succ] at e1 e2 e3
      exact h3 k v' d' n' e1 e2 e3
/-- what is kept of the list, i of its things gone -/
def tmO (K : PySem.W.Frag) (a : Addr) (vs : List V) (ds : List D) (nss : List (List Addr)) (i : Nat) : Tm :=
  ⟨fun b => (a :: (nss.drop i).flatten).count b, fun _ => 0, fun H => H a = some (.lst vs) ∧ ∀ (k : Nat) v d n, i ≤ k → vs[k]? = some v → ds[k]? = some d → nss[k]? = some n → Rd K H v d n⟩
theorem in_drop {nss : List (List Addr)} {i k : Nat} {n : List Addr} (hk : i ≤ k) (e : nss[k]? = some n) {b : Addr} (hb : b ∈ n) : b ∈ (nss.drop i).flatten := by
  refine List.mem_flatten.mpr ⟨n, ?_, hb⟩
  obtain ⟨h, rfl⟩ := List.getElem?_eq_some_iff.mp e
  exact List.mem_drop_iff_getElem.mpr ⟨k - i, by omega, by congr 1; omega⟩
theorem of_drop {nss : List (List Addr)} {i : Nat} {b : Addr} (hb : b ∈ (nss.drop i).flatten) : ∃ (k : Nat) (n : List Addr), i ≤ k ∧ nss[k]? = some n ∧ b ∈ n := by
  obtain ⟨n, hn, h⟩ := List.mem_flatten.mp hb
  obtain ⟨k, hk, rfl⟩ := List.mem_drop_iff_getElem.mp hn
  exact ⟨i + k, _, by omega, List.getElem?_eq_getElem (by omega), h⟩
theorem tmO_stab {K : PySem.W.Frag} {a : Addr} {vs : List V} {ds : List D} {nss : List (List Addr)} (i : Nat) : (tmO K a vs ds nss i).Stab K := fun H H' ⟨h1, h2⟩ t e =>
  ⟨(e a (by show 0 < (a :: (nss.drop i).flatten).count a + 0; simp [mkS, finS, bNs, gL1, gL2, gLL2, fI2, tkA, ptA, GS, GL, fPut, ful, l12, l02, DL.D.mut, DL.D.imm, DL.D.imm.immAll, fdOk, fIx, fMul, fAdd, powOk, gLstL, gTupL, DL.D.ty, lvN, szOk, fLen, fListOf, fTupOf, fSl, gSlN, gSlH, gSlL, gSlB, fIsi, fIsiT, isT, DL.D.tyN, DL.D.isX, fInts, DL.D.seqI, fLenSet, fLR, fLR1, gLR2, rgOk, fDict, fAbs, fInt1, gMax2, gMin2, g1S, g2S, fItems, fR1, fR2, bd62, lowE, clr, bakE, kpE, fApp, fIns, fPop, fPopA, fPopI, fClr, fRev, fExt, allTop, fEq, fNe, fNeg, fIsN, DL.D.isNon, DL.D.key, dGet, canE, nrm, cT, sAug_k, ixN, fRvS, fAll, dBls_map, fIsB, fIdx, msk, Function.comp_def, cut_hi, cut_lo, cut_both])).trans h1, fun k v d n hk e1 e2 e3 => (h2 k v d n hk e1 e2 e3).at t _ _ _ fun b hb => e b (by
    have := List.count_pos_iff.mpr (List.mem_cons_of_mem a (in_drop hk e3 hb))
    show 0 < (a :: (nss.drop i).flatten).count b + 0
    omega)⟩
theorem walk_own {K : PySem.W.Frag} {Z : Zone} {a : Addr} {vs : List V} {ds : List D} {nss : List (List Addr)} (hv : vs.length = ds.length) (hn : nss.length = ds.length) (hz : ∀ b ∈ nss.flatten, Z b) : WalkD K Z (Itl K a) (ds.map fun d => ((2 : Nat), d)) (tmO K a vs ds nss) where
  goes := fun i H hi ⟨h1, _⟩ => ⟨vs, vs[i]'(by rw [hv]; simpa [mkS, finS, bNs, gL1, gL2, gLL2, fI2, tkA, ptA, GS, GL, fPut, ful, l12, l02, DL.D.mut, DL.D.imm, DL.D.imm.immAll, fdOk, fIx, fMul, fAdd, powOk, gLstL, gTupL, DL.D.ty, lvN, szOk, fLen, fListOf, fTupOf, fSl, gSlN, gSlH, gSlL, gSlB, fIsi, fIsiT, isT, DL.D.tyN, DL.D.isX, fInts, DL.D.seqI, fLenSet, fLR, fLR1, gLR2, rgOk, fDict, fAbs, fInt1, gMax2, gMin2, g1S, g2S, fItems, fR1, fR2, bd62, lowE, clr, bakE, kpE, fApp, fIns, fPop, fPopA, fPopI, fClr, fRev, fExt, allTop, fEq, fNe, fNeg, fIsN, DL.D.isNon, DL.D.key, dGet, canE, nrm, cT, sAug_k, ixN, fRvS, fAll, dBls_map, fIsB, fIdx, msk, Function.comp_def, cut_hi, cut_lo, cut_both] using hi), .of h1, by simp [mkS, finS, bNs, gL1, gL2, gLL2, fI2, tkA, ptA, GS, GL, fPut, ful, l12, l02, DL.D.mut, DL.D.imm, DL.D.imm.immAll, fdOk, fIx, fMul, fAdd, powOk, gLstL, gTupL, DL.D.ty, lvN, szOk, fLen, fListOf, fTupOf, fSl, gSlN, gSlH, gSlL, gSlB, fIsi, fIsiT, isT, DL.D.tyN, DL.D.isX, fInts, DL.D.seqI, fLenSet, fLR, fLR1, gLR2, rgOk, fDict, fAbs, fInt1, gMax2, gMin2, g1S, g2S, fItems, fR1, fR2, bd62, lowE, clr, bakE, kpE, fApp, fIns, fPop, fPopA, fPopI, fClr, fRev, fExt, allTop, fEq, fNe, fNeg, fIsN, DL.D.isNon, DL.D.key, dGet, canE, nrm, cT, sAug_k, ixN, fRvS, fAll, dBls_map, fIsB, fIdx, msk, Function.comp_def, cut_hi, cut_lo, cut_both]⟩
  stops := fun H ⟨h1, _⟩ => ⟨vs, .of h1, by simp [mkS, finS, bNs, gL1, gL2, gLL2, fI2, tkA, ptA, GS, GL, fPut, ful, l12, l02, DL.D.mut, DL.D.imm, DL.D.imm.immAll, fdOk, fIx, fMul, fAdd, powOk, gLstL, gTupL, DL.D.ty, lvN, szOk, fLen, fListOf, fTupOf, fSl, gSlN, gSlH, gSlL, gSlB, fIsi, fIsiT, isT, DL.D.tyN, DL.D.isX, fInts, DL.D.seqI, fLenSet, fLR, fLR1, gLR2, rgOk, fDict, fAbs, fInt1, gMax2, gMin2, g1S, g2S, fItems, fR1, fR2, bd62, lowE, clr, bakE, kpE, fApp, fIns, fPop, fPopA, fPopI, fClr, fRev, fExt, allTop, fEq, fNe, fNeg, fIsN, DL.D.isNon, DL.D.key, dGet, canE, nrm, cT, sAug_k, ixN, fRvS, fAll, dBls_map, fIsB, fIdx, msk, Function.comp_def, cut_hi, cut_lo, cut_both, hv]⟩
  stab := fun i => tmO_stab i
  step := fun i x H v H' hx ⟨h1, h2⟩ y => by
    obtain ⟨y1, y2⟩ := y
    subst y1
    rw [List.getElem?_map] at hx
    obtain ⟨d, hd, rfl⟩ := Option.map_eq_some_iff.mp hx
    obtain ⟨hi, ed⟩ := List.getElem?_eq_some_iff.mp hd
    have hin : i < nss.length := by omega
    have ev := y2 vs (.of h1)
    have en : nss[i]? = some nss[i] := List.getElem?_eq_getElem hin
    have e3 : nss.drop i = nss[i] :: nss.drop (i + 1) := by simp [mkS, finS, bNs, gL1, gL2, gLL2, fI2, tkA, ptA, GS, GL, fPut, ful, l12, l02, DL.D.mut, DL.D.imm, DL.D.imm.immAll, fdOk, fIx, fMul, fAdd, powOk, gLstL, gTupL, DL.D.ty, lvN, szOk, fLen, fListOf, fTupOf, fSl, gSlN, gSlH, gSlL, gSlB, fIsi, fIsiT, isT, DL.D.tyN, DL.D.isX, fInts, DL.D.seqI, fLenSet, fLR, fLR1, gLR2, rgOk, fDict, fAbs, fInt1, gMax2, gMin2, g1S, g2S, fItems, fR1, fR2, bd62, lowE, clr, bakE, kpE, fApp, fIns, fPop, fPopA, fPopI, fClr, fRev, fExt, allTop, fEq, fNe, fNeg, fIsN, DL.D.isNon, DL.D.key, dGet, canE, nrm, cT, sAug_k, ixN, fRvS, fAll, dBls_map, fIsB, fIdx, msk, Function.comp_def, cut_hi, cut_lo, cut_both]
    have rd := h2 i v d _ (Nat.le_refl _) ev hd en
    have ct : ∀ b, (a :: (nss.drop i).flatten).count b = (nss[i]).count b + (a :: (nss.drop (i + 1)).flatten).count b := fun b => by
      rw [e3, List.flatten_cons, List.count_cons, List.count_cons, List.count_append]
      omega
    have own : ∀ b, (Sl.mk 2 d v nss[i]).own b = (nss[i]).count b := fun b => by simp [mkS, finS, bNs, gL1, gL2, gLL2, fI2, tkA, ptA, GS, GL, fPut, ful, l12, l02, DL.D.mut, DL.D.imm, DL.D.imm.immAll, fdOk, fIx, fMul, fAdd, powOk, gLstL, gTupL, DL.D.ty, lvN, szOk, fLen, fListOf, fTupOf, fSl, gSlN, gSlH, gSlL, gSlB, fIsi, fIsiT, isT, DL.D.tyN, DL.D.isX, fInts, DL.D.seqI, fLenSet, fLR, fLR1, gLR2, rgOk, fDict, fAbs, fInt1, gMax2, gMin2, g1S, g2S, fItems, fR1, fR2, bd62, lowE, clr, bakE, kpE, fApp, fIns, fPop, fPopA, fPopI, fClr, fRev, fExt, allTop, fEq, fNe, fNeg, fIsN, DL.D.isNon, DL.D.key, dGet, canE, nrm, cT, sAug_k, ixN, fRvS, fAll, dBls_map, fIsB, fIdx, msk, Function.comp_def, cut_hi, cut_lo, cut_both, Sl.own, ownL]
    have rst : ∀ b, (Sl.mk 2 d v nss[i]).rst b = 0 := fun b => by simp [mkS, finS, bNs, gL1, gL2, gLL2, fI2, tkA, ptA, GS, GL, fPut, ful, l12, l02, DL.D.mut, DL.D.imm, DL.D.imm.immAll, fdOk, fIx, fMul, fAdd, powOk, gLstL, gTupL, DL.D.ty, lvN, szOk, fLen, fListOf, fTupOf, fSl, gSlN, gSlH, gSlL, gSlB, fIsi, fIsiT, isT, DL.D.tyN, DL.D.isX, fInts, DL.D.seqI, fLenSet, fLR, fLR1, gLR2, rgOk, fDict, fAbs, fInt1, gMax2, gMin2, g1S, g2S, fItems, fR1, fR2, bd62, lowE, clr, bakE, kpE, fApp, fIns, fPop, fPopA, fPopI, fClr, fRev, fExt, allTop, fEq, fNe, fNeg, fIsN, DL.D.isNon, DL.D.key, dGet, canE, nrm, cT, sAug_k, ixN, fRvS, fAll, dBls_map, fIsB, fIdx, msk, Function.comp_def, cut_hi, cut_lo, cut_both, Sl.rst, rstL]
    refine ⟨Same.refl _, nss[i], rd, fun b hb => hz b (List.mem_flatten.mpr ⟨_, List.getElem_mem hin, hb⟩), ⟨h1, fun k v d n hk => h2 k v d n (by omega)⟩, fun b hb => ?_, fun b => ?_⟩
    · have hb : 0 < (a :: (nss.drop (i + 1)).flatten).count b + 0 := hb
      rcases List.mem_cons.mp (List.count_pos_iff.mp (show 0 < (a :: (nss.drop (i + 1)).flatten).count b by omega)) with hb | hb
      · rw [hb, h1]; exact fun z => nomatch z
      · obtain ⟨k, n, hk, e, hb⟩ := of_drop hb
        obtain ⟨hkn, _⟩ := List.getElem?_eq_some_iff.mp e
        exact (h2 k _ _ n (by omega) (List.getElem?_eq_getElem (by omega)) (List.getElem?_eq_getElem (by omega)) e).dom _ _ _ b hb
    · show (Sl.mk 2 d v nss[i]).own b + (a :: (nss.drop (i + 1)).flatten).count b ≤ (a :: (nss.drop i).flatten).count b ∧ (0 < (Sl.mk 2 d v nss[i]).rst b + 0 → _) ∧ (_ → (Sl.mk 2 d v nss[i]).rst b + 0 = 0)
      rw [own, rst, ct b]
      exact ⟨Nat.le_refl _, fun h => absurd h (by simp [mkS, finS, bNs, gL1, gL2, gLL2, fI2, tkA, ptA, GS, GL, fPut, ful, l12, l02, DL.D.mut, DL.D.imm, DL.D.imm.immAll, fdOk, fIx, fMul, fAdd, powOk, gLstL, gTupL, DL.D.ty, lvN, szOk, fLen, fListOf, fTupOf, fSl, gSlN, gSlH, gSlL, gSlB, fIsi, fIsiT, isT, DL.D.tyN, DL.D.isX, fInts, DL.D.seqI, fLenSet, fLR, fLR1, gLR2, rgOk, fDict, fAbs, fInt1, gMax2, gMin2, g1S, g2S, fItems, fR1, fR2, bd62, lowE, clr, bakE, kpE, fApp, fIns, fPop, fPopA, fPopI, fClr, fRev, fExt, allTop, fEq, fNe, fNeg, fIsN, DL.D.isNon, DL.D.key, dGet, canE, nrm, cT, sAug_k, ixN, fRvS, fAll, dBls_map, fIsB, fIdx, msk, Function.comp_def, cut_hi, cut_lo, cut_both]), fun _ => rfl⟩
section
variable {X : Cx} {W : WW} {tg l : Expr} {f : EF}
theorem di_own (h : DE X W l f) : DI X W tg l (srcO f) := by
  refine ⟨_, pi_seq h, fun σ H R' ⟨Z, L, M, R, q⟩ => ⟨Z, L, M, R, ?_⟩⟩
  unfold srcO at q
  cases ef : f (er L) with
  | bad => rw [ef] at q; exact q
  | exc c Γ' => rw [ef] at q; exact q
  | ok x Γ' =>
    obtain ⟨lv, d⟩ := x
    rw [ef] at q
    cases d with
    | lst ds =>
      dsimp only at q ⊢
      by_cases hl : 2 ≤ lv % 10
      rotate_left
      · rw [if_neg hl] at q; exact q.elim
      rw [if_pos hl] at q
      dsimp only at q
      intro v ns H1 L1 e1 R1 z1
      have rd : Rd X.K H1 v (.lst ds) ns := (R1.tms _ (List.mem_cons_self ..)).1
      cases rd with
      | @lst a vs _ ns0 ha hr =>
        obtain ⟨nss, n1, n2, n3⟩ := rds_parts hr
        refine .inl ⟨a, rfl, ⟨vs, .of ha⟩, q H1 L1 _ (tmO X.K a vs ds nss) e1 ?_ (walk_own hr.length n2 fun b hb => z1 b (List.mem_cons_of_mem _ (by rw [← n1]; exact hb)))⟩
        refine R1.conv (m' := tmO X.K a vs ds nss 0) ⟨ha, fun k v d n _ => n3 k v d n⟩ (tmO_stab 0) fun b => ⟨?_, fun h => absurd (show 0 < 0 from h) (Nat.lt_irrefl 0), fun _ => rfl⟩
        show (a :: (nss.drop 0).flatten).count b ≤ (Sl.mk lv (.lst ds) (.ref a) (a :: ns0)).own b
        rw [List.drop_zero, n1]
        have h1 : (Sl.mk lv (.lst ds) (.ref a) (a :: ns0)).own b + (Sl.mk lv (.lst ds) (.ref a) (a :: ns0)).rst b = (a :: ns0).count b := (Sl.mk lv (.lst ds) (.ref a) (a :: ns0)).tot b
        have h2 : (Sl.mk lv (.lst ds) (.ref a) (a :: ns0)).rst b = 0 := rst_top (d := .lst ds) (v := .ref a) (ns := a :: ns0) hl b
        omega
    | _ => exact q.elim
end
def kSrcO : R LD → R (List LD)
  | .ok (l, .lst ds) Γ' => if 2 ≤ l % 10 then .ok (ds.map fun d => (2, d)) Γ' else .bad
  | .ok _ _ => .bad
  | .exc c Γ' => .exc c Γ'
  | .bad => .bad
section
variable {Γ : Env}
@[simp] theorem srcO_k (f : EF) : srcO f Γ = kSrcO (f Γ) := by unfold srcO kSrcO; rfl
@[simp] theorem kSrcO_ok (l : Nat) (ds : List D) (Γ' : Env) : kSrcO (.ok (l, .lst ds) Γ') = if 2 ≤ l % 10 then .ok (ds.map fun d => (2, d)) Γ' else .bad := rfl
end
end DL

/-! DL45: sorted(set(xs)), xs pairs of ints, fewer than 64 -/
namespace DL
open L2 PySem PySem.Spec PyProof.Rows
section
variable {P : Program} {w : World} {A : Around} {E : Value → Shared → Prop} {s : Shared}
theorem isPair_of {h : Heap} {i j : Int} {b : Addr} (x : IsT P w h [i, j] b) : Srt.IsPair h (.ref b) i j := by
  obtain ⟨o, items, n, ho, hc, hd, hi⟩ := x
  have r := ints_of_items hi
  obtain ⟨its⟩ := items
  cases r with
  | cons k t r =>
    cases r with
    | cons k2 t2 r =>
      cases r with
      | nil => exact ⟨b, o, _, _, n, rfl, ho, hc, hd⟩
theorem sorted_setP {a : Addr} {L : List (Addr × List Int)} {es : Array (Int × Value)} {ep : Nat} {t : SetTable} {Q : Value → Shared → Prop} (R : SetTR P w s.heap a L es ep t) (hh : A.handled = none)
    (k : Value → Int × Int) (hk : ∀ p ∈ L, p.2 = [(k (.ref p.1)).1, (k (.ref p.1)).2])
    (hQ : ∀ s' p (out : List Value) (c : Nat) (L' : List (Addr × List Int)), (∀ b o, s.heap.get? b = some o → s'.heap.get? b = some o) → s'.gens = s.gens → s'.os = s.os → s.heap.objs.size ≤ p →
      s'.heap.get? p = some (seqObj "list" out.toArray c) → out = L'.map (fun q => Value.ref q.1) → L'.Perm L → L'.Pairwise (fun q r => leP (k (.ref q.1)) (k (.ref r.1)) = true) → Q (.ref p) s') :
    wpAny (model P w) A (call (.builtin "sorted") [.ref a]) Q E s := by
  obtain ⟨o, ho, hex, hd⟩ := R.ob
  have hsz := R.size
  have hfew := R.few
  refine Calls.call_function_entry kind_sorted plain_sorted entry_sorted (args_sorted1 _) ?_
  unfold Builtin.«sorted»
  refine wpAny_bind (m := checkCount "sorted" 1 1 _) (wpAny_pure ?_)
  refine wpAny_bind (collect_set (A := A.in1) hh ⟨o, ho, hex.1, hd⟩ R.fits (by unfold scanBound; omega) R.tab.ris R.led fun s1 vs k1 hz g1 o1 pm => ?_)
  have hes : es.toList.map (·.2) = L.map fun q => Value.ref q.1 := by
    rw [R.rows]
    unfold rowsOf
    rw [List.map_map] <;> rfl
  rw [hes] at pm
  have ord : ∀ vs : List Value, (∀ v ∈ vs, ∃ q ∈ L, v = Value.ref q.1) → ∃ L1 : List (Addr × List Int), vs = L1.map (fun q => Value.ref q.1) ∧ ∀ q ∈ L1, q ∈ L := by
    intro vs
    induction vs with
    | nil => intro _; exact ⟨[], rfl, fun q hq => (by cases hq)⟩
    | cons v vs ih =>
      intro hv
      obtain ⟨q, hq, e⟩ := hv v List.mem_cons_self
      obtain ⟨L1, e1, hs⟩ := ih fun u hu => hv u (List.mem_cons_of_mem _ hu)
      refine ⟨q :: L1, by rw [List.map_cons, e, e1], fun r hr => ?_⟩
      rcases List.mem_cons.mp hr with z | z
      · rw [z]; exact hq
      · exact hs r z
  have one : ∀ q ∈ L, ∀ r ∈ L, q.1 = r.1 → q = r := fun q hq r hr e => by
    have a1 := R.tup q hq
    have a2 := R.tup r hr
    rw [e] at a1
    have e2 : q.2 = r.2 := a1.inj a2
    exact Prod.ext e e2
  have perm_of : ∀ L1 : List (Addr × List Int), (∀ q ∈ L1, q ∈ L) → (L1.map (fun q => Value.ref q.1)).Perm (L.map fun q => Value.ref q.1) → L1.Perm L := by
    intro L1 hs pm1
    have nL : L.Nodup := nodup_of_map R.nd
    have nref : (L.map fun q => Value.ref q.1).Nodup := by
      refine List.pairwise_map.mpr (List.Pairwise.imp_of_mem (fun {q r} hq hr hne e => ?_) nL)
      injection e with e
      exact hne (one q hq r hr e)
    have n1 : L1.Nodup := nodup_of_map (pm1.nodup_iff.mpr nref)
    refine (List.perm_ext_iff_of_nodup n1 nL).mpr fun q => ⟨hs q, fun hq => ?_⟩
    have hm : Value.ref q.1 ∈ L1.map (fun q => Value.ref q.1) := pm1.mem_iff.mpr (List.mem_map.mpr ⟨q, hq, rfl⟩)
    obtain ⟨r, hr, e⟩ := List.mem_map.mp hm
    injection e with e
    rw [← one r (hs r hr) q hq e]
    exact hr
  have hvl : vs.length < 64 := by rw [pm.length_eq, List.length_map]; exact hfew
  refine wpAny_bind (wpAny_newList ?_ (by rw [sizeLine_eq]; omega))
  have hoL : (s1.heap.push (seqObj "list" vs.toArray 0)).get? s1.heap.objs.size = some (seqObj "list" vs.toArray 0) := Heap.get?_push_size _ rfl
  have hpair : ∀ v ∈ vs, Srt.IsPair (s1.heap.push (seqObj "list" vs.toArray 0)) v (k v).1 (k v).2 := fun v hv => by
    obtain ⟨q, hq, e⟩ := List.mem_map.mp (pm.mem_iff.mp hv)
    rw [← e]
    have := isT_keep (R.tup q hq) fun b u e => Heap.get?_push_of_some (seqObj "list" vs.toArray 0) (k1 b u e)
    rw [hk q hq] at this
    exact isPair_of this
  refine wpAny_bind (wpAny_holding (wpAny_call_entry slot_list_sort ⟨_, hoL, rfl⟩ entry_list_sort (SrtO.list_sort_ord (s := { s1 with heap := s1.heap.push (seqObj "list" vs.toArray 0) }) (SrtO.swo_lex k) hoL (by rw [sizeLine_eq]; omega) (fun h2 => ?_) fun out hs hb => ⟨_, rfl, ?_⟩) (args_list_sort _)))
  · refine SrtO.pairs_sortableO (by omega) hpair fun o e => ?_
    have e' : some o = some (seqObj "list" vs.toArray 0) := e.symm.trans hoL
    cases e'
    intro c
    exact absurd (Value.type.inj c) (by decide)
  obtain ⟨c, hc⟩ := sortedHeap_at (vs := vs) (out := out.toArray) hoL
  obtain ⟨L', e', hs'⟩ := ord out fun v hv => by
    obtain ⟨q, hq, e⟩ := List.mem_map.mp (pm.mem_iff.mp (hb.perm.mem_iff.mp hv))
    exact ⟨q, hq, e.symm⟩
  have pL : L'.Perm L := perm_of L' hs' (by rw [← e']; exact hb.perm.trans pm)
  have pw : L'.Pairwise (fun q r => leP (k (.ref q.1)) (k (.ref r.1)) = true) := by
    have hs2 : out.Pairwise (fun a b => leP (k a) (k b) = true) := List.Pairwise.imp (fun {a b} h => by unfold leP; rw [Bool.not_eq_true']; exact h) hs
    rw [e'] at hs2
    exact List.pairwise_map.mp hs2
  refine wpAny_pure ⟨_, rfl, hQ _ s1.heap.objs.size out c L' (fun b u e => ?_) g1 o1 hz hc e' pL pw⟩
  have q := k1 b u e
  have hlt := Heap.lt_size q
  show (sortedHeap (s1.heap.push (seqObj "list" vs.toArray 0)) s1.heap.objs.size vs out.toArray).get? b = some u
  rw [sortedHeap_old (Nat.ne_of_lt hlt) (by rw [size_push']; exact Nat.lt_succ_of_lt hlt)]
  exact Heap.get?_push_of_some _ q
end
def rSortSetP (K : PySem.W.Frag) : V → Hp → VK → Prop := fun x H Q => ∃ (l : Addr) (xs : List V) (ps : List (Int × Int)), x = V.ref l ∧ SqL K H l xs ∧ Prs K H xs ps ∧ ps.length < 64 ∧ ∀ ys p, Prs K H ys (sortP (ddP ps)) → H p = none → Q (.ref p) (upd H p (.lst ys))
def rSortSetA (K : PySem.W.Frag) : V → Hp → VK → Prop := fun x H Q => rSortSet K x H Q ∨ rSortSetP K x H Q
section
variable {X : Cx} {W : WW} {A : List Nat} {f : PF} {f' : EF} {pos : Pos} {a : Expr}
open Classical in
theorem pe_sortSetA {ta : TE} {p p2 q : Pos} (hc : X.calm = true) (hu : X.A.units + 64 < cLine) (hg : Gl X "sorted") (hm : X.mg "sorted" = none) (hg2 : Gl X "set") (hm2 : X.mg "set" = none) (ha : PE X a ta)
    (na : starEach [a] X.env = (false, eval a X.env) :: starEach [] X.env := by rfl) : PE X (.Call (.Name "sorted" p) [.Call (.Name "set" p2) [a] [] q] [] pos) (fun σ H Q => ta σ H fun x H1 => rSortSetA X.K x H1 Q) := by
  refine ⟨fun pins s σ H Q I h => ?_⟩
  refine Call_ (ld_blt I hg hm PyProof.Rows.boot_sorted ?_)
  refine PyProof.Rows.callWith_builtin1 (PyProof.Rows.args_cons ?_ rfl) rfl rfl
  refine Call_ (ld_blt I hg2 hm2 PyProof.Rows.boot_set ?_)
  refine PyProof.Rows.callWith_type1 (PyProof.Rows.args_cons (thn (ha.run pins s σ H _ I h) fun v s1 ⟨x, H1, I1, r1, q1⟩ => PyProof.Rows.args_nil ?_) na) na rfl
  rcases q1 with q1 | q1
  · obtain ⟨l, ns, rfl, hq, h1, q1⟩ := q1
    cases r1
    obtain ⟨its, r, pl, hz⟩ := I1.list hq
    refine call_set_lstI ns (I1.ok.hd hc) pl.isList (by simpa [mkS, finS, bNs, gL1, gL2, gLL2, fI2, tkA, ptA, GS, GL, fPut, ful, l12, l02, DL.D.mut, DL.D.imm, DL.D.imm.immAll, fdOk, fIx, fMul, fAdd, powOk, gLstL, gTupL, DL.D.ty, lvN, szOk, fLen, fListOf, fTupOf, fSl, gSlN, gSlH, gSlL, gSlB, fIsi, fIsiT, isT, DL.D.tyN, DL.D.isX, fInts, DL.D.seqI, fLenSet, fLR, fLR1, gLR2, rgOk, fDict, fAbs, fInt1, gMax2, gMin2, g1S, g2S, fItems, fR1, fR2, bd62, lowE, clr, bakE, kpE, fApp, fIns, fPop, fPopA, fPopI, fClr, fRev, fExt, allTop, fEq, fNe, fNeg, fIsN, DL.D.isNon, DL.D.key, dGet, canE, nrm, cT, sAug_k, ixN, fRvS, fAll, dBls_map, fIsB, fIdx, msk, Function.comp_def, cut_hi, cut_lo, cut_both] using r.ints) (by unfold scanBound; omega) fun h' tk c hS hle hk => ?_
    refine PyProof.Rows.args_nil ?_
    have I2 : Inv X pins σ H1 { s1 with heap := h', toks := tk } := I1.kept fun b o e => hk b o e
    refine sorted_set (s := { s1 with heap := h', toks := tk }) hS (I2.ok.hd hc) (by omega) fun s' p out c2 ms k g o hp hg hi hs hm hl => ?_
    have hlen : (ms.map V.int).length ≤ sizeLine := by rw [List.length_map, hl, sizeLine_eq]; omega
    have hn : H1 p = none := I2.hok.fresh hp
    have J : Inv X pins σ (upd H1 p (.lst (ms.map V.int))) s' :=
      I2.call' (ch := []) o (Un.laid k hp hn) (I2.hok.laid k hp ⟨hlen, out.toList, c2, vals_of_ints hi, hg⟩) (by rw [g]; exact I2.bare) (fun _ z => nomatch z)
    have em : ms = sdI ns := sdI_uniq hs fun k => (hm k).trans (by simp [mkS, finS, bNs, gL1, gL2, gLL2, fI2, tkA, ptA, GS, GL, fPut, ful, l12, l02, DL.D.mut, DL.D.imm, DL.D.imm.immAll, fdOk, fIx, fMul, fAdd, powOk, gLstL, gTupL, DL.D.ty, lvN, szOk, fLen, fListOf, fTupOf, fSl, gSlN, gSlH, gSlL, gSlB, fIsi, fIsiT, isT, DL.D.tyN, DL.D.isX, fInts, DL.D.seqI, fLenSet, fLR, fLR1, gLR2, rgOk, fDict, fAbs, fInt1, gMax2, gMin2, g1S, g2S, fItems, fR1, fR2, bd62, lowE, clr, bakE, kpE, fApp, fIns, fPop, fPopA, fPopI, fClr, fRev, fExt, allTop, fEq, fNe, fNeg, fIsN, DL.D.isNon, DL.D.key, dGet, canE, nrm, cT, sAug_k, ixN, fRvS, fAll, dBls_map, fIsB, fIdx, msk, Function.comp_def, cut_hi, cut_lo, cut_both])
    subst em
    exact ⟨.ref p, _, J, rfl, q1 p hn⟩
  · obtain ⟨l, xs, ps, rfl, hq, hx, h1, q1⟩ := q1
    cases r1
    obtain ⟨ks, e1, e2, e3⟩ := prs_ks hx
    subst e1
    obtain ⟨its, rv, pl, hz⟩ := I1.list hq
    have kl : ks.length = ps.length := by have := congrArg List.length e2; simpa [mkS, finS, bNs, gL1, gL2, gLL2, fI2, tkA, ptA, GS, GL, fPut, ful, l12, l02, DL.D.mut, DL.D.imm, DL.D.imm.immAll, fdOk, fIx, fMul, fAdd, powOk, gLstL, gTupL, DL.D.ty, lvN, szOk, fLen, fListOf, fTupOf, fSl, gSlN, gSlH, gSlL, gSlB, fIsi, fIsiT, isT, DL.D.tyN, DL.D.isX, fInts, DL.D.seqI, fLenSet, fLR, fLR1, gLR2, rgOk, fDict, fAbs, fInt1, gMax2, gMin2, g1S, g2S, fItems, fR1, fR2, bd62, lowE, clr, bakE, kpE, fApp, fIns, fPop, fPopA, fPopI, fClr, fRev, fExt, allTop, fEq, fNe, fNeg, fIsN, DL.D.isNon, DL.D.key, dGet, canE, nrm, cT, sAug_k, ixN, fRvS, fAll, dBls_map, fIsB, fIdx, msk, Function.comp_def, cut_hi, cut_lo, cut_both] using this
    refine call_set_tups (P := X.prog) (w := X.w) ks (I1.ok.hd hc) pl.isList (by simpa [mkS, finS, bNs, gL1, gL2, gLL2, fI2, tkA, ptA, GS, GL, fPut, ful, l12, l02, DL.D.mut, DL.D.imm, DL.D.imm.immAll, fdOk, fIx, fMul, fAdd, powOk, gLstL, gTupL, DL.D.ty, lvN, szOk, fLen, fListOf, fTupOf, fSl, gSlN, gSlH, gSlL, gSlB, fIsi, fIsiT, isT, DL.D.tyN, DL.D.isX, fInts, DL.D.seqI, fLenSet, fLR, fLR1, gLR2, rgOk, fDict, fAbs, fInt1, gMax2, gMin2, g1S, g2S, fItems, fR1, fR2, bd62, lowE, clr, bakE, kpE, fApp, fIns, fPop, fPopA, fPopI, fClr, fRev, fExt, allTop, fEq, fNe, fNeg, fIsN, DL.D.isNon, DL.D.key, dGet, canE, nrm, cT, sAug_k, ixN, fRvS, fAll, dBls_map, fIsB, fIdx, msk, Function.comp_def, cut_hi, cut_lo, cut_both] using refs_of_vals rv) (fun p hp => I1.isT (e3 p hp)) (by omega) (by omega) fun h' tk L es ep t R g k => ?_
    refine PyProof.Rows.args_nil ?_
    have I2 : Inv X pins σ H1 { s1 with heap := h', toks := tk } := I1.kept k
    have Lk : ∀ p ∈ L, p ∈ ks := fun p hp => List.mem_of_mem_take (g.sub p hp)
    have L2 : ∀ p ∈ L, ∃ q ∈ ps, p.2 = l2P q := fun p hp => by
      have : p.2 ∈ ks.map (·.2) := List.mem_map.mpr ⟨p, Lk p hp, rfl⟩
      rw [e2] at this
      obtain ⟨q, hq, e⟩ := List.mem_map.mp this
      exact ⟨q, hq, e.symm⟩
    obtain ⟨kf, hk⟩ : ∃ kf : Value → Int × Int, ∀ p ∈ L, p.2 = l2P (kf (.ref p.1)) := by
      refine ⟨fun v => if h : ∃ q : Int × Int, ∃ p ∈ L, v = .ref p.1 ∧ p.2 = l2P q then Classical.choose h else (0, 0), fun p hp => ?_⟩
      obtain ⟨q, _, e⟩ := L2 p hp
      have h : ∃ q : Int × Int, ∃ p' ∈ L, Value.ref p.1 = .ref p'.1 ∧ p'.2 = l2P q := ⟨q, p, hp, rfl, e⟩
      dsimp only
      rw [dif_pos h]
      have g2 := Classical.choose_spec h
      generalize Classical.choose h = z at g2 ⊢
      obtain ⟨p', hp', e', e2'⟩ := g2
      injection e' with e'
      have a1 := R.tup p hp
      have a2 := R.tup p' hp'
      rw [e'] at a1
      rw [← e2']
      exact a1.inj a2
    refine sorted_setP (s := { s1 with heap := h', toks := tk }) R (I2.ok.hd hc) kf hk fun s' p out c L' k' g' o hp hg hout pm pw => ?_
    have few := R.few
    have hlen : (L'.map fun q => V.ref q.1).length ≤ sizeLine := by rw [List.length_map, pm.length_eq, sizeLine_eq]; omega
    have hn : H1 p = none := I2.hok.fresh hp
    have hv : Vals (L'.map fun q => V.ref q.1) out := by rw [hout]; exact vals_of_refs L'
    have J : Inv X pins σ (upd H1 p (.lst (L'.map fun q => V.ref q.1))) s' :=
      I2.call' (ch := []) o (Un.laid k' hp hn) (I2.hok.laid k' hp ⟨hlen, out, c, hv, hg⟩) (by rw [g']; exact I2.bare) (fun _ z => nomatch z)
    refine ⟨.ref p, _, J, rfl, q1 _ p ?_ hn⟩
    -- the order
    have inj : ∀ x y : Int × Int, l2P x = l2P y → x = y := fun x y e => by
      unfold l2P at e
      simp [mkS, finS, bNs, gL1, gL2, gLL2, fI2, tkA, ptA, GS, GL, fPut, ful, l12, l02, DL.D.mut, DL.D.imm, DL.D.imm.immAll, fdOk, fIx, fMul, fAdd, powOk, gLstL, gTupL, DL.D.ty, lvN, szOk, fLen, fListOf, fTupOf, fSl, gSlN, gSlH, gSlL, gSlB, fIsi, fIsiT, isT, DL.D.tyN, DL.D.isX, fInts, DL.D.seqI, fLenSet, fLR, fLR1, gLR2, rgOk, fDict, fAbs, fInt1, gMax2, gMin2, g1S, g2S, fItems, fR1, fR2, bd62, lowE, clr, bakE, kpE, fApp, fIns, fPop, fPopA, fPopI, fClr, fRev, fExt, allTop, fEq, fNe, fNeg, fIsN, DL.D.isNon, DL.D.key, dGet, canE, nrm, cT, sAug_k, ixN, fRvS, fAll, dBls_map, fIsB, fIdx, msk, Function.comp_def, cut_hi, cut_lo, cut_both] at e
      exact Prod.ext e.1 e.2
    have hs : L'.map (fun q => kf (.ref q.1)) = sortP (ddP ps) := by
      refine sortP_uniq ?_ (List.pairwise_map.mpr pw)
      have n1 : (L'.map fun q => kf (.ref q.1)).Nodup := by
        have nd : (L'.map (·.2)).Nodup := (pm.map _).nodup_iff.mpr R.nd
        rw [List.Nodup, List.pairwise_map] at nd ⊢
        refine List.Pairwise.imp_of_mem ?_ nd
        intro a b ha hb hab e
        refine hab ?_
        rw [hk a (pm.mem_iff.mp ha), hk b (pm.mem_iff.mp hb), e]
      refine (List.perm_ext_iff_of_nodup n1 (ddP_nd ps)).mpr fun q => ?_
      rw [ddP_mem]
      constructor
      · intro hq
        obtain ⟨p', hp', rfl⟩ := List.mem_map.mp hq
        obtain ⟨q, hq, e⟩ := L2 p' (pm.mem_iff.mp hp')
        rw [hk p' (pm.mem_iff.mp hp')] at e
        rw [inj _ _ e]
        exact hq
      · intro hq
        have : l2P q ∈ ks.map (·.2) := by rw [e2]; exact List.mem_map.mpr ⟨q, hq, rfl⟩
        obtain ⟨p', hp', e⟩ := List.mem_map.mp this
        have hm := g.all p' (by rw [List.take_length]; exact hp')
        obtain ⟨p2, hp2, e2'⟩ := List.mem_map.mp hm
        refine List.mem_map.mpr ⟨p2, pm.mem_iff.mpr hp2, inj _ _ ?_⟩
        rw [← hk p2 hp2, e2', e]
    rw [← hs]
    have : ∀ M : List (Addr × List Int), (∀ p ∈ M, p ∈ L) → Prs X.K H1 (M.map fun q => V.ref q.1) (M.map fun q => kf (.ref q.1)) := by
      intro M
      induction M with
      | nil => intro _; trivial
      | cons p M ih =>
        intro hM
        have hp := hM p (List.mem_cons_self ..)
        refine ⟨⟨p.1, rfl, ?_⟩, ih fun q hq => hM q (List.mem_cons_of_mem _ hq)⟩
        have := e3 p (Lk p hp)
        rw [hk p hp] at this
        exact this
    exact this L' fun p hp => pm.mem_iff.mp hp
def fSortSetA : LD → Option LD := fun x => match x.2.seqI with
  | some is => if is.length < 64 then some (2, .lst ((sdI is).map .int)) else none
  | none => match x.2 with
    | .lst ds => (match dPrs ds with
      | some ps => if ps.length < 64 then some (2, .lst ((sortP (ddP ps)).map prD)) else none
      | none => none)
    | _ => none
theorem vSortSetA {K : PySem.W.Frag} : VOk K (r1l (rSortSetA K)) (gL1 fSortSetA) := vC1 fun s H Q ok h1 l d hg k => by
  obtain ⟨l1, d1, v1, n1⟩ := s
  dsimp only at *
  unfold fSortSetA at hg
  cases e : d1.seqI with
  | some is =>
    simp only [e] at hg
    by_cases hz : is.length < 64
    · rw [if_pos hz] at hg
      cases hg
      obtain ⟨a, rfl, hs⟩ := seqI_is h1 e
      exact .inl ⟨a, is, rfl, hs, hz, fun p hn => k _ _ _ (same_upd hn) (rd_new hn (rds_ints _)) (res_ints K hn)⟩
    · rw [if_neg hz] at hg; cases hg
  | none =>
    simp only [e] at hg
    cases d1 with
    | lst ds =>
      dsimp only at hg
      cases e1 : dPrs ds with
      | none => rw [e1] at hg; cases hg
      | some ps =>
        rw [e1] at hg
        dsimp only at hg
        by_cases hz : ps.length < 64
        · rw [if_pos hz] at hg
          cases hg
          have e3 := dPrs_is e1
          subst e3
          cases h1 with
          | @lst a0 vs0 _ ns0 ha hr =>
            obtain ⟨g1, rfl⟩ := prs_rds hr
            refine .inr ⟨_, _, ps, rfl, .of ha, g1, hz, fun ys p hy hn => ?_⟩
            refine k _ [p] _ (same_upd hn) (rd_new hn (rds_prs (Same.refl H) hy)) ?_
            have := res_lst (As := [⟨l1, .lst (ps.map prD), .ref a0, [a0]⟩]) (H := H) (H' := upd H p (.lst ys)) hn (rds_prs (Same.refl H) hy) (fun a ha => nomatch ha) (mut_upd trivial)
            rw [lvN, prD_imm, if_pos rfl] at this
            exact this
        · rw [if_neg hz] at hg; cases hg
    | _ => cases hg
theorem p_sortSetA {p p2 q : Pos} (hc : X.calm = true) (hu : X.A.units + 64 < cLine) (hg : Gl X "sorted") (hm : X.mg "sorted" = none) (hg2 : Gl X "set") (hm2 : X.mg "set" = none) (ha : DP X W A a f)
    (na : starEach [a] X.env = (false, eval a X.env) :: starEach [] X.env := by rfl) : DP X W A (.Call (.Name "sorted" p) [.Call (.Name "set" p2) [a] [] q] [] pos) (pApp (gL1 fSortSetA) [f]) :=
  p_app [(A, f)] mem1l vSortSetA (pe_sortSetA hc hu hg hm hg2 hm2 ha na) fun _ _ _ h => h
end
theorem fSortSetA_ints (l : Nat) (ns : List Int) : fSortSetA (l, .lst (ns.map .int)) = if ns.length < 64 then some (2, .lst ((sdI ns).map .int)) else none := by
  unfold fSortSetA
  have e : (D.lst (ns.map .int)).seqI = some ns := dInts_map ns
  rw [show ((l, D.lst (ns.map .int)) : LD).2.seqI = some ns from e]
theorem fSortSetA_prs (l : Nat) {qs : List (Int × Int)} (hl : qs.length < 64) : fSortSetA (l, .lst (qs.map prD)) = some (2, .lst ((sortP (ddP qs)).map prD)) := by
  cases qs with
  | nil =>
    have e1 : sortP (ddP []) = [] := List.mergeSort_nil
    have e2 : sdI [] = [] := List.length_eq_zero_iff.mp (by unfold sdI; rw [(sortI_perm _).length_eq]; rfl)
    have := fSortSetA_ints l []
    rw [e2, List.map_nil] at this
    rw [e1, List.map_nil, this]
    rfl
  | cons q qs =>
    unfold fSortSetA
    rw [show ((l, D.lst ((q :: qs).map prD)) : LD).2.seqI = none from rfl]
    dsimp only
    rw [dPrs_map]
    dsimp only
    rw [if_pos hl]
end DL

namespace LW
open L2 DL PySem PySem.Spec PyProof.Rows
/-! ### the defs over data -/
noncomputable section
def m__law_later : SF := (sLow [0, 1] (sCan [true, true]
  (sRet (toE [0, 1, 0] (pApp gAdd [(pVar 0), (pApp gMulA [(pVar 1), (pApp (gL1 fInt1) [(pApp gGe [(pVar 0), (pC (.int 0))])])])])))))
def F__law_later : List LD → FR := runF 2 2 [] m__law_later
theorem run__law_later {l0 l1 : Nat} {d0 d1 : D} : F__law_later [(l0, d0), (l1, d1)] = outF [] (m__law_later [some (l0 % 10, d0), some (l1 % 10, d1)]) := runF_out rfl rfl
def m__law_beside : SF := (sLow [0, 1] (sCan [true, true, true, true, true, true]
  (sSeq (sAsg (toE [0] (pApp gLen [(pApp gIx [(pVar 0), (pC (.int 0))])])) (bName 2))
  (sSeq (sAsg (toE [1] (pLc [1] (srcP (g1S fItems) [(pApp gIx [(pVar 1), (pC (.int 1))])]) (bUn [4, 5]) pbT (pApp gTupL [(pCall F__law_later [(pVar 4), (pVar 2)]), (pCall F__law_later [(pVar 5), (pVar 2)])]) [4, 5])) (bName 3))
  (sRet (eApp gTupL [(toE [0, 1] (pApp gAdd [(pApp gIx [(pVar 0), (pC (.int 0))]), (pApp gIx [(pVar 1), (pC (.int 0))])])), (toE [0, 3] (pApp (gL1 fSortSetA) [(pApp gAdd [(pApp gIx [(pVar 0), (pC (.int 1))]), (pVar 3)])]))]))))))
def F__law_beside : List LD → FR := runF 2 6 [] m__law_beside
theorem run__law_beside {l0 l1 : Nat} {d0 d1 : D} : F__law_beside [(l0, d0), (l1, d1)] = outF [] (m__law_beside [some (l0 % 10, d0), some (l1 % 10, d1), none, none, none, none]) := runF_out rfl rfl
def m__law_copy : SF := (sLow [0] (sCan [true]
  (sRet (eApp gTupL [(toE [0] (pApp gListOf [(pApp gIx [(pVar 0), (pC (.int 0))])])), (toE [0] (pApp gListOf [(pApp gIx [(pVar 0), (pC (.int 1))])]))]))))
def F__law_copy : List LD → FR := runF 1 1 [] m__law_copy
theorem run__law_copy {l0 : Nat} {d0 : D} : F__law_copy [(l0, d0)] = outF [] (m__law_copy [some (l0 % 10, d0)]) := runF_out rfl rfl
def lb1__law_is_net : SF := (sSeq (sIf (toEB (bOrP (bNotP (pB (pApp (gL1 (fIsi "tuple")) [(pVar 2)]))) (bOrP (pB (pApp (gL1 (fIsi "bool")) [(pApp gIx [(pVar 2), (pC (.int 0))])])) (pB (pApp (gL1 (fIsi "bool")) [(pApp gIx [(pVar 2), (pC (.int 1))])])))))
  (sRet (toE [] (pC (.bl false))))
  sNil)
  (sCan [true, false, false] sNil))
def m__law_is_net : SF := (sLow [0, 1] (sCan [true, true, true]
  (sSeq (sIf (toEB (bOrP (bNotP (pB (pApp (gL1 (fIsi "tuple")) [(pVar 0)]))) (pB (pApp gNe [(pVar 0), (pVar 1)]))))
  (sRet (toE [] (pC (.bl false))))
  sNil)
  (sSeq (sIf (toEB (bOrP (bNotP (pB (pApp (gL1 (fIsi "list")) [(pApp gIx [(pVar 0), (pC (.int 0))])]))) (bNotP (pB (pApp (gL1 (fIsi "list")) [(pApp gIx [(pVar 0), (pC (.int 1))])])))))
  (sRet (toE [] (pC (.bl false))))
  sNil)
  (sSeq (sCan [true, false, false] (sFor (srcE (g1S fItems) [(toE [0] (pApp gIx [(pVar 0), (pC (.int 1))]))]) (bName 2) lb1__law_is_net))
  (sRet (toE [] (pC (.bl true)))))))))
def F__law_is_net : List LD → FR := runF 2 3 [] m__law_is_net
theorem run__law_is_net {l0 l1 : Nat} {d0 d1 : D} : F__law_is_net [(l0, d0), (l1, d1)] = outF [] (m__law_is_net [some (l0 % 10, d0), some (l1 % 10, d1), none]) := runF_out rfl rfl
def m__law_stir : SF := (sLow [0, 1] (sCan [true, true, true]
  (sSeq (sIf (toEB (pB (pApp gGe [(pVar 0), (pApp gPow [(pC (.int 10)), (pC (.int 18))])])))
  (sRet (toE [0, 1] (pApp gMod [(pApp gShr [(pApp gSub [(pVar 0), (pApp gPow [(pC (.int 10)), (pC (.int 18))])]), (pApp gMulA [(pC (.int 28)), (pVar 1)])]), (pApp gPow [(pC (.int 2)), (pC (.int 28))])])))
  sNil)
  (sSeq (sAsg (toE [0, 1] (pApp gMod [(pApp gMulA [(pApp gAdd [(pApp gAdd [(pVar 0), (pApp gMulA [(pC (.int 1013)), (pVar 1)])]), (pC (.int 1))]), (pC (.int 16807))]), (pC (.int 2147483647))])) (bName 2))
  (sSeq (sAsg (toE [2, 2] (pApp gMod [(pApp gMulA [(pVar 2), (pVar 2)]), (pC (.int 2147483629))])) (bName 2))
  (sRet (toE [2] (pApp gFdiv [(pApp gMod [(pApp gMulA [(pVar 2), (pC (.int 39373))]), (pC (.int 2147483587))]), (pC (.int 8))]))))))))
def F__law_stir : List LD → FR := runF 2 3 [] m__law_stir
theorem run__law_stir {l0 l1 : Nat} {d0 d1 : D} : F__law_stir [(l0, d0), (l1, d1)] = outF [] (m__law_stir [some (l0 % 10, d0), some (l1 % 10, d1), none]) := runF_out rfl rfl
def ce1__law_net : EF := (eMeth "list" (GL fPopA) 4 [.inr (toE [0, 1, 11, 4] (pApp gMod [(pCall F__law_stir [(pVar 0), (pApp gAdd [(pApp gAdd [(pVar 1), (pC (.int 1))]), (pVar 11)])]), (pApp gLen [(pVar 4)])]))])
def lb1__law_net : SF := (sSeq (sAsg (toE [7, 9, 5, 10, 0, 1, 8, 10] (pApp gAdd [(pVar 7), (pApp gMulA [(pApp gLstL [(pApp gTupL [(pVar 9), (pApp gIx [(pVar 5), (pVar 10)])])]), (pApp (gL1 fInt1) [(pApp gEq [(pApp gMod [(pCall F__law_stir [(pVar 0), (pApp gAdd [(pApp gAdd [(pApp gAdd [(pVar 1), (pC (.int 30))]), (pApp gMulA [(pC (.int 7)), (pVar 8)])]), (pVar 10)])]), (pC (.int 2))]), (pC (.int 0))])])])])) (bName 7))
  (sCan [true, true, false, true, false, true, true, true, true, true, false, false] sNil))
def lb2__law_net : SF := (sSeq (sAsg (toE [7, 9, 0, 1, 8] (pApp gAdd [(pVar 7), (pApp gMulA [(pApp gLstL [(pApp gTupL [(pApp gNeg [(pC (.int 1))]), (pVar 9)])]), (pApp (gL1 fInt1) [(pApp gGt [(pApp gMod [(pCall F__law_stir [(pVar 0), (pApp gAdd [(pApp gAdd [(pVar 1), (pC (.int 16))]), (pVar 8)])]), (pC (.int 3))]), (pC (.int 0))])])])])) (bName 7))
  (sSeq (sAsg (toE [7, 9, 0, 1, 8] (pApp gAdd [(pVar 7), (pApp gMulA [(pApp gLstL [(pApp gTupL [(pVar 9), (pApp gNeg [(pC (.int 2))])])]), (pApp (gL1 fInt1) [(pApp gGt [(pApp gMod [(pCall F__law_stir [(pVar 0), (pApp gAdd [(pApp gAdd [(pVar 1), (pC (.int 23))]), (pVar 8)])]), (pC (.int 3))]), (pC (.int 0))])])])])) (bName 7))
  (sSeq (sCan [true, true, false, true, false, true, true, true, true, true, false, false] (sFor (srcE gR2 [(toE [8] (pApp gAdd [(pVar 8), (pC (.int 1))])), (toE [3] (pVar 3))]) (bName 10) lb1__law_net))
  (sCan [true, true, false, true, false, true, true, true, false, false, false, false] sNil))))
def m__law_net : SF := (sLow [0, 1, 2] (sCan [true, true, true, true, true, true, true, true, true, true, true, true]
  (sSeq (sAsg (toE [0, 1, 2] (pApp gMod [(pCall F__law_stir [(pVar 0), (pVar 1)]), (pApp gAdd [(pVar 2), (pC (.int 1))])])) (bName 3))
  (sSeq (sAsg (toE [3] (pApp (gL1 fLR1) [(pVar 3)])) (bName 4))
  (sSeq (sAsg (eLc (srcE gR1 [(toE [3] (pVar 3))]) (bName 11) ebT ce1__law_net [11]) (bName 5))
  (sSeq (sAsg (toE [3] (pLc [3] (srcP gR1 [(pVar 3)]) (bName 11) pbT (pApp gIx [(pApp gLstL [(pC (.str "pile")), (pC (.str "line"))]), (pApp gMod [(pCall F__law_stir [(pVar 0), (pApp gAdd [(pApp gAdd [(pVar 1), (pC (.int 8))]), (pVar 11)])]), (pC (.int 2))])]) [11])) (bName 6))
  (sSeq (sAsg (toE [0, 1] (pApp gMulA [(pApp gLstL [(pApp gTupL [(pApp gNeg [(pC (.int 1))]), (pApp gNeg [(pC (.int 2))])])]), (pApp (gL1 fInt1) [(pApp gEq [(pApp gMod [(pCall F__law_stir [(pVar 0), (pApp gAdd [(pVar 1), (pC (.int 15))])]), (pC (.int 4))]), (pC (.int 0))])])])) (bName 7))
  (sSeq (sCan [true, true, false, true, false, true, true, true, false, false, false, false] (sFor (srcE (g1S fEnum) [(toE [5] (pVar 5))]) (bUn [8, 9]) lb2__law_net))
  (sRet (eApp gTupL [(eMove 6), (toE [7] (pApp gSortA [(pVar 7)]))]))))))))))
def F__law_net : List LD → FR := runF 3 12 [] m__law_net
theorem run__law_net {l0 l1 l2 : Nat} {d0 d1 d2 : D} : F__law_net [(l0, d0), (l1, d1), (l2, d2)] = outF [] (m__law_net [some (l0 % 10, d0), some (l1 % 10, d1), some (l2 % 10, d2), none, none, none, none, none, none, none, none, none]) := runF_out rfl rfl
def m_is_way : SF := (sLow [0, 1] (sCan [true, true, true, true]
  (sSeq (sAsg (toE [1] (pVar 1)) (bUn [2, 3]))
  (sRet (toE [2, 3] (pAnd (pChain (fun i j => decide (i ≤ j)) (fun i j => decide (i < j)) (pApp gNeg [(pC (.int 1))]) (pVar 2) (pVar 0)) (pAnd (pOr (pApp gEq [(pVar 3), (pC (.int (-2)))]) (pChain (fun i j => decide (i ≤ j)) (fun i j => decide (i < j)) (pC (.int 0)) (pVar 3) (pVar 0))) (pApp gNe [(pVar 2), (pVar 3)]))))))))
def F_is_way : List LD → FR := runF 2 4 [] m_is_way
theorem run_is_way {l0 l1 : Nat} {d0 d1 : D} : F_is_way [(l0, d0), (l1, d1)] = outF [] (m_is_way [some (l0 % 10, d0), some (l1 % 10, d1), none, none]) := runF_out rfl rfl
def wt1_leads_round : EB := (toEB (pB (pApp gNe [(pApp gLen [(pVar 2)]), (pVar 3)])))
def wb1_leads_round : SF := (sSeq (sAsg (toE [2] (pApp gLen [(pVar 2)])) (bName 3))
  (sSeq (sAsg (toE [1] (pLc [1] (srcP (g1S fItems) [(pVar 1)]) (bUn [6, 7]) (pB (pApp gIn [(pVar 6), (pVar 2)])) (pVar 7) [6, 7])) (bName 4))
  (sSeq (sAsg (toE [2] (pLc [2] (srcP (g1S fItems) [(pVar 2)]) (bName 5) (pB (pApp gIn [(pVar 5), (pVar 4)])) (pVar 5) [5])) (bName 2))
  (sCan [false, true, true, true, false, false, false, false] sNil))))
def m_leads_round : SF := (sLow [0, 1] (sCan [true, true, true, true, true, true, true, true]
  (sSeq (sAsg (toE [0] (pApp (gL1 fLR1) [(pVar 0)])) (bName 2))
  (sSeq (sAsg (toE [] (pApp gNeg [(pC (.int 1))])) (bName 3))
  (sSeq (sCan [false, true, true, true, false, false, false, false] (whileN wt1_leads_round wb1_leads_round 1000))
  (sRet (toE [2] (pApp gNe [(pVar 2), (pApp gLstL [])]))))))))
def F_leads_round : List LD → FR := runF 2 8 [] m_leads_round
theorem run_leads_round {l0 l1 : Nat} {d0 d1 : D} : F_leads_round [(l0, d0), (l1, d1)] = outF [] (m_leads_round [some (l0 % 10, d0), some (l1 % 10, d1), none, none, none, none, none, none]) := runF_out rfl rfl
def m_net_of : SF := (sLow [0, 1] (sCan [true, true, true, true]
  (sSeq (sIf (toEB (pB (pApp gNe [(pLc [0] (srcP (g1S fItems) [(pVar 0)]) (bName 2) (pB (pApp gNotIn [(pVar 2), (pApp gTupL [(pC (.str "pile")), (pC (.str "line"))])])) (pVar 2) [2]), (pApp gLstL [])])))
  (sRaise "NoNet")
  sNil)
  (sSeq (sIf (toEB (pB (pApp gNe [(pLc [1] (srcP (g1S fItems) [(pVar 1)]) (bName 3) (bNotP (pB (pCall F_is_way [(pApp gLen [(pVar 0)]), (pVar 3)]))) (pVar 3) [3]), (pApp gLstL [])])))
  (sRaise "NoNet")
  sNil)
  (sSeq (sIf (toEB (bOrP (pB (pApp gNe [(pApp (gL1 fLenSetA) [(pVar 1)]), (pApp gLen [(pVar 1)])])) (pB (pCall F_leads_round [(pApp gLen [(pVar 0)]), (pVar 1)]))))
  (sRaise "NoNet")
  sNil)
  (sRet (eApp gTupL [(toE [0] (pApp gListOf [(pVar 0)])), (toE [1] (pApp gSortA [(pVar 1)]))])))))))
def F_net_of : List LD → FR := runF 2 4 [] m_net_of
theorem run_net_of {l0 l1 : Nat} {d0 d1 : D} : F_net_of [(l0, d0), (l1, d1)] = outF [] (m_net_of [some (l0 % 10, d0), some (l1 % 10, d1), none, none]) := runF_out rfl rfl
def m_moved_by : SF := (sLow [0] (sCan [true, true]
  (sSeq (sIf (toEB (pB (pApp gLt [(pVar 1), (pC (.int 0))])))
  (sRet (eMove 1))
  sNil)
  (sRet (toE [1, 0] (pApp gAdd [(pVar 1), (pVar 0)]))))))
def F_moved_by : List LD → FR := runF 2 2 [] m_moved_by
theorem run_moved_by {l0 l1 : Nat} {d0 d1 : D} : F_moved_by [(l0, d0), (l1, d1)] = outF [] (m_moved_by [some (l0 % 10, d0), some (l1 % 10, d1)]) := runF_out rfl rfl
def m_ways_moved : SF := (sLow [0, 1] (sCan [true, true, true, true]
  (sRet (toE [0] (pLc [0] (srcP (g1S fItems) [(pApp gIx [(pVar 0), (pC (.int 1))])]) (bUn [2, 3]) pbT (pApp gTupL [(pCall F_moved_by [(pVar 1), (pVar 2)]), (pCall F_moved_by [(pVar 1), (pVar 3)])]) [2, 3])))))
def F_ways_moved : List LD → FR := runF 2 4 [] m_ways_moved
theorem run_ways_moved {l0 l1 : Nat} {d0 d1 : D} : F_ways_moved [(l0, d0), (l1, d1)] = outF [] (m_ways_moved [some (l0 % 10, d0), some (l1 % 10, d1), none, none]) := runF_out rfl rfl
def m_nets_beside : SF := (sLow [0, 1] (sCan [true, true, true, true]
  (sSeq (sAsg (toE [0, 1, 0] (pApp gAdd [(pApp gIx [(pVar 0), (pC (.int 1))]), (pLc [1, 0] (srcP (g1S fItems) [(pCall F_ways_moved [(pVar 1), (pApp gLen [(pApp gIx [(pVar 0), (pC (.int 0))])])])]) (bName 3) (pB (pApp gNotIn [(pVar 3), (pApp gIx [(pVar 0), (pC (.int 1))])])) (pVar 3) [3])])) (bName 2))
  (sRet (toE [0, 1, 2] (pCall F_net_of [(pApp gAdd [(pApp gIx [(pVar 0), (pC (.int 0))]), (pApp gIx [(pVar 1), (pC (.int 0))])]), (pVar 2)]))))))
def F_nets_beside : List LD → FR := runF 2 4 [] m_nets_beside
theorem run_nets_beside {l0 l1 : Nat} {d0 d1 : D} : F_nets_beside [(l0, d0), (l1, d1)] = outF [] (m_nets_beside [some (l0 % 10, d0), some (l1 % 10, d1), none, none]) := runF_out rfl rfl
def lb1_law : SF := (sSeq (sAsg (toE [8, 8] (pCall F_nets_beside [(pApp gIx [(pVar 8), (pC (.int 0))]), (pApp gIx [(pVar 8), (pC (.int 1))])])) (bName 10))
  (sSeq (sIf (toEB (bOrP (bNotP (pB (pCall F__law_is_net [(pVar 10), (pVar 7)]))) (pB (pApp gNe [(pVar 8), (pApp gLstL [(pApp gIx [(pVar 4), (pVar 5)]), (pApp gIx [(pVar 4), (pVar 6)])])]))))
  (sRet (toE [] (pC (.bl false))))
  sNil)
  (sSeq (sExpr (eNest "list" fApp 10 (pC (.int 0)) [.inr (toE [] (pC (.str "pile")))]))
  (sSeq (sExpr (eNest "list" fClr 10 (pC (.int 1)) []))
  (sCan [false, true, false, false, true, true, true, true, true, false, false] sNil)))))
def lb2_law : SF := (sSeq (sAsg (toE [4, 5, 4, 6] (pCall F__law_beside [(pApp gIx [(pVar 4), (pVar 5)]), (pApp gIx [(pVar 4), (pVar 6)])])) (bName 7))
  (sSeq (sAsg (toE [4, 5, 4, 6] (pApp gLstL [(pCall F__law_copy [(pApp gIx [(pVar 4), (pVar 5)])]), (pCall F__law_copy [(pApp gIx [(pVar 4), (pVar 6)])])])) (bName 8))
  (sSeq (sCan [false, true, false, false, true, true, true, true, true, false, false] (sFor (srcE gR1 [(toE [] (pC (.int 2)))]) (bName 9) lb1_law))
  (sCan [false, true, false, false, true, false, false, false, false, false, false] sNil))))
def lb3_law : SF := (sSeq (sAsg (toE [2] (pApp gIx [(pApp gLstL [(pC (.int 3)), (pC (.int 6))]), (pApp (gL1 fInt1) [(pApp gEq [(pApp gMod [(pCall F__law_stir [(pVar 2), (pC (.int 180))]), (pC (.int 4))]), (pC (.int 0))])])])) (bName 3))
  (sSeq (sAsg (toE [2, 3, 2, 3] (pApp gLstL [(pCall F__law_net [(pVar 2), (pC (.int 0)), (pVar 3)]), (pCall F__law_net [(pVar 2), (pC (.int 100)), (pVar 3)])])) (bName 4))
  (sSeq (sCan [false, true, false, false, true, false, false, false, false, false, false] (sFor (srcE (g1S fItems) [(toE [] (pApp gLstL [(pApp gTupL [(pC (.int 0)), (pC (.int 1))]), (pApp gTupL [(pC (.int 1)), (pC (.int 0))]), (pApp gTupL [(pC (.int 0)), (pC (.int 0))])]))]) (bUn [5, 6]) lb2_law))
  (sCan [false, true, false, false, false, false, false, false, false, false, false] sNil))))
def m_law : SF := (sLow [0] (sCan [true, true, true, true, true, true, true, true, true, true, true]
  (sSeq (sAsg (toE [0] (pApp gSlH [(pVar 0), pI (pC (.int 8))])) (bName 1))
  (sSeq (sIf (toEB (pB (pApp gEq [(pVar 1), (pApp gLstL [])])))
  (sAsg (toE [] (pApp gLstL [(pC (.int 0))])) (bName 1))
  sNil)
  (sSeq (sCan [false, true, false, false, false, false, false, false, false, false, false] (sFor (srcE (g1S fItems) [(toE [1] (pVar 1))]) (bName 2) lb3_law))
  (sRet (toE [] (pC (.bl true)))))))))
def F_law : List LD → FR := runF 1 11 [] m_law
theorem run_law {l0 : Nat} {d0 : D} : F_law [(l0, d0)] = outF [] (m_law [some (l0 % 10, d0), none, none, none, none, none, none, none, none, none, none]) := runF_out rfl rfl
end
end LW
namespace LW
open L2 DL PySem PySem.Spec PyProof.Rows
def stirN (cell k : Int) : Int := (cell + 1013 * k + 1) * 16807 % 2147483647
def stir (cell k : Int) : Int := if 1000000000000000000 ≤ cell then (cell - 1000000000000000000) / 2 ^ (28 * k).toNat % 268435456 else stirN cell k * stirN cell k % 2147483629 * 39373 % 2147483587 / 8
theorem stir_bd (cell k : Int) : 0 ≤ stir cell k ∧ stir cell k < 268435456 := by
  unfold stir
  split
  · exact ⟨Int.emod_nonneg _ (by decide), Int.emod_lt_of_pos _ (by decide)⟩
  · have a := Int.emod_nonneg (stirN cell k * stirN cell k % 2147483629 * 39373) (show (2147483587 : Int) ≠ 0 by decide)
    have b := Int.emod_lt_of_pos (stirN cell k * stirN cell k % 2147483629 * 39373) (show (0 : Int) < 2147483587 by decide)
    omega
theorem stir_ok (cell k : Int) (h0 : 0 ≤ k) (l0 l1 : Nat) : F__law_stir [(l0, .int cell), (l1, .int k)] = .ret (2, .int (stir cell k)) [] := by
  rw [run__law_stir]
  unfold stir
  by_cases h : (1000000000000000000 : Int) ≤ cell
  · have h2 : 0 ≤ 28 * k := by omega
    simp [mkS, finS, bNs, gL1, gL2, gLL2, fI2, tkA, ptA, GS, GL, fPut, ful, l12, l02, DL.D.mut, DL.D.imm, DL.D.imm.immAll, fdOk, fIx, fMul, fAdd, powOk, gLstL, gTupL, DL.D.ty, lvN, szOk, fLen, fListOf, fTupOf, fSl, gSlN, gSlH, gSlL, gSlB, fIsi, fIsiT, isT, DL.D.tyN, DL.D.isX, fInts, DL.D.seqI, fLenSet, fLR, fLR1, gLR2, rgOk, fDict, fAbs, fInt1, gMax2, gMin2, g1S, g2S, fItems, fR1, fR2, bd62, lowE, clr, bakE, kpE, fApp, fIns, fPop, fPopA, fPopI, fClr, fRev, fExt, allTop, fEq, fNe, fNeg, fIsN, DL.D.isNon, DL.D.key, dGet, canE, nrm, cT, sAug_k, ixN, fRvS, fAll, dBls_map, fIsB, fIdx, msk, Function.comp_def, cut_hi, cut_lo, cut_both, m__law_stir, h, h2]
  · have m1 : mulOk (stirN cell k) (stirN cell k) = true := mulOk_l (by
      unfold stirN
      have a := Int.emod_nonneg ((cell + 1013 * k + 1) * 16807) (show (2147483647 : Int) ≠ 0 by decide)
      have b := Int.emod_lt_of_pos ((cell + 1013 * k + 1) * 16807) (show (0 : Int) < 2147483647 by decide)
      omega)
    have e : (cell + 1013 * k + 1) * 16807 % 2147483647 = stirN cell k := rfl
    simp [mkS, finS, bNs, gL1, gL2, gLL2, fI2, tkA, ptA, GS, GL, fPut, ful, l12, l02, DL.D.mut, DL.D.imm, DL.D.imm.immAll, fdOk, fIx, fMul, fAdd, powOk, gLstL, gTupL, DL.D.ty, lvN, szOk, fLen, fListOf, fTupOf, fSl, gSlN, gSlH, gSlL, gSlB, fIsi, fIsiT, isT, DL.D.tyN, DL.D.isX, fInts, DL.D.seqI, fLenSet, fLR, fLR1, gLR2, rgOk, fDict, fAbs, fInt1, gMax2, gMin2, g1S, g2S, fItems, fR1, fR2, bd62, lowE, clr, bakE, kpE, fApp, fIns, fPop, fPopA, fPopI, fClr, fRev, fExt, allTop, fEq, fNe, fNeg, fIsN, DL.D.isNon, DL.D.key, dGet, canE, nrm, cT, sAug_k, ixN, fRvS, fAll, dBls_map, fIsB, fIdx, msk, Function.comp_def, cut_hi, cut_lo, cut_both, m__law_stir, h, e, m1]
def upTo (n : Nat) : List Int := (List.range n).map fun k : Nat => (k : Int)
theorem upTo_succ (n : Nat) : upTo (n + 1) = upTo n ++ [(n : Int)] := by simp [mkS, finS, bNs, gL1, gL2, gLL2, fI2, tkA, ptA, GS, GL, fPut, ful, l12, l02, DL.D.mut, DL.D.imm, DL.D.imm.immAll, fdOk, fIx, fMul, fAdd, powOk, gLstL, gTupL, DL.D.ty, lvN, szOk, fLen, fListOf, fTupOf, fSl, gSlN, gSlH, gSlL, gSlB, fIsi, fIsiT, isT, DL.D.tyN, DL.D.isX, fInts, DL.D.seqI, fLenSet, fLR, fLR1, gLR2, rgOk, fDict, fAbs, fInt1, gMax2, gMin2, g1S, g2S, fItems, fR1, fR2, bd62, lowE, clr, bakE, kpE, fApp, fIns, fPop, fPopA, fPopI, fClr, fRev, fExt, allTop, fEq, fNe, fNeg, fIsN, DL.D.isNon, DL.D.key, dGet, canE, nrm, cT, sAug_k, ixN, fRvS, fAll, dBls_map, fIsB, fIdx, msk, Function.comp_def, cut_hi, cut_lo, cut_both, upTo, List.range_succ]
theorem mem_upTo {n : Nat} {x : Int} : x ∈ upTo n ↔ 0 ≤ x ∧ x < n := by
  unfold upTo
  rw [List.mem_map]
  constructor
  · rintro ⟨k, hk, rfl⟩
    have := List.mem_range.mp hk
    omega
  · rintro ⟨h1, h2⟩
    exact ⟨x.toNat, List.mem_range.mpr (by omega), by omega⟩
theorem upTo_nd (n : Nat) : (upTo n).Nodup := by
  unfold upTo
  rw [List.Nodup, List.pairwise_map]
  exact List.nodup_range.imp fun h e => h (by omega)
theorem upTo_len (n : Nat) : (upTo n).length = n := by simp [mkS, finS, bNs, gL1, gL2, gLL2, fI2, tkA, ptA, GS, GL, fPut, ful, l12, l02, DL.D.mut, DL.D.imm, DL.D.imm.immAll, fdOk, fIx, fMul, fAdd, powOk, gLstL, gTupL, DL.D.ty, lvN, szOk, fLen, fListOf, fTupOf, fSl, gSlN, gSlH, gSlL, gSlB, fIsi, fIsiT, isT, DL.D.tyN, DL.D.isX, fInts, DL.D.seqI, fLenSet, fLR, fLR1, gLR2, rgOk, fDict, fAbs, fInt1, gMax2, gMin2, g1S, g2S, fItems, fR1, fR2, bd62, lowE, clr, bakE, kpE, fApp, fIns, fPop, fPopA, fPopI, fClr, fRev, fExt, allTop, fEq, fNe, fNeg, fIsN, DL.D.isNon, DL.D.key, dGet, canE, nrm, cT, sAug_k, ixN, fRvS, fAll, dBls_map, fIsB, fIdx, msk, Function.comp_def, cut_hi, cut_lo, cut_both, upTo]
theorem pop_perm {L : List Int} {k : Nat} (h : k < L.length) : (L[k] :: L.eraseIdx k).Perm L := by
  induction L generalizing k with
  | nil => simp [mkS, finS, bNs, gL1, gL2, gLL2, fI2, tkA, ptA, GS, GL, fPut, ful, l12, l02, DL.D.mut, DL.D.imm, DL.D.imm.immAll, fdOk, fIx, fMul, fAdd, powOk, gLstL, gTupL, DL.D.ty, lvN, szOk, fLen, fListOf, fTupOf, fSl, gSlN, gSlH, gSlL, gSlB, fIsi, fIsiT, isT, DL.D.tyN, DL.D.isX, fInts, DL.D.seqI, fLenSet, fLR, fLR1, gLR2, rgOk, fDict, fAbs, fInt1, gMax2, gMin2, g1S, g2S, fItems, fR1, fR2, bd62, lowE, clr, bakE, kpE, fApp, fIns, fPop, fPopA, fPopI, fClr, fRev, fExt, allTop, fEq, fNe, fNeg, fIsN, DL.D.isNon, DL.D.key, dGet, canE, nrm, cT, sAug_k, ixN, fRvS, fAll, dBls_map, fIsB, fIdx, msk, Function.comp_def, cut_hi, cut_lo, cut_both] at h
  | cons x L ih =>
    cases k with
    | zero => exact .refl _
    | succ k =>
      rw [List.getElem_cons_succ, List.eraseIdx_cons_succ]
      exact (List.Perm.swap x _ _).trans ((ih (by simpa [mkS, finS, bNs, gL1, gL2, gLL2, fI2, tkA, ptA, GS, GL, fPut, ful, l12, l02, DL.D.mut, DL.D.imm, DL.D.imm.immAll, fdOk, fIx, fMul, fAdd, powOk, gLstL, gTupL, DL.D.ty, lvN, szOk, fLen, fListOf, fTupOf, fSl, gSlN, gSlH, gSlL, gSlB, fIsi, fIsiT, isT, DL.D.tyN, DL.D.isX, fInts, DL.D.seqI, fLenSet, fLR, fLR1, gLR2, rgOk, fDict, fAbs, fInt1, gMax2, gMin2, g1S, g2S, fItems, fR1, fR2, bd62, lowE, clr, bakE, kpE, fApp, fIns, fPop, fPopA, fPopI, fClr, fRev, fExt, allTop, fEq, fNe, fNeg, fIsN, DL.D.isNon, DL.D.key, dGet, canE, nrm, cT, sAug_k, ixN, fRvS, fAll, dBls_map, fIsB, fIdx, msk, Function.comp_def, cut_hi, cut_lo, cut_both] using h)).cons x)
theorem erase_map {α β : Type} (f : α → β) (l : List α) : ∀ k : Nat, (l.map f).eraseIdx k = (l.eraseIdx k).map f := by
  induction l with
  | nil => intro k; rfl
  | cons x l ih =>
    intro k
    cases k with
    | zero => rfl
    | succ k => simp [mkS, finS, bNs, gL1, gL2, gLL2, fI2, tkA, ptA, GS, GL, fPut, ful, l12, l02, DL.D.mut, DL.D.imm, DL.D.imm.immAll, fdOk, fIx, fMul, fAdd, powOk, gLstL, gTupL, DL.D.ty, lvN, szOk, fLen, fListOf, fTupOf, fSl, gSlN, gSlH, gSlL, gSlB, fIsi, fIsiT, isT, DL.D.tyN, DL.D.isX, fInts, DL.D.seqI, fLenSet, fLR, fLR1, gLR2, rgOk, fDict, fAbs, fInt1, gMax2, gMin2, g1S, g2S, fItems, fR1, fR2, bd62, lowE, clr, bakE, kpE, fApp, fIns, fPop, fPopA, fPopI, fClr, fRev, fExt, allTop, fEq, fNe, fNeg, fIsN, DL.D.isNon, DL.D.key, dGet, canE, nrm, cT, sAug_k, ixN, fRvS, fAll, dBls_map, fIsB, fIdx, msk, Function.comp_def, cut_hi, cut_lo, cut_both, ih k]
theorem pop_int (L : List Int) (t : Int) (h0 : 0 ≤ t) (h1 : t < L.length) (hs : L.length ≤ 5000) : ∃ (x : Int) (R : List Int), (x :: R).Perm L ∧ R.length + 1 = L.length ∧ fPopI t (L.map .int) = some (some (.int x), .lst (R.map .int)) := by
  have h : t.toNat < L.length := by omega
  have p := pop_perm h
  refine ⟨L[t.toNat], L.eraseIdx t.toNat, p, by have := p.length_eq; simpa [mkS, finS, bNs, gL1, gL2, gLL2, fI2, tkA, ptA, GS, GL, fPut, ful, l12, l02, DL.D.mut, DL.D.imm, DL.D.imm.immAll, fdOk, fIx, fMul, fAdd, powOk, gLstL, gTupL, DL.D.ty, lvN, szOk, fLen, fListOf, fTupOf, fSl, gSlN, gSlH, gSlL, gSlB, fIsi, fIsiT, isT, DL.D.tyN, DL.D.isX, fInts, DL.D.seqI, fLenSet, fLR, fLR1, gLR2, rgOk, fDict, fAbs, fInt1, gMax2, gMin2, g1S, g2S, fItems, fR1, fR2, bd62, lowE, clr, bakE, kpE, fApp, fIns, fPop, fPopA, fPopI, fClr, fRev, fExt, allTop, fEq, fNe, fNeg, fIsN, DL.D.isNon, DL.D.key, dGet, canE, nrm, cT, sAug_k, ixN, fRvS, fAll, dBls_map, fIsB, fIdx, msk, Function.comp_def, cut_hi, cut_lo, cut_both] using this, ?_⟩
  have e1 : t.natAbs < 9223372036854775808 := by omega
  have e2 : seqIndex? t (L.map D.int).length = some t.toNat := by
    unfold seqIndex?
    simp [mkS, finS, bNs, gL1, gL2, gLL2, fI2, tkA, ptA, GS, GL, fPut, ful, l12, l02, DL.D.mut, DL.D.imm, DL.D.imm.immAll, fdOk, fIx, fMul, fAdd, powOk, gLstL, gTupL, DL.D.ty, lvN, szOk, fLen, fListOf, fTupOf, fSl, gSlN, gSlH, gSlL, gSlB, fIsi, fIsiT, isT, DL.D.tyN, DL.D.isX, fInts, DL.D.seqI, fLenSet, fLR, fLR1, gLR2, rgOk, fDict, fAbs, fInt1, gMax2, gMin2, g1S, g2S, fItems, fR1, fR2, bd62, lowE, clr, bakE, kpE, fApp, fIns, fPop, fPopA, fPopI, fClr, fRev, fExt, allTop, fEq, fNe, fNeg, fIsN, DL.D.isNon, DL.D.key, dGet, canE, nrm, cT, sAug_k, ixN, fRvS, fAll, dBls_map, fIsB, fIdx, msk, Function.comp_def, cut_hi, cut_lo, cut_both]
    omega
  unfold fPopI
  rw [decide_eq_true e1, if_pos rfl, e2]
  dsimp only
  rw [List.getElem?_map, List.getElem?_eq_getElem h]
  simp [mkS, finS, bNs, gL1, gL2, gLL2, fI2, tkA, ptA, GS, GL, fPut, ful, l12, l02, DL.D.mut, DL.D.imm, DL.D.imm.immAll, fdOk, fIx, fMul, fAdd, powOk, gLstL, gTupL, DL.D.ty, lvN, szOk, fLen, fListOf, fTupOf, fSl, gSlN, gSlH, gSlL, gSlB, fIsi, fIsiT, isT, DL.D.tyN, DL.D.isX, fInts, DL.D.seqI, fLenSet, fLR, fLR1, gLR2, rgOk, fDict, fAbs, fInt1, gMax2, gMin2, g1S, g2S, fItems, fR1, fR2, bd62, lowE, clr, bakE, kpE, fApp, fIns, fPop, fPopA, fPopI, fClr, fRev, fExt, allTop, fEq, fNe, fNeg, fIsN, DL.D.isNon, DL.D.key, dGet, canE, nrm, cT, sAug_k, ixN, fRvS, fAll, dBls_map, fIsB, fIdx, msk, Function.comp_def, cut_hi, cut_lo, cut_both, erase_map]
end LW

namespace LW
open L2 DL PySem PySem.Spec PyProof.Rows
def lnE (cell : Int) (base most n : Nat) (x4 x5 x6 x7 x11 : Option LD) : DL.Env := [some (2, .int cell), some (2, .int base), some (2, .int most), some (2, .int n), x4, x5, x6, x7, none, none, none, x11]
theorem all_pop (cell : Int) (base most n : Nat) (hn : n ≤ 100) : ∃ o : List Int, o.Perm (upTo n) ∧
    lcL (bName 11) ebT ce1__law_net [11] ((rngD 0 n).map fun d => (0, d)) true [] (lnE cell base most n (some (2, .lst ((upTo n).map .int))) none none none none) =
    .ok (2, .lst (o.map .int)) (lnE cell base most n (some (2, .lst [])) none none none none) := by
  obtain ⟨L, es, h1, o, h2, h3, h4⟩ := lcL_rng (bd := bName 11) (te := ce1__law_net) (vs := [11]) (fun L : List Int => lnE cell base most n (some (2, .lst (L.map .int))) none none none none)
    (fun k L es => ∃ o : List Int, es = o.map .int ∧ (o ++ L).Perm (upTo n) ∧ o.length = k) (lo := 0) (n := n) (s := upTo n) ⟨[], rfl, .refl _, rfl⟩ fun i L es hi ⟨o, g1, g2, g3⟩ => by
    have ll : L.length = n - i := by
      have := g2.length_eq
      rw [List.length_append, upTo_len] at this
      omega
    have st := stir_ok cell ((base : Int) + 1 + i) (by omega)
    obtain ⟨t, ht⟩ : ∃ t, stir cell ((base : Int) + 1 + i) % (L.length : Int) = t := ⟨_, rfl⟩
    have t0 := Int.emod_nonneg (stir cell ((base : Int) + 1 + i)) (show (L.length : Int) ≠ 0 by omega)
    have t1 := Int.emod_lt_of_pos (stir cell ((base : Int) + 1 + i)) (show (0 : Int) < (L.length : Int) by omega)
    rw [ht] at t0 t1
    obtain ⟨x, R, pe, rl, hp⟩ := pop_int L t t0 t1 (by omega)
    refine ⟨_, rfl, 2, .int x, lnE cell base most n (some (2, .lst (R.map .int))) none none none (some (0, .int (0 + (i : Int)))), R, ?_, rfl, rfl, o ++ [x], by rw [g1]; simp, ?_, by simp [mkS, finS, bNs, gL1, gL2, gLL2, fI2, tkA, ptA, GS, GL, fPut, ful, l12, l02, DL.D.mut, DL.D.imm, DL.D.imm.immAll, fdOk, fIx, fMul, fAdd, powOk, gLstL, gTupL, DL.D.ty, lvN, szOk, fLen, fListOf, fTupOf, fSl, gSlN, gSlH, gSlL, gSlB, fIsi, fIsiT, isT, DL.D.tyN, DL.D.isX, fInts, DL.D.seqI, fLenSet, fLR, fLR1, gLR2, rgOk, fDict, fAbs, fInt1, gMax2, gMin2, g1S, g2S, fItems, fR1, fR2, bd62, lowE, clr, bakE, kpE, fApp, fIns, fPop, fPopA, fPopI, fClr, fRev, fExt, allTop, fEq, fNe, fNeg, fIsN, DL.D.isNon, DL.D.key, dGet, canE, nrm, cT, sAug_k, ixN, fRvS, fAll, dBls_map, fIsB, fIdx, msk, Function.comp_def, cut_hi, cut_lo, cut_both, g3]⟩
    · have z : L.length < 4611686018427387904 := by omega
      have z2 : ¬ (L.length : Int) = 0 := by omega
      have z3 : ¬ L = [] := fun h => by rw [h] at z2; exact z2 rfl
      unfold lnE
      have z4 : 0 < L.length := by omega
      simp [mkS, finS, bNs, gL1, gL2, gLL2, fI2, tkA, ptA, GS, GL, fPut, ful, l12, l02, DL.D.mut, DL.D.imm, DL.D.imm.immAll, fdOk, fIx, fMul, fAdd, powOk, gLstL, gTupL, DL.D.ty, lvN, szOk, fLen, fListOf, fTupOf, fSl, gSlN, gSlH, gSlL, gSlB, fIsi, fIsiT, isT, DL.D.tyN, DL.D.isX, fInts, DL.D.seqI, fLenSet, fLR, fLR1, gLR2, rgOk, fDict, fAbs, fInt1, gMax2, gMin2, g1S, g2S, fItems, fR1, fR2, bd62, lowE, clr, bakE, kpE, fApp, fIns, fPop, fPopA, fClr, fRev, fExt, allTop, fEq, fNe, fNeg, fIsN, DL.D.isNon, DL.D.key, dGet, canE, nrm, cT, sAug_k, ixN, fRvS, fAll, dBls_map, fIsB, fIdx, msk, Function.comp_def, cut_hi, cut_lo, cut_both, ce1__law_net, st, ht, hp, z, z2, z3, z4]
    · rw [List.append_assoc]
      exact (List.Perm.append_left o pe).trans g2
  subst h2
  have hl : L = [] := by
    have := h3.length_eq
    rw [List.length_append, upTo_len] at this
    exact List.length_eq_zero_iff.mp (by omega)
  subst hl
  rw [List.append_nil] at h3
  exact ⟨o, h3, h1⟩
end LW

namespace LW
open L2 DL PySem PySem.Spec PyProof.Rows
theorem prD_imm (W : List (Int × Int)) : D.imm.immAll (W.map DL.prD) = true := by
  induction W with
  | nil => rfl
  | cons q W ih => simp only [List.map_cons, D.imm.immAll, DL.prD, D.imm, ih]; rfl
def lwE (cell : Int) (base most n : Nat) (o : List Int) (S : List D) (l : Nat) (W : List (Int × Int)) (x8 x9 x10 : Option LD) : DL.Env := [some (2, .int cell), some (2, .int base), none, some (2, .int n), none, some (0, .lst (o.map .int)), some (2, .lst S), some (l, .lst (W.map DL.prD)), x8, x9, x10, none]
theorem in_turn (cell : Int) (base most n : Nat) (o : List Int) (ho : o.length = n) (S : List D) (W : List (Int × Int)) (hW : W.length ≤ 100000) (i j : Nat) (hj : j < n) (a : Int) : ∃ b : Bool,
    lb1__law_net (lwE cell base most n o S 2 W (some (2, .int i)) (some (2, .int a)) (some (0, .int j))) = .nx (lwE cell base most n o S 2 (W ++ if b then [(a, nth 0 o j)] else []) (some (2, .int i)) (some (2, .int a)) none) := by
  have e := get_lt o 0 (show j < o.length by omega)
  have z : W.length ≤ 16777215 := by omega
  have z2 : W.length ≤ 16777216 := by omega
  have st := stir_ok cell ((base : Int) + 30 + 7 * i + j) (by omega)
  have im := prD_imm W
  unfold lwE
  by_cases c : stir cell ((base : Int) + 30 + 7 * i + j) % 2 = 0
  · refine ⟨true, ?_⟩
    simp [mkS, finS, bNs, gL1, gL2, gLL2, fI2, tkA, ptA, GS, GL, fPut, ful, l12, l02, DL.D.mut, DL.D.imm, DL.D.imm.immAll, fdOk, fIx, fMul, fAdd, powOk, gLstL, gTupL, DL.D.ty, lvN, szOk, fLen, fListOf, fTupOf, fSl, gSlN, gSlH, gSlL, gSlB, fIsi, fIsiT, isT, DL.D.tyN, DL.D.isX, fInts, DL.D.seqI, fLenSet, fLR, fLR1, gLR2, rgOk, fDict, fAbs, fInt1, gMax2, gMin2, g1S, g2S, fItems, fR1, fR2, bd62, lowE, clr, bakE, kpE, fApp, fIns, fPop, fPopA, fPopI, fClr, fRev, fExt, allTop, fEq, fNe, fNeg, fIsN, DL.D.isNon, DL.D.key, dGet, canE, nrm, cT, sAug_k, ixN, fRvS, fAll, dBls_map, fIsB, fIdx, msk, Function.comp_def, cut_hi, cut_lo, cut_both, lb1__law_net, e, st, c, z, z2, DL.prD, im]
  · refine ⟨false, ?_⟩
    simp [mkS, finS, bNs, gL1, gL2, gLL2, fI2, tkA, ptA, GS, GL, fPut, ful, l12, l02, DL.D.mut, DL.D.imm, DL.D.imm.immAll, fdOk, fIx, fMul, fAdd, powOk, gLstL, gTupL, DL.D.ty, lvN, szOk, fLen, fListOf, fTupOf, fSl, gSlN, gSlH, gSlL, gSlB, fIsi, fIsiT, isT, DL.D.tyN, DL.D.isX, fInts, DL.D.seqI, fLenSet, fLR, fLR1, gLR2, rgOk, fDict, fAbs, fInt1, gMax2, gMin2, g1S, g2S, fItems, fR1, fR2, bd62, lowE, clr, bakE, kpE, fApp, fIns, fPop, fPopA, fPopI, fClr, fRev, fExt, allTop, fEq, fNe, fNeg, fIsN, DL.D.isNon, DL.D.key, dGet, canE, nrm, cT, sAug_k, ixN, fRvS, fAll, dBls_map, fIsB, fIdx, msk, Function.comp_def, cut_hi, cut_lo, cut_both, lb1__law_net, e, st, c, z, z2, im]
def edge (p : List Int) (k j : Nat) : Int × Int := (nth 0 p k, nth 0 p j)
def edgesOf (p : List Int) (n k : Nat) : List (Int × Int) := (List.range (n - (k + 1))).map fun j => edge p k (k + 1 + j)
theorem in_loop (cell : Int) (base most n : Nat) (hn : n ≤ 100) (o : List Int) (ho : o.length = n) (S : List D) (W : List (Int × Int)) (hW : W.length ≤ 50000) (i : Nat) (hi : i < n) : ∃ E : List (Int × Int), E.Sublist (edgesOf o n i) ∧
    forL (bName 10) lb1__law_net ((rngD ((i : Int) + 1) (n - (i + 1))).map fun d => (0, d)) (lwE cell base most n o S 2 W (some (2, .int i)) (some (2, .int (nth 0 o i))) none) = .nx (lwE cell base most n o S 2 (W ++ E) (some (2, .int i)) (some (2, .int (nth 0 o i))) none) := by
  obtain ⟨E, h1, h2, _⟩ := forL_rng (bd := bName 10) (f := lb1__law_net) (fun E : List (Int × Int) => lwE cell base most n o S 2 (W ++ E) (some (2, .int i)) (some (2, .int (nth 0 o i))) none)
    (fun k E => E.Sublist ((List.range k).map fun j => edge o i (i + 1 + j)) ∧ E.length ≤ k) (lo := (i : Int) + 1) (n := n - (i + 1)) (s := []) ⟨by simp, Nat.le_refl _⟩ fun k E hk ⟨g1, g2⟩ => by
    obtain ⟨b, h⟩ := in_turn cell base most n o ho S (W ++ E) (by simp [mkS, finS, bNs, gL1, gL2, gLL2, fI2, tkA, ptA, GS, GL, fPut, ful, l12, l02, DL.D.mut, DL.D.imm, DL.D.imm.immAll, fdOk, fIx, fMul, fAdd, powOk, gLstL, gTupL, DL.D.ty, lvN, szOk, fLen, fListOf, fTupOf, fSl, gSlN, gSlH, gSlL, gSlB, fIsi, fIsiT, isT, DL.D.tyN, DL.D.isX, fInts, DL.D.seqI, fLenSet, fLR, fLR1, gLR2, rgOk, fDict, fAbs, fInt1, gMax2, gMin2, g1S, g2S, fItems, fR1, fR2, bd62, lowE, clr, bakE, kpE, fApp, fIns, fPop, fPopA, fPopI, fClr, fRev, fExt, allTop, fEq, fNe, fNeg, fIsN, DL.D.isNon, DL.D.key, dGet, canE, nrm, cT, sAug_k, ixN, fRvS, fAll, dBls_map, fIsB, fIdx, msk, Function.comp_def, cut_hi, cut_lo, cut_both]; omega) i (i + 1 + k) (by omega) (nth 0 o i)
    refine ⟨_, rfl, E ++ (if b then [(nth 0 o i, nth 0 o (i + 1 + k))] else []), .inl ?_, ?_, ?_⟩
    · rw [show (i : Int) + 1 + (k : Int) = ((i + 1 + k : Nat) : Int) by omega, ← List.append_assoc]
      exact h
    · rw [List.range_succ, List.map_append]
      refine g1.append ?_
      cases b
      · simp [mkS, finS, bNs, gL1, gL2, gLL2, fI2, tkA, ptA, GS, GL, fPut, ful, l12, l02, DL.D.mut, DL.D.imm, DL.D.imm.immAll, fdOk, fIx, fMul, fAdd, powOk, gLstL, gTupL, DL.D.ty, lvN, szOk, fLen, fListOf, fTupOf, fSl, gSlN, gSlH, gSlL, gSlB, fIsi, fIsiT, isT, DL.D.tyN, DL.D.isX, fInts, DL.D.seqI, fLenSet, fLR, fLR1, gLR2, rgOk, fDict, fAbs, fInt1, gMax2, gMin2, g1S, g2S, fItems, fR1, fR2, bd62, lowE, clr, bakE, kpE, fApp, fIns, fPop, fPopA, fPopI, fClr, fRev, fExt, allTop, fEq, fNe, fNeg, fIsN, DL.D.isNon, DL.D.key, dGet, canE, nrm, cT, sAug_k, ixN, fRvS, fAll, dBls_map, fIsB, fIdx, msk, Function.comp_def, cut_hi, cut_lo, cut_both]
      · simp [mkS, finS, bNs, gL1, gL2, gLL2, fI2, tkA, ptA, GS, GL, fPut, ful, l12, l02, DL.D.mut, DL.D.imm, DL.D.imm.immAll, fdOk, fIx, fMul, fAdd, powOk, gLstL, gTupL, DL.D.ty, lvN, szOk, fLen, fListOf, fTupOf, fSl, gSlN, gSlH, gSlL, gSlB, fIsi, fIsiT, isT, DL.D.tyN, DL.D.isX, fInts, DL.D.seqI, fLenSet, fLR, fLR1, gLR2, rgOk, fDict, fAbs, fInt1, gMax2, gMin2, g1S, g2S, fItems, fR1, fR2, bd62, lowE, clr, bakE, kpE, fApp, fIns, fPop, fPopA, fPopI, fClr, fRev, fExt, allTop, fEq, fNe, fNeg, fIsN, DL.D.isNon, DL.D.key, dGet, canE, nrm, cT, sAug_k, ixN, fRvS, fAll, dBls_map, fIsB, fIdx, msk, Function.comp_def, cut_hi, cut_lo, cut_both, edge]
    · rw [List.length_append]
      cases b <;> simp [mkS, finS, bNs, gL1, gL2, gLL2, fI2, tkA, ptA, GS, GL, fPut, ful, l12, l02, DL.D.mut, DL.D.imm, DL.D.imm.immAll, fdOk, fIx, fMul, fAdd, powOk, gLstL, gTupL, DL.D.ty, lvN, szOk, fLen, fListOf, fTupOf, fSl, gSlN, gSlH, gSlL, gSlB, fIsi, fIsiT, isT, DL.D.tyN, DL.D.isX, fInts, DL.D.seqI, fLenSet, fLR, fLR1, gLR2, rgOk, fDict, fAbs, fInt1, gMax2, gMin2, g1S, g2S, fItems, fR1, fR2, bd62, lowE, clr, bakE, kpE, fApp, fIns, fPop, fPopA, fPopI, fClr, fRev, fExt, allTop, fEq, fNe, fNeg, fIsN, DL.D.isNon, DL.D.key, dGet, canE, nrm, cT, sAug_k, ixN, fRvS, fAll, dBls_map, fIsB, fIdx, msk, Function.comp_def, cut_hi, cut_lo, cut_both] <;> omega
  refine ⟨E, h2, ?_⟩
  rw [List.append_nil] at h1
  exact h1
def partOf (o : List Int) (n i : Nat) : List (Int × Int) := (-1, nth 0 o i) :: (nth 0 o i, -2) :: edgesOf o n i
theorem out_turn (cell : Int) (base most n : Nat) (hn : n ≤ 100) (o : List Int) (ho : o.length = n) (S : List D) (W : List (Int × Int)) (hW : W.length ≤ 40000) (i : Nat) (hi : i < n) : ∃ E : List (Int × Int), E.Sublist (partOf o n i) ∧
    lb2__law_net (lwE cell base most n o S 2 W (some (0, .int i)) (some (0, .int (nth 0 o i))) none) = .nx (lwE cell base most n o S 2 (W ++ E) none none none) := by
  have st1 := stir_ok cell ((base : Int) + 16 + i) (by omega)
  have st2 := stir_ok cell ((base : Int) + 23 + i) (by omega)
  obtain ⟨A, hA⟩ : ∃ A : List (Int × Int), (if 0 < stir cell ((base : Int) + 16 + i) % 3 then [((-1 : Int), nth 0 o i)] else []) = A := ⟨_, rfl⟩
  obtain ⟨B, hB⟩ : ∃ B : List (Int × Int), (if 0 < stir cell ((base : Int) + 23 + i) % 3 then [(nth 0 o i, (-2 : Int))] else []) = B := ⟨_, rfl⟩
  have la : A.length ≤ 1 := by rw [← hA]; split <;> simp [mkS, finS, bNs, gL1, gL2, gLL2, fI2, tkA, ptA, GS, GL, fPut, ful, l12, l02, DL.D.mut, DL.D.imm, DL.D.imm.immAll, fdOk, fIx, fMul, fAdd, powOk, gLstL, gTupL, DL.D.ty, lvN, szOk, fLen, fListOf, fTupOf, fSl, gSlN, gSlH, gSlL, gSlB, fIsi, fIsiT, isT, DL.D.tyN, DL.D.isX, fInts, DL.D.seqI, fLenSet, fLR, fLR1, gLR2, rgOk, fDict, fAbs, fInt1, gMax2, gMin2, g1S, g2S, fItems, fR1, fR2, bd62, lowE, clr, bakE, kpE, fApp, fIns, fPop, fPopA, fPopI, fClr, fRev, fExt, allTop, fEq, fNe, fNeg, fIsN, DL.D.isNon, DL.D.key, dGet, canE, nrm, cT, sAug_k, ixN, fRvS, fAll, dBls_map, fIsB, fIdx, msk, Function.comp_def, cut_hi, cut_lo, cut_both]
  have lb : B.length ≤ 1 := by rw [← hB]; split <;> simp [mkS, finS, bNs, gL1, gL2, gLL2, fI2, tkA, ptA, GS, GL, fPut, ful, l12, l02, DL.D.mut, DL.D.imm, DL.D.imm.immAll, fdOk, fIx, fMul, fAdd, powOk, gLstL, gTupL, DL.D.ty, lvN, szOk, fLen, fListOf, fTupOf, fSl, gSlN, gSlH, gSlL, gSlB, fIsi, fIsiT, isT, DL.D.tyN, DL.D.isX, fInts, DL.D.seqI, fLenSet, fLR, fLR1, gLR2, rgOk, fDict, fAbs, fInt1, gMax2, gMin2, g1S, g2S, fItems, fR1, fR2, bd62, lowE, clr, bakE, kpE, fApp, fIns, fPop, fPopA, fPopI, fClr, fRev, fExt, allTop, fEq, fNe, fNeg, fIsN, DL.D.isNon, DL.D.key, dGet, canE, nrm, cT, sAug_k, ixN, fRvS, fAll, dBls_map, fIsB, fIdx, msk, Function.comp_def, cut_hi, cut_lo, cut_both]
  obtain ⟨E, h1, h2⟩ := in_loop cell base most n hn o ho S (W ++ A ++ B) (by simp [mkS, finS, bNs, gL1, gL2, gLL2, fI2, tkA, ptA, GS, GL, fPut, ful, l12, l02, DL.D.mut, DL.D.imm, DL.D.imm.immAll, fdOk, fIx, fMul, fAdd, powOk, gLstL, gTupL, DL.D.ty, lvN, szOk, fLen, fListOf, fTupOf, fSl, gSlN, gSlH, gSlL, gSlB, fIsi, fIsiT, isT, DL.D.tyN, DL.D.isX, fInts, DL.D.seqI, fLenSet, fLR, fLR1, gLR2, rgOk, fDict, fAbs, fInt1, gMax2, gMin2, g1S, g2S, fItems, fR1, fR2, bd62, lowE, clr, bakE, kpE, fApp, fIns, fPop, fPopA, fPopI, fClr, fRev, fExt, allTop, fEq, fNe, fNeg, fIsN, DL.D.isNon, DL.D.key, dGet, canE, nrm, cT, sAug_k, ixN, fRvS, fAll, dBls_map, fIsB, fIdx, msk, Function.comp_def, cut_hi, cut_lo, cut_both]; omega) i hi
  refine ⟨A ++ (B ++ E), ?_, ?_⟩
  · unfold partOf
    have sa : A.Sublist [((-1 : Int), nth 0 o i)] := by rw [← hA]; split <;> simp [mkS, finS, bNs, gL1, gL2, gLL2, fI2, tkA, ptA, GS, GL, fPut, ful, l12, l02, DL.D.mut, DL.D.imm, DL.D.imm.immAll, fdOk, fIx, fMul, fAdd, powOk, gLstL, gTupL, DL.D.ty, lvN, szOk, fLen, fListOf, fTupOf, fSl, gSlN, gSlH, gSlL, gSlB, fIsi, fIsiT, isT, DL.D.tyN, DL.D.isX, fInts, DL.D.seqI, fLenSet, fLR, fLR1, gLR2, rgOk, fDict, fAbs, fInt1, gMax2, gMin2, g1S, g2S, fItems, fR1, fR2, bd62, lowE, clr, bakE, kpE, fApp, fIns, fPop, fPopA, fPopI, fClr, fRev, fExt, allTop, fEq, fNe, fNeg, fIsN, DL.D.isNon, DL.D.key, dGet, canE, nrm, cT, sAug_k, ixN, fRvS, fAll, dBls_map, fIsB, fIdx, msk, Function.comp_def, cut_hi, cut_lo, cut_both]
    have sb : B.Sublist [(nth 0 o i, (-2 : Int))] := by rw [← hB]; split <;> simp [mkS, finS, bNs, gL1, gL2, gLL2, fI2, tkA, ptA, GS, GL, fPut, ful, l12, l02, DL.D.mut, DL.D.imm, DL.D.imm.immAll, fdOk, fIx, fMul, fAdd, powOk, gLstL, gTupL, DL.D.ty, lvN, szOk, fLen, fListOf, fTupOf, fSl, gSlN, gSlH, gSlL, gSlB, fIsi, fIsiT, isT, DL.D.tyN, DL.D.isX, fInts, DL.D.seqI, fLenSet, fLR, fLR1, gLR2, rgOk, fDict, fAbs, fInt1, gMax2, gMin2, g1S, g2S, fItems, fR1, fR2, bd62, lowE, clr, bakE, kpE, fApp, fIns, fPop, fPopA, fPopI, fClr, fRev, fExt, allTop, fEq, fNe, fNeg, fIsN, DL.D.isNon, DL.D.key, dGet, canE, nrm, cT, sAug_k, ixN, fRvS, fAll, dBls_map, fIsB, fIdx, msk, Function.comp_def, cut_hi, cut_lo, cut_both]
    exact sa.append (sb.append h1)
  · have z : W.length ≤ 16777215 := by omega
    have z2 : W.length ≤ 16777216 := by omega
    have z3 : W.length + 1 ≤ 16777216 := by omega
    have z4 : W.length + 1 ≤ 16777215 := by omega
    have z5 : W.length ≤ 16777214 := by omega
    have z6 : n < 4611686018427387904 := by omega
    have z7 : ((i : Int) + 1).natAbs < 4611686018427387904 := by omega
    have z8 : ((n : Int) - ((i : Int) + 1)).toNat = n - (i + 1) := by omega
    have im := prD_imm W
    have im2 : ∀ V : List (Int × Int), D.imm.immAll (V.map DL.prD) = true := prD_imm
    by_cases c1 : 0 < stir cell ((base : Int) + 16 + i) % 3
    all_goals by_cases c2 : 0 < stir cell ((base : Int) + 23 + i) % 3
    all_goals
      first | rw [if_pos c1] at hA | rw [if_neg c1] at hA
      first | rw [if_pos c2] at hB | rw [if_neg c2] at hB
      subst hA
      subst hB
      unfold lwE at h2 ⊢
      simp only [List.map_append, List.map_cons, List.map_nil, DL.prD, List.append_assoc, List.cons_append, List.nil_append, List.append_nil] at h2
      simp [mkS, finS, bNs, gL1, gL2, gLL2, fI2, tkA, ptA, GS, GL, fPut, ful, l12, l02, DL.D.mut, DL.D.imm, DL.D.imm.immAll, fdOk, fIx, fMul, fAdd, powOk, gLstL, gTupL, DL.D.ty, lvN, szOk, fLen, fListOf, fTupOf, fSl, gSlN, gSlH, gSlL, gSlB, fIsi, fIsiT, isT, DL.D.tyN, DL.D.isX, fInts, DL.D.seqI, fLenSet, fLR, fLR1, gLR2, rgOk, fDict, fAbs, fInt1, gMax2, gMin2, g1S, g2S, fItems, fR1, fR2, bd62, lowE, clr, bakE, kpE, fApp, fIns, fPop, fPopA, fPopI, fClr, fRev, fExt, allTop, fEq, fNe, fNeg, fIsN, DL.D.isNon, DL.D.key, dGet, canE, nrm, cT, sAug_k, ixN, fRvS, fAll, dBls_map, fIsB, fIdx, msk, Function.comp_def, cut_hi, cut_lo, cut_both, lb2__law_net, st1, st2, c1, c2, z, z2, z3, z4, z5, z6, z7, z8, im, DL.prD, h2]
end LW

namespace LW
open L2 DL PySem PySem.Spec PyProof.Rows
/-! nets: a net that is none of the refused -/
def ends (ws : List (Int × Int)) (L : List Int) : List Int := (ws.filter fun q => decide (q.1 ∈ L)).map (·.2)
def shrink (ws : List (Int × Int)) (L : List Int) : List Int := L.filter fun s => decide (s ∈ ends ws L)
theorem is_way_ok (n : Nat) (a b : Int) (h : -1 ≤ a ∧ a < n ∧ (b = -2 ∨ (0 ≤ b ∧ b < n)) ∧ a ≠ b) (l l' : Nat) : F_is_way [(l, .int n), (l', .tup [.int a, .int b])] = .ret (2, .bl true) [] := by
  rw [run_is_way]
  obtain ⟨h1, h2, h3, h4⟩ := h
  rcases h3 with h3 | h3
  · subst h3
    simp [mkS, finS, bNs, gL1, gL2, gLL2, fI2, tkA, ptA, GS, GL, fPut, ful, l12, l02, DL.D.mut, DL.D.imm, DL.D.imm.immAll, fdOk, fIx, fMul, fAdd, powOk, gLstL, gTupL, DL.D.ty, lvN, szOk, fLen, fListOf, fTupOf, fSl, gSlN, gSlH, gSlL, gSlB, fIsi, fIsiT, isT, DL.D.tyN, DL.D.isX, fInts, DL.D.seqI, fLenSet, fLR, fLR1, gLR2, rgOk, fDict, fAbs, fInt1, gMax2, gMin2, g1S, g2S, fItems, fR1, fR2, bd62, lowE, clr, bakE, kpE, fApp, fIns, fPop, fPopA, fPopI, fClr, fRev, fExt, allTop, fEq, fNe, fNeg, fIsN, DL.D.isNon, DL.D.key, dGet, canE, nrm, cT, sAug_k, ixN, fRvS, fAll, dBls_map, fIsB, fIdx, msk, Function.comp_def, cut_hi, cut_lo, cut_both, m_is_way, h1, h2, h4]
  · have h5 : ¬ b = -2 := by omega
    simp [mkS, finS, bNs, gL1, gL2, gLL2, fI2, tkA, ptA, GS, GL, fPut, ful, l12, l02, DL.D.mut, DL.D.imm, DL.D.imm.immAll, fdOk, fIx, fMul, fAdd, powOk, gLstL, gTupL, DL.D.ty, lvN, szOk, fLen, fListOf, fTupOf, fSl, gSlN, gSlH, gSlL, gSlB, fIsi, fIsiT, isT, DL.D.tyN, DL.D.isX, fInts, DL.D.seqI, fLenSet, fLR, fLR1, gLR2, rgOk, fDict, fAbs, fInt1, gMax2, gMin2, g1S, g2S, fItems, fR1, fR2, bd62, lowE, clr, bakE, kpE, fApp, fIns, fPop, fPopA, fPopI, fClr, fRev, fExt, allTop, fEq, fNe, fNeg, fIsN, DL.D.isNon, DL.D.key, dGet, canE, nrm, cT, sAug_k, ixN, fRvS, fAll, dBls_map, fIsB, fIdx, msk, Function.comp_def, cut_hi, cut_lo, cut_both, m_is_way, h1, h2, h3.1, h3.2, h4, h5]
def rlE (ws : List (Int × Int)) (L : List Int) (last : Int) : DL.Env := [none, some (0, .lst (ws.map prD)), some (2, .lst (L.map .int)), some (2, .int last), none, none, none, none]
theorem fIn_ints (p : Bool) (a : Int) (L : List Int) : fIn p (.int a) (.lst (L.map .int)) = some (2, .bl (decide (a ∈ L) == p)) := by
  have e : ((L.map D.int).any fun z => deq z (.int a)) = decide (a ∈ L) := by
    rw [List.any_map]
    rw [Bool.eq_iff_iff, List.any_eq_true, decide_eq_true_iff]
    simp [mkS, finS, bNs, gL1, gL2, gLL2, fI2, tkA, ptA, GS, GL, fPut, ful, l12, l02, DL.D.mut, DL.D.imm, DL.D.imm.immAll, fdOk, fIx, fMul, fAdd, powOk, gLstL, gTupL, DL.D.ty, lvN, szOk, fLen, fListOf, fTupOf, fSl, gSlN, gSlH, gSlL, gSlB, fIsi, fIsiT, isT, DL.D.tyN, DL.D.isX, fInts, DL.D.seqI, fLenSet, fLR, fLR1, gLR2, rgOk, fDict, fAbs, fInt1, gMax2, gMin2, g1S, g2S, fItems, fR1, fR2, bd62, lowE, clr, bakE, kpE, fApp, fIns, fPop, fPopA, fPopI, fClr, fRev, fExt, allTop, fEq, fNe, fNeg, fIsN, DL.D.isNon, DL.D.key, dGet, canE, nrm, cT, sAug_k, ixN, fRvS, fAll, dBls_map, fIsB, fIdx, msk, Function.comp_def, cut_hi, cut_lo, cut_both]
  show (if eqd 60 (.int a) && eqd 60 (.lst (L.map .int)) then some ((2 : Nat), D.bl (((L.map D.int).any fun z => deq z (.int a)) == p)) else none) = _
  rw [eqd_ints, eqd_int, e]
  rfl
theorem shrink_turn (ws : List (Int × Int)) (L : List Int) (last : Int) (hw : ws.length < 4000) (hL : L.length < 4000) : wb1_leads_round (rlE ws L last) = .nx (rlE ws (shrink ws L) L.length) := by
  unfold rlE
  have z1 : ws.length ≤ 16777216 := by omega
  have z2 : L.length ≤ 16777216 := by omega
  have e1 : ends ws L = (ws.filter fun q => decide (q.1 ∈ L)).map (·.2) := rfl
  have e2 : (ws.filter fun q => decide (q.1 ∈ L)).map (fun q => D.int q.2) = (ends ws L).map .int := by rw [e1, List.map_map]; rfl
  have e3 : L.filter (fun s => decide (s ∈ ends ws L)) = shrink ws L := rfl
  simp [mkS, finS, bNs, gL1, gL2, gLL2, fI2, tkA, ptA, GS, GL, fPut, ful, l12, l02, DL.D.mut, DL.D.imm, DL.D.imm.immAll, fdOk, fIx, fMul, fAdd, powOk, gLstL, gTupL, DL.D.ty, lvN, szOk, fLen, fListOf, fTupOf, fSl, gSlN, gSlH, gSlL, gSlB, fIsi, fIsiT, isT, DL.D.tyN, DL.D.isX, fInts, DL.D.seqI, fLenSet, fLR, fLR1, gLR2, rgOk, fDict, fAbs, fInt1, gMax2, gMin2, g1S, g2S, fItems, fR1, fR2, bd62, lowE, clr, bakE, kpE, fApp, fIns, fPop, fPopA, fPopI, fClr, fRev, fExt, allTop, fEq, fNe, fNeg, fIsN, DL.D.isNon, DL.D.key, dGet, canE, nrm, cT, sAug_k, ixN, fRvS, fAll, dBls_map, fIsB, fIdx, msk, Function.comp_def, cut_hi, cut_lo, cut_both, wb1_leads_round, z1, z2, DL.prD, fIn_ints, e2, e3]
theorem rl_test (ws : List (Int × Int)) (L : List Int) (last : Int) : wt1_leads_round (rlE ws L last) = .ok (decide ((L.length : Int) ≠ last)) (rlE ws L last) := by
  unfold rlE
  simp [mkS, finS, bNs, gL1, gL2, gLL2, fI2, tkA, ptA, GS, GL, fPut, ful, l12, l02, DL.D.mut, DL.D.imm, DL.D.imm.immAll, fdOk, fIx, fMul, fAdd, powOk, gLstL, gTupL, DL.D.ty, lvN, szOk, fLen, fListOf, fTupOf, fSl, gSlN, gSlH, gSlL, gSlB, fIsi, fIsiT, isT, DL.D.tyN, DL.D.isX, fInts, DL.D.seqI, fLenSet, fLR, fLR1, gLR2, rgOk, fDict, fAbs, fInt1, gMax2, gMin2, g1S, g2S, fItems, fR1, fR2, bd62, lowE, clr, bakE, kpE, fApp, fIns, fPop, fPopA, fPopI, fClr, fRev, fExt, allTop, fEq, fNe, fNeg, fIsN, DL.D.isNon, DL.D.key, dGet, canE, nrm, cT, sAug_k, ixN, fRvS, fAll, dBls_map, fIsB, fIdx, msk, Function.comp_def, cut_hi, cut_lo, cut_both, wt1_leads_round]
/-- no way leads back: what a way goes to is numbered higher -/
def Acy (ws : List (Int × Int)) (rho : Int → Nat) : Prop := ∀ q ∈ ws, 0 ≤ q.1 → 0 ≤ q.2 → rho q.1 < rho q.2
theorem least {α : Type} (f : α → Nat) : ∀ {L : List α}, L ≠ [] → ∃ x ∈ L, ∀ y ∈ L, f x ≤ f y
  | [], h => absurd rfl h
  | [x], _ => ⟨x, List.mem_cons_self .., fun y hy => by rw [List.mem_singleton.mp hy]; exact Nat.le_refl _⟩
  | x :: z :: L, _ => by
    obtain ⟨y, h1, h2⟩ := least f (L := z :: L) (by simp [mkS, finS, bNs, gL1, gL2, gLL2, fI2, tkA, ptA, GS, GL, fPut, ful, l12, l02, DL.D.mut, DL.D.imm, DL.D.imm.immAll, fdOk, fIx, fMul, fAdd, powOk, gLstL, gTupL, DL.D.ty, lvN, szOk, fLen, fListOf, fTupOf, fSl, gSlN, gSlH, gSlL, gSlB, fIsi, fIsiT, isT, DL.D.tyN, DL.D.isX, fInts, DL.D.seqI, fLenSet, fLR, fLR1, gLR2, rgOk, fDict, fAbs, fInt1, gMax2, gMin2, g1S, g2S, fItems, fR1, fR2, bd62, lowE, clr, bakE, kpE, fApp, fIns, fPop, fPopA, fPopI, fClr, fRev, fExt, allTop, fEq, fNe, fNeg, fIsN, DL.D.isNon, DL.D.key, dGet, canE, nrm, cT, sAug_k, ixN, fRvS, fAll, dBls_map, fIsB, fIdx, msk, Function.comp_def, cut_hi, cut_lo, cut_both])
    by_cases c : f x ≤ f y
    · exact ⟨x, List.mem_cons_self .., fun w hw => by
        rcases List.mem_cons.mp hw with rfl | hw
        · exact Nat.le_refl _
        · exact Nat.le_trans c (h2 w hw)⟩
    · exact ⟨y, List.mem_cons_of_mem _ h1, fun w hw => by
        rcases List.mem_cons.mp hw with rfl | hw
        · omega
        · exact h2 w hw⟩
theorem shrink_lt {ws : List (Int × Int)} {rho : Int → Nat} (ha : Acy ws rho) {L : List Int} (h0 : ∀ x ∈ L, 0 ≤ x) (hL : L ≠ []) : (shrink ws L).length < L.length := by
  obtain ⟨x, h1, h2⟩ := least rho hL
  have hx : x ∉ ends ws L := fun z => by
    obtain ⟨q, hq, e⟩ := List.mem_map.mp z
    obtain ⟨g1, g2⟩ := List.mem_filter.mp hq
    have g2 : q.1 ∈ L := by simpa [mkS, finS, bNs, gL1, gL2, gLL2, fI2, tkA, ptA, GS, GL, fPut, ful, l12, l02, DL.D.mut, DL.D.imm, DL.D.imm.immAll, fdOk, fIx, fMul, fAdd, powOk, gLstL, gTupL, DL.D.ty, lvN, szOk, fLen, fListOf, fTupOf, fSl, gSlN, gSlH, gSlL, gSlB, fIsi, fIsiT, isT, DL.D.tyN, DL.D.isX, fInts, DL.D.seqI, fLenSet, fLR, fLR1, gLR2, rgOk, fDict, fAbs, fInt1, gMax2, gMin2, g1S, g2S, fItems, fR1, fR2, bd62, lowE, clr, bakE, kpE, fApp, fIns, fPop, fPopA, fPopI, fClr, fRev, fExt, allTop, fEq, fNe, fNeg, fIsN, DL.D.isNon, DL.D.key, dGet, canE, nrm, cT, sAug_k, ixN, fRvS, fAll, dBls_map, fIsB, fIdx, msk, Function.comp_def, cut_hi, cut_lo, cut_both] using g2
    have := ha q g1 (h0 _ g2) (by rw [e]; exact h0 _ h1)
    have := h2 _ g2
    rw [e] at *
    omega
  unfold shrink
  rcases Nat.lt_or_ge (L.filter fun s => decide (s ∈ ends ws L)).length L.length with c | c
  · exact c
  · have e : (L.filter fun s => decide (s ∈ ends ws L)).length = L.length := Nat.le_antisymm (List.length_filter_le ..) c
    have := List.length_filter_eq_length_iff.mp e x h1
    exact absurd (by simpa [mkS, finS, bNs, gL1, gL2, gLL2, fI2, tkA, ptA, GS, GL, fPut, ful, l12, l02, DL.D.mut, DL.D.imm, DL.D.imm.immAll, fdOk, fIx, fMul, fAdd, powOk, gLstL, gTupL, DL.D.ty, lvN, szOk, fLen, fListOf, fTupOf, fSl, gSlN, gSlH, gSlL, gSlB, fIsi, fIsiT, isT, DL.D.tyN, DL.D.isX, fInts, DL.D.seqI, fLenSet, fLR, fLR1, gLR2, rgOk, fDict, fAbs, fInt1, gMax2, gMin2, g1S, g2S, fItems, fR1, fR2, bd62, lowE, clr, bakE, kpE, fApp, fIns, fPop, fPopA, fPopI, fClr, fRev, fExt, allTop, fEq, fNe, fNeg, fIsN, DL.D.isNon, DL.D.key, dGet, canE, nrm, cT, sAug_k, ixN, fRvS, fAll, dBls_map, fIsB, fIdx, msk, Function.comp_def, cut_hi, cut_lo, cut_both] using this) hx
theorem rl_while {ws : List (Int × Int)} {rho : Int → Nat} (ha : Acy ws rho) (hw : ws.length < 4000) : ∀ (m : Nat) (L : List Int) (last : Int) (K : Nat), L.length ≤ m → (∀ x ∈ L, 0 ≤ x) → L.length < 4000 → m + 2 ≤ K → (L ≠ [] → (L.length : Int) ≠ last) →
    whileN wt1_leads_round wb1_leads_round K (rlE ws L last) = .nx (rlE ws [] 0) := by
  have exit : ∀ K, 1 ≤ K → whileN wt1_leads_round wb1_leads_round K (rlE ws [] 0) = .nx (rlE ws [] 0) := fun K hK => by
    obtain ⟨k, rfl⟩ : ∃ k, K = k + 1 := ⟨K - 1, by omega⟩
    rw [while_eq, rl_test]
    rfl
  intro m
  induction m with
  | zero =>
    intro L last K h1 h2 h3 h4 h5
    have e : L = [] := List.length_eq_zero_iff.mp (by omega)
    subst e
    by_cases c : last = 0
    · subst c
      exact exit K (by omega)
    · obtain ⟨k, rfl⟩ : ∃ k, K = k + 1 := ⟨K - 1, by omega⟩
      rw [while_eq, rl_test]
      have c2 : ((([] : List Int).length : Int) ≠ last) := fun z => c (by rw [← z]; rfl)
      simp only [decide_eq_true c2, if_true, shrink_turn ws [] last hw (by decide)]
      exact exit k (by omega)
  | succ m ih =>
    intro L last K h1 h2 h3 h4 h5
    by_cases hL : L = []
    · exact ih L last K (by rw [hL]; simp [mkS, finS, bNs, gL1, gL2, gLL2, fI2, tkA, ptA, GS, GL, fPut, ful, l12, l02, DL.D.mut, DL.D.imm, DL.D.imm.immAll, fdOk, fIx, fMul, fAdd, powOk, gLstL, gTupL, DL.D.ty, lvN, szOk, fLen, fListOf, fTupOf, fSl, gSlN, gSlH, gSlL, gSlB, fIsi, fIsiT, isT, DL.D.tyN, DL.D.isX, fInts, DL.D.seqI, fLenSet, fLR, fLR1, gLR2, rgOk, fDict, fAbs, fInt1, gMax2, gMin2, g1S, g2S, fItems, fR1, fR2, bd62, lowE, clr, bakE, kpE, fApp, fIns, fPop, fPopA, fPopI, fClr, fRev, fExt, allTop, fEq, fNe, fNeg, fIsN, DL.D.isNon, DL.D.key, dGet, canE, nrm, cT, sAug_k, ixN, fRvS, fAll, dBls_map, fIsB, fIdx, msk, Function.comp_def, cut_hi, cut_lo, cut_both]) h2 h3 (by omega) h5
    · obtain ⟨k, rfl⟩ : ∃ k, K = k + 1 := ⟨K - 1, by omega⟩
      rw [while_eq, rl_test]
      have lt := shrink_lt ha h2 hL
      simp only [decide_eq_true (h5 hL), if_true, shrink_turn ws L last hw h3]
      exact ih (shrink ws L) L.length k (by omega) (fun x hx => h2 x (List.mem_filter.mp hx).1) (by omega) (by omega) (fun _ => by omega)
theorem leads_ok {ws : List (Int × Int)} {rho : Int → Nat} (ha : Acy ws rho) (hw : ws.length < 4000) (n : Nat) (hn : n ≤ 900) (l l' : Nat) : F_leads_round [(l, .int n), (l', .lst (ws.map prD))] = .ret (2, .bl false) [] := by
  have h := rl_while ha hw n (rgI 0 n) (-1) 1000 (by simp [mkS, finS, bNs, gL1, gL2, gLL2, fI2, tkA, ptA, GS, GL, fPut, ful, l12, l02, DL.D.mut, DL.D.imm, DL.D.imm.immAll, fdOk, fIx, fMul, fAdd, powOk, gLstL, gTupL, DL.D.ty, lvN, szOk, fLen, fListOf, fTupOf, fSl, gSlN, gSlH, gSlL, gSlB, fIsi, fIsiT, isT, DL.D.tyN, DL.D.isX, fInts, DL.D.seqI, fLenSet, fLR, fLR1, gLR2, rgOk, fDict, fAbs, fInt1, gMax2, gMin2, g1S, g2S, fItems, fR1, fR2, bd62, lowE, clr, bakE, kpE, fApp, fIns, fPop, fPopA, fPopI, fClr, fRev, fExt, allTop, fEq, fNe, fNeg, fIsN, DL.D.isNon, DL.D.key, dGet, canE, nrm, cT, sAug_k, ixN, fRvS, fAll, dBls_map, fIsB, fIdx, msk, Function.comp_def, cut_hi, cut_lo, cut_both, rgI]) (fun x hx => by
    simp [mkS, finS, bNs, gL1, gL2, gLL2, fI2, tkA, ptA, GS, GL, fPut, ful, l12, l02, DL.D.mut, DL.D.imm, DL.D.imm.immAll, fdOk, fIx, fMul, fAdd, powOk, gLstL, gTupL, DL.D.ty, lvN, szOk, fLen, fListOf, fTupOf, fSl, gSlN, gSlH, gSlL, gSlB, fIsi, fIsiT, isT, DL.D.tyN, DL.D.isX, fInts, DL.D.seqI, fLenSet, fLR, fLR1, gLR2, rgOk, fDict, fAbs, fInt1, gMax2, gMin2, g1S, g2S, fItems, fR1, fR2, bd62, lowE, clr, bakE, kpE, fApp, fIns, fPop, fPopA, fPopI, fClr, fRev, fExt, allTop, fEq, fNe, fNeg, fIsN, DL.D.isNon, DL.D.key, dGet, canE, nrm, cT, sAug_k, ixN, fRvS, fAll, dBls_map, fIsB, fIdx, msk, Function.comp_def, cut_hi, cut_lo, cut_both, rgI] at hx
    obtain ⟨k, _, rfl⟩ := hx
    omega) (by simp [mkS, finS, bNs, gL1, gL2, gLL2, fI2, tkA, ptA, GS, GL, fPut, ful, l12, l02, DL.D.mut, DL.D.imm, DL.D.imm.immAll, fdOk, fIx, fMul, fAdd, powOk, gLstL, gTupL, DL.D.ty, lvN, szOk, fLen, fListOf, fTupOf, fSl, gSlN, gSlH, gSlL, gSlB, fIsi, fIsiT, isT, DL.D.tyN, DL.D.isX, fInts, DL.D.seqI, fLenSet, fLR, fLR1, gLR2, rgOk, fDict, fAbs, fInt1, gMax2, gMin2, g1S, g2S, fItems, fR1, fR2, bd62, lowE, clr, bakE, kpE, fApp, fIns, fPop, fPopA, fPopI, fClr, fRev, fExt, allTop, fEq, fNe, fNeg, fIsN, DL.D.isNon, DL.D.key, dGet, canE, nrm, cT, sAug_k, ixN, fRvS, fAll, dBls_map, fIsB, fIdx, msk, Function.comp_def, cut_hi, cut_lo, cut_both, rgI]; omega) (by omega) (fun _ => by omega)
  have f1 : rgOk 0 (n : Int) = true := by unfold rgOk; simp [mkS, finS, bNs, gL1, gL2, gLL2, fI2, tkA, ptA, GS, GL, fPut, ful, l12, l02, DL.D.mut, DL.D.imm, DL.D.imm.immAll, fdOk, fIx, fMul, fAdd, powOk, gLstL, gTupL, DL.D.ty, lvN, szOk, fLen, fListOf, fTupOf, fSl, gSlN, gSlH, gSlL, gSlB, fIsi, fIsiT, isT, DL.D.tyN, DL.D.isX, fInts, DL.D.seqI, fLenSet, fLR, fLR1, gLR2, rgOk, fDict, fAbs, fInt1, gMax2, gMin2, g1S, g2S, fItems, fR1, fR2, bd62, lowE, clr, bakE, kpE, fApp, fIns, fPop, fPopA, fPopI, fClr, fRev, fExt, allTop, fEq, fNe, fNeg, fIsN, DL.D.isNon, DL.D.key, dGet, canE, nrm, cT, sAug_k, ixN, fRvS, fAll, dBls_map, fIsB, fIdx, msk, Function.comp_def, cut_hi, cut_lo, cut_both]; omega
  unfold rlE at h
  simp [mkS, finS, bNs, gL1, gL2, gLL2, fI2, tkA, ptA, GS, GL, fPut, ful, l12, l02, DL.D.mut, DL.D.imm, DL.D.imm.immAll, fdOk, fIx, fMul, fAdd, powOk, gLstL, gTupL, DL.D.ty, lvN, szOk, fLen, fListOf, fTupOf, fSl, gSlN, gSlH, gSlL, gSlB, fIsi, fIsiT, isT, DL.D.tyN, DL.D.isX, fInts, DL.D.seqI, fLenSet, fLR, fLR1, gLR2, rgOk, fDict, fAbs, fInt1, gMax2, gMin2, g1S, g2S, fItems, fR1, fR2, bd62, lowE, clr, bakE, kpE, fApp, fIns, fPop, fPopA, fPopI, fClr, fRev, fExt, allTop, fEq, fNe, fNeg, fIsN, DL.D.isNon, DL.D.key, dGet, canE, nrm, cT, sAug_k, ixN, fRvS, fAll, dBls_map, fIsB, fIdx, msk, Function.comp_def, cut_hi, cut_lo, cut_both] at h
  rw [run_leads_round]
  simp [mkS, finS, bNs, gL1, gL2, gLL2, fI2, tkA, ptA, GS, GL, fPut, ful, l12, l02, DL.D.mut, DL.D.imm, DL.D.imm.immAll, fdOk, fIx, fMul, fAdd, powOk, gLstL, gTupL, DL.D.ty, lvN, szOk, fLen, fListOf, fTupOf, fSl, gSlN, gSlH, gSlL, gSlB, fIsi, fIsiT, isT, DL.D.tyN, DL.D.isX, fInts, DL.D.seqI, fLenSet, fLR, fLR1, gLR2, fDict, fAbs, fInt1, gMax2, gMin2, g1S, g2S, fItems, fR1, fR2, bd62, lowE, clr, bakE, kpE, fApp, fIns, fPop, fPopA, fPopI, fClr, fRev, fExt, allTop, fEq, fNe, fNeg, fIsN, DL.D.isNon, DL.D.key, dGet, canE, nrm, cT, sAug_k, ixN, fRvS, fAll, dBls_map, fIsB, fIdx, msk, Function.comp_def, cut_hi, cut_lo, cut_both, m_leads_round, f1, h]
def stD (b : Bool) : D := .str (if b then "pile" else "line")
theorem st_in (b : Bool) : fIn false (stD b) (.tup [.str "pile", .str "line"]) = some (2, .bl false) := by
  have f1 : (D.str "pile").flat = true := by decide +kernel
  have f2 : (D.str "line").flat = true := by decide +kernel
  have g1 : deq (.str "pile") (.str "pile") = true := by rw [deq]; decide +kernel
  have g2 : deq (.str "line") (.str "line") = true := by rw [deq]; decide +kernel
  have e : ∀ a : D, fIn false a (.tup [.str "pile", .str "line"]) = if a.flat && [D.str "pile", .str "line"].all D.flat then some (2, .bl (([D.str "pile", .str "line"].any fun z => deq z a) == false)) else none := fun a => by cases a <;> rfl
  rw [e]
  cases b <;> simp [mkS, finS, bNs, gL1, gL2, gLL2, fI2, tkA, ptA, GS, GL, fPut, ful, l12, l02, DL.D.mut, DL.D.imm, DL.D.imm.immAll, fdOk, fIx, fMul, fAdd, powOk, gLstL, gTupL, DL.D.ty, lvN, szOk, fLen, fListOf, fTupOf, fSl, gSlN, gSlH, gSlL, gSlB, fIsi, fIsiT, isT, DL.D.tyN, DL.D.isX, fInts, DL.D.seqI, fLenSet, fLR, fLR1, gLR2, rgOk, fDict, fAbs, fInt1, gMax2, gMin2, g1S, g2S, fItems, fR1, fR2, bd62, lowE, clr, bakE, kpE, fApp, fIns, fPop, fPopA, fPopI, fClr, fRev, fExt, allTop, fEq, fNe, fNeg, fIsN, DL.D.isNon, DL.D.key, dGet, canE, nrm, cT, sAug_k, ixN, fRvS, fAll, dBls_map, fIsB, fIdx, msk, Function.comp_def, cut_hi, cut_lo, cut_both, stD, f1, f2, g1, g2]
theorem st_imm (st : List Bool) : D.imm.immAll (st.map stD) = true := by
  induction st with
  | nil => rfl
  | cons b st ih =>
    rw [List.map_cons]
    simp only [D.imm.immAll, ih, stD, D.imm, Bool.and_self]
/-- a way that is one -/
def Way (n : Nat) (q : Int × Int) : Prop := -1 ≤ q.1 ∧ q.1 < n ∧ (q.2 = -2 ∨ (0 ≤ q.2 ∧ q.2 < n)) ∧ q.1 ≠ q.2
theorem net_ok {st : List Bool} {ws : List (Int × Int)} {rho : Int → Nat} (ha : Acy ws rho) (hw : ∀ q ∈ ws, Way st.length q) (hn : ws.Nodup) (hl : ws.length < 64) (hs : st.length ≤ 900) (l l' : Nat) :
    F_net_of [(l, .lst (st.map stD)), (l', .lst (ws.map prD))] = .ret (2, .tup [.lst (st.map stD), .lst ((sortP ws).map prD)]) [] := by
  have z1 : st.length ≤ 16777216 := by omega
  have z2 : ws.length ≤ 16777216 := by omega
  have lr := fun l l' => leads_ok ha (by omega) st.length hs l l'
  have iw : ∀ q ∈ ws, ∀ l l', F_is_way [(l, .int st.length), (l', DL.prD q)] = .ret (2, .bl true) [] := fun q hq l l' => is_way_ok st.length q.1 q.2 (hw q hq) l l'
  have dl := fLenSetA_prs 0 hl
  have dl2 := fLenSetA_prs 2 hl
  have dd := ddP_id hn
  rw [run_net_of]
  simp +contextual [mkS, finS, bNs, gL1, gL2, gLL2, fI2, tkA, ptA, GS, GL, fPut, ful, l12, l02, DL.D.mut, DL.D.imm, DL.D.imm.immAll, fdOk, fIx, fMul, fAdd, powOk, gLstL, gTupL, DL.D.ty, lvN, szOk, fLen, fListOf, fTupOf, fSl, gSlN, gSlH, gSlL, gSlB, fIsi, fIsiT, isT, DL.D.tyN, DL.D.isX, fInts, DL.D.seqI, fLenSet, fLR, fLR1, gLR2, rgOk, fDict, fAbs, fInt1, gMax2, gMin2, g1S, g2S, fItems, fR1, fR2, bd62, lowE, clr, bakE, kpE, fApp, fIns, fPop, fPopA, fPopI, fClr, fRev, fExt, allTop, fEq, fNe, fNeg, fIsN, DL.D.isNon, DL.D.key, dGet, canE, nrm, cT, sAug_k, ixN, fRvS, fAll, dBls_map, fIsB, fIdx, msk, Function.comp_def, cut_hi, cut_lo, cut_both, colM_A, m_net_of, z1, z2, st_in, iw, lr, fLenSetA_prs, hl, dd, st_imm]
end LW

namespace LW
open L2 DL PySem PySem.Spec PyProof.Rows
section
variable {p : List Int} {n : Nat} (hp : p.Perm (upTo n))
include hp
theorem ord_len : p.length = n := by have := hp.length_eq; simpa [mkS, finS, bNs, gL1, gL2, gLL2, fI2, tkA, ptA, GS, GL, fPut, ful, l12, l02, DL.D.mut, DL.D.imm, DL.D.imm.immAll, fdOk, fIx, fMul, fAdd, powOk, gLstL, gTupL, DL.D.ty, lvN, szOk, fLen, fListOf, fTupOf, fSl, gSlN, gSlH, gSlL, gSlB, fIsi, fIsiT, isT, DL.D.tyN, DL.D.isX, fInts, DL.D.seqI, fLenSet, fLR, fLR1, gLR2, rgOk, fDict, fAbs, fInt1, gMax2, gMin2, g1S, g2S, fItems, fR1, fR2, bd62, lowE, clr, bakE, kpE, fApp, fIns, fPop, fPopA, fPopI, fClr, fRev, fExt, allTop, fEq, fNe, fNeg, fIsN, DL.D.isNon, DL.D.key, dGet, canE, nrm, cT, sAug_k, ixN, fRvS, fAll, dBls_map, fIsB, fIdx, msk, Function.comp_def, cut_hi, cut_lo, cut_both, upTo] using this
theorem ord_nd : p.Nodup := hp.symm.nodup (by
  unfold upTo
  rw [List.Nodup, List.pairwise_map]
  exact List.pairwise_lt_range.imp fun h => by omega)
theorem ord_at {k : Nat} (h : k < n) : 0 ≤ nth 0 p k ∧ nth 0 p k < n := mem_upTo.mp (hp.mem_iff.mp (nth_mem p 0 (by rw [ord_len hp]; exact h)))
theorem ord_inj {i j : Nat} (hi : i < n) (hj : j < n) (e : nth 0 p i = nth 0 p j) : i = j := by
  have hl := ord_len hp
  rw [nth_is p 0 (by omega), nth_is p 0 (by omega)] at e
  exact (List.getElem_inj (ord_nd hp)).mp e
def rho (p : List Int) (x : Int) : Nat := (p.takeWhile fun y => decide (y ≠ x)).length
omit hp in
theorem rho_at : ∀ {p : List Int}, p.Nodup → ∀ k, k < p.length → rho p (nth 0 p k) = k
  | [], _, k, h => by simp [mkS, finS, bNs, gL1, gL2, gLL2, fI2, tkA, ptA, GS, GL, fPut, ful, l12, l02, DL.D.mut, DL.D.imm, DL.D.imm.immAll, fdOk, fIx, fMul, fAdd, powOk, gLstL, gTupL, DL.D.ty, lvN, szOk, fLen, fListOf, fTupOf, fSl, gSlN, gSlH, gSlL, gSlB, fIsi, fIsiT, isT, DL.D.tyN, DL.D.isX, fInts, DL.D.seqI, fLenSet, fLR, fLR1, gLR2, rgOk, fDict, fAbs, fInt1, gMax2, gMin2, g1S, g2S, fItems, fR1, fR2, bd62, lowE, clr, bakE, kpE, fApp, fIns, fPop, fPopA, fPopI, fClr, fRev, fExt, allTop, fEq, fNe, fNeg, fIsN, DL.D.isNon, DL.D.key, dGet, canE, nrm, cT, sAug_k, ixN, fRvS, fAll, dBls_map, fIsB, fIdx, msk, Function.comp_def, cut_hi, cut_lo, cut_both] at h
  | y :: p, hn, 0, _ => by
    show ((y :: p).takeWhile fun z => decide (z ≠ y)).length = 0
    simp [mkS, finS, bNs, gL1, gL2, gLL2, fI2, tkA, ptA, GS, GL, fPut, ful, l12, l02, DL.D.mut, DL.D.imm, DL.D.imm.immAll, fdOk, fIx, fMul, fAdd, powOk, gLstL, gTupL, DL.D.ty, lvN, szOk, fLen, fListOf, fTupOf, fSl, gSlN, gSlH, gSlL, gSlB, fIsi, fIsiT, isT, DL.D.tyN, DL.D.isX, fInts, DL.D.seqI, fLenSet, fLR, fLR1, gLR2, rgOk, fDict, fAbs, fInt1, gMax2, gMin2, g1S, g2S, fItems, fR1, fR2, bd62, lowE, clr, bakE, kpE, fApp, fIns, fPop, fPopA, fPopI, fClr, fRev, fExt, allTop, fEq, fNe, fNeg, fIsN, DL.D.isNon, DL.D.key, dGet, canE, nrm, cT, sAug_k, ixN, fRvS, fAll, dBls_map, fIsB, fIdx, msk, Function.comp_def, cut_hi, cut_lo, cut_both]
  | y :: p, hn, k + 1, h => by
    have h1 := List.nodup_cons.mp hn
    have hk : k < p.length := by simpa [mkS, finS, bNs, gL1, gL2, gLL2, fI2, tkA, ptA, GS, GL, fPut, ful, l12, l02, DL.D.mut, DL.D.imm, DL.D.imm.immAll, fdOk, fIx, fMul, fAdd, powOk, gLstL, gTupL, DL.D.ty, lvN, szOk, fLen, fListOf, fTupOf, fSl, gSlN, gSlH, gSlL, gSlB, fIsi, fIsiT, isT, DL.D.tyN, DL.D.isX, fInts, DL.D.seqI, fLenSet, fLR, fLR1, gLR2, rgOk, fDict, fAbs, fInt1, gMax2, gMin2, g1S, g2S, fItems, fR1, fR2, bd62, lowE, clr, bakE, kpE, fApp, fIns, fPop, fPopA, fPopI, fClr, fRev, fExt, allTop, fEq, fNe, fNeg, fIsN, DL.D.isNon, DL.D.key, dGet, canE, nrm, cT, sAug_k, ixN, fRvS, fAll, dBls_map, fIsB, fIdx, msk, Function.comp_def, cut_hi, cut_lo, cut_both] using h
    have ih := rho_at h1.2 k hk
    have e : nth 0 (y :: p) (k + 1) = nth 0 p k := by
      rw [nth_is _ _ h, nth_is _ _ hk]
      rfl
    have ne : y ≠ nth 0 p k := fun z => h1.1 (by rw [z]; exact nth_mem p 0 hk)
    rw [e]
    unfold rho at ih ⊢
    rw [List.takeWhile_cons, if_pos (by simpa [mkS, finS, bNs, gL1, gL2, gLL2, fI2, tkA, ptA, GS, GL, fPut, ful, l12, l02, DL.D.mut, DL.D.imm, DL.D.imm.immAll, fdOk, fIx, fMul, fAdd, powOk, gLstL, gTupL, DL.D.ty, lvN, szOk, fLen, fListOf, fTupOf, fSl, gSlN, gSlH, gSlL, gSlB, fIsi, fIsiT, isT, DL.D.tyN, DL.D.isX, fInts, DL.D.seqI, fLenSet, fLR, fLR1, gLR2, rgOk, fDict, fAbs, fInt1, gMax2, gMin2, g1S, g2S, fItems, fR1, fR2, bd62, lowE, clr, bakE, kpE, fApp, fIns, fPop, fPopA, fPopI, fClr, fRev, fExt, allTop, fEq, fNe, fNeg, fIsN, DL.D.isNon, DL.D.key, dGet, canE, nrm, cT, sAug_k, ixN, fRvS, fAll, dBls_map, fIsB, fIdx, msk, Function.comp_def, cut_hi, cut_lo, cut_both] using ne), List.length_cons, ih]
end
def coreL (p : List Int) (n : Nat) : List (Int × Int) := (List.range n).flatMap (partOf p n)
theorem core_mem {p : List Int} {n : Nat} {q : Int × Int} : q ∈ coreL p n ↔ ∃ i, i < n ∧ (q = (-1, nth 0 p i) ∨ q = (nth 0 p i, -2) ∨ ∃ j, i < j ∧ j < n ∧ q = edge p i j) := by
  unfold coreL partOf edgesOf
  rw [List.mem_flatMap]
  constructor
  · rintro ⟨i, hi, h⟩
    have hi := List.mem_range.mp hi
    rcases List.mem_cons.mp h with h | h
    · exact ⟨i, hi, .inl h⟩
    · rcases List.mem_cons.mp h with h | h
      · exact ⟨i, hi, .inr (.inl h)⟩
      · obtain ⟨j, hj, rfl⟩ := List.mem_map.mp h
        have := List.mem_range.mp hj
        exact ⟨i, hi, .inr (.inr ⟨i + 1 + j, by omega, by omega, rfl⟩)⟩
  · rintro ⟨i, hi, h⟩
    refine ⟨i, List.mem_range.mpr hi, ?_⟩
    rcases h with h | h | ⟨j, h1, h2, h⟩
    · rw [h]; exact List.mem_cons_self ..
    · rw [h]; exact List.mem_cons_of_mem _ (List.mem_cons_self ..)
    · refine List.mem_cons_of_mem _ (List.mem_cons_of_mem _ (List.mem_map.mpr ⟨j - (i + 1), List.mem_range.mpr (by omega), ?_⟩))
      rw [h, show i + 1 + (j - (i + 1)) = j by omega]
/-- a way of a drawn net -/
theorem core_way {p : List Int} {n : Nat} (hp : p.Perm (upTo n)) {q : Int × Int} (h : q ∈ coreL p n) : Way n q ∧ (0 ≤ q.1 ∨ 0 ≤ q.2) := by
  obtain ⟨i, hi, h⟩ := core_mem.mp h
  have a := ord_at hp hi
  rcases h with rfl | rfl | ⟨j, h1, h2, rfl⟩
  · exact ⟨⟨by show (-1 : Int) ≤ -1; decide, by show (-1 : Int) < n; omega, .inr a, by show (-1 : Int) ≠ nth 0 p i; omega⟩, .inr a.1⟩
  · exact ⟨⟨by show (-1 : Int) ≤ nth 0 p i; omega, a.2, .inl rfl, by show nth 0 p i ≠ -2; omega⟩, .inl a.1⟩
  · have b := ord_at hp h2
    exact ⟨⟨by show (-1 : Int) ≤ nth 0 p i; omega, a.2, .inr b, fun e => by have := ord_inj hp hi h2 e; omega⟩, .inl a.1⟩
theorem core_acy {p : List Int} {n : Nat} (hp : p.Perm (upTo n)) {q : Int × Int} (h : q ∈ coreL p n) (g1 : 0 ≤ q.1) (g2 : 0 ≤ q.2) : rho p q.1 < rho p q.2 := by
  obtain ⟨i, hi, h⟩ := core_mem.mp h
  rcases h with rfl | rfl | ⟨j, h1, h2, rfl⟩
  · exact absurd (show (0 : Int) ≤ -1 from g1) (by decide)
  · exact absurd (show (0 : Int) ≤ -2 from g2) (by decide)
  · have hl := ord_len hp
    show rho p (nth 0 p i) < rho p (nth 0 p j)
    rw [rho_at (ord_nd hp) i (by omega), rho_at (ord_nd hp) j (by omega)]
    exact h1
theorem core_nd {p : List Int} {n : Nat} (hp : p.Perm (upTo n)) : (coreL p n).Nodup := by
  unfold coreL
  rw [List.Nodup, List.pairwise_flatMap]
  refine ⟨fun i hi => ?_, ?_⟩
  · have hi := List.mem_range.mp hi
    have a := ord_at hp hi
    unfold partOf edgesOf
    refine List.pairwise_cons.mpr ⟨fun q hq => ?_, List.pairwise_cons.mpr ⟨fun q hq => ?_, ?_⟩⟩
    · rcases List.mem_cons.mp hq with rfl | hq
      · intro e
        rw [Prod.mk.injEq] at e
        omega
      · obtain ⟨j, hj, rfl⟩ := List.mem_map.mp hq
        intro e
        unfold edge at e
        rw [Prod.mk.injEq] at e
        omega
    · obtain ⟨j, hj, rfl⟩ := List.mem_map.mp hq
      have := List.mem_range.mp hj
      have b := ord_at hp (k := i + 1 + j) (by omega)
      intro e
      unfold edge at e
      rw [Prod.mk.injEq] at e
      omega
    · rw [List.pairwise_map]
      refine List.Pairwise.imp_of_mem ?_ (List.nodup_range (n := n - (i + 1)))
      intro x y hx hy hxy e
      unfold edge at e
      rw [Prod.mk.injEq] at e
      have := List.mem_range.mp hx
      have := List.mem_range.mp hy
      have := ord_inj hp (i := i + 1 + x) (j := i + 1 + y) (by omega) (by omega) e.2
      omega
  · refine List.Pairwise.imp_of_mem ?_ (List.pairwise_lt_range (n := n))
    intro i j hi hj hij q hq r hr e
    subst e
    have hi := List.mem_range.mp hi
    have hj := List.mem_range.mp hj
    have key : ∀ k, k < n → q ∈ partOf p n k → (if q.1 = -1 then q.2 else q.1) = nth 0 p k := fun k hk h => by
      have a := ord_at hp hk
      unfold partOf edgesOf at h
      rcases List.mem_cons.mp h with rfl | h
      · rfl
      · rcases List.mem_cons.mp h with rfl | h
        · rw [if_neg (by show ¬ nth 0 p k = -1; omega)]
        · obtain ⟨x, _, rfl⟩ := List.mem_map.mp h
          unfold edge
          rw [if_neg (by show ¬ nth 0 p k = -1; omega)]
    have a := key i hi hq
    rw [key j hj hr] at a
    have := ord_inj hp hj hi a
    omega
theorem core_len (p : List Int) {n : Nat} (hn : n ≤ 6) : (coreL p n).length ≤ 27 := by
  have : n = 0 ∨ n = 1 ∨ n = 2 ∨ n = 3 ∨ n = 4 ∨ n = 5 ∨ n = 6 := by omega
  rcases this with rfl | rfl | rfl | rfl | rfl | rfl | rfl <;> simp [mkS, finS, bNs, gL1, gL2, gLL2, fI2, tkA, ptA, GS, GL, fPut, ful, l12, l02, DL.D.mut, DL.D.imm, DL.D.imm.immAll, fdOk, fIx, fMul, fAdd, powOk, gLstL, gTupL, DL.D.ty, lvN, szOk, fLen, fListOf, fTupOf, fSl, gSlN, gSlH, gSlL, gSlB, fIsi, fIsiT, isT, DL.D.tyN, DL.D.isX, fInts, DL.D.seqI, fLenSet, fLR, fLR1, gLR2, rgOk, fDict, fAbs, fInt1, gMax2, gMin2, g1S, g2S, fItems, fR1, fR2, bd62, lowE, clr, bakE, kpE, fApp, fIns, fPop, fPopA, fPopI, fClr, fRev, fExt, allTop, fEq, fNe, fNeg, fIsN, DL.D.isNon, DL.D.key, dGet, canE, nrm, cT, sAug_k, ixN, fRvS, fAll, dBls_map, fIsB, fIdx, msk, Function.comp_def, cut_hi, cut_lo, cut_both, coreL, partOf, edgesOf, List.range_succ]
end LW

namespace LW
open L2 DL PySem PySem.Spec PyProof.Rows
structure Drn (st : List Bool) (ws : List (Int × Int)) (p : List Int) (Y : List (Int × Int)) : Prop where
  len : st.length ≤ 6
  perm : p.Perm (upTo st.length)
  sub : Y.Sublist (coreL p st.length)
  wsp : ws.Perm Y ∨ ws.Perm ((-1, -2) :: Y)
  srt : sortP ws = ws
theorem st_at (t : Int) : atI [D.str "pile", .str "line"] (t % 2) = some (stD (decide (t % 2 = 0))) := by
  have a := Int.emod_nonneg t (show (2 : Int) ≠ 0 by decide)
  have b := Int.emod_lt_of_pos t (show (0 : Int) < 2 by decide)
  have : t % 2 = 0 ∨ t % 2 = 1 := by omega
  rcases this with h | h <;> rw [h] <;> rfl
theorem law_net_ok (cell : Int) (base most : Nat) (hm : most ≤ 6) : ∃ (st : List Bool) (ws : List (Int × Int)) (p : List Int) (Y : List (Int × Int)), Drn st ws p Y ∧
    ∀ l0 l1 l2, F__law_net [(l0, .int cell), (l1, .int base), (l2, .int most)] = .ret (2, .tup [.lst (st.map stD), .lst (ws.map DL.prD)]) [] := by
  have s0 := stir_ok cell base (by omega)
  have s15 := stir_ok cell ((base : Int) + 15) (by omega)
  have s8 : ∀ (k : Nat) l0 l1, F__law_stir [(l0, .int cell), (l1, .int ((base : Int) + 8 + k))] = .ret (2, .int (stir cell ((base : Int) + 8 + k))) [] := fun k => stir_ok cell _ (by omega)
  obtain ⟨n, hn⟩ : ∃ n : Nat, stir cell base % ((most : Int) + 1) = n := ⟨(stir cell base % ((most : Int) + 1)).toNat, by
    have := Int.emod_nonneg (stir cell base) (show ((most : Int) + 1) ≠ 0 by omega)
    omega⟩
  have nb : n ≤ most := by
    have := Int.emod_lt_of_pos (stir cell base) (show (0 : Int) < (most : Int) + 1 by omega)
    omega
  obtain ⟨p, pp, hp⟩ := all_pop cell base most n (by omega)
  have pl := ord_len pp
  obtain ⟨st, hst⟩ : ∃ st : List Bool, (List.range n).map (fun k : Nat => decide (stir cell ((base : Int) + 8 + k) % 2 = 0)) = st := ⟨_, rfl⟩
  have sl : st.length = n := by rw [← hst]; simp [mkS, finS, bNs, gL1, gL2, gLL2, fI2, tkA, ptA, GS, GL, fPut, ful, l12, l02, DL.D.mut, DL.D.imm, DL.D.imm.immAll, fdOk, fIx, fMul, fAdd, powOk, gLstL, gTupL, DL.D.ty, lvN, szOk, fLen, fListOf, fTupOf, fSl, gSlN, gSlH, gSlL, gSlB, fIsi, fIsiT, isT, DL.D.tyN, DL.D.isX, fInts, DL.D.seqI, fLenSet, fLR, fLR1, gLR2, rgOk, fDict, fAbs, fInt1, gMax2, gMin2, g1S, g2S, fItems, fR1, fR2, bd62, lowE, clr, bakE, kpE, fApp, fIns, fPop, fPopA, fPopI, fClr, fRev, fExt, allTop, fEq, fNe, fNeg, fIsN, DL.D.isNon, DL.D.key, dGet, canE, nrm, cT, sAug_k, ixN, fRvS, fAll, dBls_map, fIsB, fIdx, msk, Function.comp_def, cut_hi, cut_lo, cut_both]
  have eS : List.map (fun k : Nat => stD (decide (stir cell ((base : Int) + 8 + k) % 2 = 0))) (List.range n) = st.map stD := by rw [← hst, List.map_map]; rfl
  obtain ⟨X, hX⟩ : ∃ X : List (Int × Int), (if stir cell ((base : Int) + 15) % 4 = 0 then [((-1 : Int), (-2 : Int))] else []) = X := ⟨_, rfl⟩
  have Xl : X.length ≤ 1 := by rw [← hX]; split <;> simp [mkS, finS, bNs, gL1, gL2, gLL2, fI2, tkA, ptA, GS, GL, fPut, ful, l12, l02, DL.D.mut, DL.D.imm, DL.D.imm.immAll, fdOk, fIx, fMul, fAdd, powOk, gLstL, gTupL, DL.D.ty, lvN, szOk, fLen, fListOf, fTupOf, fSl, gSlN, gSlH, gSlL, gSlB, fIsi, fIsiT, isT, DL.D.tyN, DL.D.isX, fInts, DL.D.seqI, fLenSet, fLR, fLR1, gLR2, rgOk, fDict, fAbs, fInt1, gMax2, gMin2, g1S, g2S, fItems, fR1, fR2, bd62, lowE, clr, bakE, kpE, fApp, fIns, fPop, fPopA, fPopI, fClr, fRev, fExt, allTop, fEq, fNe, fNeg, fIsN, DL.D.isNon, DL.D.key, dGet, canE, nrm, cT, sAug_k, ixN, fRvS, fAll, dBls_map, fIsB, fIdx, msk, Function.comp_def, cut_hi, cut_lo, cut_both]
  obtain ⟨Y, h1, h2, h3⟩ := forL_each (bd := bUn [8, 9]) (f := lb2__law_net) (fun Y : List (Int × Int) => lwE cell base most n p (st.map stD) 2 (X ++ Y) none none none) (fun x : Int × Nat => (0, .tup [.int x.2, .int x.1]))
    (fun i Y => Y.Sublist ((List.range i).flatMap (partOf p n)) ∧ Y.length ≤ i * 200) (xs := p.zipIdx) (s := []) ⟨by simp, by simp [mkS, finS, bNs, gL1, gL2, gLL2, fI2, tkA, ptA, GS, GL, fPut, ful, l12, l02, DL.D.mut, DL.D.imm, DL.D.imm.immAll, fdOk, fIx, fMul, fAdd, powOk, gLstL, gTupL, DL.D.ty, lvN, szOk, fLen, fListOf, fTupOf, fSl, gSlN, gSlH, gSlL, gSlB, fIsi, fIsiT, isT, DL.D.tyN, DL.D.isX, fInts, DL.D.seqI, fLenSet, fLR, fLR1, gLR2, rgOk, fDict, fAbs, fInt1, gMax2, gMin2, g1S, g2S, fItems, fR1, fR2, bd62, lowE, clr, bakE, kpE, fApp, fIns, fPop, fPopA, fPopI, fClr, fRev, fExt, allTop, fEq, fNe, fNeg, fIsN, DL.D.isNon, DL.D.key, dGet, canE, nrm, cT, sAug_k, ixN, fRvS, fAll, dBls_map, fIsB, fIdx, msk, Function.comp_def, cut_hi, cut_lo, cut_both]⟩ fun i hi Y ⟨g1, g2⟩ => by
    have hi : i < n := by simpa [mkS, finS, bNs, gL1, gL2, gLL2, fI2, tkA, ptA, GS, GL, fPut, ful, l12, l02, DL.D.mut, DL.D.imm, DL.D.imm.immAll, fdOk, fIx, fMul, fAdd, powOk, gLstL, gTupL, DL.D.ty, lvN, szOk, fLen, fListOf, fTupOf, fSl, gSlN, gSlH, gSlL, gSlB, fIsi, fIsiT, isT, DL.D.tyN, DL.D.isX, fInts, DL.D.seqI, fLenSet, fLR, fLR1, gLR2, rgOk, fDict, fAbs, fInt1, gMax2, gMin2, g1S, g2S, fItems, fR1, fR2, bd62, lowE, clr, bakE, kpE, fApp, fIns, fPop, fPopA, fPopI, fClr, fRev, fExt, allTop, fEq, fNe, fNeg, fIsN, DL.D.isNon, DL.D.key, dGet, canE, nrm, cT, sAug_k, ixN, fRvS, fAll, dBls_map, fIsB, fIdx, msk, Function.comp_def, cut_hi, cut_lo, cut_both, pl] using hi
    have e1 : p.zipIdx[i] = (nth 0 p i, i) := by
      rw [List.getElem_zipIdx, nth_is p 0 (by omega)]
      simp [mkS, finS, bNs, gL1, gL2, gLL2, fI2, tkA, ptA, GS, GL, fPut, ful, l12, l02, DL.D.mut, DL.D.imm, DL.D.imm.immAll, fdOk, fIx, fMul, fAdd, powOk, gLstL, gTupL, DL.D.ty, lvN, szOk, fLen, fListOf, fTupOf, fSl, gSlN, gSlH, gSlL, gSlB, fIsi, fIsiT, isT, DL.D.tyN, DL.D.isX, fInts, DL.D.seqI, fLenSet, fLR, fLR1, gLR2, rgOk, fDict, fAbs, fInt1, gMax2, gMin2, g1S, g2S, fItems, fR1, fR2, bd62, lowE, clr, bakE, kpE, fApp, fIns, fPop, fPopA, fPopI, fClr, fRev, fExt, allTop, fEq, fNe, fNeg, fIsN, DL.D.isNon, DL.D.key, dGet, canE, nrm, cT, sAug_k, ixN, fRvS, fAll, dBls_map, fIsB, fIdx, msk, Function.comp_def, cut_hi, cut_lo, cut_both]
    rw [e1]
    have : i * 200 ≤ 6 * 200 := Nat.mul_le_mul_right _ (by omega)
    obtain ⟨E, k1, k2⟩ := out_turn cell base most n (by omega) p pl (st.map stD) (X ++ Y) (by simp [mkS, finS, bNs, gL1, gL2, gLL2, fI2, tkA, ptA, GS, GL, fPut, ful, l12, l02, DL.D.mut, DL.D.imm, DL.D.imm.immAll, fdOk, fIx, fMul, fAdd, powOk, gLstL, gTupL, DL.D.ty, lvN, szOk, fLen, fListOf, fTupOf, fSl, gSlN, gSlH, gSlL, gSlB, fIsi, fIsiT, isT, DL.D.tyN, DL.D.isX, fInts, DL.D.seqI, fLenSet, fLR, fLR1, gLR2, rgOk, fDict, fAbs, fInt1, gMax2, gMin2, g1S, g2S, fItems, fR1, fR2, bd62, lowE, clr, bakE, kpE, fApp, fIns, fPop, fPopA, fPopI, fClr, fRev, fExt, allTop, fEq, fNe, fNeg, fIsN, DL.D.isNon, DL.D.key, dGet, canE, nrm, cT, sAug_k, ixN, fRvS, fAll, dBls_map, fIsB, fIdx, msk, Function.comp_def, cut_hi, cut_lo, cut_both]; omega) i hi
    refine ⟨_, rfl, Y ++ E, .inl ?_, ?_, ?_⟩
    · rw [← List.append_assoc]
      exact k2
    · rw [List.range_succ, List.flatMap_append]
      simpa [mkS, finS, bNs, gL1, gL2, gLL2, fI2, tkA, ptA, GS, GL, fPut, ful, l12, l02, DL.D.mut, DL.D.imm, DL.D.imm.immAll, fdOk, fIx, fMul, fAdd, powOk, gLstL, gTupL, DL.D.ty, lvN, szOk, fLen, fListOf, fTupOf, fSl, gSlN, gSlH, gSlL, gSlB, fIsi, fIsiT, isT, DL.D.tyN, DL.D.isX, fInts, DL.D.seqI, fLenSet, fLR, fLR1, gLR2, rgOk, fDict, fAbs, fInt1, gMax2, gMin2, g1S, g2S, fItems, fR1, fR2, bd62, lowE, clr, bakE, kpE, fApp, fIns, fPop, fPopA, fPopI, fClr, fRev, fExt, allTop, fEq, fNe, fNeg, fIsN, DL.D.isNon, DL.D.key, dGet, canE, nrm, cT, sAug_k, ixN, fRvS, fAll, dBls_map, fIsB, fIdx, msk, Function.comp_def, cut_hi, cut_lo, cut_both] using g1.append k1
    · have := k1.length_le
      have : (partOf p n i).length ≤ 100 := by
        unfold partOf edgesOf
        simp [mkS, finS, bNs, gL1, gL2, gLL2, fI2, tkA, ptA, GS, GL, fPut, ful, l12, l02, DL.D.mut, DL.D.imm, DL.D.imm.immAll, fdOk, fIx, fMul, fAdd, powOk, gLstL, gTupL, DL.D.ty, lvN, szOk, fLen, fListOf, fTupOf, fSl, gSlN, gSlH, gSlL, gSlB, fIsi, fIsiT, isT, DL.D.tyN, DL.D.isX, fInts, DL.D.seqI, fLenSet, fLR, fLR1, gLR2, rgOk, fDict, fAbs, fInt1, gMax2, gMin2, g1S, g2S, fItems, fR1, fR2, bd62, lowE, clr, bakE, kpE, fApp, fIns, fPop, fPopA, fPopI, fClr, fRev, fExt, allTop, fEq, fNe, fNeg, fIsN, DL.D.isNon, DL.D.key, dGet, canE, nrm, cT, sAug_k, ixN, fRvS, fAll, dBls_map, fIsB, fIdx, msk, Function.comp_def, cut_hi, cut_lo, cut_both]
        omega
      rw [List.length_append]
      omega
  have hz : p.zipIdx.length = n := by simp [mkS, finS, bNs, gL1, gL2, gLL2, fI2, tkA, ptA, GS, GL, fPut, ful, l12, l02, DL.D.mut, DL.D.imm, DL.D.imm.immAll, fdOk, fIx, fMul, fAdd, powOk, gLstL, gTupL, DL.D.ty, lvN, szOk, fLen, fListOf, fTupOf, fSl, gSlN, gSlH, gSlL, gSlB, fIsi, fIsiT, isT, DL.D.tyN, DL.D.isX, fInts, DL.D.seqI, fLenSet, fLR, fLR1, gLR2, rgOk, fDict, fAbs, fInt1, gMax2, gMin2, g1S, g2S, fItems, fR1, fR2, bd62, lowE, clr, bakE, kpE, fApp, fIns, fPop, fPopA, fPopI, fClr, fRev, fExt, allTop, fEq, fNe, fNeg, fIsN, DL.D.isNon, DL.D.key, dGet, canE, nrm, cT, sAug_k, ixN, fRvS, fAll, dBls_map, fIsB, fIdx, msk, Function.comp_def, cut_hi, cut_lo, cut_both, pl]
  rw [hz] at h2
  refine ⟨st, sortP (X ++ Y), p, Y, ⟨by omega, by rw [sl]; exact pp, by rw [sl]; exact h2, ?_, (sortP_uniq (.refl _) (sortP_sorted _)).symm⟩, fun l0 l1 l2 => ?_⟩
  · rw [← hX]
    split
    · exact .inr (sortP_perm _)
    · exact .inl (sortP_perm _)
  · have z1 : n ≤ 16777216 := by omega
    have z2 : n < 4611686018427387904 := by omega
    have er : rgI 0 (n : Int) = upTo n := by simp [mkS, finS, bNs, gL1, gL2, gLL2, fI2, tkA, ptA, GS, GL, fPut, ful, l12, l02, DL.D.mut, DL.D.imm, DL.D.imm.immAll, fdOk, fIx, fMul, fAdd, powOk, gLstL, gTupL, DL.D.ty, lvN, szOk, fLen, fListOf, fTupOf, fSl, gSlN, gSlH, gSlL, gSlB, fIsi, fIsiT, isT, DL.D.tyN, DL.D.isX, fInts, DL.D.seqI, fLenSet, fLR, fLR1, gLR2, rgOk, fDict, fAbs, fInt1, gMax2, gMin2, g1S, g2S, fItems, fR1, fR2, bd62, lowE, clr, bakE, kpE, fApp, fIns, fPop, fPopA, fPopI, fClr, fRev, fExt, allTop, fEq, fNe, fNeg, fIsN, DL.D.isNon, DL.D.key, dGet, canE, nrm, cT, sAug_k, ixN, fRvS, fAll, dBls_map, fIsB, fIdx, msk, Function.comp_def, cut_hi, cut_lo, cut_both, rgI, upTo]
    have er2 : rgOk 0 (n : Int) = true := by unfold rgOk; simp [mkS, finS, bNs, gL1, gL2, gLL2, fI2, tkA, ptA, GS, GL, fPut, ful, l12, l02, DL.D.mut, DL.D.imm, DL.D.imm.immAll, fdOk, fIx, fMul, fAdd, powOk, gLstL, gTupL, DL.D.ty, lvN, szOk, fLen, fListOf, fTupOf, fSl, gSlN, gSlH, gSlL, gSlB, fIsi, fIsiT, isT, DL.D.tyN, DL.D.isX, fInts, DL.D.seqI, fLenSet, fLR, fLR1, gLR2, rgOk, fDict, fAbs, fInt1, gMax2, gMin2, g1S, g2S, fItems, fR1, fR2, bd62, lowE, clr, bakE, kpE, fApp, fIns, fPop, fPopA, fPopI, fClr, fRev, fExt, allTop, fEq, fNe, fNeg, fIsN, DL.D.isNon, DL.D.key, dGet, canE, nrm, cT, sAug_k, ixN, fRvS, fAll, dBls_map, fIsB, fIdx, msk, Function.comp_def, cut_hi, cut_lo, cut_both]; omega
    have im := st_imm st
    have imW := prD_imm (X ++ Y)
    have m1 : ((most : Int) + 1).natAbs < 4611686018427387904 := by omega
    have m2 : ¬ (most : Int) + 1 = 0 := by omega
    have so := fSortA_prs 2 (X ++ Y)
    have so0 := fSortA_prs 0 (X ++ Y)
    have rl : (rngD 0 n).length = n := by simp [mkS, finS, bNs, gL1, gL2, gLL2, fI2, tkA, ptA, GS, GL, fPut, ful, l12, l02, DL.D.mut, DL.D.imm, DL.D.imm.immAll, fdOk, fIx, fMul, fAdd, powOk, gLstL, gTupL, DL.D.ty, lvN, szOk, fLen, fListOf, fTupOf, fSl, gSlN, gSlH, gSlL, gSlB, fIsi, fIsiT, isT, DL.D.tyN, DL.D.isX, fInts, DL.D.seqI, fLenSet, fLR, fLR1, gLR2, rgOk, fDict, fAbs, fInt1, gMax2, gMin2, g1S, g2S, fItems, fR1, fR2, bd62, lowE, clr, bakE, kpE, fApp, fIns, fPop, fPopA, fPopI, fClr, fRev, fExt, allTop, fEq, fNe, fNeg, fIsN, DL.D.isNon, DL.D.key, dGet, canE, nrm, cT, sAug_k, ixN, fRvS, fAll, dBls_map, fIsB, fIdx, msk, Function.comp_def, cut_hi, cut_lo, cut_both, rngD]
    unfold lnE at hp
    have e3 : (rngD 0 n).map (fun d => ((0 : Nat), d)) = (List.range n).map fun k : Nat => (0, D.int k) := by simp [mkS, finS, bNs, gL1, gL2, gLL2, fI2, tkA, ptA, GS, GL, fPut, ful, l12, l02, DL.D.mut, DL.D.imm, DL.D.imm.immAll, fdOk, fIx, fMul, fAdd, powOk, gLstL, gTupL, DL.D.ty, lvN, szOk, fLen, fListOf, fTupOf, fSl, gSlN, gSlH, gSlL, gSlB, fIsi, fIsiT, isT, DL.D.tyN, DL.D.isX, fInts, DL.D.seqI, fLenSet, fLR, fLR1, gLR2, rgOk, fDict, fAbs, fInt1, gMax2, gMin2, g1S, g2S, fItems, fR1, fR2, bd62, lowE, clr, bakE, kpE, fApp, fIns, fPop, fPopA, fPopI, fClr, fRev, fExt, allTop, fEq, fNe, fNeg, fIsN, DL.D.isNon, DL.D.key, dGet, canE, nrm, cT, sAug_k, ixN, fRvS, fAll, dBls_map, fIsB, fIdx, msk, Function.comp_def, cut_hi, cut_lo, cut_both, rngD]
    rw [e3] at hp
    rw [run__law_net]
    by_cases c : stir cell ((base : Int) + 15) % 4 = 0
    · rw [if_pos c] at hX
      subst hX
      unfold lwE at h1
      simp only [List.map_append, List.map_cons, List.map_nil, DL.prD, List.append_assoc, List.cons_append, List.nil_append, List.append_nil] at h1 so so0
      simp +contextual [mkS, finS, bNs, gL1, gL2, gLL2, fI2, tkA, ptA, GS, GL, fPut, ful, l12, l02, DL.D.mut, DL.D.imm, DL.D.imm.immAll, fdOk, fIx, fMul, fAdd, powOk, gLstL, gTupL, DL.D.ty, lvN, szOk, fLen, fListOf, fTupOf, fSl, gSlN, gSlH, gSlL, gSlB, fIsi, fIsiT, isT, DL.D.tyN, DL.D.isX, fInts, DL.D.seqI, fLenSet, fLR, fLR1, gLR2, fDict, fAbs, fInt1, gMax2, gMin2, g1S, g2S, fItems, fR1, fR2, bd62, lowE, clr, bakE, kpE, fApp, fIns, fPop, fPopA, fPopI, fClr, fRev, fExt, allTop, fEq, fNe, fNeg, fIsN, DL.D.isNon, DL.D.key, dGet, canE, nrm, cT, sAug_k, ixN, fRvS, fAll, dBls_map, fIsB, fIdx, msk, Function.comp_def, cut_hi, cut_lo, cut_both, m__law_net, s0, s15, s8, hn, c, hp, er, er2, z1, z2, colM_A, st_at, eS, im, rngD, DL.prD, h1, so, so0, pl, -atI_cons]
    · rw [if_neg c] at hX
      subst hX
      unfold lwE at h1
      simp only [List.map_append, List.map_cons, List.map_nil, DL.prD, List.append_assoc, List.cons_append, List.nil_append, List.append_nil] at h1 so so0
      simp +contextual [mkS, finS, bNs, gL1, gL2, gLL2, fI2, tkA, ptA, GS, GL, fPut, ful, l12, l02, DL.D.mut, DL.D.imm, DL.D.imm.immAll, fdOk, fIx, fMul, fAdd, powOk, gLstL, gTupL, DL.D.ty, lvN, szOk, fLen, fListOf, fTupOf, fSl, gSlN, gSlH, gSlL, gSlB, fIsi, fIsiT, isT, DL.D.tyN, DL.D.isX, fInts, DL.D.seqI, fLenSet, fLR, fLR1, gLR2, fDict, fAbs, fInt1, gMax2, gMin2, g1S, g2S, fItems, fR1, fR2, bd62, lowE, clr, bakE, kpE, fApp, fIns, fPop, fPopA, fPopI, fClr, fRev, fExt, allTop, fEq, fNe, fNeg, fIsN, DL.D.isNon, DL.D.key, dGet, canE, nrm, cT, sAug_k, ixN, fRvS, fAll, dBls_map, fIsB, fIdx, msk, Function.comp_def, cut_hi, cut_lo, cut_both, m__law_net, s0, s15, s8, hn, c, hp, er, er2, z1, z2, colM_A, st_at, eS, im, rngD, DL.prD, h1, so, so0, pl, -atI_cons]
end LW

namespace LW
open L2 DL PySem PySem.Spec PyProof.Rows
def mvp (n : Nat) (x : Int) : Int := if x < 0 then x else x + n
def mv (n : Nat) (q : Int × Int) : Int × Int := (mvp n q.1, mvp n q.2)
theorem mvp_inj {n : Nat} {x y : Int} (h : mvp n x = mvp n y) : x = y := by
  unfold mvp at h
  split at h <;> split at h <;> omega
theorem mv_inj {n : Nat} {p q : Int × Int} (h : mv n p = mv n q) : p = q := by
  unfold mv at h
  rw [Prod.mk.injEq] at h
  exact Prod.ext (mvp_inj h.1) (mvp_inj h.2)
section
variable {st : List Bool} {ws : List (Int × Int)} {p : List Int} {Y : List (Int × Int)} (h : Drn st ws p Y)
include h
theorem Drn.mem {q : Int × Int} (hq : q ∈ ws) : q = (-1, -2) ∨ q ∈ coreL p st.length := by
  rcases h.wsp with w | w
  · exact .inr (h.sub.subset (w.mem_iff.mp hq))
  · rcases List.mem_cons.mp (w.mem_iff.mp hq) with e | e
    · exact .inl e
    · exact .inr (h.sub.subset e)
theorem Drn.nd : ws.Nodup := by
  have ny : Y.Nodup := h.sub.nodup (core_nd h.perm)
  rcases h.wsp with w | w
  · exact w.nodup_iff.mpr ny
  · refine w.nodup_iff.mpr (List.nodup_cons.mpr ⟨fun hm => ?_, ny⟩)
    have := (core_way h.perm (h.sub.subset hm)).2
    rcases this with c | c
    · exact absurd (show (0 : Int) ≤ -1 from c) (by decide)
    · exact absurd (show (0 : Int) ≤ -2 from c) (by decide)
theorem Drn.wlen : ws.length ≤ 28 := by
  have := h.sub.length_le
  have := core_len p h.len
  rcases h.wsp with w | w
  · rw [w.length_eq]; omega
  · rw [w.length_eq, List.length_cons]; omega
theorem Drn.way {q : Int × Int} (hq : q ∈ ws) : Way st.length q := by
  rcases h.mem hq with rfl | hc
  · exact ⟨by decide, by show (-1 : Int) < st.length; omega, .inl rfl, by decide⟩
  · exact (core_way h.perm hc).1
theorem Drn.acy {q : Int × Int} (hq : q ∈ ws) (g1 : 0 ≤ q.1) (g2 : 0 ≤ q.2) : rho p q.1 < rho p q.2 := by
  rcases h.mem hq with rfl | hc
  · exact absurd (show (0 : Int) ≤ -1 from g1) (by decide)
  · exact core_acy h.perm hc g1 g2
end
def uni (n : Nat) (w1 w2 : List (Int × Int)) : List (Int × Int) := w1 ++ (w2.map (mv n)).filter fun q => decide (q ∉ w1)
theorem uni_mem {n : Nat} {w1 w2 : List (Int × Int)} {q : Int × Int} : q ∈ uni n w1 w2 ↔ q ∈ w1 ++ w2.map (mv n) := by
  unfold uni
  rw [List.mem_append, List.mem_append, List.mem_filter, decide_eq_true_eq]
  by_cases c : q ∈ w1 <;> simp [mkS, finS, bNs, gL1, gL2, gLL2, fI2, tkA, ptA, GS, GL, fPut, ful, l12, l02, DL.D.mut, DL.D.imm, DL.D.imm.immAll, fdOk, fIx, fMul, fAdd, powOk, gLstL, gTupL, DL.D.ty, lvN, szOk, fLen, fListOf, fTupOf, fSl, gSlN, gSlH, gSlL, gSlB, fIsi, fIsiT, isT, DL.D.tyN, DL.D.isX, fInts, DL.D.seqI, fLenSet, fLR, fLR1, gLR2, rgOk, fDict, fAbs, fInt1, gMax2, gMin2, g1S, g2S, fItems, fR1, fR2, bd62, lowE, clr, bakE, kpE, fApp, fIns, fPop, fPopA, fPopI, fClr, fRev, fExt, allTop, fEq, fNe, fNeg, fIsN, DL.D.isNon, DL.D.key, dGet, canE, nrm, cT, sAug_k, ixN, fRvS, fAll, dBls_map, fIsB, fIdx, msk, Function.comp_def, cut_hi, cut_lo, cut_both, c]
theorem map_nd {α β : Type} {f : α → β} (hf : ∀ x y, f x = f y → x = y) {l : List α} (h : l.Nodup) : (l.map f).Nodup := by
  rw [List.Nodup, List.pairwise_map]
  exact h.imp fun hab e => hab (hf _ _ e)
theorem uni_nd {n : Nat} {w1 w2 : List (Int × Int)} (h1 : w1.Nodup) (h2 : w2.Nodup) : (uni n w1 w2).Nodup := by
  unfold uni
  rw [List.nodup_append]
  refine ⟨h1, (map_nd (fun _ _ e => mv_inj e) h2).filter _, fun a ha b hb e => ?_⟩
  subst e
  rw [List.mem_filter, decide_eq_true_eq] at hb
  exact hb.2 ha
theorem uni_len {n : Nat} {w1 w2 : List (Int × Int)} : (uni n w1 w2).length ≤ w1.length + w2.length := by
  unfold uni
  rw [List.length_append]
  have := List.length_filter_le (fun q => decide (q ∉ w1)) (w2.map (mv n))
  rw [List.length_map] at this
  omega
theorem sortP_same {ws us : List (Int × Int)} (p : us.Perm ws) : sortP us = sortP ws := sortP_uniq ((sortP_perm us).trans p) (sortP_sorted us)
theorem uni_sort {n : Nat} {w1 w2 : List (Int × Int)} (h1 : w1.Nodup) (h2 : w2.Nodup) : sortP (ddP (w1 ++ w2.map (mv n))) = sortP (uni n w1 w2) :=
  sortP_same ((List.perm_ext_iff_of_nodup (ddP_nd _) (uni_nd h1 h2)).mpr fun q => ddP_mem.trans uni_mem.symm)
theorem uni_net {st1 st2 : List Bool} {w1 w2 : List (Int × Int)} {p1 p2 : List Int} {Y1 Y2 : List (Int × Int)} (h1 : Drn st1 w1 p1 Y1) (h2 : Drn st2 w2 p2 Y2) (l l' : Nat) :
    F_net_of [(l, .lst ((st1 ++ st2).map stD)), (l', .lst ((uni st1.length w1 w2).map DL.prD))] = .ret (2, .tup [.lst ((st1 ++ st2).map stD), .lst ((sortP (uni st1.length w1 w2)).map DL.prD)]) [] := by
  have a1 := h1.len
  have a2 := h2.len
  have l1 := h1.wlen
  have l2 := h2.wlen
  have ul := uni_len (n := st1.length) (w1 := w1) (w2 := w2)
  refine net_ok (rho := fun x => if x < st1.length then rho p1 x else 100 + rho p2 (x - st1.length)) (fun q hq g1 g2 => ?_) (fun q hq => ?_) (uni_nd h1.nd h2.nd) (by omega) (by simp [mkS, finS, bNs, gL1, gL2, gLL2, fI2, tkA, ptA, GS, GL, fPut, ful, l12, l02, DL.D.mut, DL.D.imm, DL.D.imm.immAll, fdOk, fIx, fMul, fAdd, powOk, gLstL, gTupL, DL.D.ty, lvN, szOk, fLen, fListOf, fTupOf, fSl, gSlN, gSlH, gSlL, gSlB, fIsi, fIsiT, isT, DL.D.tyN, DL.D.isX, fInts, DL.D.seqI, fLenSet, fLR, fLR1, gLR2, rgOk, fDict, fAbs, fInt1, gMax2, gMin2, g1S, g2S, fItems, fR1, fR2, bd62, lowE, clr, bakE, kpE, fApp, fIns, fPop, fPopA, fPopI, fClr, fRev, fExt, allTop, fEq, fNe, fNeg, fIsN, DL.D.isNon, DL.D.key, dGet, canE, nrm, cT, sAug_k, ixN, fRvS, fAll, dBls_map, fIsB, fIdx, msk, Function.comp_def, cut_hi, cut_lo, cut_both]; omega) l l'
  · rcases List.mem_append.mp (uni_mem.mp hq) with hq | hq
    · have w := h1.way hq
      obtain ⟨b1, b2, b3, b4⟩ := w
      have b3 : q.2 < st1.length := by omega
      dsimp only
      rw [if_pos b2, if_pos b3]
      exact h1.acy hq g1 g2
    · obtain ⟨r, hr, rfl⟩ := List.mem_map.mp hq
      unfold mv mvp at g1 g2 ⊢
      dsimp only at g1 g2 ⊢
      have c1 : ¬ r.1 < 0 := by split at g1 <;> omega
      have c2 : ¬ r.2 < 0 := by split at g2 <;> omega
      rw [if_neg c1, if_neg c2, if_neg (by omega), if_neg (by omega)]
      have := h2.acy hr (by omega) (by omega)
      rw [show r.1 + (st1.length : Int) - st1.length = r.1 by omega, show r.2 + (st1.length : Int) - st1.length = r.2 by omega]
      omega
  · rw [List.length_append]
    rcases List.mem_append.mp (uni_mem.mp hq) with hq | hq
    · obtain ⟨b1, b2, b3, b4⟩ := h1.way hq
      exact ⟨b1, by omega, by omega, b4⟩
    · obtain ⟨r, hr, rfl⟩ := List.mem_map.mp hq
      obtain ⟨b1, b2, b3, b4⟩ := h2.way hr
      unfold mv mvp
      refine ⟨?_, ?_, ?_, ?_⟩
      · dsimp only; split <;> omega
      · dsimp only; split <;> omega
      · dsimp only; split <;> omega
      · dsimp only; split <;> split <;> omega
def netD (st : List Bool) (ws : List (Int × Int)) : D := .tup [.lst (st.map stD), .lst (ws.map DL.prD)]
theorem moved_ok (n : Nat) (x : Int) (l0 l1 : Nat) : F_moved_by [(l0, .int n), (l1, .int x)] = .ret (2, .int (mvp n x)) [] := by
  have z : l1 % 10 < 10 := Nat.mod_lt _ (by decide)
  rw [run_moved_by]
  unfold mvp
  by_cases c : x < 0
  · simp [mkS, finS, bNs, gL1, gL2, gLL2, fI2, tkA, ptA, GS, GL, fPut, ful, l12, l02, DL.D.mut, DL.D.imm, DL.D.imm.immAll, fdOk, fIx, fMul, fAdd, powOk, gLstL, gTupL, DL.D.ty, lvN, szOk, fLen, fListOf, fTupOf, fSl, gSlN, gSlH, gSlL, gSlB, fIsi, fIsiT, isT, DL.D.tyN, DL.D.isX, fInts, DL.D.seqI, fLenSet, fLR, fLR1, gLR2, rgOk, fDict, fAbs, fInt1, gMax2, gMin2, g1S, g2S, fItems, fR1, fR2, bd62, lowE, clr, bakE, kpE, fApp, fIns, fPop, fPopA, fPopI, fClr, fRev, fExt, allTop, fEq, fNe, fNeg, fIsN, DL.D.isNon, DL.D.key, dGet, canE, nrm, cT, sAug_k, ixN, fRvS, fAll, dBls_map, fIsB, fIdx, msk, Function.comp_def, cut_hi, cut_lo, cut_both, m_moved_by, c, z]
  · simp [mkS, finS, bNs, gL1, gL2, gLL2, fI2, tkA, ptA, GS, GL, fPut, ful, l12, l02, DL.D.mut, DL.D.imm, DL.D.imm.immAll, fdOk, fIx, fMul, fAdd, powOk, gLstL, gTupL, DL.D.ty, lvN, szOk, fLen, fListOf, fTupOf, fSl, gSlN, gSlH, gSlL, gSlB, fIsi, fIsiT, isT, DL.D.tyN, DL.D.isX, fInts, DL.D.seqI, fLenSet, fLR, fLR1, gLR2, rgOk, fDict, fAbs, fInt1, gMax2, gMin2, g1S, g2S, fItems, fR1, fR2, bd62, lowE, clr, bakE, kpE, fApp, fIns, fPop, fPopA, fPopI, fClr, fRev, fExt, allTop, fEq, fNe, fNeg, fIsN, DL.D.isNon, DL.D.key, dGet, canE, nrm, cT, sAug_k, ixN, fRvS, fAll, dBls_map, fIsB, fIdx, msk, Function.comp_def, cut_hi, cut_lo, cut_both, m_moved_by, c, z]
theorem ix0 (A B : D) : atI [A, B] 0 = some A := rfl
theorem ix1 (A B : D) : atI [A, B] 1 = some B := rfl
theorem ways_moved_ok (n : Nat) (S : D) (ws : List (Int × Int)) (hw : ws.length ≤ 1000) (l0 l1 : Nat) : F_ways_moved [(l0, .tup [S, .lst (ws.map DL.prD)]), (l1, .int n)] = .ret (2, .lst ((ws.map (mv n)).map DL.prD)) [] := by
  have z : ws.length ≤ 16777216 := by omega
  have e : List.map (fun q : Int × Int => D.tup [.int (mvp n q.1), .int (mvp n q.2)]) ws = (ws.map (mv n)).map DL.prD := by rw [List.map_map]; rfl
  have mo := moved_ok n
  rw [run_ways_moved]
  simp +contextual [mkS, finS, bNs, gL1, gL2, gLL2, fI2, tkA, ptA, GS, GL, fPut, ful, l12, l02, DL.D.mut, DL.D.imm, DL.D.imm.immAll, fdOk, fIx, fMul, fAdd, powOk, gLstL, gTupL, DL.D.ty, lvN, szOk, fLen, fListOf, fTupOf, fSl, gSlN, gSlH, gSlL, gSlB, fIsi, fIsiT, isT, DL.D.tyN, DL.D.isX, fInts, DL.D.seqI, fLenSet, fLR, fLR1, gLR2, rgOk, fDict, fAbs, fInt1, gMax2, gMin2, g1S, g2S, fItems, fR1, fR2, bd62, lowE, clr, bakE, kpE, fApp, fIns, fPop, fPopA, fPopI, fClr, fRev, fExt, allTop, fEq, fNe, fNeg, fIsN, DL.D.isNon, DL.D.key, dGet, canE, nrm, cT, sAug_k, ixN, fRvS, fAll, dBls_map, fIsB, fIdx, msk, Function.comp_def, cut_hi, cut_lo, cut_both, m_ways_moved, ix1, z, mo, colM_A, DL.prD, e, -List.map_map, -atI_cons]
theorem later_ok (n : Nat) (x : Int) (l0 l1 : Nat) : F__law_later [(l0, .int x), (l1, .int n)] = .ret (2, .int (mvp n x)) [] := by
  rw [run__law_later]
  unfold mvp
  by_cases c : x < 0
  · have c2 : ¬ 0 ≤ x := by omega
    simp [mkS, finS, bNs, gL1, gL2, gLL2, fI2, tkA, ptA, GS, GL, fPut, ful, l12, l02, DL.D.mut, DL.D.imm, DL.D.imm.immAll, fdOk, fIx, fMul, fAdd, powOk, gLstL, gTupL, DL.D.ty, lvN, szOk, fLen, fListOf, fTupOf, fSl, gSlN, gSlH, gSlL, gSlB, fIsi, fIsiT, isT, DL.D.tyN, DL.D.isX, fInts, DL.D.seqI, fLenSet, fLR, fLR1, gLR2, rgOk, fDict, fAbs, fInt1, gMax2, gMin2, g1S, g2S, fItems, fR1, fR2, bd62, lowE, clr, bakE, kpE, fApp, fIns, fPop, fPopA, fPopI, fClr, fRev, fExt, allTop, fEq, fNe, fNeg, fIsN, DL.D.isNon, DL.D.key, dGet, canE, nrm, cT, sAug_k, ixN, fRvS, fAll, dBls_map, fIsB, fIdx, msk, Function.comp_def, cut_hi, cut_lo, cut_both, m__law_later, c, c2]
  · have c2 : 0 ≤ x := by omega
    simp [mkS, finS, bNs, gL1, gL2, gLL2, fI2, tkA, ptA, GS, GL, fPut, ful, l12, l02, DL.D.mut, DL.D.imm, DL.D.imm.immAll, fdOk, fIx, fMul, fAdd, powOk, gLstL, gTupL, DL.D.ty, lvN, szOk, fLen, fListOf, fTupOf, fSl, gSlN, gSlH, gSlL, gSlB, fIsi, fIsiT, isT, DL.D.tyN, DL.D.isX, fInts, DL.D.seqI, fLenSet, fLR, fLR1, gLR2, rgOk, fDict, fAbs, fInt1, gMax2, gMin2, g1S, g2S, fItems, fR1, fR2, bd62, lowE, clr, bakE, kpE, fApp, fIns, fPop, fPopA, fPopI, fClr, fRev, fExt, allTop, fEq, fNe, fNeg, fIsN, DL.D.isNon, DL.D.key, dGet, canE, nrm, cT, sAug_k, ixN, fRvS, fAll, dBls_map, fIsB, fIdx, msk, Function.comp_def, cut_hi, cut_lo, cut_both, m__law_later, c, c2]
theorem pr_deq2 (p q : Int × Int) : deq (DL.prD p) (DL.prD q) = decide (p = q) := by
  unfold DL.prD
  rw [deq, deqAll, deqAll, deqAll, deq_int, deq_int]
  obtain ⟨a, b⟩ := p
  obtain ⟨c, d⟩ := q
  by_cases h1 : a = c <;> by_cases h2 : b = d <;> simp [mkS, finS, bNs, gL1, gL2, gLL2, fI2, tkA, ptA, GS, GL, fPut, ful, l12, l02, DL.D.mut, DL.D.imm, DL.D.imm.immAll, fdOk, fIx, fMul, fAdd, powOk, gLstL, gTupL, DL.D.ty, lvN, szOk, fLen, fListOf, fTupOf, fSl, gSlN, gSlH, gSlL, gSlB, fIsi, fIsiT, isT, DL.D.tyN, DL.D.isX, fInts, DL.D.seqI, fLenSet, fLR, fLR1, gLR2, rgOk, fDict, fAbs, fInt1, gMax2, gMin2, g1S, g2S, fItems, fR1, fR2, bd62, lowE, clr, bakE, kpE, fApp, fIns, fPop, fPopA, fPopI, fClr, fRev, fExt, allTop, fEq, fNe, fNeg, fIsN, DL.D.isNon, DL.D.key, dGet, canE, nrm, cT, sAug_k, ixN, fRvS, fAll, dBls_map, fIsB, fIdx, msk, Function.comp_def, cut_hi, cut_lo, cut_both, h1, h2]
theorem pr_eqd (n : Nat) (q : Int × Int) : eqd (n + 1) (DL.prD q) = true := by
  unfold DL.prD
  rw [eqd]
  simp [mkS, finS, bNs, gL1, gL2, gLL2, fI2, tkA, ptA, GS, GL, fPut, ful, l12, l02, DL.D.mut, DL.D.imm, DL.D.imm.immAll, fdOk, fIx, fMul, fAdd, powOk, gLstL, gTupL, DL.D.ty, lvN, szOk, fLen, fListOf, fTupOf, fSl, gSlN, gSlH, gSlL, gSlB, fIsi, fIsiT, isT, DL.D.tyN, DL.D.isX, fInts, DL.D.seqI, fLenSet, fLR, fLR1, gLR2, rgOk, fDict, fAbs, fInt1, gMax2, gMin2, g1S, g2S, fItems, fR1, fR2, bd62, lowE, clr, bakE, kpE, fApp, fIns, fPop, fPopA, fPopI, fClr, fRev, fExt, allTop, fEq, fNe, fNeg, fIsN, DL.D.isNon, DL.D.key, dGet, canE, nrm, cT, sAug_k, ixN, fRvS, fAll, dBls_map, fIsB, fIdx, msk, Function.comp_def, cut_hi, cut_lo, cut_both]
  cases n <;> exact ⟨rfl, rfl⟩
theorem prs_eqd (ws : List (Int × Int)) : eqd 60 (.lst (ws.map DL.prD)) = true := by
  rw [eqd, List.all_eq_true]
  intro d hd
  obtain ⟨q, _, rfl⟩ := List.mem_map.mp hd
  exact pr_eqd _ q
theorem fIn_prs (p : Bool) (q : Int × Int) (ws : List (Int × Int)) : fIn p (DL.prD q) (.lst (ws.map DL.prD)) = some (2, .bl (decide (q ∈ ws) == p)) := by
  have e : ((ws.map DL.prD).any fun z => deq z (DL.prD q)) = decide (q ∈ ws) := by
    rw [List.any_map, Bool.eq_iff_iff, List.any_eq_true, decide_eq_true_iff]
    simp [mkS, finS, bNs, gL1, gL2, gLL2, fI2, tkA, ptA, GS, GL, fPut, ful, l12, l02, DL.D.mut, DL.D.imm, DL.D.imm.immAll, fdOk, fIx, fMul, fAdd, powOk, gLstL, gTupL, DL.D.ty, lvN, szOk, fLen, fListOf, fTupOf, fSl, gSlN, gSlH, gSlL, gSlB, fIsi, fIsiT, isT, DL.D.tyN, DL.D.isX, fInts, DL.D.seqI, fLenSet, fLR, fLR1, gLR2, rgOk, fDict, fAbs, fInt1, gMax2, gMin2, g1S, g2S, fItems, fR1, fR2, bd62, lowE, clr, bakE, kpE, fApp, fIns, fPop, fPopA, fPopI, fClr, fRev, fExt, allTop, fEq, fNe, fNeg, fIsN, DL.D.isNon, DL.D.key, dGet, canE, nrm, cT, sAug_k, ixN, fRvS, fAll, dBls_map, fIsB, fIdx, msk, Function.comp_def, cut_hi, cut_lo, cut_both, pr_deq2]
  show (if eqd 60 (DL.prD q) && eqd 60 (.lst (ws.map DL.prD)) then some ((2 : Nat), D.bl (((ws.map DL.prD).any fun z => deq z (DL.prD q)) == p)) else none) = _
  rw [prs_eqd, pr_eqd, e]
  rfl
theorem beside_ok {st1 st2 : List Bool} {w1 w2 : List (Int × Int)} {p1 p2 : List Int} {Y1 Y2 : List (Int × Int)} (h1 : Drn st1 w1 p1 Y1) (h2 : Drn st2 w2 p2 Y2) (l l' : Nat) :
    F_nets_beside [(l, netD st1 w1), (l', netD st2 w2)] = .ret (2, netD (st1 ++ st2) (sortP (uni st1.length w1 w2))) [] := by
  have a1 := h1.len
  have a2 := h2.len
  have l1 := h1.wlen
  have l2 := h2.wlen
  have wm := ways_moved_ok st1.length (.lst (st2.map stD)) w2 (by omega)
  have un := uni_net h1 h2
  have fi := fIn_prs false
  obtain ⟨V, hV⟩ : ∃ V, w2.map (mv st1.length) = V := ⟨_, rfl⟩
  have Vl : V.length = w2.length := by rw [← hV, List.length_map]
  have eU : w1.map DL.prD ++ List.map DL.prD (V.filter fun q => !decide (q ∈ w1)) = (uni st1.length w1 w2).map DL.prD := by
    unfold uni
    rw [hV, List.map_append]
    congr 2
    apply List.filter_congr
    intro q _
    by_cases c : q ∈ w1 <;> simp [mkS, finS, bNs, gL1, gL2, gLL2, fI2, tkA, ptA, GS, GL, fPut, ful, l12, l02, DL.D.mut, DL.D.imm, DL.D.imm.immAll, fdOk, fIx, fMul, fAdd, powOk, gLstL, gTupL, DL.D.ty, lvN, szOk, fLen, fListOf, fTupOf, fSl, gSlN, gSlH, gSlL, gSlB, fIsi, fIsiT, isT, DL.D.tyN, DL.D.isX, fInts, DL.D.seqI, fLenSet, fLR, fLR1, gLR2, rgOk, fDict, fAbs, fInt1, gMax2, gMin2, g1S, g2S, fItems, fR1, fR2, bd62, lowE, clr, bakE, kpE, fApp, fIns, fPop, fPopA, fPopI, fClr, fRev, fExt, allTop, fEq, fNe, fNeg, fIsN, DL.D.isNon, DL.D.key, dGet, canE, nrm, cT, sAug_k, ixN, fRvS, fAll, dBls_map, fIsB, fIdx, msk, Function.comp_def, cut_hi, cut_lo, cut_both, c]
  rw [hV] at wm
  rw [List.map_append] at un
  have z1 : V.length ≤ 16777216 := by omega
  have z2 : w1.length + (V.filter fun q => !decide (q ∈ w1)).length ≤ 16777216 := by
    have := List.length_filter_le (fun q => !decide (q ∈ w1)) V
    omega
  have z3 : st1.length + st2.length ≤ 16777216 := by omega
  have im1 := st_imm st1
  have im2 := st_imm st2
  have z4 : st1.length ≤ 16777216 := by omega
  have pi : ∀ q : Int × Int, (DL.prD q).imm = true := fun _ => rfl
  have cm : colMA V (fun x _ => if x ∈ w1 then some none else some (some (DL.prD x))) = some ((V.filter fun q => !decide (q ∈ w1)).map DL.prD) := by
    rw [← colM_A (fun x => if x ∈ w1 then some none else some (some (DL.prD x)))]
    refine colM_is (fun q => !decide (q ∈ w1)) DL.prD fun q _ => ?_
    by_cases c : q ∈ w1 <;> simp [mkS, finS, bNs, gL1, gL2, gLL2, fI2, tkA, ptA, GS, GL, fPut, ful, l12, l02, DL.D.mut, DL.D.imm, DL.D.imm.immAll, fdOk, fIx, fMul, fAdd, powOk, gLstL, gTupL, DL.D.ty, lvN, szOk, fLen, fListOf, fTupOf, fSl, gSlN, gSlH, gSlL, gSlB, fIsi, fIsiT, isT, DL.D.tyN, DL.D.isX, fInts, DL.D.seqI, fLenSet, fLR, fLR1, gLR2, rgOk, fDict, fAbs, fInt1, gMax2, gMin2, g1S, g2S, fItems, fR1, fR2, bd62, lowE, clr, bakE, kpE, fApp, fIns, fPop, fPopA, fPopI, fClr, fRev, fExt, allTop, fEq, fNe, fNeg, fIsN, DL.D.isNon, DL.D.key, dGet, canE, nrm, cT, sAug_k, ixN, fRvS, fAll, dBls_map, fIsB, fIdx, msk, Function.comp_def, cut_hi, cut_lo, cut_both, c]
  have im3 := prD_imm w1
  have im4 := prD_imm (V.filter fun q => !decide (q ∈ w1))
  rw [run_nets_beside]
  unfold netD
  simp +contextual [mkS, finS, bNs, gL1, gL2, gLL2, fI2, tkA, ptA, GS, GL, fPut, ful, l12, l02, DL.D.mut, DL.D.imm, DL.D.imm.immAll, fdOk, fIx, fMul, fAdd, powOk, gLstL, gTupL, DL.D.ty, lvN, szOk, fLen, fListOf, fTupOf, fSl, gSlN, gSlH, gSlL, gSlB, fIsi, fIsiT, isT, DL.D.tyN, DL.D.isX, fInts, DL.D.seqI, fLenSet, fLR, fLR1, gLR2, rgOk, fDict, fAbs, fInt1, gMax2, gMin2, g1S, g2S, fItems, fR1, fR2, bd62, lowE, clr, bakE, kpE, fApp, fIns, fPop, fPopA, fPopI, fClr, fRev, fExt, allTop, fEq, fNe, fNeg, fIsN, DL.D.isNon, DL.D.key, dGet, canE, nrm, cT, sAug_k, ixN, fRvS, fAll, dBls_map, fIsB, fIdx, msk, Function.comp_def, cut_hi, cut_lo, cut_both, m_nets_beside, ix0, ix1, wm, fi, colM_A, z1, z2, z3, z4, eU, im1, im2, im3, im4, pi, cm, un, -List.map_map, -atI_cons]
end LW

namespace LW
open L2 DL PySem PySem.Spec PyProof.Rows
theorem law_beside_ok {st1 st2 : List Bool} {w1 w2 : List (Int × Int)} {p1 p2 : List Int} {Y1 Y2 : List (Int × Int)} (h1 : Drn st1 w1 p1 Y1) (h2 : Drn st2 w2 p2 Y2) (l l' : Nat) :
    F__law_beside [(l, netD st1 w1), (l', netD st2 w2)] = .ret (2, netD (st1 ++ st2) (sortP (uni st1.length w1 w2))) [] := by
  have a1 := h1.len
  have a2 := h2.len
  have l1 := h1.wlen
  have l2 := h2.wlen
  have la := later_ok st1.length
  have e : List.map (fun q : Int × Int => D.tup [.int (mvp st1.length q.1), .int (mvp st1.length q.2)]) w2 = (w2.map (mv st1.length)).map DL.prD := by rw [List.map_map]; rfl
  have us := uni_sort (n := st1.length) h1.nd h2.nd
  obtain ⟨V, hV⟩ : ∃ V, w2.map (mv st1.length) = V := ⟨_, rfl⟩
  have Vl : V.length = w2.length := by rw [← hV, List.length_map]
  rw [hV] at e us
  have ss0 := fSortSetA_prs 0 (qs := w1 ++ V) (by rw [List.length_append]; omega)
  have ss1 := fSortSetA_prs 1 (qs := w1 ++ V) (by rw [List.length_append]; omega)
  have ss2 := fSortSetA_prs 2 (qs := w1 ++ V) (by rw [List.length_append]; omega)
  rw [List.map_append, us] at ss0 ss1 ss2
  have z : w2.length ≤ 16777216 := by omega
  have z1 : st1.length ≤ 16777216 := by omega
  have z2 : w1.length + w2.length ≤ 16777216 := by omega
  have z3 : st1.length + st2.length ≤ 16777216 := by omega
  have im1 := st_imm st1
  have im2 := st_imm st2
  have im3 := prD_imm w1
  have im4 := prD_imm V
  rw [run__law_beside]
  unfold netD
  simp +contextual [mkS, finS, bNs, gL1, gL2, gLL2, fI2, tkA, ptA, GS, GL, fPut, ful, l12, l02, DL.D.mut, DL.D.imm, DL.D.imm.immAll, fdOk, fIx, fMul, fAdd, powOk, gLstL, gTupL, DL.D.ty, lvN, szOk, fLen, fListOf, fTupOf, fSl, gSlN, gSlH, gSlL, gSlB, fIsi, fIsiT, isT, DL.D.tyN, DL.D.isX, fInts, DL.D.seqI, fLenSet, fLR, fLR1, gLR2, rgOk, fDict, fAbs, fInt1, gMax2, gMin2, g1S, g2S, fItems, fR1, fR2, bd62, lowE, clr, bakE, kpE, fApp, fIns, fPop, fPopA, fPopI, fClr, fRev, fExt, allTop, fEq, fNe, fNeg, fIsN, DL.D.isNon, DL.D.key, dGet, canE, nrm, cT, sAug_k, ixN, fRvS, fAll, dBls_map, fIsB, fIdx, msk, Function.comp_def, cut_hi, cut_lo, cut_both, m__law_beside, ix0, ix1, colM_A, DL.prD, la, e, Vl, z, z1, z2, z3, im1, im2, im3, im4, ss0, ss1, ss2, -List.map_map, -atI_cons]
theorem copy_ok {st : List Bool} {ws : List (Int × Int)} (hs : st.length ≤ 1000) (hw : ws.length ≤ 1000) (l : Nat) : F__law_copy [(l, netD st ws)] = .ret (2, netD st ws) [] := by
  have z1 : st.length ≤ 16777216 := by omega
  have z2 : ws.length ≤ 16777216 := by omega
  have im1 := st_imm st
  have im3 := prD_imm ws
  rw [run__law_copy]
  unfold netD
  simp [mkS, finS, bNs, gL1, gL2, gLL2, fI2, tkA, ptA, GS, GL, fPut, ful, l12, l02, DL.D.mut, DL.D.imm, DL.D.imm.immAll, fdOk, fIx, fMul, fAdd, powOk, gLstL, gTupL, DL.D.ty, lvN, szOk, fLen, fListOf, fTupOf, fSl, gSlN, gSlH, gSlL, gSlB, fIsi, fIsiT, isT, DL.D.tyN, DL.D.isX, fInts, DL.D.seqI, fLenSet, fLR, fLR1, gLR2, rgOk, fDict, fAbs, fInt1, gMax2, gMin2, g1S, g2S, fItems, fR1, fR2, bd62, lowE, clr, bakE, kpE, fApp, fIns, fPop, fPopA, fPopI, fClr, fRev, fExt, allTop, fEq, fNe, fNeg, fIsN, DL.D.isNon, DL.D.key, dGet, canE, nrm, cT, sAug_k, ixN, fRvS, fAll, dBls_map, fIsB, fIdx, msk, Function.comp_def, cut_hi, cut_lo, cut_both, m__law_copy, ix0, ix1, z1, z2, im1, im3, -atI_cons]
theorem st_deq (b : Bool) : deq (stD b) (stD b) = true := by
  unfold stD
  rw [deq]
  simp [mkS, finS, bNs, gL1, gL2, gLL2, fI2, tkA, ptA, GS, GL, fPut, ful, l12, l02, DL.D.mut, DL.D.imm, DL.D.imm.immAll, fdOk, fIx, fMul, fAdd, powOk, gLstL, gTupL, DL.D.ty, lvN, szOk, fLen, fListOf, fTupOf, fSl, gSlN, gSlH, gSlL, gSlB, fIsi, fIsiT, isT, DL.D.tyN, DL.D.isX, fInts, DL.D.seqI, fLenSet, fLR, fLR1, gLR2, rgOk, fDict, fAbs, fInt1, gMax2, gMin2, g1S, g2S, fItems, fR1, fR2, bd62, lowE, clr, bakE, kpE, fApp, fIns, fPop, fPopA, fPopI, fClr, fRev, fExt, allTop, fEq, fNe, fNeg, fIsN, DL.D.isNon, DL.D.key, dGet, canE, nrm, cT, sAug_k, ixN, fRvS, fAll, dBls_map, fIsB, fIdx, msk, Function.comp_def, cut_hi, cut_lo, cut_both]
theorem deqAll_refl : ∀ {ds : List D}, (∀ d ∈ ds, deq d d = true) → deqAll ds ds = true
  | [], _ => by rw [deqAll]
  | d :: ds, h => by rw [deqAll, h d (List.mem_cons_self ..), deqAll_refl fun x hx => h x (List.mem_cons_of_mem _ hx)]; rfl
theorem net_deq (st : List Bool) (ws : List (Int × Int)) : deq (netD st ws) (netD st ws) = true := by
  unfold netD
  rw [deq]
  refine deqAll_refl fun d hd => ?_
  rcases List.mem_cons.mp hd with rfl | hd
  · rw [deq]
    refine deqAll_refl fun d hd => ?_
    obtain ⟨b, _, rfl⟩ := List.mem_map.mp hd
    exact st_deq b
  · rw [List.mem_singleton.mp hd, deq]
    refine deqAll_refl fun d hd => ?_
    obtain ⟨b, _, rfl⟩ := List.mem_map.mp hd
    rw [pr_deq2]
    simp [mkS, finS, bNs, gL1, gL2, gLL2, fI2, tkA, ptA, GS, GL, fPut, ful, l12, l02, DL.D.mut, DL.D.imm, DL.D.imm.immAll, fdOk, fIx, fMul, fAdd, powOk, gLstL, gTupL, DL.D.ty, lvN, szOk, fLen, fListOf, fTupOf, fSl, gSlN, gSlH, gSlL, gSlB, fIsi, fIsiT, isT, DL.D.tyN, DL.D.isX, fInts, DL.D.seqI, fLenSet, fLR, fLR1, gLR2, rgOk, fDict, fAbs, fInt1, gMax2, gMin2, g1S, g2S, fItems, fR1, fR2, bd62, lowE, clr, bakE, kpE, fApp, fIns, fPop, fPopA, fPopI, fClr, fRev, fExt, allTop, fEq, fNe, fNeg, fIsN, DL.D.isNon, DL.D.key, dGet, canE, nrm, cT, sAug_k, ixN, fRvS, fAll, dBls_map, fIsB, fIdx, msk, Function.comp_def, cut_hi, cut_lo, cut_both]
theorem st_eqd' (n : Nat) (b : Bool) : eqd n (stD b) = true := by
  have h1 : (Str.ofString "pile").cps.all (· < 0x110000) = true := by decide +kernel
  have h2 : (Str.ofString "line").cps.all (· < 0x110000) = true := by decide +kernel
  cases b <;> cases n <;> first | exact h1 | exact h2
theorem net_eqd (n : Nat) (st : List Bool) (ws : List (Int × Int)) : eqd (n + 3) (netD st ws) = true := by
  unfold netD
  rw [eqd, List.all_eq_true]
  intro d hd
  rcases List.mem_cons.mp hd with rfl | hd
  · rw [eqd, List.all_eq_true]
    intro d hd
    obtain ⟨b, _, rfl⟩ := List.mem_map.mp hd
    exact st_eqd' _ b
  · rw [List.mem_singleton.mp hd, eqd, List.all_eq_true]
    intro d hd
    obtain ⟨b, _, rfl⟩ := List.mem_map.mp hd
    exact pr_eqd _ b
theorem nets_deq (a b : D) (ha : deq a a = true) (hb : deq b b = true) : deq (.lst [a, b]) (.lst [a, b]) = true := by
  rw [deq]
  exact deqAll_refl fun d hd => by
    rcases List.mem_cons.mp hd with rfl | hd
    · exact ha
    · rw [List.mem_singleton.mp hd]; exact hb
theorem nets_eqd (a b : D) (ha : eqd 59 a = true) (hb : eqd 59 b = true) : eqd 60 (.lst [a, b]) = true := by
  rw [eqd, List.all_eq_true]
  intro d hd
  rcases List.mem_cons.mp hd with rfl | hd
  · exact ha
  · rw [List.mem_singleton.mp hd]; exact hb
theorem is_net_ok {st : List Bool} {ws : List (Int × Int)} (hw : ws.length ≤ 1000) (l0 l1 : Nat) : F__law_is_net [(l0, netD st ws), (l1, netD st ws)] = .ret (2, .bl true) [] := by
  have nd := net_deq st ws
  have ne := net_eqd 57 st ws
  have lp : ∀ lv l2 : Nat, forL (bName 2) lb1__law_is_net ((ws.map DL.prD).map fun d => (lv, d)) [some (l2, netD st ws), none, none] = .nx [some (l2, netD st ws), none, none] := fun lv l2 => forL_const fun y hy => by
    obtain ⟨d, hd, rfl⟩ := List.mem_map.mp hy
    obtain ⟨q, _, rfl⟩ := List.mem_map.mp hd
    refine ⟨_, rfl, .inl ?_⟩
    unfold netD
    simp [mkS, finS, bNs, gL1, gL2, gLL2, fI2, tkA, ptA, GS, GL, fPut, ful, l12, l02, DL.D.mut, DL.D.imm, DL.D.imm.immAll, fdOk, fIx, fMul, fAdd, powOk, gLstL, gTupL, DL.D.ty, lvN, szOk, fLen, fListOf, fTupOf, fSl, gSlN, gSlH, gSlL, gSlB, fIsi, fIsiT, isT, DL.D.tyN, DL.D.isX, fInts, DL.D.seqI, fLenSet, fLR, fLR1, gLR2, rgOk, fDict, fAbs, fInt1, gMax2, gMin2, g1S, g2S, fItems, fR1, fR2, bd62, lowE, clr, bakE, kpE, fApp, fIns, fPop, fPopA, fPopI, fClr, fRev, fExt, allTop, fEq, fNe, fNeg, fIsN, DL.D.isNon, DL.D.key, dGet, canE, nrm, cT, sAug_k, ixN, fRvS, fAll, dBls_map, fIsB, fIdx, msk, Function.comp_def, cut_hi, cut_lo, cut_both, lb1__law_is_net, DL.prD, ix0, ix1, -atI_cons]
  have im1 := st_imm st
  have im3 := prD_imm ws
  rw [run__law_is_net]
  unfold netD at nd ne lp ⊢
  simp [mkS, finS, bNs, gL1, gL2, gLL2, fI2, tkA, ptA, GS, GL, fPut, ful, l12, l02, DL.D.mut, DL.D.imm, DL.D.imm.immAll, fdOk, fIx, fMul, fAdd, powOk, gLstL, gTupL, DL.D.ty, lvN, szOk, fLen, fListOf, fTupOf, fSl, gSlN, gSlH, gSlL, gSlB, fIsi, fIsiT, isT, DL.D.tyN, DL.D.isX, fInts, DL.D.seqI, fLenSet, fLR, fLR1, gLR2, rgOk, fDict, fAbs, fInt1, gMax2, gMin2, g1S, g2S, fItems, fR1, fR2, bd62, lowE, clr, bakE, kpE, fApp, fIns, fPop, fPopA, fPopI, fClr, fRev, fExt, allTop, fEq, fNe, fNeg, fIsN, DL.D.isNon, DL.D.key, dGet, canE, nrm, cT, sAug_k, ixN, fRvS, fAll, dBls_map, fIsB, fIdx, msk, Function.comp_def, cut_hi, cut_lo, cut_both, m__law_is_net, nd, ne, ix0, ix1, lp, -atI_cons, -List.map_map]
end LW

namespace LW
open L2 DL PySem PySem.Spec PyProof.Rows
theorem turn_ok {st1 st2 : List Bool} {w1 w2 : List (Int × Int)} {p1 p2 : List Int} {Y1 Y2 : List (Int × Int)} (h1 : Drn st1 w1 p1 Y1) (h2 : Drn st2 w2 p2 Y2) (C : List Int) (l1 l4 : Nat) (N0 N1 : D) (i j : Int)
    (e1 : atI [N0, N1] i = some (netD st1 w1)) (e2 : atI [N0, N1] j = some (netD st2 w2)) (l5 l6 l9 : Nat) (x9 : D) (h9 : x9.imm = true) :
    lb1_law [none, some (l1, .lst (C.map .int)), none, none, some (l4, .lst [N0, N1]), some (2, .int i), some (2, .int j), some (2, netD (st1 ++ st2) (sortP (uni st1.length w1 w2))), some (2, .lst [netD st1 w1, netD st2 w2]), some (l9, x9), none] =
    .nx [none, some (l1, .lst (C.map .int)), none, none, some (l4, .lst [N0, N1]), some (2, .int i), some (2, .int j), some (2, netD (st1 ++ st2) (sortP (uni st1.length w1 w2))), some (2, .lst [netD st1 w1, netD st2 w2]), none, none] := by
  have b := beside_ok h1 h2
  have ul := uni_len (n := st1.length) (w1 := w1) (w2 := w2)
  have a1 := h1.wlen
  have a2 := h2.wlen
  have sl : (sortP (uni st1.length w1 w2)).length ≤ 1000 := by rw [(sortP_perm _).length_eq]; omega
  have isn := is_net_ok (st := st1 ++ st2) (ws := sortP (uni st1.length w1 w2)) sl
  have d1 := nets_deq _ _ (net_deq st1 w1) (net_deq st2 w2)
  have d2 := nets_eqd _ _ (net_eqd 56 st1 w1) (net_eqd 56 st2 w2)
  obtain ⟨R, hR⟩ : ∃ R, sortP (uni st1.length w1 w2) = R := ⟨_, rfl⟩
  obtain ⟨T, hT⟩ : ∃ T, st1 ++ st2 = T := ⟨_, rfl⟩
  have Tl : T.length ≤ 12 := by rw [← hT, List.length_append]; have := h1.len; have := h2.len; omega
  rw [hR] at b sl isn ⊢
  rw [hT] at b isn ⊢
  have im1 := st_imm T
  have im3 := prD_imm R
  have z : T.length ≤ 16777215 := by omega
  have q0 : (netD st1 w1).imm = false := rfl
  have q1 : (netD st2 w2).imm = false := rfl
  obtain ⟨A, hA⟩ : ∃ A, netD st1 w1 = A := ⟨_, rfl⟩
  obtain ⟨B, hB⟩ : ∃ B, netD st2 w2 = B := ⟨_, rfl⟩
  rw [hA] at e1 b d1 d2 q0 ⊢
  rw [hB] at e2 b d1 d2 q1 ⊢
  unfold netD at b isn ⊢
  simp [mkS, finS, bNs, gL1, gL2, gLL2, fI2, tkA, ptA, GS, GL, fPut, ful, l12, l02, DL.D.mut, DL.D.imm, DL.D.imm.immAll, fdOk, fIx, fMul, fAdd, powOk, gLstL, gTupL, DL.D.ty, lvN, szOk, fLen, fListOf, fTupOf, fSl, gSlN, gSlH, gSlL, gSlB, fIsi, fIsiT, isT, DL.D.tyN, DL.D.isX, fInts, DL.D.seqI, fLenSet, fLR, fLR1, gLR2, rgOk, fDict, fAbs, fInt1, gMax2, gMin2, g1S, g2S, fItems, fR1, fR2, bd62, lowE, clr, bakE, kpE, fApp, fIns, fPop, fPopA, fPopI, fClr, fRev, fExt, allTop, fEq, fNe, fNeg, fIsN, DL.D.isNon, DL.D.key, dGet, canE, nrm, cT, sAug_k, ixN, fRvS, fAll, dBls_map, fIsB, fIdx, msk, Function.comp_def, cut_hi, cut_lo, cut_both, lb1_law, ix0, ix1, b, isn, e1, e2, d1, d2, im1, im3, z, q0, q1, h9, nestL, outD, -atI_cons]
theorem pair_turn {st1 st2 : List Bool} {w1 w2 : List (Int × Int)} {p1 p2 : List Int} {Y1 Y2 : List (Int × Int)} (h1 : Drn st1 w1 p1 Y1) (h2 : Drn st2 w2 p2 Y2) (C : List Int) (l1 l4 : Nat) (N0 N1 : D) (i j : Int)
    (e1 : atI [N0, N1] i = some (netD st1 w1)) (e2 : atI [N0, N1] j = some (netD st2 w2)) (l5 l6 : Nat) (h5 : l5 < 10) (h6 : l6 < 10) :
    lb2_law [none, some (l1, .lst (C.map .int)), none, none, some (l4, .lst [N0, N1]), some (l5, .int i), some (l6, .int j), none, none, none, none] =
    .nx [none, some (l1, .lst (C.map .int)), none, none, some (l4, .lst [N0, N1]), none, none, none, none, none, none] := by
  have lb := law_beside_ok h1 h2
  have c1 := copy_ok (st := st1) (ws := w1) (by have := h1.len; omega) (by have := h1.wlen; omega)
  have c2 := copy_ok (st := st2) (ws := w2) (by have := h2.len; omega) (by have := h2.wlen; omega)
  have lp : ∀ l4, forL (bName 9) lb1_law ((rngD 0 2).map fun d => (0, d)) [none, some (l1, .lst (C.map .int)), none, none, some (l4, .lst [N0, N1]), some (2, .int i), some (2, .int j), some (2, netD (st1 ++ st2) (sortP (uni st1.length w1 w2))), some (2, .lst [netD st1 w1, netD st2 w2]), none, none] = .nx [none, some (l1, .lst (C.map .int)), none, none, some (l4, .lst [N0, N1]), some (2, .int i), some (2, .int j), some (2, netD (st1 ++ st2) (sortP (uni st1.length w1 w2))), some (2, .lst [netD st1 w1, netD st2 w2]), none, none] := fun l4 => forL_const fun y hy => by
    obtain ⟨d, hd, rfl⟩ := List.mem_map.mp hy
    unfold rngD at hd
    obtain ⟨k, hk, rfl⟩ := List.mem_map.mp hd
    exact ⟨_, rfl, .inl (turn_ok h1 h2 C l1 l4 N0 N1 i j e1 e2 2 2 0 (.int (0 + (k : Int))) rfl)⟩
  have q0 : (netD st1 w1).imm = false := rfl
  have q1 : (netD st2 w2).imm = false := rfl
  have q2 : (netD (st1 ++ st2) (sortP (uni st1.length w1 w2))).imm = false := rfl
  obtain ⟨R, hR⟩ : ∃ R, netD (st1 ++ st2) (sortP (uni st1.length w1 w2)) = R := ⟨_, rfl⟩
  rw [hR] at lb lp q2
  obtain ⟨A, hA⟩ : ∃ A, netD st1 w1 = A := ⟨_, rfl⟩
  obtain ⟨B, hB⟩ : ∃ B, netD st2 w2 = B := ⟨_, rfl⟩
  rw [hA] at e1 lb c1 lp q0
  rw [hB] at e2 lb c2 lp q1
  simp [mkS, finS, bNs, gL1, gL2, gLL2, fI2, tkA, ptA, GS, GL, fPut, ful, l12, l02, DL.D.mut, DL.D.imm, DL.D.imm.immAll, fdOk, fIx, fMul, fAdd, powOk, gLstL, gTupL, DL.D.ty, lvN, szOk, fLen, fListOf, fTupOf, fSl, gSlN, gSlH, gSlL, gSlB, fIsi, fIsiT, isT, DL.D.tyN, DL.D.isX, fInts, DL.D.seqI, fLenSet, fLR, fLR1, gLR2, rgOk, fDict, fAbs, fInt1, gMax2, gMin2, g1S, g2S, fItems, fR1, fR2, bd62, lowE, clr, bakE, kpE, fApp, fIns, fPop, fPopA, fPopI, fClr, fRev, fExt, allTop, fEq, fNe, fNeg, fIsN, DL.D.isNon, DL.D.key, dGet, canE, nrm, cT, sAug_k, ixN, fRvS, fAll, dBls_map, fIsB, fIdx, msk, Function.comp_def, cut_hi, cut_lo, cut_both, lb2_law, h5, h6, e1, e2, lb, c1, c2, q0, q1, q2, lp, -atI_cons]
theorem most2 (b : Bool) : ∃ m : Nat, m ≤ 6 ∧ atI [D.int 3, .int 6] (if b then 1 else 0) = some (.int m) := by
  cases b
  · exact ⟨3, by decide, rfl⟩
  · exact ⟨6, by decide, rfl⟩
theorem cell_turn (C : List Int) (l1 : Nat) (c : Int) (l2 : Nat) : lb3_law [none, some (l1, .lst (C.map .int)), some (l2, .int c), none, none, none, none, none, none, none, none] = .nx [none, some (l1, .lst (C.map .int)), none, none, none, none, none, none, none, none, none] := by
  have s1 := stir_ok c 180 (by decide)
  obtain ⟨m, hm, e⟩ := most2 (decide (stir c 180 % 4 = 0))
  obtain ⟨st1, w1, p1, Y1, d1, n1⟩ := law_net_ok c 0 m hm
  obtain ⟨st2, w2, p2, Y2, d2, n2⟩ := law_net_ok c 100 m hm
  rw [show ((0 : Nat) : Int) = 0 from rfl] at n1
  rw [show ((100 : Nat) : Int) = 100 from rfl] at n2
  have t := fun {st1 st2 w1 w2 p1 p2 Y1 Y2} (h1 : Drn st1 w1 p1 Y1) (h2 : Drn st2 w2 p2 Y2) l4 N0 N1 i j e1 e2 => pair_turn h1 h2 C l1 l4 N0 N1 i j e1 e2 2 2 (by decide) (by decide)
  have lp : ∀ l4, forL (bUn [5, 6]) lb2_law [(2, .tup [.int 0, .int 1]), (2, .tup [.int 1, .int 0]), (2, .tup [.int 0, .int 0])] [none, some (l1, .lst (C.map .int)), none, none, some (l4, .lst [netD st1 w1, netD st2 w2]), none, none, none, none, none, none] = .nx [none, some (l1, .lst (C.map .int)), none, none, some (l4, .lst [netD st1 w1, netD st2 w2]), none, none, none, none, none, none] := fun l4 => forL_const fun y hy => by
    simp only [List.mem_cons, List.not_mem_nil, or_false] at hy
    rcases hy with rfl | rfl | rfl
    · exact ⟨_, rfl, .inl (t d1 d2 l4 _ _ 0 1 rfl rfl)⟩
    · exact ⟨_, rfl, .inl (t d2 d1 l4 _ _ 1 0 rfl rfl)⟩
    · exact ⟨_, rfl, .inl (t d1 d1 l4 _ _ 0 0 rfl rfl)⟩
  have t0 := fun {st1 st2 w1 w2 p1 p2 Y1 Y2} (h1 : Drn st1 w1 p1 Y1) (h2 : Drn st2 w2 p2 Y2) l4 N0 N1 i j e1 e2 => pair_turn h1 h2 C l1 l4 N0 N1 i j e1 e2 0 0 (by decide) (by decide)
  have lp0 : ∀ l4, forL (bUn [5, 6]) lb2_law [(0, .tup [.int 0, .int 1]), (0, .tup [.int 1, .int 0]), (0, .tup [.int 0, .int 0])] [none, some (l1, .lst (C.map .int)), none, none, some (l4, .lst [netD st1 w1, netD st2 w2]), none, none, none, none, none, none] = .nx [none, some (l1, .lst (C.map .int)), none, none, some (l4, .lst [netD st1 w1, netD st2 w2]), none, none, none, none, none, none] := fun l4 => forL_const fun y hy => by
    simp only [List.mem_cons, List.not_mem_nil, or_false] at hy
    rcases hy with rfl | rfl | rfl
    · exact ⟨_, rfl, .inl (t0 d1 d2 l4 _ _ 0 1 rfl rfl)⟩
    · exact ⟨_, rfl, .inl (t0 d2 d1 l4 _ _ 1 0 rfl rfl)⟩
    · exact ⟨_, rfl, .inl (t0 d1 d1 l4 _ _ 0 0 rfl rfl)⟩
  have q0 : (netD st1 w1).imm = false := rfl
  have q1 : (netD st2 w2).imm = false := rfl
  obtain ⟨A, hA⟩ : ∃ A, netD st1 w1 = A := ⟨_, rfl⟩
  obtain ⟨B, hB⟩ : ∃ B, netD st2 w2 = B := ⟨_, rfl⟩
  have n1' : ∀ l0 l1 l2, F__law_net [(l0, .int c), (l1, .int 0), (l2, .int m)] = .ret (2, A) [] := fun l0 l1 l2 => by rw [n1, ← hA]; rfl
  have n2' : ∀ l0 l1 l2, F__law_net [(l0, .int c), (l1, .int 100), (l2, .int m)] = .ret (2, B) [] := fun l0 l1 l2 => by rw [n2, ← hB]; rfl
  rw [hA] at lp lp0 q0
  rw [hB] at lp lp0 q1
  by_cases k : stir c 180 % 4 = 0
  · rw [decide_eq_true k, if_pos rfl] at e
    simp [mkS, finS, bNs, gL1, gL2, gLL2, fI2, tkA, ptA, GS, GL, fPut, ful, l12, l02, DL.D.mut, DL.D.imm, DL.D.imm.immAll, fdOk, fIx, fMul, fAdd, powOk, gLstL, gTupL, DL.D.ty, lvN, szOk, fLen, fListOf, fTupOf, fSl, gSlN, gSlH, gSlL, gSlB, fIsi, fIsiT, isT, DL.D.tyN, DL.D.isX, fInts, DL.D.seqI, fLenSet, fLR, fLR1, gLR2, rgOk, fDict, fAbs, fInt1, gMax2, gMin2, g1S, g2S, fItems, fR1, fR2, bd62, lowE, clr, bakE, kpE, fApp, fIns, fPop, fPopA, fPopI, fClr, fRev, fExt, allTop, fEq, fNe, fNeg, fIsN, DL.D.isNon, DL.D.key, dGet, canE, nrm, cT, sAug_k, ixN, fRvS, fAll, dBls_map, fIsB, fIdx, msk, Function.comp_def, cut_hi, cut_lo, cut_both, lb3_law, s1, k, e, n1', n2', q0, q1, lp, lp0, -atI_cons]
  · rw [decide_eq_false k, if_neg (by decide)] at e
    simp [mkS, finS, bNs, gL1, gL2, gLL2, fI2, tkA, ptA, GS, GL, fPut, ful, l12, l02, DL.D.mut, DL.D.imm, DL.D.imm.immAll, fdOk, fIx, fMul, fAdd, powOk, gLstL, gTupL, DL.D.ty, lvN, szOk, fLen, fListOf, fTupOf, fSl, gSlN, gSlH, gSlL, gSlB, fIsi, fIsiT, isT, DL.D.tyN, DL.D.isX, fInts, DL.D.seqI, fLenSet, fLR, fLR1, gLR2, rgOk, fDict, fAbs, fInt1, gMax2, gMin2, g1S, g2S, fItems, fR1, fR2, bd62, lowE, clr, bakE, kpE, fApp, fIns, fPop, fPopA, fPopI, fClr, fRev, fExt, allTop, fEq, fNe, fNeg, fIsN, DL.D.isNon, DL.D.key, dGet, canE, nrm, cT, sAug_k, ixN, fRvS, fAll, dBls_map, fIsB, fIdx, msk, Function.comp_def, cut_hi, cut_lo, cut_both, lb3_law, s1, k, e, n1', n2', q0, q1, lp, lp0, -atI_cons]
theorem im_ints (L : List Int) : D.imm.immAll (L.map .int) = true := by
  induction L with
  | nil => rfl
  | cons x xs ih => simp [mkS, finS, bNs, gL1, gL2, gLL2, fI2, tkA, ptA, GS, GL, fPut, ful, l12, l02, DL.D.mut, DL.D.imm, DL.D.imm.immAll, fdOk, fIx, fMul, fAdd, powOk, gLstL, gTupL, DL.D.ty, lvN, szOk, fLen, fListOf, fTupOf, fSl, gSlN, gSlH, gSlL, gSlB, fIsi, fIsiT, isT, DL.D.tyN, DL.D.isX, fInts, DL.D.seqI, fLenSet, fLR, fLR1, gLR2, rgOk, fDict, fAbs, fInt1, gMax2, gMin2, g1S, g2S, fItems, fR1, fR2, bd62, lowE, clr, bakE, kpE, fApp, fIns, fPop, fPopA, fPopI, fClr, fRev, fExt, allTop, fEq, fNe, fNeg, fIsN, DL.D.isNon, DL.D.key, dGet, canE, nrm, cT, sAug_k, ixN, fRvS, fAll, dBls_map, fIsB, fIdx, msk, Function.comp_def, cut_hi, cut_lo, cut_both, D.imm.immAll, D.imm, ih]
theorem law_true (ns : List Int) (hl : ns.length ≤ 63) : ∃ l, F_law [(0, .frz ns)] = .ret (l, .bl true) [] := by
  refine ⟨2, ?_⟩
  have lp : ∀ (C : List Int) (l1 lv : Nat), forL (bName 2) lb3_law (C.map fun x => (lv, D.int x)) [none, some (l1, .lst (C.map .int)), none, none, none, none, none, none, none, none, none] = .nx [none, some (l1, .lst (C.map .int)), none, none, none, none, none, none, none, none, none] := fun C l1 lv => forL_const fun y hy => by
    obtain ⟨x, _, rfl⟩ := List.mem_map.mp hy
    exact ⟨_, rfl, .inl (cell_turn C l1 x (lv % 10))⟩
  rw [run_law]
  by_cases c : ns = []
  · subst c
    have := fun l1 lv => lp [0] l1 lv
    simp only [List.map_cons, List.map_nil] at this
    have cd : DL.cutD [] none (some 8) = [] := rfl
    simp [mkS, finS, bNs, gL1, gL2, gLL2, fI2, tkA, ptA, GS, GL, fPut, ful, l12, l02, DL.D.mut, DL.D.imm, DL.D.imm.immAll, fdOk, fIx, fMul, fAdd, powOk, gLstL, gTupL, DL.D.ty, lvN, szOk, fLen, fListOf, fTupOf, fSl, gSlN, gSlH, gSlL, gSlB, fIsi, fIsiT, isT, DL.D.tyN, DL.D.isX, fInts, DL.D.seqI, fLenSet, fLR, fLR1, gLR2, rgOk, fDict, fAbs, fInt1, gMax2, gMin2, g1S, g2S, fItems, fR1, fR2, bd62, lowE, clr, bakE, kpE, fApp, fIns, fPop, fPopA, fPopI, fClr, fRev, fExt, allTop, fEq, fNe, fNeg, fIsN, DL.D.isNon, DL.D.key, dGet, canE, nrm, cT, sAug_k, ixN, fRvS, fAll, dBls_map, fIsB, fIdx, msk, Function.comp_def, cut_hi, cut_lo, cut_both, m_law, this, cd]
  · have z : min 8 ns.length ≤ 16777216 := by omega
    have c2 : ¬ List.take 8 ns = [] := by
      intro h
      rw [List.take_eq_nil_iff] at h
      rcases h with h | h
      · cases h
      · exact c h
    have im := im_ints (ns.take 8)
    have lp2 := fun l1 lv => lp (ns.take 8) l1 lv
    have ei := eqd_ints (ns.take 8)
    rw [List.map_take] at im ei
    simp only [List.map_take] at lp2
    simp [mkS, finS, bNs, gL1, gL2, gLL2, fI2, tkA, ptA, GS, GL, fPut, ful, l12, l02, DL.D.mut, DL.D.imm, DL.D.imm.immAll, fdOk, fIx, fMul, fAdd, powOk, gLstL, gTupL, DL.D.ty, lvN, szOk, fLen, fListOf, fTupOf, fSl, gSlN, gSlH, gSlL, gSlB, fIsi, fIsiT, isT, DL.D.tyN, DL.D.isX, fInts, DL.D.seqI, fLenSet, fLR, fLR1, gLR2, rgOk, fDict, fAbs, fInt1, gMax2, gMin2, g1S, g2S, fItems, fR1, fR2, bd62, lowE, clr, bakE, kpE, fApp, fIns, fPop, fPopA, fPopI, fClr, fRev, fExt, allTop, fEq, fNe, fNeg, fIsN, DL.D.isNon, DL.D.key, dGet, canE, nrm, cT, sAug_k, ixN, fRvS, fAll, dBls_map, fIsB, fIdx, msk, Function.comp_def, cut_hi, cut_lo, cut_both, m_law, c, c2, z, im, ei, lp2]
end LW

namespace LW
open L2 DL PySem PySem.Spec PyProof.Rows
/-! ### each def does what its mirror says -/
def top (i : Nat) : Stmt := PySem.Challenge.pw_pilenets_k66_nets_beside.main.body.getD i (.Pass ⟨0, 0, 0, 0⟩)
abbrev st__law_later : Stmt := top 15
abbrev st__law_beside : Stmt := top 16
abbrev st__law_copy : Stmt := top 17
abbrev st__law_is_net : Stmt := top 18
abbrev st__law_stir : Stmt := top 13
abbrev st__law_net : Stmt := top 14
abbrev st_is_way : Stmt := top 5
abbrev st_leads_round : Stmt := top 6
abbrev st_net_of : Stmt := top 7
abbrev st_moved_by : Stmt := top 9
abbrev st_ways_moved : Stmt := top 10
abbrev st_nets_beside : Stmt := top 11
abbrev st_law : Stmt := top 19
structure Bt (K : PySem.W.Frag) (mg : Str → Option Value) : Prop where
  b_bool : mg "bool" = none
  b_enumerate : mg "enumerate" = none
  b_int : mg "int" = none
  b_isinstance : mg "isinstance" = none
  b_len : mg "len" = none
  b_list : mg "list" = none
  b_range : mg "range" = none
  b_set : mg "set" = none
  b_sorted : mg "sorted" = none
  b_tuple : mg "tuple" = none
  c_OUT : ∃ t, mg "OUT" = some (.int (-2) t)
  x_NoNet : XCls K mg "NoNet"
section
variable {P : Program} {w : World} {K : PySem.W.Frag} {mg : Str → Option Value} {base : Heap}
theorem sc__law_later : FnScope ["place", "many"] ["place", "many"] (defScope st__law_later) := ⟨rfl, rfl, rfl, by decide +kernel, rfl, by decide +kernel, by decide +kernel⟩
theorem ok__law_later {f : Addr} {fd : FuncData} (F : Fun K "_law_later" "_law_later" st__law_later f fd) (B : Bt K mg) : FnOk P w K mg base (L2.CX P w) 1 f fd ["place", "many"] (spF K mg 2 [] F__law_later) := by
  refine def_ok 2 2 [] (m__law_later) F sc__law_later rfl rfl (by decide) (by decide) fun cdv A outer s H E W hr tk => ?_
  have h100 := room100 hr
  have h65 := room65 hr
  have h64 := room64 hr
  have h1 := room1 hr
  have hp : PassesOwn (model P w) (A.deeper (envOfC "_law_later" (defScope st__law_later) s.heap.objs.size f cdv)) (cxOf (L2.CX P w) P w K mg base ["place", "many"] "_law_later" (defScope st__law_later) f cdv A outer s H E).env (cxOf (L2.CX P w) P w K mg base ["place", "many"] "_law_later" (defScope st__law_later) f cdv A outer s H E).xe := PassesOwn.leaving
  exact (ss_low [0, 1] (ss_can [true, true]
      (ss_one (s_ret (DP.toE (p_bin op_addAny vAdd (p_v 0) (p_bin op_mulB vMulB (p_v 1) (p_callTy call_int1 vInt1 (by rfl) (by exact B.b_int) (by rfl) (.cons (p_cmp op_ge vCmp (p_v 0) p_int (nomark _)) .nil rfl)))))))))
theorem sc__law_beside : FnScope ["one", "other", "many", "ways", "a", "b"] ["one", "other"] (defScope st__law_beside) := ⟨rfl, rfl, rfl, by decide +kernel, rfl, by decide +kernel, by decide +kernel⟩
theorem ok__law_beside {f : Addr} {fd : FuncData} (F : Fun K "_law_beside" "_law_beside" st__law_beside f fd) (B : Bt K mg) (C__law_later : DCal P w K mg base 1 "_law_later" ["place", "many"] 2 [] F__law_later) : FnOk P w K mg base (L2.CX P w) 2 f fd ["one", "other"] (spF K mg 2 [] F__law_beside) := by
  refine def_ok 2 6 [] (m__law_beside) F sc__law_beside rfl rfl (by decide) (by decide) fun cdv A outer s H E W hr tk => ?_
  have h100 := room100 hr
  have h65 := room65 hr
  have h64 := room64 hr
  have h1 := room1 hr
  have hp : PassesOwn (model P w) (A.deeper (envOfC "_law_beside" (defScope st__law_beside) s.heap.objs.size f cdv)) (cxOf (L2.CX P w) P w K mg base ["one", "other", "many", "ways", "a", "b"] "_law_beside" (defScope st__law_beside) f cdv A outer s H E).env (cxOf (L2.CX P w) P w K mg base ["one", "other", "many", "ways", "a", "b"] "_law_beside" (defScope st__law_beside) f cdv A outer s H E).xe := PassesOwn.leaving
  exact (ss_low [0, 1] (ss_can [true, true, true, true, true, true]
      (ss_cons (s_st 2 sc__law_beside.nd (DP.toE (p_callB call_lenAny vLen (by rfl) (by exact B.b_len) (by rfl) (.cons (p_ix h100 (p_v 0) p_int (fun _ _ => rfl)) .nil rfl))))
      (ss_cons (s_setLcP (own := [("a", 4), ("b", 5)]) (i := 3) rfl sc__law_beside.nd rfl rfl (sw_true rfl rfl rfl rfl) (dip_seq (p_ix h100 (p_v 1) p_int (fun _ _ => rfl))) (blkOk_by (own := [("a", 4), ("b", 5)]) (by first | (dsimp only [cxOf, envOfC, compEnvC]; decide +kernel) | with_unfolding_all rfl)) (by decide) (tg_un rfl) (fun _ _ _ _ _ => (pg_un rfl (pgs_cons (g_n 4 sc__law_beside.nd) (pgs_cons (g_n 5 sc__law_beside.nd) pgs_nil)))) (fun _ _ _ _ _ => ptsP0) (fun _ _ _ _ _ => (p_tup (.cons (p_c tkB C__law_later (hr.mono (by decide)) (.cons (p_v 4) (.cons (p_v 2) .nil rfl) rfl)) (.cons (p_c tkB C__law_later (hr.mono (by decide)) (.cons (p_v 5) (.cons (p_v 2) .nil rfl) rfl)) .nil rfl) rfl))))
      (ss_one (s_ret (e_tup (.cons (DP.toE (p_bin op_addAny vAdd (p_ix h100 (p_v 0) p_int (fun _ _ => rfl)) (p_ix h100 (p_v 1) p_int (fun _ _ => rfl)))) (.cons (DP.toE (p_sortSetA (by rfl) h64 (by rfl) (by exact B.b_sorted) (by rfl) (by exact B.b_set) (p_bin op_addAny vAdd (p_ix h100 (p_v 0) p_int (fun _ _ => rfl)) (p_v 3)))) .nil rfl) rfl))))))))
theorem sc__law_copy : FnScope ["net"] ["net"] (defScope st__law_copy) := ⟨rfl, rfl, rfl, by decide +kernel, rfl, by decide +kernel, by decide +kernel⟩
theorem ok__law_copy {f : Addr} {fd : FuncData} (F : Fun K "_law_copy" "_law_copy" st__law_copy f fd) (B : Bt K mg) : FnOk P w K mg base (L2.CX P w) 1 f fd ["net"] (spF K mg 1 [] F__law_copy) := by
  refine def_ok 1 1 [] (m__law_copy) F sc__law_copy rfl rfl (by decide) (by decide) fun cdv A outer s H E W hr tk => ?_
  have h100 := room100 hr
  have h65 := room65 hr
  have h64 := room64 hr
  have h1 := room1 hr
  have hp : PassesOwn (model P w) (A.deeper (envOfC "_law_copy" (defScope st__law_copy) s.heap.objs.size f cdv)) (cxOf (L2.CX P w) P w K mg base ["net"] "_law_copy" (defScope st__law_copy) f cdv A outer s H E).env (cxOf (L2.CX P w) P w K mg base ["net"] "_law_copy" (defScope st__law_copy) f cdv A outer s H E).xe := PassesOwn.leaving
  exact (ss_low [0] (ss_can [true]
      (ss_one (s_ret (e_tup (.cons (DP.toE (p_callTy call_list_of vListOf (by rfl) (by exact B.b_list) (by rfl) (.cons (p_ix h100 (p_v 0) p_int (fun _ _ => rfl)) .nil rfl))) (.cons (DP.toE (p_callTy call_list_of vListOf (by rfl) (by exact B.b_list) (by rfl) (.cons (p_ix h100 (p_v 0) p_int (fun _ _ => rfl)) .nil rfl))) .nil rfl) rfl))))))
theorem sc__law_is_net : FnScope ["found", "due", "way"] ["found", "due"] (defScope st__law_is_net) := ⟨rfl, rfl, rfl, by decide +kernel, rfl, by decide +kernel, by decide +kernel⟩
theorem ok__law_is_net {f : Addr} {fd : FuncData} (F : Fun K "_law_is_net" "_law_is_net" st__law_is_net f fd) (B : Bt K mg) : FnOk P w K mg base (L2.CX P w) 1 f fd ["found", "due"] (spF K mg 2 [] F__law_is_net) := by
  refine def_ok 2 3 [] (m__law_is_net) F sc__law_is_net rfl rfl (by decide) (by decide) fun cdv A outer s H E W hr tk => ?_
  have h100 := room100 hr
  have h65 := room65 hr
  have h64 := room64 hr
  have h1 := room1 hr
  have hp : PassesOwn (model P w) (A.deeper (envOfC "_law_is_net" (defScope st__law_is_net) s.heap.objs.size f cdv)) (cxOf (L2.CX P w) P w K mg base ["found", "due", "way"] "_law_is_net" (defScope st__law_is_net) f cdv A outer s H E).env (cxOf (L2.CX P w) P w K mg base ["found", "due", "way"] "_law_is_net" (defScope st__law_is_net) f cdv A outer s H E).xe := PassesOwn.leaving
  exact (ss_low [0, 1] (ss_can [true, true, true]
      (ss_cons (s_if (DTP.toE (DWP.t (w_or (t_not (t_val (p_isi (by rfl) (by exact B.b_isinstance) (T := "tuple") (by decide) (pe_ty (by rfl) (by exact B.b_tuple) (by rfl)) (p_v 0)))) (w_or1 (t_cmp (op_neD h64) vNe (p_v 0) (p_v 1) (nomark _))))))
      (ss_one (s_ret (DP.toE p_bl)))
      ss_nil)
      (ss_cons (s_if (DTP.toE (DWP.t (w_or (t_not (t_val (p_isi (by rfl) (by exact B.b_isinstance) (T := "list") (by decide) (pe_ty (by rfl) (by exact B.b_list) (by rfl)) (p_ix h100 (p_v 0) p_int (fun _ _ => rfl))))) (w_or1 (t_not (t_val (p_isi (by rfl) (by exact B.b_isinstance) (T := "list") (by decide) (pe_ty (by rfl) (by exact B.b_list) (by rfl)) (p_ix h100 (p_v 0) p_int (fun _ _ => rfl)))))))))
      (ss_one (s_ret (DP.toE p_bl)))
      ss_nil)
      (ss_cons (s_can [true, false, false] (s_for hp rfl (di_seq (DP.toE (p_ix h100 (p_v 0) p_int (fun _ _ => rfl)))) (g_n 2 sc__law_is_net.nd) tg_name
      (ss_cons (s_if (DTP.toE (DWP.t (w_or (t_not (t_val (p_isi (by rfl) (by exact B.b_isinstance) (T := "tuple") (by decide) (pe_ty (by rfl) (by exact B.b_tuple) (by rfl)) (p_v 2)))) (w_or (t_val (p_isi (by rfl) (by exact B.b_isinstance) (T := "bool") (by decide) (pe_ty (by rfl) (by exact B.b_bool) (by rfl)) (p_ix h100 (p_v 2) p_int (fun _ _ => rfl)))) (w_or1 (t_val (p_isi (by rfl) (by exact B.b_isinstance) (T := "bool") (by decide) (pe_ty (by rfl) (by exact B.b_bool) (by rfl)) (p_ix h100 (p_v 2) p_int (fun _ _ => rfl)))))))))
      (ss_one (s_ret (DP.toE p_bl)))
      ss_nil)
      (ss_can [true, false, false] ss_nil))))
      (ss_one (s_ret (DP.toE p_bl))))))))
theorem sc__law_stir : FnScope ["cell", "k", "number"] ["cell", "k"] (defScope st__law_stir) := ⟨rfl, rfl, rfl, by decide +kernel, rfl, by decide +kernel, by decide +kernel⟩
theorem ok__law_stir {f : Addr} {fd : FuncData} (F : Fun K "_law_stir" "_law_stir" st__law_stir f fd) (B : Bt K mg) : FnOk P w K mg base (L2.CX P w) 1 f fd ["cell", "k"] (spF K mg 2 [] F__law_stir) := by
  refine def_ok 2 3 [] (m__law_stir) F sc__law_stir rfl rfl (by decide) (by decide) fun cdv A outer s H E W hr tk => ?_
  have h100 := room100 hr
  have h65 := room65 hr
  have h64 := room64 hr
  have h1 := room1 hr
  have hp : PassesOwn (model P w) (A.deeper (envOfC "_law_stir" (defScope st__law_stir) s.heap.objs.size f cdv)) (cxOf (L2.CX P w) P w K mg base ["cell", "k", "number"] "_law_stir" (defScope st__law_stir) f cdv A outer s H E).env (cxOf (L2.CX P w) P w K mg base ["cell", "k", "number"] "_law_stir" (defScope st__law_stir) f cdv A outer s H E).xe := PassesOwn.leaving
  exact (ss_low [0, 1] (ss_can [true, true, true]
      (ss_cons (s_if (DTP.toE (t_cmp op_ge vCmp (p_v 0) (p_bin op_pow vPow p_int p_int) (nomark _)))
      (ss_one (s_ret (DP.toE (p_bin op_mod vMod (p_bin op_shr vShr (p_bin op_sub vSub (p_v 0) (p_bin op_pow vPow p_int p_int)) (p_bin op_mulB vMulB p_int (p_v 1))) (p_bin op_pow vPow p_int p_int)))))
      ss_nil)
      (ss_cons (s_st 2 sc__law_stir.nd (DP.toE (p_bin op_mod vMod (p_bin op_mulB vMulB (p_bin op_addAny vAdd (p_bin op_addAny vAdd (p_v 0) (p_bin op_mulB vMulB p_int (p_v 1))) p_int) p_int) p_int)))
      (ss_cons (s_st 2 sc__law_stir.nd (DP.toE (p_bin op_mod vMod (p_bin op_mulB vMulB (p_v 2) (p_v 2)) p_int)))
      (ss_one (s_ret (DP.toE (p_bin op_fdivW vFdiv (p_bin op_mod vMod (p_bin op_mulB vMulB (p_v 2) p_int) p_int) p_int)))))))))
theorem sc__law_net : FnScope ["cell", "base", "most", "many", "left", "order", "stations", "ways", "i", "a", "j", "k"] ["cell", "base", "most"] (defScope st__law_net) := ⟨rfl, rfl, rfl, by decide +kernel, rfl, by decide +kernel, by decide +kernel⟩
theorem ok__law_net {f : Addr} {fd : FuncData} (F : Fun K "_law_net" "_law_net" st__law_net f fd) (B : Bt K mg) (C__law_stir : DCal P w K mg base 1 "_law_stir" ["cell", "k"] 2 [] F__law_stir) : FnOk P w K mg base (L2.CX P w) 2 f fd ["cell", "base", "most"] (spF K mg 3 [] F__law_net) := by
  refine def_ok 3 12 [] (m__law_net) F sc__law_net rfl rfl (by decide) (by decide) fun cdv A outer s H E W hr tk => ?_
  have h100 := room100 hr
  have h65 := room65 hr
  have h64 := room64 hr
  have h1 := room1 hr
  have hp : PassesOwn (model P w) (A.deeper (envOfC "_law_net" (defScope st__law_net) s.heap.objs.size f cdv)) (cxOf (L2.CX P w) P w K mg base ["cell", "base", "most", "many", "left", "order", "stations", "ways", "i", "a", "j", "k"] "_law_net" (defScope st__law_net) f cdv A outer s H E).env (cxOf (L2.CX P w) P w K mg base ["cell", "base", "most", "many", "left", "order", "stations", "ways", "i", "a", "j", "k"] "_law_net" (defScope st__law_net) f cdv A outer s H E).xe := PassesOwn.leaving
  exact (ss_low [0, 1, 2] (ss_can [true, true, true, true, true, true, true, true, true, true, true, true]
      (ss_cons (s_st 3 sc__law_net.nd (DP.toE (p_bin op_mod vMod (p_c tk C__law_stir (hr.mono (by decide)) (.cons (p_v 0) (.cons (p_v 1) .nil rfl) rfl)) (p_bin op_addAny vAdd (p_v 2) p_int))))
      (ss_cons (s_st 4 sc__law_net.nd (DP.toE (p_lr1 (by rfl) (by rfl) (by exact B.b_list) (by rfl) (by exact B.b_range) (p_v 3))))
      (ss_cons (s_setLc (i := 5) rfl sc__law_net.nd rfl rfl (sw_true rfl rfl rfl rfl) (di_r1 (by rfl) (by exact B.b_range) (DP.toE (p_v 3))) (blkOk_by (own := [("k", 11)]) (by first | (dsimp only [cxOf, envOfC, compEnvC]; decide +kernel) | with_unfolding_all rfl)) (by decide) tg_name (fun _ _ _ _ _ => (g_n 11 sc__law_net.nd)) (fun _ _ _ _ _ => pts0) (fun _ _ _ _ _ => (e_methM PySem.F.plainAttrs_list PySem.F.slot_list_pop PySem.F.type_list_pop mt_popAt (MOk.of (n := 1) l_popAt) (pv 4) (.ex (DP.toE (p_bin op_mod vMod (p_c tkB C__law_stir (hr.mono (by decide)) (.cons (p_v 0) (.cons (p_bin op_addAny vAdd (p_bin op_addAny vAdd (p_v 1) p_int) (p_v 11)) .nil rfl) rfl)) (p_callB call_lenAny vLen (by rfl) (by exact B.b_len) (by rfl) (.cons (p_v 4) .nil rfl)))) .nil rfl))))
      (ss_cons (s_setLcP (own := [("k", 11)]) (i := 6) rfl sc__law_net.nd rfl rfl (sw_true rfl rfl rfl rfl) (dip_r1 (by rfl) (by exact B.b_range) (p_v 3)) (blkOk_by (own := [("k", 11)]) (by first | (dsimp only [cxOf, envOfC, compEnvC]; decide +kernel) | with_unfolding_all rfl)) (by decide) tg_name (fun _ _ _ _ _ => (g_n 11 sc__law_net.nd)) (fun _ _ _ _ _ => ptsP0) (fun _ _ _ _ _ => (p_ix h100 (p_lst (.cons p_str (.cons p_str .nil rfl) rfl)) (p_bin op_mod vMod (p_c tkB C__law_stir (hr.mono (by decide)) (.cons (p_v 0) (.cons (p_bin op_addAny vAdd (p_bin op_addAny vAdd (p_v 1) p_int) (p_v 11)) .nil rfl) rfl)) p_int) (fun _ _ => rfl))))
      (ss_cons (s_st 7 sc__law_net.nd (DP.toE (p_bin op_mulB vMulB (p_lst (.cons (p_tup (.cons (p_un un_neg vNeg p_int) (.cons (p_un un_neg vNeg p_int) .nil rfl) rfl)) .nil rfl)) (p_callTy call_int1 vInt1 (by rfl) (by exact B.b_int) (by rfl) (.cons (p_cmp (op_eqD h64) vEq (p_bin op_mod vMod (p_c tk C__law_stir (hr.mono (by decide)) (.cons (p_v 0) (.cons (p_bin op_addAny vAdd (p_v 1) p_int) .nil rfl) rfl)) p_int) p_int (nomark _)) .nil rfl)))))
      (ss_cons (s_can [true, true, false, true, false, true, true, true, false, false, false, false] (s_for hp rfl (di_enum (by rfl) (by exact B.b_enumerate) (DP.toE (p_v 5))) (pg_un rfl (pgs_cons (g_n 8 sc__law_net.nd) (pgs_cons (g_n 9 sc__law_net.nd) pgs_nil))) (tg_un rfl)
      (ss_cons (s_st 7 sc__law_net.nd (DP.toE (p_bin op_addAny vAdd (p_v 7) (p_bin op_mulB vMulB (p_lst (.cons (p_tup (.cons (p_un un_neg vNeg p_int) (.cons (p_v 9) .nil rfl) rfl)) .nil rfl)) (p_callTy call_int1 vInt1 (by rfl) (by exact B.b_int) (by rfl) (.cons (p_cmp op_gt vCmp (p_bin op_mod vMod (p_c tk C__law_stir (hr.mono (by decide)) (.cons (p_v 0) (.cons (p_bin op_addAny vAdd (p_bin op_addAny vAdd (p_v 1) p_int) (p_v 8)) .nil rfl) rfl)) p_int) p_int (nomark _)) .nil rfl))))))
      (ss_cons (s_st 7 sc__law_net.nd (DP.toE (p_bin op_addAny vAdd (p_v 7) (p_bin op_mulB vMulB (p_lst (.cons (p_tup (.cons (p_v 9) (.cons (p_un un_neg vNeg p_int) .nil rfl) rfl)) .nil rfl)) (p_callTy call_int1 vInt1 (by rfl) (by exact B.b_int) (by rfl) (.cons (p_cmp op_gt vCmp (p_bin op_mod vMod (p_c tk C__law_stir (hr.mono (by decide)) (.cons (p_v 0) (.cons (p_bin op_addAny vAdd (p_bin op_addAny vAdd (p_v 1) p_int) (p_v 8)) .nil rfl) rfl)) p_int) p_int (nomark _)) .nil rfl))))))
      (ss_cons (s_can [true, true, false, true, false, true, true, true, true, true, false, false] (s_for hp rfl (di_r2 (by rfl) (by exact B.b_range) (DP.toE (p_bin op_addAny vAdd (p_v 8) p_int)) (DP.toE (p_v 3))) (g_n 10 sc__law_net.nd) tg_name
      (ss_cons (s_st 7 sc__law_net.nd (DP.toE (p_bin op_addAny vAdd (p_v 7) (p_bin op_mulB vMulB (p_lst (.cons (p_tup (.cons (p_v 9) (.cons (p_ix h100 (p_v 5) (p_v 10) (fun _ _ => rfl)) .nil rfl) rfl)) .nil rfl)) (p_callTy call_int1 vInt1 (by rfl) (by exact B.b_int) (by rfl) (.cons (p_cmp (op_eqD h64) vEq (p_bin op_mod vMod (p_c tk C__law_stir (hr.mono (by decide)) (.cons (p_v 0) (.cons (p_bin op_addAny vAdd (p_bin op_addAny vAdd (p_bin op_addAny vAdd (p_v 1) p_int) (p_bin op_mulB vMulB p_int (p_v 8))) (p_v 10)) .nil rfl) rfl)) p_int) p_int (nomark _)) .nil rfl))))))
      (ss_can [true, true, false, true, false, true, true, true, true, true, false, false] ss_nil))))
      (ss_can [true, true, false, true, false, true, true, true, false, false, false, false] ss_nil))))))
      (ss_one (s_ret (e_tup (.cons (e_v 6) (.cons (DP.toE (p_callB cr_sortA vSortA (by rfl) (by exact B.b_sorted) (by rfl) (.cons (p_v 7) .nil rfl))) .nil rfl) rfl))))))))))))
theorem sc_is_way : FnScope ["many", "way", "a", "b"] ["many", "way"] (defScope st_is_way) := ⟨rfl, rfl, rfl, by decide +kernel, rfl, by decide +kernel, by decide +kernel⟩
theorem ok_is_way {f : Addr} {fd : FuncData} (F : Fun K "is_way" "is_way" st_is_way f fd) (B : Bt K mg) : FnOk P w K mg base (L2.CX P w) 1 f fd ["many", "way"] (spF K mg 2 [] F_is_way) := by
  refine def_ok 2 4 [] (m_is_way) F sc_is_way rfl rfl (by decide) (by decide) fun cdv A outer s H E W hr tk => ?_
  have h100 := room100 hr
  have h65 := room65 hr
  have h64 := room64 hr
  have h1 := room1 hr
  have hp : PassesOwn (model P w) (A.deeper (envOfC "is_way" (defScope st_is_way) s.heap.objs.size f cdv)) (cxOf (L2.CX P w) P w K mg base ["many", "way", "a", "b"] "is_way" (defScope st_is_way) f cdv A outer s H E).env (cxOf (L2.CX P w) P w K mg base ["many", "way", "a", "b"] "is_way" (defScope st_is_way) f cdv A outer s H E).xe := PassesOwn.leaving
  exact (ss_low [0, 1] (ss_can [true, true, true, true]
      (ss_cons (s_un (is := [2, 3]) rfl rfl (DP.toE (p_v 1)) (pgs_cons (g_n 2 sc_is_way.nd) (pgs_cons (g_n 3 sc_is_way.nd) pgs_nil)))
      (ss_one (s_ret (DP.toE (p_and (p_chain op_le op_lt (p_un un_neg vNeg p_int) (p_v 2) (p_v 0)) (p_and (p_or (p_cmp (op_eqD h64) vEq (p_v 3) (p_gl (by rfl) B.c_OUT) (nomark _)) (p_one (p_chain op_le op_lt p_int (p_v 3) (p_v 0)))) (p_one (p_cmp (op_neD h64) vNe (p_v 2) (p_v 3) (nomark _)))))))))))
theorem sc_leads_round : FnScope ["many", "ways", "left", "last", "ends", "station", "a", "b"] ["many", "ways"] (defScope st_leads_round) := ⟨rfl, rfl, rfl, by decide +kernel, rfl, by decide +kernel, by decide +kernel⟩
theorem ok_leads_round {f : Addr} {fd : FuncData} (F : Fun K "leads_round" "leads_round" st_leads_round f fd) (B : Bt K mg) : FnOk P w K mg base (L2.CX P w) 1 f fd ["many", "ways"] (spF K mg 2 [] F_leads_round) := by
  refine def_ok 2 8 [] (m_leads_round) F sc_leads_round rfl rfl (by decide) (by decide) fun cdv A outer s H E W hr tk => ?_
  have h100 := room100 hr
  have h65 := room65 hr
  have h64 := room64 hr
  have h1 := room1 hr
  have hp : PassesOwn (model P w) (A.deeper (envOfC "leads_round" (defScope st_leads_round) s.heap.objs.size f cdv)) (cxOf (L2.CX P w) P w K mg base ["many", "ways", "left", "last", "ends", "station", "a", "b"] "leads_round" (defScope st_leads_round) f cdv A outer s H E).env (cxOf (L2.CX P w) P w K mg base ["many", "ways", "left", "last", "ends", "station", "a", "b"] "leads_round" (defScope st_leads_round) f cdv A outer s H E).xe := PassesOwn.leaving
  exact (ss_low [0, 1] (ss_can [true, true, true, true, true, true, true, true]
      (ss_cons (s_st 2 sc_leads_round.nd (DP.toE (p_lr1 (by rfl) (by rfl) (by exact B.b_list) (by rfl) (by exact B.b_range) (p_v 0))))
      (ss_cons (s_st 3 sc_leads_round.nd (DP.toE (p_un un_neg vNeg p_int)))
      (ss_cons (s_can [false, true, true, true, false, false, false, false] (s_while 1000 hp (DTP.toE (t_cmp (op_neD h64) vNe (p_callB call_lenAny vLen (by rfl) (by exact B.b_len) (by rfl) (.cons (p_v 2) .nil rfl)) (p_v 3) (nomark _)))
      (ss_cons (s_st 3 sc_leads_round.nd (DP.toE (p_callB call_lenAny vLen (by rfl) (by exact B.b_len) (by rfl) (.cons (p_v 2) .nil rfl))))
      (ss_cons (s_st 4 sc_leads_round.nd (DP.toE (p_lc (own := [("a", 6), ("b", 7)]) rfl sc_leads_round.nd (dip_seq (p_v 1)) (blkOk_by (own := [("a", 6), ("b", 7)]) (by first | (dsimp only [cxOf, envOfC, compEnvC]; decide +kernel) | with_unfolding_all rfl)) (by decide) (tg_un rfl) (fun _ _ _ _ _ => (pg_un rfl (pgs_cons (g_n 6 sc_leads_round.nd) (pgs_cons (g_n 7 sc_leads_round.nd) pgs_nil)))) (fun _ _ _ _ _ => ptsP1 (t_cmp (op_inAny h65) vIn (p_v 6) (p_v 2) rfl)) (fun _ _ _ _ _ => (p_v 7)))))
      (ss_cons (s_st 2 sc_leads_round.nd (DP.toE (p_lc (own := [("station", 5)]) rfl sc_leads_round.nd (dip_seq (p_v 2)) (blkOk_by (own := [("station", 5)]) (by first | (dsimp only [cxOf, envOfC, compEnvC]; decide +kernel) | with_unfolding_all rfl)) (by decide) tg_name (fun _ _ _ _ _ => (g_n 5 sc_leads_round.nd)) (fun _ _ _ _ _ => ptsP1 (t_cmp (op_inAny h65) vIn (p_v 5) (p_v 4) rfl)) (fun _ _ _ _ _ => (p_v 5)))))
      (ss_can [false, true, true, true, false, false, false, false] ss_nil))))))
      (ss_one (s_ret (DP.toE (p_cmp (op_neD h64) vNe (p_v 2) (p_lst .nil) (nomark _))))))))))
theorem sc_net_of : FnScope ["stations", "ways", "word", "way"] ["stations", "ways"] (defScope st_net_of) := ⟨rfl, rfl, rfl, by decide +kernel, rfl, by decide +kernel, by decide +kernel⟩
theorem ok_net_of {f : Addr} {fd : FuncData} (F : Fun K "net_of" "net_of" st_net_of f fd) (B : Bt K mg) (C_is_way : DCal P w K mg base 1 "is_way" ["many", "way"] 2 [] F_is_way) (C_leads_round : DCal P w K mg base 1 "leads_round" ["many", "ways"] 2 [] F_leads_round) : FnOk P w K mg base (L2.CX P w) 2 f fd ["stations", "ways"] (spF K mg 2 [] F_net_of) := by
  refine def_ok 2 4 [] (m_net_of) F sc_net_of rfl rfl (by decide) (by decide) fun cdv A outer s H E W hr tk => ?_
  have h100 := room100 hr
  have h65 := room65 hr
  have h64 := room64 hr
  have h1 := room1 hr
  have hp : PassesOwn (model P w) (A.deeper (envOfC "net_of" (defScope st_net_of) s.heap.objs.size f cdv)) (cxOf (L2.CX P w) P w K mg base ["stations", "ways", "word", "way"] "net_of" (defScope st_net_of) f cdv A outer s H E).env (cxOf (L2.CX P w) P w K mg base ["stations", "ways", "word", "way"] "net_of" (defScope st_net_of) f cdv A outer s H E).xe := PassesOwn.leaving
  exact (ss_low [0, 1] (ss_can [true, true, true, true]
      (ss_cons (s_if (DTP.toE (t_cmp (op_neD h64) vNe (p_lc (own := [("word", 2)]) rfl sc_net_of.nd (dip_seq (p_v 0)) (blkOk_by (own := [("word", 2)]) (by first | (dsimp only [cxOf, envOfC, compEnvC]; decide +kernel) | with_unfolding_all rfl)) (by decide) tg_name (fun _ _ _ _ _ => (g_n 2 sc_net_of.nd)) (fun _ _ _ _ _ => ptsP1 (t_cmp (op_notInAny h65) vNotIn (p_v 2) (p_tup (.cons p_str (.cons p_str .nil rfl) rfl)) rfl)) (fun _ _ _ _ _ => (p_v 2))) (p_lst .nil) (nomark _)))
      (ss_one (s_rs tk B.x_NoNet))
      ss_nil)
      (ss_cons (s_if (DTP.toE (t_cmp (op_neD h64) vNe (p_lc (own := [("way", 3)]) rfl sc_net_of.nd (dip_seq (p_v 1)) (blkOk_by (own := [("way", 3)]) (by first | (dsimp only [cxOf, envOfC, compEnvC]; decide +kernel) | with_unfolding_all rfl)) (by decide) tg_name (fun _ _ _ _ _ => (g_n 3 sc_net_of.nd)) (fun _ _ _ _ _ => ptsP1 (t_not (t_val (p_c tkB C_is_way (hr.mono (by decide)) (.cons (p_callB call_lenAny vLen (by rfl) (by exact B.b_len) (by rfl) (.cons (p_v 0) .nil rfl)) (.cons (p_v 3) .nil rfl) rfl))))) (fun _ _ _ _ _ => (p_v 3))) (p_lst .nil) (nomark _)))
      (ss_one (s_rs tk B.x_NoNet))
      ss_nil)
      (ss_cons (s_if (DTP.toE (DWP.t (w_or (t_cmp (op_neD h64) vNe (p_lenSetA (by rfl) h64 (by rfl) (by exact B.b_len) (by rfl) (by exact B.b_set) (p_v 1)) (p_callB call_lenAny vLen (by rfl) (by exact B.b_len) (by rfl) (.cons (p_v 1) .nil rfl)) (nomark _)) (w_or1 (t_val (p_c tk C_leads_round (hr.mono (by decide)) (.cons (p_callB call_lenAny vLen (by rfl) (by exact B.b_len) (by rfl) (.cons (p_v 0) .nil rfl)) (.cons (p_v 1) .nil rfl) rfl)))))))
      (ss_one (s_rs tk B.x_NoNet))
      ss_nil)
      (ss_one (s_ret (e_tup (.cons (DP.toE (p_callTy call_list_of vListOf (by rfl) (by exact B.b_list) (by rfl) (.cons (p_v 0) .nil rfl))) (.cons (DP.toE (p_callB cr_sortA vSortA (by rfl) (by exact B.b_sorted) (by rfl) (.cons (p_v 1) .nil rfl))) .nil rfl) rfl)))))))))
theorem sc_moved_by : FnScope ["many", "place"] ["many", "place"] (defScope st_moved_by) := ⟨rfl, rfl, rfl, by decide +kernel, rfl, by decide +kernel, by decide +kernel⟩
theorem ok_moved_by {f : Addr} {fd : FuncData} (F : Fun K "moved_by" "moved_by" st_moved_by f fd) (B : Bt K mg) : FnOk P w K mg base (L2.CX P w) 1 f fd ["many", "place"] (spF K mg 2 [] F_moved_by) := by
  refine def_ok 2 2 [] (m_moved_by) F sc_moved_by rfl rfl (by decide) (by decide) fun cdv A outer s H E W hr tk => ?_
  have h100 := room100 hr
  have h65 := room65 hr
  have h64 := room64 hr
  have h1 := room1 hr
  have hp : PassesOwn (model P w) (A.deeper (envOfC "moved_by" (defScope st_moved_by) s.heap.objs.size f cdv)) (cxOf (L2.CX P w) P w K mg base ["many", "place"] "moved_by" (defScope st_moved_by) f cdv A outer s H E).env (cxOf (L2.CX P w) P w K mg base ["many", "place"] "moved_by" (defScope st_moved_by) f cdv A outer s H E).xe := PassesOwn.leaving
  exact (ss_low [0] (ss_can [true, true]
      (ss_cons (s_if (DTP.toE (t_cmp op_lt vCmp (p_v 1) p_int (nomark _)))
      (ss_one (s_ret (e_v 1)))
      ss_nil)
      (ss_one (s_ret (DP.toE (p_bin op_addAny vAdd (p_v 1) (p_v 0))))))))
theorem sc_ways_moved : FnScope ["net", "many", "a", "b"] ["net", "many"] (defScope st_ways_moved) := ⟨rfl, rfl, rfl, by decide +kernel, rfl, by decide +kernel, by decide +kernel⟩
theorem ok_ways_moved {f : Addr} {fd : FuncData} (F : Fun K "ways_moved" "ways_moved" st_ways_moved f fd) (B : Bt K mg) (C_moved_by : DCal P w K mg base 1 "moved_by" ["many", "place"] 2 [] F_moved_by) : FnOk P w K mg base (L2.CX P w) 2 f fd ["net", "many"] (spF K mg 2 [] F_ways_moved) := by
  refine def_ok 2 4 [] (m_ways_moved) F sc_ways_moved rfl rfl (by decide) (by decide) fun cdv A outer s H E W hr tk => ?_
  have h100 := room100 hr
  have h65 := room65 hr
  have h64 := room64 hr
  have h1 := room1 hr
  have hp : PassesOwn (model P w) (A.deeper (envOfC "ways_moved" (defScope st_ways_moved) s.heap.objs.size f cdv)) (cxOf (L2.CX P w) P w K mg base ["net", "many", "a", "b"] "ways_moved" (defScope st_ways_moved) f cdv A outer s H E).env (cxOf (L2.CX P w) P w K mg base ["net", "many", "a", "b"] "ways_moved" (defScope st_ways_moved) f cdv A outer s H E).xe := PassesOwn.leaving
  exact (ss_low [0, 1] (ss_can [true, true, true, true]
      (ss_one (s_ret (DP.toE (p_lc (own := [("a", 2), ("b", 3)]) rfl sc_ways_moved.nd (dip_seq (p_ix h100 (p_v 0) p_int (fun _ _ => rfl))) (blkOk_by (own := [("a", 2), ("b", 3)]) (by first | (dsimp only [cxOf, envOfC, compEnvC]; decide +kernel) | with_unfolding_all rfl)) (by decide) (tg_un rfl) (fun _ _ _ _ _ => (pg_un rfl (pgs_cons (g_n 2 sc_ways_moved.nd) (pgs_cons (g_n 3 sc_ways_moved.nd) pgs_nil)))) (fun _ _ _ _ _ => ptsP0) (fun _ _ _ _ _ => (p_tup (.cons (p_c tkB C_moved_by (hr.mono (by decide)) (.cons (p_v 1) (.cons (p_v 2) .nil rfl) rfl)) (.cons (p_c tkB C_moved_by (hr.mono (by decide)) (.cons (p_v 1) (.cons (p_v 3) .nil rfl) rfl)) .nil rfl) rfl)))))))))
theorem sc_nets_beside : FnScope ["one", "other", "ways", "way"] ["one", "other"] (defScope st_nets_beside) := ⟨rfl, rfl, rfl, by decide +kernel, rfl, by decide +kernel, by decide +kernel⟩
theorem ok_nets_beside {f : Addr} {fd : FuncData} (F : Fun K "nets_beside" "nets_beside" st_nets_beside f fd) (B : Bt K mg) (C_net_of : DCal P w K mg base 2 "net_of" ["stations", "ways"] 2 [] F_net_of) (C_ways_moved : DCal P w K mg base 2 "ways_moved" ["net", "many"] 2 [] F_ways_moved) : FnOk P w K mg base (L2.CX P w) 3 f fd ["one", "other"] (spF K mg 2 [] F_nets_beside) := by
  refine def_ok 2 4 [] (m_nets_beside) F sc_nets_beside rfl rfl (by decide) (by decide) fun cdv A outer s H E W hr tk => ?_
  have h100 := room100 hr
  have h65 := room65 hr
  have h64 := room64 hr
  have h1 := room1 hr
  have hp : PassesOwn (model P w) (A.deeper (envOfC "nets_beside" (defScope st_nets_beside) s.heap.objs.size f cdv)) (cxOf (L2.CX P w) P w K mg base ["one", "other", "ways", "way"] "nets_beside" (defScope st_nets_beside) f cdv A outer s H E).env (cxOf (L2.CX P w) P w K mg base ["one", "other", "ways", "way"] "nets_beside" (defScope st_nets_beside) f cdv A outer s H E).xe := PassesOwn.leaving
  exact (ss_low [0, 1] (ss_can [true, true, true, true]
      (ss_cons (s_st 2 sc_nets_beside.nd (DP.toE (p_bin op_addAny vAdd (p_ix h100 (p_v 0) p_int (fun _ _ => rfl)) (p_lc (own := [("way", 3)]) rfl sc_nets_beside.nd (dip_seq (p_c tk C_ways_moved (hr.mono (by decide)) (.cons (p_v 1) (.cons (p_callB call_lenAny vLen (by rfl) (by exact B.b_len) (by rfl) (.cons (p_ix h100 (p_v 0) p_int (fun _ _ => rfl)) .nil rfl)) .nil rfl) rfl))) (blkOk_by (own := [("way", 3)]) (by first | (dsimp only [cxOf, envOfC, compEnvC]; decide +kernel) | with_unfolding_all rfl)) (by decide) tg_name (fun _ _ _ _ _ => (g_n 3 sc_nets_beside.nd)) (fun _ _ _ _ _ => ptsP1 (t_cmp (op_notInAny h65) vNotIn (p_v 3) (p_ix h100 (p_v 0) p_int (fun _ _ => rfl)) rfl)) (fun _ _ _ _ _ => (p_v 3))))))
      (ss_one (s_ret (DP.toE (p_c tk C_net_of (hr.mono (by decide)) (.cons (p_bin op_addAny vAdd (p_ix h100 (p_v 0) p_int (fun _ _ => rfl)) (p_ix h100 (p_v 1) p_int (fun _ _ => rfl))) (.cons (p_v 2) .nil rfl) rfl))))))))
theorem sc_law : FnScope ["script", "cells", "cell", "most", "nets", "i", "j", "due", "handed", "turn", "found"] ["script"] (defScope st_law) := ⟨rfl, rfl, rfl, by decide +kernel, rfl, by decide +kernel, by decide +kernel⟩
theorem ok_law {f : Addr} {fd : FuncData} (F : Fun K "law" "law" st_law f fd) (B : Bt K mg) (C__law_beside : DCal P w K mg base 2 "_law_beside" ["one", "other"] 2 [] F__law_beside) (C__law_copy : DCal P w K mg base 1 "_law_copy" ["net"] 1 [] F__law_copy) (C__law_is_net : DCal P w K mg base 1 "_law_is_net" ["found", "due"] 2 [] F__law_is_net) (C__law_net : DCal P w K mg base 2 "_law_net" ["cell", "base", "most"] 3 [] F__law_net) (C__law_stir : DCal P w K mg base 1 "_law_stir" ["cell", "k"] 2 [] F__law_stir) (C_nets_beside : DCal P w K mg base 3 "nets_beside" ["one", "other"] 2 [] F_nets_beside) : FnOk P w K mg base (L2.CX P w) 4 f fd ["script"] (spF K mg 1 [] F_law) := by
  refine def_ok 1 11 [] (m_law) F sc_law rfl rfl (by decide) (by decide) fun cdv A outer s H E W hr tk => ?_
  have h100 := room100 hr
  have h65 := room65 hr
  have h64 := room64 hr
  have h1 := room1 hr
  have hp : PassesOwn (model P w) (A.deeper (envOfC "law" (defScope st_law) s.heap.objs.size f cdv)) (cxOf (L2.CX P w) P w K mg base ["script", "cells", "cell", "most", "nets", "i", "j", "due", "handed", "turn", "found"] "law" (defScope st_law) f cdv A outer s H E).env (cxOf (L2.CX P w) P w K mg base ["script", "cells", "cell", "most", "nets", "i", "j", "due", "handed", "turn", "found"] "law" (defScope st_law) f cdv A outer s H E).xe := PassesOwn.leaving
  exact (ss_low [0] (ss_can [true, true, true, true, true, true, true, true, true, true, true]
      (ss_cons (s_st 1 sc_law.nd (DP.toE (p_slH (p_v 0) p_int)))
      (ss_cons (s_if (DTP.toE (t_cmp (op_eqD h64) vEq (p_v 1) (p_lst .nil) (nomark _)))
      (ss_one (s_st 1 sc_law.nd (DP.toE (p_lst (.cons p_int .nil rfl)))))
      ss_nil)
      (ss_cons (s_can [false, true, false, false, false, false, false, false, false, false, false] (s_for hp rfl (di_seq (DP.toE (p_v 1))) (g_n 2 sc_law.nd) tg_name
      (ss_cons (s_st 3 sc_law.nd (DP.toE (p_ix h100 (p_lst (.cons p_int (.cons p_int .nil rfl) rfl)) (p_callTy call_int1 vInt1 (by rfl) (by exact B.b_int) (by rfl) (.cons (p_cmp (op_eqD h64) vEq (p_bin op_mod vMod (p_c tk C__law_stir (hr.mono (by decide)) (.cons (p_v 2) (.cons p_int .nil rfl) rfl)) p_int) p_int (nomark _)) .nil rfl)) (fun _ _ => rfl))))
      (ss_cons (s_st 4 sc_law.nd (DP.toE (p_lst (.cons (p_c tk C__law_net (hr.mono (by decide)) (.cons (p_v 2) (.cons p_int (.cons (p_v 3) .nil rfl) rfl) rfl)) (.cons (p_c tk C__law_net (hr.mono (by decide)) (.cons (p_v 2) (.cons p_int (.cons (p_v 3) .nil rfl) rfl) rfl)) .nil rfl) rfl))))
      (ss_cons (s_can [false, true, false, false, true, false, false, false, false, false, false] (s_for hp rfl (di_seq (DP.toE (p_lst (.cons (p_tup (.cons p_int (.cons p_int .nil rfl) rfl)) (.cons (p_tup (.cons p_int (.cons p_int .nil rfl) rfl)) (.cons (p_tup (.cons p_int (.cons p_int .nil rfl) rfl)) .nil rfl) rfl) rfl)))) (pg_un rfl (pgs_cons (g_n 5 sc_law.nd) (pgs_cons (g_n 6 sc_law.nd) pgs_nil))) (tg_un rfl)
      (ss_cons (s_st 7 sc_law.nd (DP.toE (p_c tk C__law_beside (hr.mono (by decide)) (.cons (p_ix h100 (p_v 4) (p_v 5) (fun _ _ => rfl)) (.cons (p_ix h100 (p_v 4) (p_v 6) (fun _ _ => rfl)) .nil rfl) rfl))))
      (ss_cons (s_st 8 sc_law.nd (DP.toE (p_lst (.cons (p_c tk C__law_copy (hr.mono (by decide)) (.cons (p_ix h100 (p_v 4) (p_v 5) (fun _ _ => rfl)) .nil rfl)) (.cons (p_c tk C__law_copy (hr.mono (by decide)) (.cons (p_ix h100 (p_v 4) (p_v 6) (fun _ _ => rfl)) .nil rfl)) .nil rfl) rfl))))
      (ss_cons (s_can [false, true, false, false, true, true, true, true, true, false, false] (s_for hp rfl (di_r1 (by rfl) (by exact B.b_range) (DP.toE p_int)) (g_n 9 sc_law.nd) tg_name
      (ss_cons (s_st 10 sc_law.nd (DP.toE (p_c tk C_nets_beside (hr.mono (by decide)) (.cons (p_ix h100 (p_v 8) p_int (fun _ _ => rfl)) (.cons (p_ix h100 (p_v 8) p_int (fun _ _ => rfl)) .nil rfl) rfl))))
      (ss_cons (s_if (DTP.toE (DWP.t (w_or (t_not (t_val (p_c tk C__law_is_net (hr.mono (by decide)) (.cons (p_v 10) (.cons (p_v 7) .nil rfl) rfl)))) (w_or1 (t_cmp (op_neD h64) vNe (p_v 8) (p_lst (.cons (p_ix h100 (p_v 4) (p_v 5) (fun _ _ => rfl)) (.cons (p_ix h100 (p_v 4) (p_v 6) (fun _ _ => rfl)) .nil rfl) rfl)) (nomark _))))))
      (ss_one (s_ret (DP.toE p_bl)))
      ss_nil)
      (ss_cons (s_expr (e_nest1 PySem.F.plainAttrs_list PySem.F.slot_list_append PySem.F.type_list_append mt_append l_append (pv 10) p_int (fun _ _ => rfl) p_str))
      (ss_cons (s_expr (e_nest0 PySem.F.plainAttrs_list PySem.F.slot_list_clear PySem.F.type_list_clear mt_clear l_clear (pv 10) p_int (fun _ _ => rfl)))
      (ss_can [false, true, false, false, true, true, true, true, true, false, false] ss_nil)))))))
      (ss_can [false, true, false, false, true, false, false, false, false, false, false] ss_nil))))))
      (ss_can [false, true, false, false, false, false, false, false, false, false, false] ss_nil))))))
      (ss_one (s_ret (DP.toE p_bl))))))))
end
section
variable {P : Program} {w : World} {K : PySem.W.Frag} {h : Heap} {mg : Str → Option Value} {fa : Addr}
theorem all_mk (X : K.In h) (G : h.Ns mainGlobals mg) (hfa : mg "law" = some (.ref fa)) {t_OUT : Tok} {X_NoNet : Addr} {f__law_later : Addr} {od__law_later an__law_later : Option Addr} {sl__law_later : Array (Option Value)} {oc__law_later kV__law_later dc__law_later pm__law_later cd__law_later ct__law_later : Value} {f__law_beside : Addr} {od__law_beside an__law_beside : Option Addr} {sl__law_beside : Array (Option Value)} {oc__law_beside kV__law_beside dc__law_beside pm__law_beside cd__law_beside ct__law_beside : Value} {f__law_copy : Addr} {od__law_copy an__law_copy : Option Addr} {sl__law_copy : Array (Option Value)} {oc__law_copy kV__law_copy dc__law_copy pm__law_copy cd__law_copy ct__law_copy : Value} {f__law_is_net : Addr} {od__law_is_net an__law_is_net : Option Addr} {sl__law_is_net : Array (Option Value)} {oc__law_is_net kV__law_is_net dc__law_is_net pm__law_is_net cd__law_is_net ct__law_is_net : Value} {f__law_stir : Addr} {od__law_stir an__law_stir : Option Addr} {sl__law_stir : Array (Option Value)} {oc__law_stir kV__law_stir dc__law_stir pm__law_stir cd__law_stir ct__law_stir : Value} {f__law_net : Addr} {od__law_net an__law_net : Option Addr} {sl__law_net : Array (Option Value)} {oc__law_net kV__law_net dc__law_net pm__law_net cd__law_net ct__law_net : Value} {f_is_way : Addr} {od_is_way an_is_way : Option Addr} {sl_is_way : Array (Option Value)} {oc_is_way kV_is_way dc_is_way pm_is_way cd_is_way ct_is_way : Value} {f_leads_round : Addr} {od_leads_round an_leads_round : Option Addr} {sl_leads_round : Array (Option Value)} {oc_leads_round kV_leads_round dc_leads_round pm_leads_round cd_leads_round ct_leads_round : Value} {f_net_of : Addr} {od_net_of an_net_of : Option Addr} {sl_net_of : Array (Option Value)} {oc_net_of kV_net_of dc_net_of pm_net_of cd_net_of ct_net_of : Value} {f_moved_by : Addr} {od_moved_by an_moved_by : Option Addr} {sl_moved_by : Array (Option Value)} {oc_moved_by kV_moved_by dc_moved_by pm_moved_by cd_moved_by ct_moved_by : Value} {f_ways_moved : Addr} {od_ways_moved an_ways_moved : Option Addr} {sl_ways_moved : Array (Option Value)} {oc_ways_moved kV_ways_moved dc_ways_moved pm_ways_moved cd_ways_moved ct_ways_moved : Value} {f_nets_beside : Addr} {od_nets_beside an_nets_beside : Option Addr} {sl_nets_beside : Array (Option Value)} {oc_nets_beside kV_nets_beside dc_nets_beside pm_nets_beside cd_nets_beside ct_nets_beside : Value} {f_law : Addr} {od_law an_law : Option Addr} {sl_law : Array (Option Value)} {oc_law kV_law dc_law pm_law cd_law ct_law : Value}
    (b_bool : PySem.W.nsIn K mainGlobals "bool" = some none)
    (b_enumerate : PySem.W.nsIn K mainGlobals "enumerate" = some none)
    (b_int : PySem.W.nsIn K mainGlobals "int" = some none)
    (b_isinstance : PySem.W.nsIn K mainGlobals "isinstance" = some none)
    (b_len : PySem.W.nsIn K mainGlobals "len" = some none)
    (b_list : PySem.W.nsIn K mainGlobals "list" = some none)
    (b_range : PySem.W.nsIn K mainGlobals "range" = some none)
    (b_set : PySem.W.nsIn K mainGlobals "set" = some none)
    (b_sorted : PySem.W.nsIn K mainGlobals "sorted" = some none)
    (b_tuple : PySem.W.nsIn K mainGlobals "tuple" = some none)
    (c_OUT : PySem.W.nsIn K mainGlobals "OUT" = some (some (.int (-2) t_OUT)))
    (x1_NoNet : PySem.W.nsIn K mainGlobals "NoNet" = some (some (.ref X_NoNet)))
    (x2_NoNet : PySem.W.excIn K X_NoNet [.type "ValueError", .type "Exception", .type "BaseException", .type "object"] "ValueError.__new__" = true)
    (x3_NoNet : PySem.W.keepIn K (.ref X_NoNet) = true)
    (x4_NoNet : PySem.W.subIn K (.ref X_NoNet) (.type "BaseException") = some true)
    (x5_NoNet : PySem.W.typeIn K (.ref X_NoNet) = some (.type "type"))
    (a__law_later : PySem.W.nsIn K mainGlobals "_law_later" = some (some (.ref f__law_later)))
    (l__law_later : K.lookup f__law_later = some ⟨oc__law_later, od__law_later, .func (PySem.W.fnOf "_law_later" "_law_later" (defArgs st__law_later) (defBody st__law_later) (defScope st__law_later) .none kV__law_later dc__law_later pm__law_later an__law_later cd__law_later ct__law_later), sl__law_later⟩)
    (d__law_later : PySem.W.codeIn K cd__law_later "_law_later" = true)
    (k__law_later : PySem.W.keepIn K (.ref f__law_later) = true)
    (a__law_beside : PySem.W.nsIn K mainGlobals "_law_beside" = some (some (.ref f__law_beside)))
    (l__law_beside : K.lookup f__law_beside = some ⟨oc__law_beside, od__law_beside, .func (PySem.W.fnOf "_law_beside" "_law_beside" (defArgs st__law_beside) (defBody st__law_beside) (defScope st__law_beside) .none kV__law_beside dc__law_beside pm__law_beside an__law_beside cd__law_beside ct__law_beside), sl__law_beside⟩)
    (d__law_beside : PySem.W.codeIn K cd__law_beside "_law_beside" = true)
    (k__law_beside : PySem.W.keepIn K (.ref f__law_beside) = true)
    (a__law_copy : PySem.W.nsIn K mainGlobals "_law_copy" = some (some (.ref f__law_copy)))
    (l__law_copy : K.lookup f__law_copy = some ⟨oc__law_copy, od__law_copy, .func (PySem.W.fnOf "_law_copy" "_law_copy" (defArgs st__law_copy) (defBody st__law_copy) (defScope st__law_copy) .none kV__law_copy dc__law_copy pm__law_copy an__law_copy cd__law_copy ct__law_copy), sl__law_copy⟩)
    (d__law_copy : PySem.W.codeIn K cd__law_copy "_law_copy" = true)
    (k__law_copy : PySem.W.keepIn K (.ref f__law_copy) = true)
    (a__law_is_net : PySem.W.nsIn K mainGlobals "_law_is_net" = some (some (.ref f__law_is_net)))
    (l__law_is_net : K.lookup f__law_is_net = some ⟨oc__law_is_net, od__law_is_net, .func (PySem.W.fnOf "_law_is_net" "_law_is_net" (defArgs st__law_is_net) (defBody st__law_is_net) (defScope st__law_is_net) .none kV__law_is_net dc__law_is_net pm__law_is_net an__law_is_net cd__law_is_net ct__law_is_net), sl__law_is_net⟩)
    (d__law_is_net : PySem.W.codeIn K cd__law_is_net "_law_is_net" = true)
    (k__law_is_net : PySem.W.keepIn K (.ref f__law_is_net) = true)
    (a__law_stir : PySem.W.nsIn K mainGlobals "_law_stir" = some (some (.ref f__law_stir)))
    (l__law_stir : K.lookup f__law_stir = some ⟨oc__law_stir, od__law_stir, .func (PySem.W.fnOf "_law_stir" "_law_stir" (defArgs st__law_stir) (defBody st__law_stir) (defScope st__law_stir) .none kV__law_stir dc__law_stir pm__law_stir an__law_stir cd__law_stir ct__law_stir), sl__law_stir⟩)
    (d__law_stir : PySem.W.codeIn K cd__law_stir "_law_stir" = true)
    (k__law_stir : PySem.W.keepIn K (.ref f__law_stir) = true)
    (a__law_net : PySem.W.nsIn K mainGlobals "_law_net" = some (some (.ref f__law_net)))
    (l__law_net : K.lookup f__law_net = some ⟨oc__law_net, od__law_net, .func (PySem.W.fnOf "_law_net" "_law_net" (defArgs st__law_net) (defBody st__law_net) (defScope st__law_net) .none kV__law_net dc__law_net pm__law_net an__law_net cd__law_net ct__law_net), sl__law_net⟩)
    (d__law_net : PySem.W.codeIn K cd__law_net "_law_net" = true)
    (k__law_net : PySem.W.keepIn K (.ref f__law_net) = true)
    (a_is_way : PySem.W.nsIn K mainGlobals "is_way" = some (some (.ref f_is_way)))
    (l_is_way : K.lookup f_is_way = some ⟨oc_is_way, od_is_way, .func (PySem.W.fnOf "is_way" "is_way" (defArgs st_is_way) (defBody st_is_way) (defScope st_is_way) .none kV_is_way dc_is_way pm_is_way an_is_way cd_is_way ct_is_way), sl_is_way⟩)
    (d_is_way : PySem.W.codeIn K cd_is_way "is_way" = true)
    (k_is_way : PySem.W.keepIn K (.ref f_is_way) = true)
    (a_leads_round : PySem.W.nsIn K mainGlobals "leads_round" = some (some (.ref f_leads_round)))
    (l_leads_round : K.lookup f_leads_round = some ⟨oc_leads_round, od_leads_round, .func (PySem.W.fnOf "leads_round" "leads_round" (defArgs st_leads_round) (defBody st_leads_round) (defScope st_leads_round) .none kV_leads_round dc_leads_round pm_leads_round an_leads_round cd_leads_round ct_leads_round), sl_leads_round⟩)
    (d_leads_round : PySem.W.codeIn K cd_leads_round "leads_round" = true)
    (k_leads_round : PySem.W.keepIn K (.ref f_leads_round) = true)
    (a_net_of : PySem.W.nsIn K mainGlobals "net_of" = some (some (.ref f_net_of)))
    (l_net_of : K.lookup f_net_of = some ⟨oc_net_of, od_net_of, .func (PySem.W.fnOf "net_of" "net_of" (defArgs st_net_of) (defBody st_net_of) (defScope st_net_of) .none kV_net_of dc_net_of pm_net_of an_net_of cd_net_of ct_net_of), sl_net_of⟩)
    (d_net_of : PySem.W.codeIn K cd_net_of "net_of" = true)
    (k_net_of : PySem.W.keepIn K (.ref f_net_of) = true)
    (a_moved_by : PySem.W.nsIn K mainGlobals "moved_by" = some (some (.ref f_moved_by)))
    (l_moved_by : K.lookup f_moved_by = some ⟨oc_moved_by, od_moved_by, .func (PySem.W.fnOf "moved_by" "moved_by" (defArgs st_moved_by) (defBody st_moved_by) (defScope st_moved_by) .none kV_moved_by dc_moved_by pm_moved_by an_moved_by cd_moved_by ct_moved_by), sl_moved_by⟩)
    (d_moved_by : PySem.W.codeIn K cd_moved_by "moved_by" = true)
    (k_moved_by : PySem.W.keepIn K (.ref f_moved_by) = true)
    (a_ways_moved : PySem.W.nsIn K mainGlobals "ways_moved" = some (some (.ref f_ways_moved)))
    (l_ways_moved : K.lookup f_ways_moved = some ⟨oc_ways_moved, od_ways_moved, .func (PySem.W.fnOf "ways_moved" "ways_moved" (defArgs st_ways_moved) (defBody st_ways_moved) (defScope st_ways_moved) .none kV_ways_moved dc_ways_moved pm_ways_moved an_ways_moved cd_ways_moved ct_ways_moved), sl_ways_moved⟩)
    (d_ways_moved : PySem.W.codeIn K cd_ways_moved "ways_moved" = true)
    (k_ways_moved : PySem.W.keepIn K (.ref f_ways_moved) = true)
    (a_nets_beside : PySem.W.nsIn K mainGlobals "nets_beside" = some (some (.ref f_nets_beside)))
    (l_nets_beside : K.lookup f_nets_beside = some ⟨oc_nets_beside, od_nets_beside, .func (PySem.W.fnOf "nets_beside" "nets_beside" (defArgs st_nets_beside) (defBody st_nets_beside) (defScope st_nets_beside) .none kV_nets_beside dc_nets_beside pm_nets_beside an_nets_beside cd_nets_beside ct_nets_beside), sl_nets_beside⟩)
    (d_nets_beside : PySem.W.codeIn K cd_nets_beside "nets_beside" = true)
    (k_nets_beside : PySem.W.keepIn K (.ref f_nets_beside) = true)
    (a_law : PySem.W.nsIn K mainGlobals "law" = some (some (.ref f_law)))
    (l_law : K.lookup f_law = some ⟨oc_law, od_law, .func (PySem.W.fnOf "law" "law" (defArgs st_law) (defBody st_law) (defScope st_law) .none kV_law dc_law pm_law an_law cd_law ct_law), sl_law⟩)
    (d_law : PySem.W.codeIn K cd_law "law" = true)
    (k_law : PySem.W.keepIn K (.ref f_law) = true)
    : ∃ fd : FuncData, (∀ (s : Shared) (u : Value), BindsTo s fd ⟨[u], []⟩ [("script", u)]) ∧ ∀ base : Heap, K.In base → base.Ns mainGlobals mg → FnOk P w K mg base (L2.CX P w) 4 fa fd ["script"] (spF K mg 1 [] F_law) := by
  have e := hfa.symm.trans (PySem.W.mg_of X G a_law)
  cases e
  have B : Bt K mg := ⟨PySem.W.mg_none_of X G b_bool, PySem.W.mg_none_of X G b_enumerate, PySem.W.mg_none_of X G b_int, PySem.W.mg_none_of X G b_isinstance, PySem.W.mg_none_of X G b_len, PySem.W.mg_none_of X G b_list, PySem.W.mg_none_of X G b_range, PySem.W.mg_none_of X G b_set, PySem.W.mg_none_of X G b_sorted, PySem.W.mg_none_of X G b_tuple, ⟨_, PySem.W.mg_of X G c_OUT⟩, ⟨_, x2_NoNet, PySem.W.mg_of X G x1_NoNet, x3_NoNet, x4_NoNet, x5_NoNet⟩⟩
  have F__law_later' := fun_mk (st := st__law_later) l__law_later d__law_later k__law_later
  have n__law_later := F__law_later'.binds (ps := ["place", "many"]) fun _ _ _ _ _ _ us hl => match us, hl with | [_, _], _ => rfl
  have F__law_beside' := fun_mk (st := st__law_beside) l__law_beside d__law_beside k__law_beside
  have n__law_beside := F__law_beside'.binds (ps := ["one", "other"]) fun _ _ _ _ _ _ us hl => match us, hl with | [_, _], _ => rfl
  have F__law_copy' := fun_mk (st := st__law_copy) l__law_copy d__law_copy k__law_copy
  have n__law_copy := F__law_copy'.binds (ps := ["net"]) fun _ _ _ _ _ _ us hl => match us, hl with | [_], _ => rfl
  have F__law_is_net' := fun_mk (st := st__law_is_net) l__law_is_net d__law_is_net k__law_is_net
  have n__law_is_net := F__law_is_net'.binds (ps := ["found", "due"]) fun _ _ _ _ _ _ us hl => match us, hl with | [_, _], _ => rfl
  have F__law_stir' := fun_mk (st := st__law_stir) l__law_stir d__law_stir k__law_stir
  have n__law_stir := F__law_stir'.binds (ps := ["cell", "k"]) fun _ _ _ _ _ _ us hl => match us, hl with | [_, _], _ => rfl
  have F__law_net' := fun_mk (st := st__law_net) l__law_net d__law_net k__law_net
  have n__law_net := F__law_net'.binds (ps := ["cell", "base", "most"]) fun _ _ _ _ _ _ us hl => match us, hl with | [_, _, _], _ => rfl
  have F_is_way' := fun_mk (st := st_is_way) l_is_way d_is_way k_is_way
  have n_is_way := F_is_way'.binds (ps := ["many", "way"]) fun _ _ _ _ _ _ us hl => match us, hl with | [_, _], _ => rfl
  have F_leads_round' := fun_mk (st := st_leads_round) l_leads_round d_leads_round k_leads_round
  have n_leads_round := F_leads_round'.binds (ps := ["many", "ways"]) fun _ _ _ _ _ _ us hl => match us, hl with | [_, _], _ => rfl
  have F_net_of' := fun_mk (st := st_net_of) l_net_of d_net_of k_net_of
  have n_net_of := F_net_of'.binds (ps := ["stations", "ways"]) fun _ _ _ _ _ _ us hl => match us, hl with | [_, _], _ => rfl
  have F_moved_by' := fun_mk (st := st_moved_by) l_moved_by d_moved_by k_moved_by
  have n_moved_by := F_moved_by'.binds (ps := ["many", "place"]) fun _ _ _ _ _ _ us hl => match us, hl with | [_, _], _ => rfl
  have F_ways_moved' := fun_mk (st := st_ways_moved) l_ways_moved d_ways_moved k_ways_moved
  have n_ways_moved := F_ways_moved'.binds (ps := ["net", "many"]) fun _ _ _ _ _ _ us hl => match us, hl with | [_, _], _ => rfl
  have F_nets_beside' := fun_mk (st := st_nets_beside) l_nets_beside d_nets_beside k_nets_beside
  have n_nets_beside := F_nets_beside'.binds (ps := ["one", "other"]) fun _ _ _ _ _ _ us hl => match us, hl with | [_, _], _ => rfl
  have F_law' := fun_mk (st := st_law) l_law d_law k_law
  have n_law := F_law'.binds (ps := ["script"]) fun _ _ _ _ _ _ us hl => match us, hl with | [_], _ => rfl
  refine ⟨PySem.W.fnOf "law" "law" (defArgs st_law) (defBody st_law) (defScope st_law) .none kV_law dc_law pm_law an_law cd_law ct_law, fun s u => .of_eq rfl, fun base _ _ => ?_⟩
  have C__law_later : DCal P w K mg base 1 "_law_later" ["place", "many"] 2 [] F__law_later := ⟨_, _, ok__law_later F__law_later' B , PySem.W.mg_of X G a__law_later, k__law_later, n__law_later⟩
  have C__law_beside : DCal P w K mg base 2 "_law_beside" ["one", "other"] 2 [] F__law_beside := ⟨_, _, ok__law_beside F__law_beside' B C__law_later, PySem.W.mg_of X G a__law_beside, k__law_beside, n__law_beside⟩
  have C__law_copy : DCal P w K mg base 1 "_law_copy" ["net"] 1 [] F__law_copy := ⟨_, _, ok__law_copy F__law_copy' B , PySem.W.mg_of X G a__law_copy, k__law_copy, n__law_copy⟩
  have C__law_is_net : DCal P w K mg base 1 "_law_is_net" ["found", "due"] 2 [] F__law_is_net := ⟨_, _, ok__law_is_net F__law_is_net' B , PySem.W.mg_of X G a__law_is_net, k__law_is_net, n__law_is_net⟩
  have C__law_stir : DCal P w K mg base 1 "_law_stir" ["cell", "k"] 2 [] F__law_stir := ⟨_, _, ok__law_stir F__law_stir' B , PySem.W.mg_of X G a__law_stir, k__law_stir, n__law_stir⟩
  have C__law_net : DCal P w K mg base 2 "_law_net" ["cell", "base", "most"] 3 [] F__law_net := ⟨_, _, ok__law_net F__law_net' B C__law_stir, PySem.W.mg_of X G a__law_net, k__law_net, n__law_net⟩
  have C_is_way : DCal P w K mg base 1 "is_way" ["many", "way"] 2 [] F_is_way := ⟨_, _, ok_is_way F_is_way' B , PySem.W.mg_of X G a_is_way, k_is_way, n_is_way⟩
  have C_leads_round : DCal P w K mg base 1 "leads_round" ["many", "ways"] 2 [] F_leads_round := ⟨_, _, ok_leads_round F_leads_round' B , PySem.W.mg_of X G a_leads_round, k_leads_round, n_leads_round⟩
  have C_net_of : DCal P w K mg base 2 "net_of" ["stations", "ways"] 2 [] F_net_of := ⟨_, _, ok_net_of F_net_of' B C_is_way C_leads_round, PySem.W.mg_of X G a_net_of, k_net_of, n_net_of⟩
  have C_moved_by : DCal P w K mg base 1 "moved_by" ["many", "place"] 2 [] F_moved_by := ⟨_, _, ok_moved_by F_moved_by' B , PySem.W.mg_of X G a_moved_by, k_moved_by, n_moved_by⟩
  have C_ways_moved : DCal P w K mg base 2 "ways_moved" ["net", "many"] 2 [] F_ways_moved := ⟨_, _, ok_ways_moved F_ways_moved' B C_moved_by, PySem.W.mg_of X G a_ways_moved, k_ways_moved, n_ways_moved⟩
  have C_nets_beside : DCal P w K mg base 3 "nets_beside" ["one", "other"] 2 [] F_nets_beside := ⟨_, _, ok_nets_beside F_nets_beside' B C_net_of C_ways_moved, PySem.W.mg_of X G a_nets_beside, k_nets_beside, n_nets_beside⟩
  exact ok_law F_law' B C__law_beside C__law_copy C__law_is_net C__law_net C__law_stir C_nets_beside
end
theorem walk_law {l : PySem.W.OpenLaw} {q : Program} {loose : List Str} {XP : (Str → Option Value) → Heap → Prop} {YP : World → Heap → Prop} {d : DefRec} {K : Params → PySem.W.Frag} (hn : l.most = some 63) (hdf : d.params.defaults = [])
    (hY : ∀ (w : World) (h : Heap), YP w h → (K w.params).In h)
    (F : ∀ (w : World) (mg : Str → Option Value) (fa : Addr) (h : Heap), (K w.params).In h → h.Ns mainGlobals mg → mg d.name = some (.ref fa) →
      ∃ fd : FuncData, (∀ (s : Shared) (u : Value), BindsTo s fd ⟨[u], []⟩ [("script", u)]) ∧ ∀ base : Heap, (K w.params).In base → base.Ns mainGlobals mg → FnOk l.prog w (K w.params) mg base (L2.CX l.prog w) 4 fa fd ["script"] (spF (K w.params) mg 1 [] F_law)) :
    PySem.W.WalkO q loose XP YP l.row.toRowW d [] (fun f vs => PySem.call f vs) :=
  L2.walk_of (n := 63) (k := 4) (x := "script") (CX := fun w => L2.CX l.prog w) (sp := fun w => spLaw (K w.params) F_law) hn (by decide) hdf ⟨rfl, by decide, by decide⟩ hY (fun w mg fa h a b c => by
    obtain ⟨fd, h1, h2⟩ := F w mg fa h a b c
    exact ⟨fd, h1, fun base x y => (h2 base x y).imp fun vs H Q E z => z mg⟩) (fun w H a ns hl hO hS => spLaw_of law_true hl hO hS) fun w H s e s' c => cx_false c
end LW
open PySem PySem.W PyProof.Rows
theorem PySem.Challenge.cw_pilenets_k66_nets_beside_holds : PySem.Challenge.rw_pilenets_k66_nets_beside.Holds := by
  w_on; o_law; k_head; (case hw => w_witness2)
  k_fill
  refine LW.walk_law (l := PySem.Challenge.rw_pilenets_k66_nets_beside) rfl rfl (fun w h Y => PySem.W.kIn_of Y) ?F
  case F =>
    intro w mg fa h KX G hmg
    refine' LW.all_mk KX G hmg ?b_bool ?b_enumerate ?b_int ?b_isinstance ?b_len ?b_list ?b_range ?b_set ?b_sorted ?b_tuple ?c_OUT ?x1_NoNet ?x2_NoNet ?x3_NoNet ?x4_NoNet ?x5_NoNet ?a__law_later ?l__law_later ?d__law_later ?k__law_later ?a__law_beside ?l__law_beside ?d__law_beside ?k__law_beside ?a__law_copy ?l__law_copy ?d__law_copy ?k__law_copy ?a__law_is_net ?l__law_is_net ?d__law_is_net ?k__law_is_net ?a__law_stir ?l__law_stir ?d__law_stir ?k__law_stir ?a__law_net ?l__law_net ?d__law_net ?k__law_net ?a_is_way ?l_is_way ?d_is_way ?k_is_way ?a_leads_round ?l_leads_round ?d_leads_round ?k_leads_round ?a_net_of ?l_net_of ?d_net_of ?k_net_of ?a_moved_by ?l_moved_by ?d_moved_by ?k_moved_by ?a_ways_moved ?l_ways_moved ?d_ways_moved ?k_ways_moved ?a_nets_beside ?l_nets_beside ?d_nets_beside ?k_nets_beside ?a_law ?l_law ?d_law ?k_law
    (case b_bool => k_is)
    (case b_enumerate => k_is)
    (case b_int => k_is)
    (case b_isinstance => k_is)
    (case b_len => k_is)
    (case b_list => k_is)
    (case b_range => k_is)
    (case b_set => k_is)
    (case b_sorted => k_is)
    (case b_tuple => k_is)
    (case c_OUT => k_is)
    (case x1_NoNet => k_is)
    (case x2_NoNet => k_exc)
    (case x3_NoNet => k_is)
    (case x4_NoNet => k_is)
    (case x5_NoNet => k_is)
    (case a__law_later => k_is)
    (case l__law_later => k_is)
    (case d__law_later => k_is)
    (case k__law_later => k_is)
    (case a__law_beside => k_is)
    (case l__law_beside => k_is)
    (case d__law_beside => k_is)
    (case k__law_beside => k_is)
    (case a__law_copy => k_is)
    (case l__law_copy => k_is)
    (case d__law_copy => k_is)
    (case k__law_copy => k_is)
    (case a__law_is_net => k_is)
    (case l__law_is_net => k_is)
    (case d__law_is_net => k_is)
    (case k__law_is_net => k_is)
    (case a__law_stir => k_is)
    (case l__law_stir => k_is)
    (case d__law_stir => k_is)
    (case k__law_stir => k_is)
    (case a__law_net => k_is)
    (case l__law_net => k_is)
    (case d__law_net => k_is)
    (case k__law_net => k_is)
    (case a_is_way => k_is)
    (case l_is_way => k_is)
    (case d_is_way => k_is)
    (case k_is_way => k_is)
    (case a_leads_round => k_is)
    (case l_leads_round => k_is)
    (case d_leads_round => k_is)
    (case k_leads_round => k_is)
    (case a_net_of => k_is)
    (case l_net_of => k_is)
    (case d_net_of => k_is)
    (case k_net_of => k_is)
    (case a_moved_by => k_is)
    (case l_moved_by => k_is)
    (case d_moved_by => k_is)
    (case k_moved_by => k_is)
    (case a_ways_moved => k_is)
    (case l_ways_moved => k_is)
    (case d_ways_moved => k_is)
    (case k_ways_moved => k_is)
    (case a_nets_beside => k_is)
    (case l_nets_beside => k_is)
    (case d_nets_beside => k_is)
    (case k_nets_beside => k_is)
    (case a_law => k_is)
    (case l_law => k_is)
    (case d_law => k_is)
    (case k_law => k_is)
#print axioms PySem.Challenge.cw_pilenets_k66_nets_beside_holds
