import PyProof.Rows.All
import Wide.All
import OpenK.AllK
import Wide.FinOn
import HandS.Codes
import HandS.Conv
import HandS.Deep
import HandS.ExcIs
import HandS.Flow
import HandS.ForExc
import HandS.ForMost
import HandS.IsInst
import HandS.SetFor
import HandS.Small
import HandS.SortInts
import HandS.SortRule
import HandS.Steps
import HandS.Strs
import HandS.Style
import HandS.Text
import HandS.TryOnly
import HandS.TupAny
import HandS.TupMul
import HandS.TupSets
import HandS.Walk
import HandS.Wide
import KE.DataFind
import KE.DatumOrd
import KE.KDictDisplayH
import KE.KDictKeyed
import KE.KDictPairs
import PyProof.ReprRoads
import PyProof.StrBlock2
import PySem.Challenge.RW_pilenets_k76_rows_and_doings_written
set_option Elab.async false
set_option linter.all false
set_option maxRecDepth 100000
set_option maxHeartbeats 2000001
set_option exponentiation.threshold 5000
namespace DL
open L2 PySem PySem.Spec PyProof.Rows
/-- data: what a value is worth, down to its leaves -/
inductive D where
  | non
  | bl (b : Bool)
  | int (i : Int)
  | str (x : Str)
  | frz (xs : List Int)
  | tup (xs : List D)
  | lst (xs : List D)
  | dk (kvs : List (Key × D))
  /-- an exception, of the law's class of this name -/
  | exn (n : String)
  /-- a dict whose keys are tuples, nested ones: its keys, what stands at them -/
  | nd (ks vs : List D)
  /-- an instance of the law's class of this name: names and things of its own, names and things that it leans on -/
  | obj (c : String) (fs : List Str) (own : List D) (gs : List Str) (lean : List D)
/-- no object in it that may be changed -/
def D.imm : D → Bool
  | .tup xs => immAll xs
  | .lst _ => false
  | .dk _ => false
  | .nd _ _ => false
  | .obj _ _ _ _ _ => false
  | _ => true
where immAll : List D → Bool
  | [] => true
  | x :: xs => x.imm && immAll xs
/-- its top is an object that may be changed -/
def D.mut : D → Bool
  | .lst _ => true
  | .dk _ => true
  | .nd _ _ => true
  | _ => false
/-- how many objects of it may be changed -/
def D.cnt : D → Nat
  | .tup xs => cntL xs
  | .lst xs => 1 + cntL xs
  | .dk kvs => 1 + cntK kvs
  | .nd _ vs => 1 + cntL vs
  | .obj _ _ own _ lean => 1 + cntL own + cntL lean
  | _ => 0
where
  cntL : List D → Nat
    | [] => 0
    | x :: xs => x.cnt + cntL xs
  cntK : List (Key × D) → Nat
    | [] => 0
    | (_, x) :: xs => x.cnt + cntK xs
/-- how many of its objects stand at its top -/
def D.top : D → Nat
  | .lst _ => 1
  | .dk _ => 1
  | .nd _ _ => 1
  | .obj _ _ own _ _ => 1 + D.cnt.cntL own
  | _ => 0
theorem mut_top {d : D} (h : d.mut = true) : d.top = 1 := by
  cases d <;> first | rfl | cases h
mutual
/-- the key that it is in a dict; no texts -/
def D.nk : D → Option NestedKey
  | .non => some .none
  | .bl b => some (.num (if b = true then 1 else 0))
  | .int i => some (.num i)
  | .tup xs => (nkL xs).map .tup
  | _ => none
def nkL : List D → Option (List NestedKey)
  | [] => some []
  | x :: xs => match x.nk, nkL xs with
    | some k, some ks => some (k :: ks)
    | _, _ => none
end
/-- .. a tuple, not too deep -/
def D.nkey : D → Option NestedKey
  | .tup xs => (match nkL xs with
    | some ks => if (NestedKey.tup ks).depth ≤ 8 then some (.tup ks) else none
    | none => none)
  | _ => none
/-- a dict's object: keys, where their tuples stand, what stands at them -/
def NdO (a : Addr) (ep : Nat) (kvs : List (NestedKey × Addr × V)) : HO := .ext fun h => kvs.length ≤ sizeLine ∧ (a == sysModules) = false ∧ ∃ xs : List (NestedKey × Addr × Value),
  Paired (fun (p : NestedKey × Addr × V) (q : NestedKey × Addr × Value) => p.1 = q.1 ∧ p.2.1 = q.2.1 ∧ RelV p.2.2 q.2.2) kvs xs ∧
  ∃ o es, h.get? a = some o ∧ o.ExactDict ∧ o.data = .dict es ep ∧ (∀ w : World, es.toList = xs.map fun x => (⟨x.1.hash w, .ref x.2.1, x.2.2⟩ : DictEntry)) ∧ (xs.map (·.1)).Nodup
/-- a list that stands as it is -/
def FzL (K : PySem.W.Frag) (H : Hp) (a : Addr) (xs : List V) : Prop := (∃ o, H a = some (.frz o (.lst xs))) ∨
  ∃ (o : Obj) (its : Array Value) (n : Nat), K.lookup a = some o ∧ o.cls = .type "list" ∧ o.dict = none ∧ o.data = .seq its n ∧ its.size ≤ sizeLine ∧ Vals xs its.toList
/-- the class that the law's name n tells -/
def clsN (K : PySem.W.Frag) (n : String) (C : Addr) : Prop := PySem.W.nsIn K mainGlobals (Str.ofString n) = some (some (.ref C))
/-- a caught exception stands: its object is known -/
def ExF (H : Hp) (a C : Addr) : Prop := ∃ (oe : Obj) (u : HO), H a = some (.frz oe u) ∧ oe.cls = .ref C ∧ oe.dict = none ∧ ∃ vs, oe.data = .fields vs
theorem FzL.sq {K : PySem.W.Frag} {H : Hp} {a : Addr} {xs : List V} (h : FzL K H a xs) : SqL K H a xs := h.imp .inr id
section
variable (K : PySem.W.Frag) (ct : String → Option Value) (H : Hp)
mutual
/-- the value v reads as d in H; ns: the objects in it that may be changed, from the top -/
inductive Rd : V → D → List Addr → Prop
  | non : Rd .non .non []
  | bl (b : Bool) : Rd (.bl b) (.bl b) []
  | int (i : Int) : Rd (.int i) (.int i) []
  | str (x : Str) : Rd (.str x) (.str x) []
  | tup {a : Addr} {vs : List V} {ds : List D} {ns : List Addr} : SqT K H a vs → Rds vs ds ns → Rd (.ref a) (.tup ds) ns
  | frz {a : Addr} {xs : List Int} : FzL K H a (xs.map V.int) → Rd (.ref a) (.frz xs) []
  | lst {a : Addr} {vs : List V} {ds : List D} {ns : List Addr} : H a = some (.lst vs) → Rds vs ds ns → Rd (.ref a) (.lst ds) (a :: ns)
  | dk {a : Addr} {kvs : List (Key × V)} {kds : List (Key × D)} {ns : List Addr} : H a = some (.dK kvs) → kvs.map (·.1) = kds.map (·.1) → Rds (kvs.map (·.2)) (kds.map (·.2)) ns → Rd (.ref a) (.dk kds) (a :: ns)
  | exn {a C : Addr} {n : String} : ExF H a C → clsN K n C → Rd (.ref a) (.exn n) []
  | nd {a : Addr} {ep : Nat} {kvs : List (NestedKey × Addr × V)} {ks ds : List D} {ns : List Addr} : H a = some (NdO a ep kvs) → (kvs.map (·.1)).Nodup → ks.map D.nkey = kvs.map (fun x => some x.1) → Rds (kvs.map fun x => V.ref x.2.1) ks [] → Rds (kvs.map (·.2.2)) ds ns → Rd (.ref a) (.nd ks ds) (a :: ns)
  | obj {a C dx : Addr} {fsV : List (Str × V)} {c : String} {fs gs : List Str} {vs us : List V} {ds es : List D} {ns ms : List Addr} : H a = some (.ins C dx fsV) → clsN K c C → fsV.Perm ((fs ++ gs).zip (vs ++ us)) → (fs ++ gs).Nodup → fs.length = ds.length → gs.length = es.length → Rds vs ds ns → Rds us es ms → Rd (.ref a) (.obj c fs ds gs es) (a :: (ns ++ ms))
inductive Rds : List V → List D → List Addr → Prop
  | nil : Rds [] [] []
  | cons {v : V} {d : D} {n : List Addr} {vs : List V} {ds : List D} {ns : List Addr} : Rd v d n → Rds vs ds ns → Rds (v :: vs) (d :: ds) (n ++ ns)
end
end
/-- what may not be written stands -/
def TupK (H H' : Hp) : Prop := ∀ a o, H a = some o → ¬ Mut (some o) → H' a = some o
theorem TupK.refl {H : Hp} : TupK H H := fun _ _ h _ => h
theorem TupK.trans {H H1 H2 : Hp} (a : TupK H H1) (b : TupK H1 H2) : TupK H H2 := fun c o h n => b c o (a c o h n) n
theorem TupK.same {H H' : Hp} (s : Same H H') : TupK H H' := fun a o h _ => s a o h
theorem TupK.tup {K : PySem.W.Frag} {H H' : Hp} (s : TupK H H') {a : Addr} {xs : List V} (h : SqT K H a xs) : SqT K H' a xs := by
  rcases h with (h | ⟨o, h⟩) | h
  · exact .inl (.inl (s _ _ h fun z => z))
  · exact .inl (.inr ⟨o, s _ _ h fun z => z⟩)
  · exact .inr h
section
variable {K : PySem.W.Frag} {H H' : Hp}
mutual
theorem Rd.at (t : TupK H H') : ∀ (d : D) (v : V) (ns : List Addr), Rd K H v d ns → (∀ a ∈ ns, H' a = H a) → Rd K H' v d ns
  | .non, _, _, .non, _ => .non
  | .bl _, _, _, .bl _, _ => .bl _
  | .int _, _, _, .int _, _ => .int _
  | .str _, _, _, .str _, _ => .str _
  | .frz _, _, _, .frz h, _ => .frz (h.imp (fun ⟨o, h⟩ => ⟨o, t _ _ h fun z => z⟩) id)
  | .tup ds, _, _, .tup h r, e => .tup (t.tup h) (Rds.at t ds _ _ r e)
  | .lst ds, _, _, .lst h r, e => .lst ((e _ (List.mem_cons_self ..)).trans h) (Rds.at t ds _ _ r fun a ha => e a (List.mem_cons_of_mem _ ha))
  | .dk kds, _, _, .dk h k r, e => .dk ((e _ (List.mem_cons_self ..)).trans h) k (Rds.atK t kds _ _ r fun a ha => e a (List.mem_cons_of_mem _ ha))
  | .exn _, _, _, .exn ⟨oe, u, h, h2⟩ c, _ => .exn ⟨oe, u, t _ _ h (fun z => z), h2⟩ c
  | .nd ks ds, _, _, .nd h hn k r1 r, e => .nd ((e _ (List.mem_cons_self ..)).trans h) hn k (Rds.at t ks _ _ r1 fun a ha => nomatch ha) (Rds.at t ds _ _ r fun a ha => e a (List.mem_cons_of_mem _ ha))
  | .obj _ _ ds _ es, _, _, .obj h c p n l1 l2 r1 r2, e => .obj ((e _ (List.mem_cons_self ..)).trans h) c p n l1 l2 (Rds.at t ds _ _ r1 fun a ha => e a (List.mem_cons_of_mem _ (List.mem_append_left _ ha))) (Rds.at t es _ _ r2 fun a ha => e a (List.mem_cons_of_mem _ (List.mem_append_right _ ha)))
theorem Rds.at (t : TupK H H') : ∀ (ds : List D) (vs : List V) (ns : List Addr), Rds K H vs ds ns → (∀ a ∈ ns, H' a = H a) → Rds K H' vs ds ns
  | [], _, _, .nil, _ => .nil
  | d :: ds, _, _, .cons h r, e => .cons (Rd.at t d _ _ h fun a ha => e a (List.mem_append_left _ ha)) (Rds.at t ds _ _ r fun a ha => e a (List.mem_append_right _ ha))
theorem Rds.atK (t : TupK H H') : ∀ (kds : List (Key × D)) (vs : List V) (ns : List Addr), Rds K H vs (kds.map (·.2)) ns → (∀ a ∈ ns, H' a = H a) → Rds K H' vs (kds.map (·.2)) ns
  | [], _, _, .nil, _ => .nil
  | (_, d) :: kds, _, _, .cons h r, e => .cons (Rd.at t d _ _ h fun a ha => e a (List.mem_append_left _ ha)) (Rds.atK t kds _ _ r fun a ha => e a (List.mem_append_right _ ha))
end
mutual
theorem Rd.dom : ∀ (d : D) (v : V) (ns : List Addr), Rd K H v d ns → ∀ a ∈ ns, H a ≠ none
  | .non, _, _, .non, _, h => nomatch h
  | .bl _, _, _, .bl _, _, h => nomatch h
  | .int _, _, _, .int _, _, h => nomatch h
  | .str _, _, _, .str _, _, h => nomatch h
  | .frz _, _, _, .frz _, _, h => nomatch h
  | .tup ds, _, _, .tup h r, a, ha => Rds.dom ds _ _ r a ha
  | .lst ds, _, _, .lst h r, a, ha => by
    rcases List.mem_cons.mp ha with rfl | ha
    · rw [h]; exact fun z => nomatch z
    · exact Rds.dom ds _ _ r a ha
  | .dk kds, _, _, .dk h k r, a, ha => by
    rcases List.mem_cons.mp ha with rfl | ha
    · rw [h]; exact fun z => nomatch z
    · exact Rds.domK kds _ _ r a ha
  | .exn _, _, _, .exn _ _, _, h => nomatch h
  | .nd ks ds, _, _, .nd h hn k r1 r, a, ha => by
    rcases List.mem_cons.mp ha with rfl | ha
    · rw [h]; exact fun z => nomatch z
    · exact Rds.dom ds _ _ r a ha
  | .obj _ _ ds _ es, _, _, .obj h c p n l1 l2 r1 r2, a, ha => by
    rcases List.mem_cons.mp ha with rfl | ha
    · rw [h]; exact fun z => nomatch z
    · rcases List.mem_append.mp ha with ha | ha
      · exact Rds.dom ds _ _ r1 a ha
      · exact Rds.dom es _ _ r2 a ha
theorem Rds.dom : ∀ (ds : List D) (vs : List V) (ns : List Addr), Rds K H vs ds ns → ∀ a ∈ ns, H a ≠ none
  | [], _, _, .nil, _, h => nomatch h
  | d :: ds, _, _, .cons h r, a, ha => by
    rcases List.mem_append.mp ha with ha | ha
    · exact Rd.dom d _ _ h a ha
    · exact Rds.dom ds _ _ r a ha
theorem Rds.domK : ∀ (kds : List (Key × D)) (vs : List V) (ns : List Addr), Rds K H vs (kds.map (·.2)) ns → ∀ a ∈ ns, H a ≠ none
  | [], _, _, .nil, _, h => nomatch h
  | (_, d) :: kds, _, _, .cons h r, a, ha => by
    rcases List.mem_append.mp ha with ha | ha
    · exact Rd.dom d _ _ h a ha
    · exact Rds.domK kds _ _ r a ha
end
mutual
theorem Rd.imm : ∀ (d : D) (v : V) (ns : List Addr), Rd K H v d ns → d.imm = true → ns = []
  | .non, _, _, .non, _ => rfl
  | .bl _, _, _, .bl _, _ => rfl
  | .int _, _, _, .int _, _ => rfl
  | .str _, _, _, .str _, _ => rfl
  | .frz _, _, _, .frz _, _ => rfl
  | .tup ds, _, _, .tup h r, e => Rds.imm ds _ _ r (by simpa [D.imm] using e)
  | .lst ds, _, _, .lst h r, e => by simp [D.imm] at e
  | .dk kds, _, _, .dk h k r, e => by simp [D.imm] at e
  | .exn _, _, _, .exn _ _, _ => rfl
  | .nd _ _, _, _, .nd _ _ _ _ _, e => by simp [D.imm] at e
  | .obj _ _ _ _ _, _, _, .obj _ _ _ _ _ _ _ _, e => by simp [D.imm] at e
theorem Rds.imm : ∀ (ds : List D) (vs : List V) (ns : List Addr), Rds K H vs ds ns → D.imm.immAll ds = true → ns = []
  | [], _, _, .nil, _ => rfl
  | d :: ds, _, _, .cons h r, e => by
    rw [D.imm.immAll, Bool.and_eq_true] at e
    rw [Rd.imm d _ _ h e.1, Rds.imm ds _ _ r e.2]
    rfl
end
mutual
theorem Rd.cnt : ∀ (d : D) (v : V) (ns : List Addr), Rd K H v d ns → ns.length = d.cnt
  | .non, _, _, .non => rfl
  | .bl _, _, _, .bl _ => rfl
  | .int _, _, _, .int _ => rfl
  | .str _, _, _, .str _ => rfl
  | .frz _, _, _, .frz _ => rfl
  | .tup ds, _, _, .tup h r => by rw [D.cnt]; exact Rds.cnt ds _ _ r
  | .lst ds, _, _, .lst h r => by rw [D.cnt, List.length_cons, Rds.cnt ds _ _ r]; omega
  | .dk kds, _, _, .dk h k r => by rw [D.cnt, List.length_cons, Rds.cntK kds _ _ r]; omega
  | .exn _, _, _, .exn _ _ => rfl
  | .nd _ ds, _, _, .nd _ _ _ _ r => by rw [D.cnt, List.length_cons, Rds.cnt ds _ _ r]; omega
  | .obj _ _ ds _ es, _, _, .obj _ _ _ _ _ _ r1 r2 => by rw [D.cnt, List.length_cons, List.length_append, Rds.cnt ds _ _ r1, Rds.cnt es _ _ r2]; omega
theorem Rds.cnt : ∀ (ds : List D) (vs : List V) (ns : List Addr), Rds K H vs ds ns → ns.length = D.cnt.cntL ds
  | [], _, _, .nil => rfl
  | d :: ds, _, _, .cons h r => by rw [D.cnt.cntL, List.length_append, Rd.cnt d _ _ h, Rds.cnt ds _ _ r]
theorem Rds.cntK : ∀ (kds : List (Key × D)) (vs : List V) (ns : List Addr), Rds K H vs (kds.map (·.2)) ns → ns.length = D.cnt.cntK kds
  | [], _, _, .nil => rfl
  | (_, d) :: kds, _, _, .cons h r => by rw [D.cnt.cntK, List.length_append, Rd.cnt d _ _ h, Rds.cntK kds _ _ r]
end
theorem Rd.same {d : D} {v : V} {ns : List Addr} (h : Rd K H v d ns) (s : Same H H') : Rd K H' v d ns :=
  h.at (.same s) _ _ _ fun a ha => by
    cases e : H a with
    | none => exact absurd e (h.dom _ _ _ a ha)
    | some o => exact s a o e
theorem Rds.same {ds : List D} {vs : List V} {ns : List Addr} (h : Rds K H vs ds ns) (s : Same H H') : Rds K H' vs ds ns :=
  h.at (.same s) _ _ _ fun a ha => by
    cases e : H a with
    | none => exact absurd e (h.dom _ _ _ a ha)
    | some o => exact s a o e
theorem Rds.length {ds : List D} : ∀ {vs : List V} {ns : List Addr}, Rds K H vs ds ns → vs.length = ds.length := by
  induction ds with
  | nil => intro vs ns h; cases h; rfl
  | cons d ds ih => intro vs ns h; cases h with | cons h r => simp [ih r]
/-- the i-th of it -/
theorem Rds.get {ds : List D} {i : Nat} {d : D} : ∀ {vs : List V} {ns : List Addr}, Rds K H vs ds ns → ds[i]? = some d → ∃ v n n1 n2, vs[i]? = some v ∧ Rd K H v d n ∧ ns = n1 ++ (n ++ n2) := by
  induction ds generalizing i with
  | nil => intro vs ns h e; simp at e
  | cons d0 ds ih =>
    intro vs ns h e
    cases h with
    | cons h r =>
      cases i with
      | zero =>
        simp only [List.getElem?_cons_zero, Option.some.injEq] at e
        subst e
        exact ⟨_, _, [], _, rfl, h, rfl⟩
      | succ i =>
        simp only [List.getElem?_cons_succ] at e
        obtain ⟨v, n, n1, n2, h1, h2, h3⟩ := ih r e
        exact ⟨v, n, _ ++ n1, n2, by simpa using h1, h2, by rw [h3, List.append_assoc]⟩
theorem Rds.append {ds es : List D} : ∀ {vs us : List V} {ns ms : List Addr}, Rds K H vs ds ns → Rds K H us es ms → Rds K H (vs ++ us) (ds ++ es) (ns ++ ms) := by
  induction ds with
  | nil => intro vs us ns ms h q; cases h; exact q
  | cons d ds ih =>
    intro vs us ns ms h q
    cases h with
    | cons h r =>
      rw [List.append_assoc]
      exact .cons h (ih r q)
end
/-- level 0: nothing of it is owned; 1: its top; 2: all of it; 10 more: the slot is a parameter that its caller keeps -/
def ownL (l : Nat) (d : D) (ns : List Addr) : List Addr := match l % 10 with
  | 0 => []
  | 1 => ns.take d.top
  | _ => ns
def rstL (l : Nat) (d : D) (ns : List Addr) : List Addr := match l % 10 with
  | 0 => ns
  | 1 => ns.drop d.top
  | _ => []
theorem own_rst (l : Nat) (d : D) (ns : List Addr) (a : Addr) : (ownL l d ns).count a + (rstL l d ns).count a = ns.count a := by
  unfold ownL rstL
  split
  · simp
  · rw [← List.count_append, List.take_append_drop]
  · simp
/-- a thing that is kept while other things are done: what it owns, what else it leans on, what is true of it -/
structure Tm where
  own : Addr → Nat
  rst : Addr → Nat
  P : Hp → Prop
def Tm.Stab (K : PySem.W.Frag) (m : Tm) : Prop := ∀ H H', m.P H → TupK H H' → (∀ a, 0 < m.own a + m.rst a → H' a = H a) → m.P H'
/-- a slot: its level, data, value, objects -/
structure Sl where
  l : Nat
  d : D
  v : V
  ns : List Addr
def Sl.own (s : Sl) (a : Addr) : Nat := (ownL s.l s.d s.ns).count a
def Sl.rst (s : Sl) (a : Addr) : Nat := (rstL s.l s.d s.ns).count a
def Sl.ld (s : Sl) : Nat × D := (s.l, s.d)
def Sl.tm (K : PySem.W.Frag) (s : Sl) : Tm := ⟨s.own, s.rst, fun H => Rd K H s.v s.d s.ns⟩
theorem Sl.tot (s : Sl) (a : Addr) : s.own a + s.rst a = s.ns.count a := own_rst _ _ _ _
theorem Sl.mem (s : Sl) (a : Addr) : 0 < s.own a + s.rst a ↔ a ∈ s.ns := by rw [s.tot]; exact List.count_pos_iff
theorem Sl.stab (K : PySem.W.Frag) (s : Sl) : (s.tm K).Stab K := fun H H' h t e => Rd.at t _ _ _ h fun a ha => e a ((s.mem a).mpr ha)
abbrev Env := List (Option (Nat × D))
def oS : List (Option Sl) → Addr → Nat
  | [], _ => 0
  | none :: L, a => oS L a
  | some s :: L, a => s.own a + oS L a
def rS : List (Option Sl) → Addr → Nat
  | [], _ => 0
  | none :: L, a => rS L a
  | some s :: L, a => s.rst a + rS L a
def oM : List Tm → Addr → Nat
  | [], _ => 0
  | m :: M, a => m.own a + oM M a
def rM : List Tm → Addr → Nat
  | [], _ => 0
  | m :: M, a => m.rst a + rM M a
def er (L : List (Option Sl)) : Env := L.map (Option.map Sl.ld)
/-- the slots in A own nothing any more -/
def low (A : List Nat) (L : List (Option Sl)) : List (Option Sl) := L.mapIdx fun i s => if i ∈ A then s.map fun s => { s with l := 0 } else s
def lowE (A : List Nat) (Γ : Env) : Env := Γ.mapIdx fun i s => if i ∈ A then s.map fun s => (0, s.2) else s
theorem er_get {L : List (Option Sl)} {i : Nat} : (er L)[i]? = L[i]?.map (Option.map Sl.ld) := by unfold er; rw [List.getElem?_map]
theorem er_some {L : List (Option Sl)} {i l : Nat} {d : D} (h : (er L)[i]? = some (some (l, d))) : ∃ s, L[i]? = some (some s) ∧ s.l = l ∧ s.d = d := by
  rw [er_get] at h
  cases e : L[i]? with
  | none => rw [e] at h; cases h
  | some o =>
    rw [e] at h
    cases o with
    | none => simp at h
    | some s =>
      simp only [Option.map_some, Option.some.injEq, Sl.ld, Prod.mk.injEq] at h
      exact ⟨s, rfl, h.1, h.2⟩
theorem er_low (A : List Nat) (L : List (Option Sl)) : er (low A L) = lowE A (er L) := by
  unfold er low lowE
  apply List.ext_getElem?
  intro i
  simp only [List.getElem?_map, List.getElem?_mapIdx]
  cases L[i]? with
  | none => rfl
  | some s =>
    simp only [Option.map_some]
    split <;> cases s <;> rfl
theorem er_set (L : List (Option Sl)) (i : Nat) (s : Option Sl) : er (L.set i s) = (er L).set i (s.map Sl.ld) := by
  unfold er
  rw [List.map_set]
theorem er_length (L : List (Option Sl)) : (er L).length = L.length := by unfold er; simp
def oO : Option Sl → Addr → Nat
  | none, _ => 0
  | some s, a => s.own a
def rO : Option Sl → Addr → Nat
  | none, _ => 0
  | some s, a => s.rst a
theorem oS_set {L : List (Option Sl)} {i : Nat} {s x : Option Sl} (a : Addr) (h : L[i]? = some s) : oS (L.set i x) a + oO s a = oS L a + oO x a := by
  induction L generalizing i with
  | nil => simp at h
  | cons y L ih =>
    cases i with
    | zero =>
      simp only [List.getElem?_cons_zero, Option.some.injEq] at h
      subst h
      cases y <;> cases x <;> simp only [List.set_cons_zero, oS, oO] <;> omega
    | succ i =>
      simp only [List.getElem?_cons_succ] at h
      have := ih h
      cases y <;> simp only [List.set_cons_succ, oS] <;> omega
theorem rS_set {L : List (Option Sl)} {i : Nat} {s x : Option Sl} (a : Addr) (h : L[i]? = some s) : rS (L.set i x) a + rO s a = rS L a + rO x a := by
  induction L generalizing i with
  | nil => simp at h
  | cons y L ih =>
    cases i with
    | zero =>
      simp only [List.getElem?_cons_zero, Option.some.injEq] at h
      subst h
      cases y <;> cases x <;> simp only [List.set_cons_zero, rS, rO] <;> omega
    | succ i =>
      simp only [List.getElem?_cons_succ] at h
      have := ih h
      cases y <;> simp only [List.set_cons_succ, rS] <;> omega
theorem oS_get {L : List (Option Sl)} {i : Nat} {s : Sl} (a : Addr) (h : L[i]? = some (some s)) : s.own a ≤ oS L a := by
  have := oS_set (x := none) a h
  simp only [oO] at this
  omega
theorem rS_get {L : List (Option Sl)} {i : Nat} {s : Sl} (a : Addr) (h : L[i]? = some (some s)) : s.rst a ≤ rS L a := by
  have := rS_set (x := none) a h
  simp only [rO] at this
  omega
theorem oS_pos {L : List (Option Sl)} {a : Addr} (h : 0 < oS L a) : ∃ (i : Nat) (s : Sl), L[i]? = some (some s) ∧ 0 < s.own a := by
  induction L with
  | nil => simp [oS] at h
  | cons y L ih =>
    cases y with
    | none =>
      obtain ⟨i, s, h1, h2⟩ := ih h
      exact ⟨i + 1, s, h1, h2⟩
    | some t =>
      by_cases ht : 0 < t.own a
      · exact ⟨0, t, rfl, ht⟩
      · obtain ⟨i, s, h1, h2⟩ := ih (by simp only [oS] at h; omega)
        exact ⟨i + 1, s, h1, h2⟩
theorem rS_pos {L : List (Option Sl)} {a : Addr} (h : 0 < rS L a) : ∃ (i : Nat) (s : Sl), L[i]? = some (some s) ∧ 0 < s.rst a := by
  induction L with
  | nil => simp [rS] at h
  | cons y L ih =>
    cases y with
    | none =>
      obtain ⟨i, s, h1, h2⟩ := ih h
      exact ⟨i + 1, s, h1, h2⟩
    | some t =>
      by_cases ht : 0 < t.rst a
      · exact ⟨0, t, rfl, ht⟩
      · obtain ⟨i, s, h1, h2⟩ := ih (by simp only [rS] at h; omega)
        exact ⟨i + 1, s, h1, h2⟩
theorem sl_low (s : Sl) (a : Addr) : ({ s with l := 0 } : Sl).own a = 0 ∧ ({ s with l := 0 } : Sl).rst a = s.own a + s.rst a := by
  refine ⟨by simp [Sl.own, ownL], ?_⟩
  rw [s.tot]
  simp [Sl.rst, rstL]
theorem low_counts (A : List Nat) (a : Addr) : ∀ (L : List (Option Sl)), oS (low A L) a ≤ oS L a ∧ oS (low A L) a + rS (low A L) a = oS L a + rS L a := by
  have gen : ∀ (L : List (Option Sl)) (f : Nat → Option Sl → Option Sl), (∀ i s, f i s = s ∨ f i s = s.map fun s => { s with l := 0 }) → oS (L.mapIdx f) a ≤ oS L a ∧ oS (L.mapIdx f) a + rS (L.mapIdx f) a = oS L a + rS L a := by
    intro L
    induction L with
    | nil => intro f hf; simp [oS, rS]
    | cons y L ih =>
      intro f hf
      rw [List.mapIdx_cons]
      obtain ⟨h1, h2⟩ := ih (fun i => f (i + 1)) fun i s => hf (i + 1) s
      cases y with
      | none =>
        have e : f 0 none = none := by rcases hf 0 none with e | e <;> rw [e]; rfl
        rw [e]
        exact ⟨h1, h2⟩
      | some s =>
        rcases hf 0 (some s) with e | e
        · rw [e]; simp only [oS, rS]; omega
        · rw [e]
          obtain ⟨q1, q2⟩ := sl_low s a
          simp only [Option.map_some, oS, rS, q1, q2]
          omega
  intro L
  refine gen L _ fun i s => ?_
  by_cases h : i ∈ A
  · exact .inr (by simp [h])
  · exact .inl (by simp [h])
theorem low_get {A : List Nat} {L : List (Option Sl)} {i : Nat} {s : Sl} (h : (low A L)[i]? = some (some s)) : ∃ t, L[i]? = some (some t) ∧ t.v = s.v ∧ t.d = s.d ∧ t.ns = s.ns ∧ (i ∉ A → t = s) ∧ (i ∈ A → s.l = 0) := by
  unfold low at h
  rw [List.getElem?_mapIdx] at h
  cases e : L[i]? with
  | none => rw [e] at h; cases h
  | some o =>
    rw [e] at h
    cases o with
    | none =>
      simp only [Option.map_some, Option.some.injEq] at h
      split at h <;> cases h
    | some t =>
      simp only [Option.map_some, Option.some.injEq] at h
      split at h
      · rename_i hA
        simp only [Option.map_some, Option.some.injEq] at h
        subst h
        exact ⟨t, rfl, rfl, rfl, rfl, fun z => absurd hA z, fun _ => rfl⟩
      · rename_i hA
        simp only [Option.some.injEq] at h
        subst h
        exact ⟨t, rfl, rfl, rfl, rfl, fun _ => rfl, fun z => absurd z hA⟩
/-- less is owned by the slots that are left, the more of them go -/
theorem low_mono {A B : List Nat} (hAB : ∀ i ∈ A, i ∈ B) (a : Addr) : ∀ (L : List (Option Sl)), oS (low B L) a ≤ oS (low A L) a := by
  have gen : ∀ (L : List (Option Sl)) (f g : Nat → Option Sl → Option Sl), (∀ i s, oO (g i s) a ≤ oO (f i s) a) → oS (L.mapIdx g) a ≤ oS (L.mapIdx f) a := by
    intro L
    induction L with
    | nil => intro f g h; simp [oS]
    | cons y L ih =>
      intro f g h
      rw [List.mapIdx_cons, List.mapIdx_cons]
      have h1 := ih (fun i => f (i + 1)) (fun i => g (i + 1)) fun i s => h (i + 1) s
      have h0 := h 0 y
      generalize f 0 y = p at *
      generalize g 0 y = q at *
      cases p <;> cases q <;> simp only [oS, oO] at * <;> omega
  intro L
  refine gen L _ _ fun i s => ?_
  by_cases hB : i ∈ B
  · simp only [hB, if_pos]
    cases s with
    | none => simp [oO]
    | some s => simp only [Option.map_some, oO, (sl_low s a).1]; omega
  · have hA : i ∉ A := fun z => hB (hAB i z)
    simp [hA, hB]
theorem low_length (A : List Nat) (L : List (Option Sl)) : (low A L).length = L.length := by unfold low; simp
/-- a slot in A owns nothing behind it -/
theorem low_own {A : List Nat} {L : List (Option Sl)} {i : Nat} {s : Sl} (hi : i ∈ A) (h : L[i]? = some (some s)) (a : Addr) : oS (low A L) a + s.own a ≤ oS L a := by
  have h1 : oS (low A L) a ≤ oS (low [i] L) a := low_mono (fun j hj => by rw [List.mem_singleton.mp hj]; exact hi) a L
  have e : low [i] L = L.set i (some { s with l := 0 }) := by
    apply List.ext_getElem?
    intro j
    unfold low
    rw [List.getElem?_mapIdx, List.getElem?_set]
    by_cases hj : i = j
    · subst hj
      have hl : i < L.length := (List.getElem?_eq_some_iff.mp h).1
      rw [h]
      simp [hl]
    · have hj' : j ∉ [i] := fun z => hj (List.mem_singleton.mp z).symm
      rw [if_neg hj]
      cases L[j]? <;> simp [hj']
  have h2 := oS_set (x := some { s with l := 0 }) a h
  rw [← e] at h2
  simp only [oO, (sl_low s a).1] at h2
  omega
/-- where objects may stand that a def comes to; the values of the parameters that their callers keep -/
structure Zone where
  mem : Addr → Prop
  new : Addr → Prop
  sub : ∀ a, new a → mem a
  pv : Nat → V
instance : CoeFun Zone (fun _ => Addr → Prop) := ⟨Zone.mem⟩
/-- THE RELATION: the slots' values read as data; who owns what -/
structure Rel (K : PySem.W.Frag) (Z : Zone) (σ : L2.St) (H : Hp) (L : List (Option Sl)) (M : List Tm) : Prop where
  len : L.length = σ.length
  slot : ∀ (i : Nat) (s : Sl), L[i]? = some (some s) → σ[i]? = some (some s.v) ∧ Rd K H s.v s.d s.ns ∧ ∀ a ∈ s.ns, Z a
  tms : ∀ m ∈ M, m.P H ∧ m.Stab K ∧ ∀ a, 0 < m.own a + m.rst a → H a ≠ none
  sep : ∀ a, oS L a + oM M a ≤ 1 ∧ (0 < oS L a + oM M a → rS L a + rM M a = 0)
  wr : ∀ a, 0 < oS L a + oM M a → Mut (H a)
  zf : ∀ a, H a = none → Z.new a
  pin : ∀ (i : Nat) (s : Sl), L[i]? = some (some s) → 10 ≤ s.l → s.v = Z.pv i
section
variable {K : PySem.W.Frag} {Z : Zone} {σ : L2.St} {H H' : Hp} {L : List (Option Sl)} {M : List Tm}
theorem oM_mem {m : Tm} (a : Addr) : ∀ {M : List Tm}, m ∈ M → m.own a ≤ oM M a ∧ m.rst a ≤ rM M a
  | x :: M, h => by
    rcases List.mem_cons.mp h with rfl | h
    · simp only [oM, rM]; omega
    · have := oM_mem a h
      simp only [oM, rM]; omega
theorem oM_pos {a : Addr} : ∀ {M : List Tm}, 0 < oM M a → ∃ m ∈ M, 0 < m.own a
  | m :: M, h => by
    by_cases q : 0 < m.own a
    · exact ⟨m, List.mem_cons_self .., q⟩
    · obtain ⟨n, h1, h2⟩ := oM_pos (a := a) (M := M) (by simp only [oM] at h; omega)
      exact ⟨n, List.mem_cons_of_mem _ h1, h2⟩
theorem rM_pos {a : Addr} : ∀ {M : List Tm}, 0 < rM M a → ∃ m ∈ M, 0 < m.rst a
  | m :: M, h => by
    by_cases q : 0 < m.rst a
    · exact ⟨m, List.mem_cons_self .., q⟩
    · obtain ⟨n, h1, h2⟩ := rM_pos (a := a) (M := M) (by simp only [rM] at h; omega)
      exact ⟨n, List.mem_cons_of_mem _ h1, h2⟩
/-- what nobody has yet -/
theorem Rel.free (R : Rel K Z σ H L M) {a : Addr} (h : H a = none) : oS L a = 0 ∧ rS L a = 0 ∧ oM M a = 0 ∧ rM M a = 0 := by
  refine ⟨?_, ?_, ?_, ?_⟩
  · refine Nat.eq_zero_of_not_pos fun q => ?_
    obtain ⟨i, s, h1, h2⟩ := oS_pos q
    exact (R.slot i s h1).2.1.dom _ _ _ a ((s.mem a).mp (by omega)) h
  · refine Nat.eq_zero_of_not_pos fun q => ?_
    obtain ⟨i, s, h1, h2⟩ := rS_pos q
    exact (R.slot i s h1).2.1.dom _ _ _ a ((s.mem a).mp (by omega)) h
  · refine Nat.eq_zero_of_not_pos fun q => ?_
    obtain ⟨m, h1, h2⟩ := oM_pos q
    exact (R.tms m h1).2.2 a (by omega) h
  · refine Nat.eq_zero_of_not_pos fun q => ?_
    obtain ⟨m, h1, h2⟩ := rM_pos q
    exact (R.tms m h1).2.2 a (by omega) h
/-- what is there stands: all stays -/
theorem Rel.same (R : Rel K Z σ H L M) (s : Same H H') : Rel K Z σ H' L M where
  len := R.len
  slot := fun i t h => let ⟨h1, h2, h3⟩ := R.slot i t h; ⟨h1, h2.same s, h3⟩
  tms := fun m hm => by
    obtain ⟨h1, h2, h3⟩ := R.tms m hm
    have k : ∀ a, 0 < m.own a + m.rst a → H' a = H a := fun a ha => by
      cases e : H a with
      | none => exact absurd e (h3 a ha)
      | some o => exact s a o e
    exact ⟨h2 H H' h1 (.same s) k, h2, fun a ha => by rw [k a ha]; exact h3 a ha⟩
  sep := R.sep
  wr := fun a ha => by
    have := R.wr a ha
    cases e : H a with
    | none => rw [e] at this; exact this.elim
    | some o => rw [e] at this; rw [s a o e]; exact this
  zf := fun a ha => R.zf a (s.free ha)
  pin := R.pin
/-- the temps above go -/
theorem Rel.pop {m : Tm} (R : Rel K Z σ H L (m :: M)) : Rel K Z σ H L M where
  len := R.len
  slot := R.slot
  tms := fun n hn => R.tms n (List.mem_cons_of_mem _ hn)
  sep := fun a => by have := R.sep a; simp only [oM, rM] at this; omega
  wr := fun a ha => R.wr a (by simp only [oM]; omega)
  zf := R.zf
  pin := R.pin
theorem Rel.low (R : Rel K Z σ H L M) (A : List Nat) : Rel K Z σ H (low A L) M where
  len := by rw [low_length]; exact R.len
  slot := fun i t h => by
    obtain ⟨u, h1, e1, e2, e3, _⟩ := low_get h
    have := R.slot i u h1
    rw [e1, e2, e3] at this
    exact this
  tms := R.tms
  sep := fun a => by
    have h1 := R.sep a
    have h2 := low_counts A a L
    omega
  wr := fun a ha => R.wr a (by have := low_counts A a L; omega)
  zf := R.zf
  pin := fun i s h hl => by
    obtain ⟨u, h1, _, _, _, e4, e5⟩ := low_get h
    by_cases c : i ∈ A
    · have := e5 c
      omega
    · rw [← e4 c] at hl ⊢
      exact R.pin i u h1 hl
/-- a new thing above -/
theorem Rel.push (R : Rel K Z σ H L M) {m : Tm} (hP : m.P H) (hS : m.Stab K) (hd : ∀ a, 0 < m.own a + m.rst a → H a ≠ none)
    (h1 : ∀ a, m.own a ≤ 1 ∧ (0 < m.own a → m.rst a = 0)) (h2 : ∀ a, 0 < m.own a → Mut (H a) ∧ oS L a = 0 ∧ rS L a = 0 ∧ oM M a = 0 ∧ rM M a = 0) (h3 : ∀ a, 0 < m.rst a → oS L a = 0 ∧ oM M a = 0) : Rel K Z σ H L (m :: M) where
  len := R.len
  slot := R.slot
  tms := fun n hn => by
    rcases List.mem_cons.mp hn with rfl | hn
    · exact ⟨hP, hS, hd⟩
    · exact R.tms n hn
  sep := fun a => by
    have q := R.sep a
    have q1 := h1 a
    have q2 := h2 a
    have q3 := h3 a
    simp only [oM, rM]
    by_cases c : 0 < m.own a
    · have := q2 c; omega
    · by_cases c' : 0 < m.rst a
      · have := q3 c'; omega
      · omega
  wr := fun a ha => by
    simp only [oM] at ha
    by_cases c : 0 < m.own a
    · exact (h2 a c).1
    · exact R.wr a (by omega)
  zf := R.zf
  pin := R.pin
end
end DL
namespace DL
open L2 PySem PySem.Spec PyProof.Rows
abbrev LD := Nat × D
/-- what a pure reckoning gives -/
inductive P (α : Type) where
  | ok (a : α)
  | exc (c : String)
  | bad
/-- what a reckoning gives that may turn the slots -/
inductive R (α : Type) where
  | ok (a : α) (Γ : Env)
  | exc (c : String) (Γ : Env)
  | bad
abbrev PF := Env → P LD
abbrev EF := Env → R LD
/-- what is wanted of an exception of the class called c -/
abbrev WW := String → L2.St → Hp → Prop
theorem PE.imp {X : Cx} {e : Expr} {t t' : TE} (h : PE X e t) (i : ∀ σ H Q, t' σ H Q → t σ H Q) : PE X e t' := ⟨fun pins s σ H Q I hw => h.run pins s σ H Q I (i σ H Q hw)⟩
theorem PT.imp {X : Cx} {e : Expr} {t t' : TT} (h : PT X e t) (i : ∀ σ H Q, t' σ H Q → t σ H Q) : PT X e t' := ⟨fun pins s σ H Q I hw => h.run pins s σ H Q I (i σ H Q hw)⟩
theorem PS.imp {X : Cx} {e : Stmt} {t t' : TS} (h : PS X e t) (i : ∀ D σ H, t' D σ H → t D σ H) : PS X e t' := ⟨fun pins s σ H D I hw => h.run pins s σ H D I (i D σ H hw)⟩
theorem PSs.imp {X : Cx} {e : List Stmt} {t t' : TS} (h : PSs X e t) (i : ∀ D σ H, t' D σ H → t D σ H) : PSs X e t' := ⟨fun pins s σ H D I hw => h.run pins s σ H D I (i D σ H hw)⟩
theorem PA.imp {X : Cx} {e : List Expr} {t t' : TA} (h : PA X e t) (i : ∀ σ H Q, t' σ H Q → t σ H Q) : PA X e t' := ⟨fun pos pins s σ H Q I hw => h.run pos pins s σ H Q I (i σ H Q hw)⟩
/-- a value that a pure reckoning has given: its own objects are new; what else is in it is owned by none but the slots in A -/
structure Bor (K : PySem.W.Frag) (Z : Zone) (A : List Nat) (H : Hp) (L : List (Option Sl)) (M : List Tm) (H' : Hp) (s : Sl) : Prop where
  same : Same H H'
  rd : Rd K H' s.v s.d s.ns
  z : ∀ a ∈ s.ns, Z a
  own : ∀ a, s.own a ≤ 1 ∧ (0 < s.own a → s.rst a = 0 ∧ H a = none ∧ Mut (H' a))
  rst : ∀ a, 0 < s.rst a → oS (low A L) a = 0 ∧ oM M a = 0
def tDP (K : PySem.W.Frag) (W : WW) (A : List Nat) (f : PF) : TE := fun σ H Q => ∃ Z L M, Rel K Z σ H L M ∧ match f (er L) with
  | .ok (l, d) => ∀ v ns H', Bor K Z A H L M H' ⟨l, d, v, ns⟩ → Q v H'
  | .exc c => ∀ H', Same H H' → W c σ H'
  | .bad => False
def tDE (K : PySem.W.Frag) (W : WW) (f : EF) : TE := fun σ H Q => ∃ Z L M, Rel K Z σ H L M ∧ match f (er L) with
  | .ok (l, d) Γ' => ∀ v ns H' L', er L' = Γ' → Rel K Z σ H' L' (Sl.tm K ⟨l, d, v, ns⟩ :: M) → (∀ a ∈ ns, Z a) → Q v H'
  | .exc c Γ' => ∀ H' L', er L' = Γ' → Rel K Z σ H' L' M → W c σ H'
  | .bad => False
def DP (X : Cx) (W : WW) (A : List Nat) (e : Expr) (f : PF) : Prop := PE X e (tDP X.K W A f)
def DE (X : Cx) (W : WW) (e : Expr) (f : EF) : Prop := PE X e (tDE X.K W f)
/-- a pure reckoning, kept: unless it is new or may not be changed, the slots it may come from own nothing any more -/
def toE (A : List Nat) (f : PF) : EF := fun Γ => match f Γ with
  | .ok (l, d) => .ok (l, d) (if 2 ≤ l % 10 ∨ d.imm = true then Γ else lowE A Γ)
  | .exc c => .exc c Γ
  | .bad => .bad
section
variable {K : PySem.W.Frag} {Z : Zone} {σ : L2.St} {H H' : Hp} {L : List (Option Sl)} {M : List Tm} {A : List Nat}
theorem rst_top {l : Nat} {d : D} {v : V} {ns : List Addr} (h : 2 ≤ l % 10) (a : Addr) : (Sl.mk l d v ns).rst a = 0 := by
  obtain ⟨n, e⟩ : ∃ n, l % 10 = n + 2 := ⟨l % 10 - 2, by omega⟩
  simp [Sl.rst, rstL, e]
theorem imm_cnt {l : Nat} {d : D} {v : V} {ns : List Addr} (r : Rd K H v d ns) (h : d.imm = true) (a : Addr) : (Sl.mk l d v ns).rst a = 0 ∧ (Sl.mk l d v ns).own a = 0 := by
  have e := r.imm _ _ _ h
  subst e
  have := (Sl.mk l d v []).tot a
  simp only [List.count_nil] at this
  omega
/-- what was given is put above, the slots that it may come from lowered -/
theorem Bor.push {s : Sl} (B : Bor K Z A H L M H' s) (R : Rel K Z σ H L M) : Rel K Z σ H' (low A L) (s.tm K :: M) := by
  refine ((R.same B.same).low A).push (m := s.tm K) B.rd (s.stab K) (fun a ha => B.rd.dom _ _ _ a ((s.mem a).mp ha)) (fun a => ⟨(B.own a).1, fun h => ((B.own a).2 h).1⟩) (fun a ha => ?_) (fun a ha => B.rst a ha)
  obtain ⟨_, h1, h2⟩ := (B.own a).2 ha
  obtain ⟨q1, q2, q3, q4⟩ := R.free h1
  have := low_counts A a L
  exact ⟨h2, by omega, by omega, q3, q4⟩
theorem Bor.push0 {s : Sl} (B : Bor K Z A H L M H' s) (R : Rel K Z σ H L M) (h : 2 ≤ s.l % 10 ∨ s.d.imm = true) : Rel K Z σ H' L (s.tm K :: M) := by
  have hr : ∀ a, s.rst a = 0 := fun a => by
    rcases h with h | h
    · exact rst_top h a
    · exact (imm_cnt (l := s.l) B.rd h a).1
  refine (R.same B.same).push (m := s.tm K) B.rd (s.stab K) (fun a ha => B.rd.dom _ _ _ a ((s.mem a).mp ha)) (fun a => ⟨(B.own a).1, fun _ => hr a⟩) (fun a ha => ?_) (fun a ha => ?_)
  · obtain ⟨_, h1, h2⟩ := (B.own a).2 ha
    obtain ⟨q1, q2, q3, q4⟩ := R.free h1
    exact ⟨h2, q1, q2, q3, q4⟩
  · have := hr a
    have : 0 < s.rst a := ha
    omega
end
theorem DP.toE {X : Cx} {W : WW} {A : List Nat} {e : Expr} {f : PF} (h : DP X W A e f) : DE X W e (toE A f) := by
  refine PE.imp h fun σ H Q ⟨Z, L, M, R, q⟩ => ⟨Z, L, M, R, ?_⟩
  unfold DL.toE at q
  cases ef : f (er L) with
  | bad => rw [ef] at q; exact q
  | exc c =>
    rw [ef] at q
    exact fun H' s => q H' L rfl (R.same s)
  | ok x =>
    obtain ⟨l, d⟩ := x
    rw [ef] at q
    intro v ns H' B
    by_cases c : 2 ≤ l % 10 ∨ d.imm = true
    · exact q v ns H' L (by simp only [if_pos c]) (B.push0 R c) B.z
    · exact q v ns H' (low A L) (by simp only [if_neg c]; exact er_low A L) (B.push R) B.z
def pVar (i : Nat) : PF := fun Γ => match Γ[i]? with
  | some (some (_, d)) => .ok (0, d)
  | _ => .bad
def pC (d : D) : PF := fun _ => .ok (2, d)
/-- a name's value goes on: the slot is empty behind it -/
def eMove (i : Nat) : EF := fun Γ => match Γ[i]? with
  | some (some (l, d)) => .ok (l % 10, d) (Γ.set i none)
  | _ => .bad
section
variable {X : Cx} {W : WW}
theorem p_var {e : Expr} {i : Nat} (h : PE X e (tVar i)) : DP X W [i] e (pVar i) := by
  refine PE.imp h fun σ H Q ⟨Z, L, M, R, q⟩ => ?_
  unfold pVar at q
  cases el : (er L)[i]? with
  | none => rw [el] at q; exact q.elim
  | some o =>
    cases o with
    | none => rw [el] at q; exact q.elim
    | some x =>
      obtain ⟨l, d⟩ := x
      rw [el] at q
      obtain ⟨s, h1, e1, e2⟩ := er_some el
      obtain ⟨h2, h3, h4⟩ := R.slot i s h1
      refine ⟨s.v, h2, q s.v s.ns H ⟨fun _ _ h => h, by rw [← e2]; exact h3, h4, fun a => ⟨by simp [Sl.own, ownL], fun z => by simp [Sl.own, ownL] at z⟩, fun a ha => ?_⟩⟩
      have ha' : a ∈ s.ns := by simpa [Sl.rst, rstL, List.count_pos_iff] using ha
      have hs := (s.mem a).mpr ha'
      have sp := R.sep a
      have g1 := oS_get a h1
      have g2 := rS_get a h1
      have g3 := low_own (A := [i]) (List.mem_singleton.mpr rfl) h1 a
      have g4 := low_counts [i] a L
      omega
theorem e_move {e : Expr} {i : Nat} (h : PE X e (tVar i)) : DE X W e (eMove i) := by
  refine PE.imp h fun σ H Q ⟨Z, L, M, R, q⟩ => ?_
  unfold eMove at q
  cases el : (er L)[i]? with
  | none => rw [el] at q; exact q.elim
  | some o =>
    cases o with
    | none => rw [el] at q; exact q.elim
    | some x =>
      obtain ⟨l, d⟩ := x
      rw [el] at q
      obtain ⟨s, h1, e1, e2⟩ := er_some el
      obtain ⟨h2, h3, h4⟩ := R.slot i s h1
      subst e1 e2
      have p1 : ∀ a, (Sl.mk (s.l % 10) s.d s.v s.ns).own a = s.own a := fun a => by simp [Sl.own, ownL]
      have p2 : ∀ a, (Sl.mk (s.l % 10) s.d s.v s.ns).rst a = s.rst a := fun a => by simp [Sl.rst, rstL]
      refine ⟨s.v, h2, q s.v s.ns H (L.set i none) (by rw [er_set]; rfl) ⟨by simpa using R.len, fun j t hj => ?_, fun m hm => ?_, fun a => ?_, fun a ha => ?_, R.zf, fun j t hj hl => ?_⟩ h4⟩
      · by_cases hij : i = j
        · subst hij
          rw [List.getElem?_set_self (List.getElem?_eq_some_iff.mp h1).1] at hj
          cases hj
        · rw [List.getElem?_set_ne hij] at hj
          exact R.slot j t hj
      · rcases List.mem_cons.mp hm with rfl | hm
        · exact ⟨h3, Sl.stab _ _, fun a ha => h3.dom _ _ _ a (((Sl.mk (s.l % 10) s.d s.v s.ns).mem a).mp ha)⟩
        · exact R.tms m hm
      · have g1 := oS_set (x := none) a h1
        have g2 := rS_set (x := none) a h1
        have sp := R.sep a
        simp only [oO, rO] at g1 g2
        simp only [oM, rM, Sl.tm]
        rw [p1 a, p2 a]
        omega
      · have g1 := oS_set (x := none) a h1
        simp only [oO] at g1
        simp only [oM] at ha
        exact R.wr a (by have ha : 0 < oS (L.set i none) a + ((Sl.mk (s.l % 10) s.d s.v s.ns).own a + oM M a) := ha; rw [p1 a] at ha; omega)
      · by_cases hij : i = j
        · subst hij
          rw [List.getElem?_set_self (List.getElem?_eq_some_iff.mp h1).1] at hj
          cases hj
        · rw [List.getElem?_set_ne hij] at hj
          exact R.pin j t hj hl
theorem rd_C {K : PySem.W.Frag} {H : Hp} {v : V} {d : D} (hr : Rd K H v d []) : ∀ (Z : Zone) (L : List (Option Sl)) (M : List Tm), Bor K Z [] H L M H ⟨2, d, v, []⟩ := fun Z L M =>
  ⟨fun _ _ h => h, hr, fun a h => (nomatch h), fun a => ⟨by simp [Sl.own, ownL], fun z => by simp [Sl.own, ownL] at z⟩, fun a z => by simp [Sl.rst, rstL] at z⟩
theorem p_C {e : Expr} {v : V} {d : D} (h : PE X e (tC v)) (hr : ∀ H, Rd X.K H v d []) : DP X W [] e (pC d) :=
  PE.imp h fun σ H Q ⟨Z, L, M, R, q⟩ => q v [] H (rd_C (hr H) Z L M)
theorem p_int {i : Int} {j pos} : DP X W [] (.Constant (.int i) j pos) (pC (.int i)) := p_C pe_int fun _ => .int i
theorem p_bl {b j pos} : DP X W [] (.Constant (.bool b) j pos) (pC (.bl b)) := p_C pe_bl fun _ => .bl b
theorem p_str {x j pos} : DP X W [] (.Constant (.str x) j pos) (pC (.str x)) := p_C pe_str fun _ => .str x
end
def oL : List Sl → Addr → Nat
  | [], _ => 0
  | s :: l, a => s.own a + oL l a
def rL : List Sl → Addr → Nat
  | [], _ => 0
  | s :: l, a => s.rst a + rL l a
/-- arguments that read as data in H and stand apart -/
structure ArgsOk (K : PySem.W.Frag) (H : Hp) (As : List Sl) : Prop where
  rd : ∀ s ∈ As, Rd K H s.v s.d s.ns
  sep : ∀ a, oL As a ≤ 1 ∧ (0 < oL As a → rL As a = 0)
  wr : ∀ a, 0 < oL As a → Mut (H a)
/-- what comes of them: new, or theirs -/
def Res (As : List Sl) (H H' : Hp) (s : Sl) : Prop := ∀ a, s.own a ≤ 1 ∧ (0 < s.own a → s.rst a = 0 ∧ Mut (H' a) ∧ (H a = none ∨ 0 < oL As a)) ∧ (0 < s.rst a → H a = none ∨ 0 < oL As a + rL As a)
def VOk (K : PySem.W.Frag) (r : List V → Hp → VK → Prop) (g : List LD → Option LD) : Prop := ∀ (As : List Sl) (H : Hp) (Q : VK), ArgsOk K H As → ∀ l d, g (As.map Sl.ld) = some (l, d) →
  (∀ v ns H', Same H H' → Rd K H' v d ns → Res As H H' ⟨l, d, v, ns⟩ → Q v H') → r (As.map Sl.v) H Q
theorem oL_append (As Bs : List Sl) (a : Addr) : oL (As ++ Bs) a = oL As a + oL Bs a := by
  induction As with
  | nil => simp [oL]
  | cons s As ih => simp only [List.cons_append, oL, ih]; omega
theorem rL_append (As Bs : List Sl) (a : Addr) : rL (As ++ Bs) a = rL As a + rL Bs a := by
  induction As with
  | nil => simp [rL]
  | cons s As ih => simp only [List.cons_append, rL, ih]; omega
theorem oL_mem {s : Sl} (a : Addr) : ∀ {As : List Sl}, s ∈ As → s.own a ≤ oL As a ∧ s.rst a ≤ rL As a
  | x :: As, h => by
    rcases List.mem_cons.mp h with rfl | h
    · simp only [oL, rL]; omega
    · have := oL_mem a h
      simp only [oL, rL]; omega
theorem oL_pos {a : Addr} : ∀ {As : List Sl}, 0 < oL As a + rL As a → ∃ s ∈ As, a ∈ s.ns
  | s :: As, h => by
    by_cases q : 0 < s.own a + s.rst a
    · exact ⟨s, List.mem_cons_self .., (s.mem a).mp q⟩
    · obtain ⟨n, h1, h2⟩ := oL_pos (a := a) (As := As) (by simp only [oL, rL] at h; omega)
      exact ⟨n, List.mem_cons_of_mem _ h1, h2⟩
theorem ArgsOk.free {K : PySem.W.Frag} {H : Hp} {As : List Sl} (h : ArgsOk K H As) {a : Addr} (e : H a = none) : oL As a = 0 ∧ rL As a = 0 := by
  have : oL As a + rL As a = 0 := Nat.eq_zero_of_not_pos fun q => by
    obtain ⟨s, h1, h2⟩ := oL_pos q
    exact (h.rd s h1).dom _ _ _ a h2 e
  omega
theorem ArgsOk.same {K : PySem.W.Frag} {H H' : Hp} {As : List Sl} (h : ArgsOk K H As) (s : Same H H') : ArgsOk K H' As :=
  ⟨fun t ht => (h.rd t ht).same s, h.sep, fun a ha => by
    have := h.wr a ha
    cases e : H a with
    | none => rw [e] at this; exact this.elim
    | some o => rw [e] at this; rw [s a o e]; exact this⟩
/-- readings one behind the other, then r of the values -/
def tArgs : List TE → (List V → Hp → VK → Prop) → TE
  | [], r => fun _ H Q => r [] H Q
  | t :: ts, r => fun σ H Q => t σ H fun x H1 => tArgs ts (fun xs => r (x :: xs)) σ H1 Q
/-- pure reckonings one behind the other -/
def evP : List PF → Env → P (List LD)
  | [], _ => .ok []
  | f :: fs, Γ => match f Γ with
    | .ok x => (match evP fs Γ with
      | .ok xs => .ok (x :: xs)
      | .exc c => .exc c
      | .bad => .bad)
    | .exc c => .exc c
    | .bad => .bad
def gP (o : Option LD) : P LD := match o with
  | some x => .ok x
  | none => .bad
def pApp (g : List LD → Option LD) (fs : List PF) : PF := fun Γ => match evP fs Γ with
  | .ok xs => gP (g xs)
  | .exc c => .exc c
  | .bad => .bad
/-- what the arguments that are there own is kept -/
def prot (As : List Sl) : Tm := ⟨oL As, fun _ => 0, fun _ => True⟩
section
variable {K : PySem.W.Frag} {Z : Zone} {σ : L2.St} {H0 H H' : Hp} {L : List (Option Sl)} {M : List Tm} {A : List Nat} {W : WW}
/-- pure arguments that have come: H0 the heap ahead of them -/
structure PArgs (K : PySem.W.Frag) (Z : Zone) (A : List Nat) (H0 : Hp) (L : List (Option Sl)) (M : List Tm) (H : Hp) (As : List Sl) : Prop where
  same : Same H0 H
  ok : ArgsOk K H As
  z : ∀ s ∈ As, ∀ a ∈ s.ns, Z a
  own : ∀ a, 0 < oL As a → H0 a = none
  rst : ∀ a, 0 < rL As a → oS (low A L) a = 0 ∧ oM M a = 0
theorem PArgs.rel (B : PArgs K Z A H0 L M H As) (R : Rel K Z σ H0 L M) : Rel K Z σ H L (prot As :: M) := by
  refine (R.same B.same).push (m := prot As) trivial (fun _ _ _ _ _ => trivial) (fun a ha => ?_) (fun a => ⟨(B.ok.sep a).1, fun _ => rfl⟩) (fun a ha => ?_) (fun a ha => absurd ha (Nat.lt_irrefl 0))
  · have := B.ok.wr a ha
    intro e
    rw [e] at this
    exact this
  · obtain ⟨q1, q2, q3, q4⟩ := R.free (B.own a ha)
    exact ⟨B.ok.wr a ha, q1, q2, q3, q4⟩
theorem PArgs.nil (R : Rel K Z σ H L M) : PArgs K Z A H L M H [] :=
  ⟨fun _ _ h => h, ⟨fun _ h => (nomatch h), fun a => ⟨Nat.zero_le _, fun _ => rfl⟩, fun a h => absurd h (Nat.lt_irrefl 0)⟩, fun _ h => (nomatch h), fun a h => absurd h (Nat.lt_irrefl 0), fun a h => absurd h (Nat.lt_irrefl 0)⟩
theorem PArgs.snoc {As : List Sl} {s : Sl} {B : List Nat} (hB : ∀ i ∈ B, i ∈ A) (R : Rel K Z σ H0 L M) (p : PArgs K Z A H0 L M H As) (b : Bor K Z B H L (prot As :: M) H' s) : PArgs K Z A H0 L M H' (As ++ [s]) := by
  have k := p.ok.same b.same
  have oe : ∀ a, oL (As ++ [s]) a = oL As a + s.own a := fun a => by rw [oL_append]; simp [oL]
  have re : ∀ a, rL (As ++ [s]) a = rL As a + s.rst a := fun a => by rw [rL_append]; simp [rL]
  refine ⟨p.same.trans b.same, ⟨fun t ht => ?_, fun a => ?_, fun a ha => ?_⟩, fun t ht => ?_, fun a ha => ?_, fun a ha => ?_⟩
  · rcases List.mem_append.mp ht with ht | ht
    · exact k.rd t ht
    · rw [List.mem_singleton.mp ht]; exact b.rd
  · rw [oe, re]
    have q1 := p.ok.sep a
    have q2 := b.own a
    have q3 := b.rst a
    by_cases c : 0 < s.own a
    · obtain ⟨c1, c2, _⟩ := q2.2 c
      have := p.ok.free c2
      omega
    · by_cases c' : 0 < s.rst a
      · have h3 : oL As a + oM M a = 0 := (q3 c').2
        omega
      · omega
  · rw [oe] at ha
    by_cases c : 0 < s.own a
    · exact ((b.own a).2 c).2.2
    · exact k.wr a (by omega)
  · rcases List.mem_append.mp ht with ht | ht
    · exact p.z t ht
    · rw [List.mem_singleton.mp ht]; exact b.z
  · rw [oe] at ha
    by_cases c : 0 < s.own a
    · exact p.same.free ((b.own a).2 c).2.1
    · exact p.own a (by omega)
  · rw [re] at ha
    by_cases c : 0 < s.rst a
    · obtain ⟨c1, c2⟩ := b.rst a c
      have c2 : oL As a + oM M a = 0 := c2
      have := low_mono hB a L
      omega
    · exact p.rst a (by omega)
/-- what comes of pure arguments, as a pure reckoning's -/
theorem PArgs.res {As : List Sl} {s : Sl} (R : Rel K Z σ H0 L M) (p : PArgs K Z A H0 L M H As) (sm : Same H0 H') (rd : Rd K H' s.v s.d s.ns) (r : Res As H H' s) : Bor K Z A H0 L M H' s := by
  have fr : ∀ a, H a = none → H0 a = none := fun a h => p.same.free h
  refine ⟨sm, rd, fun a ha => ?_, fun a => ⟨(r a).1, fun h => ?_⟩, fun a ha => ?_⟩
  · have hm := (s.mem a).mpr ha
    have key : H a = none ∨ 0 < oL As a + rL As a := by
      by_cases c : 0 < s.own a
      · rcases ((r a).2.1 c).2.2 with q | q
        · exact .inl q
        · exact .inr (by omega)
      · exact (r a).2.2 (by omega)
    rcases key with q | q
    · exact Z.sub a (R.zf a (fr a q))
    · obtain ⟨t, h1, h2⟩ := oL_pos q
      exact p.z t h1 a h2
  · obtain ⟨h1, h2, h3⟩ := (r a).2.1 h
    refine ⟨h1, ?_, h2⟩
    rcases h3 with q | q
    · exact fr a q
    · exact p.own a q
  · have zer : H0 a = none → oS (low A L) a = 0 ∧ oM M a = 0 := fun e => by
      have := R.free e
      have := low_counts A a L
      omega
    rcases (r a).2.2 ha with q | q
    · exact zer (fr a q)
    · by_cases c : 0 < oL As a
      · exact zer (p.own a c)
      · exact p.rst a (by omega)
/-- pure arguments, from the left -/
theorem parts {r : List V → Hp → VK → Prop} {Q : VK} (hexc : ∀ c H', Same H0 H' → W c σ H' → W c σ H') : ∀ (fs : List (List Nat × PF)) (As : List Sl) (H : Hp), (∀ p ∈ fs, ∀ i ∈ p.1, i ∈ A) → Rel K Z σ H0 L M → PArgs K Z A H0 L M H As →
    (match evP (fs.map (·.2)) (er L) with
      | .ok xs => ∀ Bs H', Bs.map Sl.ld = xs → PArgs K Z A H0 L M H' (As ++ Bs) → r ((As ++ Bs).map Sl.v) H' Q
      | .exc c => ∀ H', Same H0 H' → W c σ H'
      | .bad => False) →
    tArgs (fs.map fun p => tDP K W p.1 p.2) (fun xs => r (As.map Sl.v ++ xs)) σ H Q
  | [], As, H, _, R, p, h => by
    have := h [] H rfl (by rw [List.append_nil]; exact p)
    rw [List.append_nil] at this
    show r (As.map Sl.v ++ []) H Q
    rw [List.append_nil]
    exact this
  | (B, f) :: fs, As, H, hA, R, p, h => by
    refine ⟨Z, L, prot As :: M, p.rel R, ?_⟩
    simp only [List.map_cons, evP] at h
    dsimp only
    cases ef : f (er L) with
    | bad => simp only [ef] at h
    | exc c =>
      simp only [ef] at h
      exact fun H' s => h H' (p.same.trans s)
    | ok x =>
      obtain ⟨l, d⟩ := x
      simp only [ef] at h
      intro v ns H' b
      have p' := p.snoc (hA _ (List.mem_cons_self ..)) R b
      have hv : (fun xs => r (As.map Sl.v ++ v :: xs)) = fun xs => r ((As ++ [Sl.mk l d v ns]).map Sl.v ++ xs) := by
        funext xs
        simp
      show tArgs (fs.map fun p => tDP K W p.1 p.2) (fun xs => r (As.map Sl.v ++ v :: xs)) σ H' Q
      rw [hv]
      refine parts hexc fs _ H' (fun q hq => hA q (List.mem_cons_of_mem _ hq)) R p' ?_
      cases ev : evP (fs.map (·.2)) (er L) with
      | bad => simp only [ev] at h
      | exc c => simp only [ev] at h; exact h
      | ok xs =>
        simp only [ev] at h
        intro Bs H2 e q
        have := h (⟨l, d, v, ns⟩ :: Bs) H2 (by simp [Sl.ld, e]) (by simpa using q)
        simpa using this
/-- an operation upon pure arguments -/
theorem p_app {X : Cx} {r : List V → Hp → VK → Prop} {g : List LD → Option LD} {e : Expr} {t : TE} (fs : List (List Nat × PF)) (hA : ∀ p ∈ fs, ∀ i ∈ p.1, i ∈ A) (hv : VOk X.K r g) (h : PE X e t) (ht : ∀ σ H Q, tArgs (fs.map fun p => tDP X.K W p.1 p.2) r σ H Q → t σ H Q) :
    DP X W A e (pApp g (fs.map (·.2))) := by
  refine PE.imp h fun σ H Q ⟨Z, L, M, R, q⟩ => ht σ H Q ?_
  refine parts (A := A) (r := r) (fun _ _ _ z => z) fs [] H hA R (PArgs.nil R) ?_
  unfold pApp at q
  cases ev : evP (fs.map (·.2)) (er L) with
  | bad => rw [ev] at q; exact q
  | exc c => rw [ev] at q; exact q
  | ok xs =>
    rw [ev] at q
    intro Bs H1 e1 p
    simp only [List.nil_append] at p ⊢
    cases eg : g xs with
    | none => simp only [eg, gP] at q
    | some x =>
      obtain ⟨l, d⟩ := x
      simp only [eg, gP] at q
      exact hv Bs H1 Q p.ok l d (by rw [e1]; exact eg) fun v ns H' sm rd rs => q v ns H' (p.res R (p.same.trans sm) rd rs)
end
end DL
namespace DL
open L2 PySem PySem.Spec PyProof.Rows
/-- arguments that have come, kept -/
def tmA (K : PySem.W.Frag) (As : List Sl) : Tm := ⟨oL As, rL As, fun H => ∀ s ∈ As, Rd K H s.v s.d s.ns⟩
def evE : List EF → Env → R (List LD)
  | [], Γ => .ok [] Γ
  | f :: fs, Γ => match f Γ with
    | .ok x Γ1 => (match evE fs Γ1 with
      | .ok xs Γ2 => .ok (x :: xs) Γ2
      | .exc c Γ2 => .exc c Γ2
      | .bad => .bad)
    | .exc c Γ1 => .exc c Γ1
    | .bad => .bad
def eApp (g : List LD → Option LD) (fs : List EF) : EF := fun Γ => match evE fs Γ with
  | .ok xs Γ' => (match g xs with
    | some x => .ok x Γ'
    | none => .bad)
  | .exc c Γ' => .exc c Γ'
  | .bad => .bad
section
variable {K : PySem.W.Frag} {Z : Zone} {σ : L2.St} {H H' : Hp} {L : List (Option Sl)} {M : List Tm} {W : WW}
theorem tmA_stab (As : List Sl) : (tmA K As).Stab K := fun H H' h t e s hs => Rd.at t _ _ _ (h s hs) fun a ha => e a (by
  have := oL_mem a hs
  have := (s.mem a).mpr ha
  show 0 < oL As a + rL As a
  omega)
/-- no argument yet -/
theorem Rel.args0 (R : Rel K Z σ H L M) : Rel K Z σ H L (tmA K [] :: M) :=
  R.push (m := tmA K []) (fun _ h => (nomatch h)) (tmA_stab []) (fun a h => absurd h (Nat.lt_irrefl 0)) (fun a => ⟨Nat.zero_le _, fun _ => rfl⟩) (fun a h => absurd h (Nat.lt_irrefl 0)) fun a h => absurd h (Nat.lt_irrefl 0)
/-- one argument more -/
theorem Rel.argsC {As : List Sl} {s : Sl} (R : Rel K Z σ H L (s.tm K :: tmA K As :: M)) : Rel K Z σ H L (tmA K (As ++ [s]) :: M) where
  len := R.len
  slot := R.slot
  tms := fun m hm => by
    rcases List.mem_cons.mp hm with rfl | hm
    · obtain ⟨h1, _, h3⟩ := R.tms (s.tm K) (List.mem_cons_self ..)
      obtain ⟨g1, _, g3⟩ := R.tms (tmA K As) (List.mem_cons_of_mem _ (List.mem_cons_self ..))
      refine ⟨fun t ht => ?_, tmA_stab _, fun a ha => ?_⟩
      · rcases List.mem_append.mp ht with ht | ht
        · exact g1 t ht
        · rw [List.mem_singleton.mp ht]; exact h1
      · have ha : 0 < oL (As ++ [s]) a + rL (As ++ [s]) a := ha
        rw [oL_append, rL_append] at ha
        simp only [oL, rL] at ha
        by_cases c : 0 < s.own a + s.rst a
        · exact h3 a c
        · exact g3 a (by show 0 < oL As a + rL As a; omega)
    · exact R.tms m (List.mem_cons_of_mem _ (List.mem_cons_of_mem _ hm))
  sep := fun a => by
    have h := R.sep a
    have e1 : oM (s.tm K :: tmA K As :: M) a = s.own a + (oL As a + oM M a) := rfl
    have e2 : rM (s.tm K :: tmA K As :: M) a = s.rst a + (rL As a + rM M a) := rfl
    have e3 : oM (tmA K (As ++ [s]) :: M) a = oL (As ++ [s]) a + oM M a := rfl
    have e4 : rM (tmA K (As ++ [s]) :: M) a = rL (As ++ [s]) a + rM M a := rfl
    rw [e1, e2] at h
    rw [e3, e4, oL_append, rL_append]
    simp only [oL, rL]
    omega
  wr := fun a ha => R.wr a (by
    have e1 : oM (s.tm K :: tmA K As :: M) a = s.own a + (oL As a + oM M a) := rfl
    have e3 : oM (tmA K (As ++ [s]) :: M) a = oL (As ++ [s]) a + oM M a := rfl
    rw [e3, oL_append] at ha
    simp only [oL] at ha
    rw [e1]
    omega)
  zf := R.zf
  pin := R.pin
theorem Rel.argsOk {As : List Sl} (R : Rel K Z σ H L (tmA K As :: M)) : ArgsOk K H As := by
  obtain ⟨h1, _, h3⟩ := R.tms _ (List.mem_cons_self ..)
  have e : ∀ a, oM (tmA K As :: M) a = oL As a + oM M a := fun _ => rfl
  have e' : ∀ a, rM (tmA K As :: M) a = rL As a + rM M a := fun _ => rfl
  refine ⟨h1, fun a => ?_, fun a ha => R.wr a (by rw [e]; omega)⟩
  have := R.sep a
  rw [e, e'] at this
  omega
/-- what comes of arguments takes their place -/
theorem Rel.argsRes {As : List Sl} {s : Sl} (R : Rel K Z σ H L (tmA K As :: M)) (sm : Same H H') (rd : Rd K H' s.v s.d s.ns) (r : Res As H H' s) : Rel K Z σ H' L (s.tm K :: M) := by
  have e : ∀ a, oM (tmA K As :: M) a = oL As a + oM M a := fun _ => rfl
  have e' : ∀ a, rM (tmA K As :: M) a = rL As a + rM M a := fun _ => rfl
  have fr : ∀ a, H a = none → oS L a = 0 ∧ rS L a = 0 ∧ oM M a = 0 ∧ rM M a = 0 := fun a h => by
    have := R.free h
    rw [e, e'] at this
    omega
  refine (R.pop.same sm).push (m := s.tm K) rd (s.stab K) (fun a ha => rd.dom _ _ _ a ((s.mem a).mp ha)) (fun a => ⟨(r a).1, fun h => ((r a).2.1 h).1⟩) (fun a ha => ?_) (fun a ha => ?_)
  · obtain ⟨h1, h2, h3⟩ := (r a).2.1 ha
    refine ⟨h2, ?_⟩
    rcases h3 with q | q
    · exact fr a q
    · have := R.sep a
      rw [e, e'] at this
      omega
  · rcases (r a).2.2 ha with q | q
    · have := fr a q
      omega
    · have := R.sep a
      rw [e, e'] at this
      omega
theorem Res.zone {As : List Sl} {s : Sl} (R : Rel K Z σ H L M) (hz : ∀ t ∈ As, ∀ a ∈ t.ns, Z a) (r : Res As H H' s) : ∀ a ∈ s.ns, Z a := fun a ha => by
  have hm := (s.mem a).mpr ha
  have key : H a = none ∨ 0 < oL As a + rL As a := by
    by_cases c : 0 < s.own a
    · rcases ((r a).2.1 c).2.2 with q | q
      · exact .inl q
      · exact .inr (by omega)
    · exact (r a).2.2 (by omega)
  rcases key with q | q
  · exact Z.sub a (R.zf a q)
  · obtain ⟨t, h1, h2⟩ := oL_pos q
    exact hz t h1 a h2
/-- arguments that may turn slots, from the left -/
theorem eparts {r : List V → Hp → VK → Prop} {Q : VK} : ∀ (fs : List EF) (As : List Sl) (H : Hp) (L : List (Option Sl)), Rel K Z σ H L (tmA K As :: M) → (∀ t ∈ As, ∀ a ∈ t.ns, Z a) →
    (match evE fs (er L) with
      | .ok xs Γ' => ∀ Bs H' L', er L' = Γ' → Bs.map Sl.ld = xs → Rel K Z σ H' L' (tmA K (As ++ Bs) :: M) → (∀ t ∈ As ++ Bs, ∀ a ∈ t.ns, Z a) → r ((As ++ Bs).map Sl.v) H' Q
      | .exc c Γ' => ∀ H' L', er L' = Γ' → Rel K Z σ H' L' M → W c σ H'
      | .bad => False) →
    tArgs (fs.map fun f => tDE K W f) (fun xs => r (As.map Sl.v ++ xs)) σ H Q
  | [], As, H, L, R, hz, h => by
    have := h [] H L rfl rfl (by rw [List.append_nil]; exact R) (by rw [List.append_nil]; exact hz)
    rw [List.append_nil] at this
    show r (As.map Sl.v ++ []) H Q
    rw [List.append_nil]
    exact this
  | f :: fs, As, H, L, R, hz, h => by
    refine ⟨Z, L, _, R, ?_⟩
    simp only [evE] at h
    dsimp only
    cases ef : f (er L) with
    | bad => simp only [ef] at h
    | exc c Γ1 =>
      simp only [ef] at h
      exact fun H' L' e R' => h H' L' e R'.pop
    | ok x Γ1 =>
      obtain ⟨l, d⟩ := x
      simp only [ef] at h
      intro v ns H1 L1 e1 R1 z1
      have R2 := R1.argsC
      have hv : (fun xs => r (As.map Sl.v ++ v :: xs)) = fun xs => r ((As ++ [Sl.mk l d v ns]).map Sl.v ++ xs) := by
        funext xs
        simp
      show tArgs (fs.map fun f => tDE K W f) (fun xs => r (As.map Sl.v ++ v :: xs)) σ H1 Q
      rw [hv]
      refine eparts fs _ H1 L1 R2 (fun t ht => ?_) ?_
      · rcases List.mem_append.mp ht with ht | ht
        · exact hz t ht
        · rw [List.mem_singleton.mp ht]; exact z1
      rw [e1]
      cases ev : evE fs Γ1 with
      | bad => simp only [ev] at h
      | exc c Γ2 => simp only [ev] at h; exact h
      | ok xs Γ2 =>
        simp only [ev] at h
        intro Bs H2 L2 e2 eB R3 z3
        have := h (⟨l, d, v, ns⟩ :: Bs) H2 L2 e2 (by simp [Sl.ld, eB]) (by simpa using R3) (by simpa using z3)
        simpa using this
end
/-- an operation upon arguments that may turn slots -/
theorem e_app {X : Cx} {W : WW} {r : List V → Hp → VK → Prop} {g : List LD → Option LD} {e : Expr} {t : TE} (fs : List EF) (hv : VOk X.K r g) (h : PE X e t) (ht : ∀ σ H Q, tArgs (fs.map fun f => tDE X.K W f) r σ H Q → t σ H Q) : DE X W e (eApp g fs) := by
  refine PE.imp h fun σ H Q ⟨Z, L, M, R, q⟩ => ht σ H Q ?_
  refine eparts (r := r) (M := M) fs [] H L R.args0 (fun _ h => (nomatch h)) ?_
  unfold eApp at q
  cases ev : evE fs (er L) with
  | bad => rw [ev] at q; exact q
  | exc c Γ' => rw [ev] at q; exact q
  | ok xs Γ' =>
    rw [ev] at q
    intro Bs H1 L1 e1 eB R1 z1
    simp only [List.nil_append] at R1 z1 ⊢
    cases eg : g xs with
    | none => simp only [eg] at q
    | some x =>
      obtain ⟨l, d⟩ := x
      simp only [eg] at q
      exact hv Bs H1 Q R1.argsOk l d (by rw [eB]; exact eg) fun v ns H' sm rd rs => q v ns H' L1 e1 (R1.argsRes sm rd rs) (Res.zone R1 z1 rs)
abbrev PB := Env → P Bool
abbrev EB := Env → R Bool
def tDTP (K : PySem.W.Frag) (W : WW) (f : PB) : TT := fun σ H Q => ∃ Z L M, Rel K Z σ H L M ∧ match f (er L) with
  | .ok b => ∀ H', Same H H' → Q b H'
  | .exc c => ∀ H', Same H H' → W c σ H'
  | .bad => False
def tDT (K : PySem.W.Frag) (W : WW) (f : EB) : TT := fun σ H Q => ∃ Z L M, Rel K Z σ H L M ∧ match f (er L) with
  | .ok b Γ' => ∀ H' L', er L' = Γ' → Rel K Z σ H' L' M → Q b H'
  | .exc c Γ' => ∀ H' L', er L' = Γ' → Rel K Z σ H' L' M → W c σ H'
  | .bad => False
def DTP (X : Cx) (W : WW) (e : Expr) (f : PB) : Prop := PT X e (tDTP X.K W f)
def DT (X : Cx) (W : WW) (e : Expr) (f : EB) : Prop := PT X e (tDT X.K W f)
def toEB (f : PB) : EB := fun Γ => match f Γ with
  | .ok b => .ok b Γ
  | .exc c => .exc c Γ
  | .bad => .bad
theorem DTP.toE {X : Cx} {W : WW} {e : Expr} {f : PB} (h : DTP X W e f) : DT X W e (toEB f) := by
  refine PT.imp h fun σ H Q ⟨Z, L, M, R, q⟩ => ⟨Z, L, M, R, ?_⟩
  unfold toEB at q
  cases ef : f (er L) with
  | bad => rw [ef] at q; exact q
  | exc c => rw [ef] at q; exact fun H' s => q H' L rfl (R.same s)
  | ok b => rw [ef] at q; exact fun H' s => q H' L rfl (R.same s)
/-- a truth that an expression gives -/
def pB (f : PF) : PB := fun Γ => match f Γ with
  | .ok (_, .bl b) => .ok b
  | .exc c => .exc c
  | _ => .bad
def eB (f : EF) : EB := fun Γ => match f Γ with
  | .ok (_, .bl b) Γ' => .ok b Γ'
  | .exc c Γ' => .exc c Γ'
  | _ => .bad
section
variable {K : PySem.W.Frag} {W : WW}
theorem rd_bl {H : Hp} {v : V} {b : Bool} {ns : List Addr} (h : Rd K H v (.bl b) ns) : v = .bl b ∧ ns = [] := by cases h; exact ⟨rfl, rfl⟩
theorem rd_int {H : Hp} {v : V} {b : Int} {ns : List Addr} (h : Rd K H v (.int b) ns) : v = .int b ∧ ns = [] := by cases h; exact ⟨rfl, rfl⟩
theorem rd_str {H : Hp} {v : V} {b : Str} {ns : List Addr} (h : Rd K H v (.str b) ns) : v = .str b ∧ ns = [] := by cases h; exact ⟨rfl, rfl⟩
theorem tB_P {A : List Nat} {f : PF} {σ : L2.St} {H : Hp} {Q : Bool → Hp → Prop} (h : tDTP K W (pB f) σ H Q) : tDP K W A f σ H (fun x H1 => ∃ k, x = .bl k ∧ Q k H1) := by
  obtain ⟨Z, L, M, R, q⟩ := h
  refine ⟨Z, L, M, R, ?_⟩
  unfold pB at q
  cases ef : f (er L) with
  | bad => rw [ef] at q; exact q
  | exc c => rw [ef] at q; exact q
  | ok x =>
    obtain ⟨l, d⟩ := x
    rw [ef] at q
    cases d with
    | bl b => exact fun v ns H' B => ⟨b, (rd_bl B.rd).1, q H' B.same⟩
    | _ => exact q.elim
end
section
variable {X : Cx} {W : WW} {A : List Nat} {e : Expr} {r : List V → Hp → VK → Prop} {g : List LD → Option LD} {t : TT}
/-- an expression as a test -/
theorem t_val {f : PF} (h : DP X W A e f) (he : ∀ whole, isTrue e X.env whole = (do let v ← whole; standAt e.pos; holding [v] (truthy v)) := by intro _; rfl) : DTP X W e (pB f) :=
  PT.imp (pt_val h he) fun _ _ _ q => tB_P q
/-- an operation as a test (a comparison) -/
theorem t_app (fs : List (List Nat × PF)) (hA : ∀ p ∈ fs, ∀ i ∈ p.1, i ∈ A) (hv : VOk X.K r g) (h : PT X e t) (ht : ∀ σ H Q, tArgs (fs.map fun p => tDP X.K W p.1 p.2) r σ H (fun x H1 => ∃ k, x = .bl k ∧ Q k H1) → t σ H Q) :
    DTP X W e (pB (pApp g (fs.map (·.2)))) := by
  refine PT.imp h fun σ H Q q => ht σ H Q ?_
  obtain ⟨Z, L, M, R, q⟩ := tB_P (A := A) q
  refine parts (A := A) (r := r) (fun _ _ _ z => z) fs [] H hA R (PArgs.nil R) ?_
  unfold pApp at q
  cases ev : evP (fs.map (·.2)) (er L) with
  | bad => rw [ev] at q; exact q
  | exc c => rw [ev] at q; exact q
  | ok xs =>
    rw [ev] at q
    intro Bs H1 e1 p
    simp only [List.nil_append] at p ⊢
    cases eg : g xs with
    | none => simp only [eg, gP] at q
    | some x =>
      obtain ⟨l, d⟩ := x
      simp only [eg, gP] at q
      exact hv Bs H1 _ p.ok l d (by rw [e1]; exact eg) fun v ns H' sm rd rs => q v ns H' (p.res R (p.same.trans sm) rd rs)
end
def bAndP (f g : PB) : PB := fun Γ => match f Γ with
  | .ok true => g Γ
  | x => x
def bOrP (f g : PB) : PB := fun Γ => match f Γ with
  | .ok false => g Γ
  | x => x
def bNotP (f : PB) : PB := fun Γ => match f Γ with
  | .ok b => .ok (!b)
  | x => x
def bAndE (f g : EB) : EB := fun Γ => match f Γ with
  | .ok true Γ' => g Γ'
  | x => x
def bOrE (f g : EB) : EB := fun Γ => match f Γ with
  | .ok false Γ' => g Γ'
  | x => x
def bNotE (f : EB) : EB := fun Γ => match f Γ with
  | .ok b Γ' => .ok (!b) Γ'
  | x => x
/-- as within and, or -/
def DWP (X : Cx) (W : WW) (e : Expr) (f : PB) : Prop := PW X e (tDTP X.K W f)
theorem PW.imp {X : Cx} {e : Expr} {t t' : TT} (h : PW X e t) (i : ∀ σ H Q, t' σ H Q → t σ H Q) : PW X e t' := ⟨fun wh pins s σ H Q I hw => h.run wh pins s σ H Q I (i σ H Q hw)⟩
section
variable {X : Cx} {W : WW} {a b : Expr} {rest : List Expr} {pos : Pos} {f g : PB} {f' g' : EB}
theorem DWP.t {e : Expr} (h : DWP X W e f) : DTP X W e f := L2.PW.pt h
theorem w_and1 (h : DTP X W a f) : DWP X W (.BoolOp .And [a] pos) f := pw_and1 h
theorem w_or1 (h : DTP X W a f) : DWP X W (.BoolOp .Or [a] pos) f := pw_or1 h
theorem w_and (h : DTP X W a f) (k : DWP X W (.BoolOp .And (b :: rest) pos) g) : DWP X W (.BoolOp .And (a :: b :: rest) pos) (bAndP f g) := by
  refine PW.imp (pw_and h k) fun σ H Q ⟨Z, L, M, R, q⟩ => ⟨Z, L, M, R, ?_⟩
  unfold bAndP at q
  cases ef : f (er L) with
  | bad => rw [ef] at q; exact q
  | exc c => rw [ef] at q; exact q
  | ok c =>
    rw [ef] at q
    intro H' s
    cases c with
    | false => exact iteF (q H' s)
    | true =>
      refine iteT ⟨Z, L, M, R.same s, ?_⟩
      revert q
      show (match g (er L) with | .ok b => _ | .exc c => _ | .bad => False) → _
      cases g (er L) with
      | bad => exact id
      | exc c => exact fun q H2 s2 => q H2 (s.trans s2)
      | ok d => exact fun q H2 s2 => q H2 (s.trans s2)
theorem w_or (h : DTP X W a f) (k : DWP X W (.BoolOp .Or (b :: rest) pos) g) : DWP X W (.BoolOp .Or (a :: b :: rest) pos) (bOrP f g) := by
  refine PW.imp (pw_or h k) fun σ H Q ⟨Z, L, M, R, q⟩ => ⟨Z, L, M, R, ?_⟩
  unfold bOrP at q
  cases ef : f (er L) with
  | bad => rw [ef] at q; exact q
  | exc c => rw [ef] at q; exact q
  | ok c =>
    rw [ef] at q
    intro H' s
    cases c with
    | true => exact iteT (q H' s)
    | false =>
      refine iteF ⟨Z, L, M, R.same s, ?_⟩
      revert q
      show (match g (er L) with | .ok b => _ | .exc c => _ | .bad => False) → _
      cases g (er L) with
      | bad => exact id
      | exc c => exact fun q H2 s2 => q H2 (s.trans s2)
      | ok d => exact fun q H2 s2 => q H2 (s.trans s2)
theorem t_not (h : DTP X W a f) : DTP X W (.UnaryOp .Not a pos) (bNotP f) := by
  refine PT.imp (pt_not h) fun σ H Q ⟨Z, L, M, R, q⟩ => ⟨Z, L, M, R, ?_⟩
  unfold bNotP at q
  cases ef : f (er L) with
  | bad => rw [ef] at q; exact q
  | exc c => rw [ef] at q; exact q
  | ok c => rw [ef] at q; exact q
end
def pAnd (f g : PF) : PF := fun Γ => match f Γ with
  | .ok (_, .bl true) => g Γ
  | .ok (_, .bl false) => .ok (2, .bl false)
  | .exc c => .exc c
  | _ => .bad
def pOr (f g : PF) : PF := fun Γ => match f Γ with
  | .ok (_, .bl false) => g Γ
  | .ok (_, .bl true) => .ok (2, .bl true)
  | .exc c => .exc c
  | _ => .bad
def pNot (f : PF) : PF := fun Γ => match f Γ with
  | .ok (_, .bl b) => .ok (2, .bl (!b))
  | .exc c => .exc c
  | _ => .bad
def pIf (t : PB) (f g : PF) : PF := fun Γ => match t Γ with
  | .ok true => f Γ
  | .ok false => g Γ
  | .exc c => .exc c
  | .bad => .bad
def eAnd (f g : EF) : EF := fun Γ => match f Γ with
  | .ok (_, .bl true) Γ' => g Γ'
  | .ok (_, .bl false) Γ' => .ok (2, .bl false) Γ'
  | .exc c Γ' => .exc c Γ'
  | _ => .bad
def eOr (f g : EF) : EF := fun Γ => match f Γ with
  | .ok (_, .bl false) Γ' => g Γ'
  | .ok (_, .bl true) Γ' => .ok (2, .bl true) Γ'
  | .exc c Γ' => .exc c Γ'
  | _ => .bad
def eNot (f : EF) : EF := fun Γ => match f Γ with
  | .ok (_, .bl b) Γ' => .ok (2, .bl (!b)) Γ'
  | .exc c Γ' => .exc c Γ'
  | _ => .bad
def eIf (t : EB) (f g : EF) : EF := fun Γ => match t Γ with
  | .ok true Γ' => f Γ'
  | .ok false Γ' => g Γ'
  | .exc c Γ' => .exc c Γ'
  | .bad => .bad
section
variable {K : PySem.W.Frag} {Z : Zone} {σ : L2.St} {H H1 H' : Hp} {L : List (Option Sl)} {M : List Tm} {A B : List Nat} {W : WW}
/-- a reckoning behind others that left nothing -/
theorem Bor.back {s : Sl} (sm : Same H H1) (hA : ∀ i ∈ A, i ∈ B) (b : Bor K Z A H1 L M H' s) : Bor K Z B H L M H' s :=
  ⟨sm.trans b.same, b.rd, b.z, fun a => ⟨(b.own a).1, fun h => ⟨((b.own a).2 h).1, sm.free ((b.own a).2 h).2.1, ((b.own a).2 h).2.2⟩⟩, fun a h => ⟨by have := (b.rst a h).1; have := low_mono hA a L; omega, (b.rst a h).2⟩⟩
/-- .. its reading then -/
theorem tDP_then {f : PF} {Q : VK} (R : Rel K Z σ H L M) (sm : Same H H1) (hA : ∀ i ∈ A, i ∈ B) (q : match f (er L) with
      | .ok (l, d) => ∀ v ns H', Bor K Z B H L M H' ⟨l, d, v, ns⟩ → Q v H'
      | .exc c => ∀ H', Same H H' → W c σ H'
      | .bad => False) : tDP K W A f σ H1 Q := by
  refine ⟨Z, L, M, R.same sm, ?_⟩
  cases ef : f (er L) with
  | bad => rw [ef] at q; exact q
  | exc c => rw [ef] at q; exact fun H2 s => q H2 (sm.trans s)
  | ok x =>
    obtain ⟨l, d⟩ := x
    rw [ef] at q
    exact fun v ns H2 b => q v ns H2 (b.back sm hA)
theorem blC (sm : Same H H1) (b : Bool) : Bor K Z A H L M H1 ⟨2, .bl b, .bl b, []⟩ :=
  ⟨sm, .bl b, fun a h => (nomatch h), fun a => ⟨by simp [Sl.own, ownL], fun z => by simp [Sl.own, ownL] at z⟩, fun a z => by simp [Sl.rst, rstL] at z⟩
end
section
variable {X : Cx} {W : WW} {A B C : List Nat} {a b c : Expr} {rest : List Expr} {pos : Pos} {f g : PF} {f' g' : EF} {op : PySem.BoolOp}
theorem p_one (h : DP X W A a f) : DP X W A (.BoolOp op [a] pos) f := pe_one h
theorem p_and (h : DP X W A a f) (k : DP X W B (.BoolOp .And (b :: rest) pos) g) : DP X W B (.BoolOp .And (a :: b :: rest) pos) (pAnd f g) := by
  refine PE.imp (pe_and h k) fun σ H Q ⟨Z, L, M, R, q⟩ => ⟨Z, L, M, R, ?_⟩
  unfold pAnd at q
  cases ef : f (er L) with
  | bad => rw [ef] at q; exact q
  | exc c => rw [ef] at q; exact q
  | ok x =>
    obtain ⟨l, d⟩ := x
    rw [ef] at q
    cases d with
    | bl d =>
      intro v ns H' B'
      refine ⟨d, (rd_bl B'.rd).1, ?_⟩
      cases d with
      | false => exact iteF (q _ _ H' (blC B'.same false))
      | true => exact iteT (tDP_then R B'.same (fun _ h => h) q)
    | _ => exact q.elim
theorem p_if {t : PB} (hA : ∀ i ∈ A, i ∈ C) (hB : ∀ i ∈ B, i ∈ C) (h : DTP X W c t) (ha : DP X W A a f) (hb : DP X W B b g) : DP X W C (.IfExp c a b pos) (pIf t f g) := by
  refine PE.imp (pe_ifExp h ha hb) fun σ H Q ⟨Z, L, M, R, q⟩ => ⟨Z, L, M, R, ?_⟩
  unfold pIf at q
  cases ef : t (er L) with
  | bad => rw [ef] at q; exact q
  | exc c => rw [ef] at q; exact q
  | ok d =>
    rw [ef] at q
    intro H1 sm
    cases d with
    | true => exact iteT (tDP_then R sm hA q)
    | false => exact iteF (tDP_then R sm hB q)
end
end DL
namespace DL
open L2 PySem PySem.Spec PyProof.Rows
def r2l (r : R2) : List V → Hp → VK → Prop := fun xs H Q => match xs with
  | [x, y] => r x y H Q
  | _ => False
def r1l (r : V → Hp → VK → Prop) : List V → Hp → VK → Prop := fun xs H Q => match xs with
  | [x] => r x H Q
  | _ => False
def gL1 (f : LD → Option LD) : List LD → Option LD
  | [a] => f a
  | _ => none
def gL2 (f : D → D → Option LD) : List LD → Option LD
  | [(_, a), (_, b)] => f a b
  | _ => none
theorem vL1 {K : PySem.W.Frag} {r : V → Hp → VK → Prop} {f : LD → Option LD} (h : ∀ (s : Sl) (H : Hp) (Q : VK), ArgsOk K H [s] → Rd K H s.v s.d s.ns → ∀ l d, f (s.l, s.d) = some (l, d) →
    (∀ v ns H', Same H H' → Rd K H' v d ns → Res [s] H H' ⟨l, d, v, ns⟩ → Q v H') → r s.v H Q) : VOk K (r1l r) (gL1 f) := by
  intro As H Q ok l d hg k
  rcases As with _ | ⟨s, _ | ⟨t, As⟩⟩
  · cases hg
  · exact h s H Q ok (ok.rd _ (List.mem_cons_self ..)) l d hg k
  · cases hg
theorem vL2 {K : PySem.W.Frag} {r : R2} {f : D → D → Option LD} (h : ∀ (s t : Sl) (H : Hp) (Q : VK), ArgsOk K H [s, t] → Rd K H s.v s.d s.ns → Rd K H t.v t.d t.ns → ∀ l d, f s.d t.d = some (l, d) →
    (∀ v ns H', Same H H' → Rd K H' v d ns → Res [s, t] H H' ⟨l, d, v, ns⟩ → Q v H') → r s.v t.v H Q) : VOk K (r2l r) (gL2 f) := by
  intro As H Q ok l d hg k
  rcases As with _ | ⟨s, _ | ⟨t, _ | ⟨u, As⟩⟩⟩
  · cases hg
  · cases hg
  · exact h s t H Q ok (ok.rd _ (List.mem_cons_self ..)) (ok.rd _ (List.mem_cons_of_mem _ (List.mem_cons_self ..))) l d hg k
  · cases hg
section
variable {K : PySem.W.Frag} {As : List Sl} {H H' : Hp}
theorem res_imm {s : Sl} (h : s.ns = []) : Res As H H' s := fun a => by
  have := s.tot a
  rw [h, List.count_nil] at this
  omega
/-- something new at p, over things of the arguments: level 1, or 2 where nothing in it may be changed -/
def lvN (ds : List D) : Nat := if D.imm.immAll ds then 2 else 1
theorem res_lst {ds : List D} {p : Addr} {ns : List Addr} (hp : H p = none) {vs : List V} (hr : Rds K H vs ds ns) (hs : ∀ a ∈ ns, 0 < oL As a + rL As a) (hm : Mut (H' p)) : Res As H H' ⟨lvN ds, .lst ds, .ref p, p :: ns⟩ := by
  have hpn : p ∉ ns := fun h => hr.dom _ _ _ p h hp
  intro a
  by_cases c : D.imm.immAll ds = true
  · have e := hr.imm _ _ _ c
    subst e
    have h1 : (Sl.mk (lvN ds) (.lst ds) (.ref p) [p]).own a = [p].count a := by simp [Sl.own, ownL, lvN, c]
    have h2 : (Sl.mk (lvN ds) (.lst ds) (.ref p) [p]).rst a = 0 := by simp [Sl.rst, rstL, lvN, c]
    rw [h1, h2]
    refine ⟨by rw [List.count_cons, List.count_nil]; split <;> omega, fun h => ?_, fun h => absurd h (Nat.lt_irrefl 0)⟩
    have : a = p := by
      have := List.count_pos_iff.mp h
      exact List.mem_singleton.mp this
    subst this
    exact ⟨rfl, hm, .inl hp⟩
  · have h1 : (Sl.mk (lvN ds) (.lst ds) (.ref p) (p :: ns)).own a = [p].count a := by simp [Sl.own, ownL, lvN, c, D.mut, D.top]
    have h2 : (Sl.mk (lvN ds) (.lst ds) (.ref p) (p :: ns)).rst a = ns.count a := by simp [Sl.rst, rstL, lvN, c, D.mut, D.top]
    rw [h1, h2]
    refine ⟨by rw [List.count_cons, List.count_nil]; split <;> omega, fun h => ?_, fun h => .inr (hs a (List.count_pos_iff.mp h))⟩
    have : a = p := List.mem_singleton.mp (List.count_pos_iff.mp h)
    subst this
    exact ⟨List.count_eq_zero.mpr hpn, hm, .inl hp⟩
/-- a tuple over things of the arguments: it owns nothing -/
theorem res_tup {ds : List D} {v : V} {ns : List Addr} {vs : List V} (hr : Rds K H vs ds ns) (hs : ∀ a ∈ ns, 0 < oL As a + rL As a) : Res As H H' ⟨if D.imm.immAll ds then 2 else 0, .tup ds, v, ns⟩ := by
  intro a
  by_cases c : D.imm.immAll ds = true
  · have e := hr.imm _ _ _ c
    subst e
    exact res_imm (s := ⟨_, .tup ds, v, []⟩) rfl a
  · have h1 : (Sl.mk (if D.imm.immAll ds then 2 else 0) (.tup ds) v ns).own a = 0 := by simp [Sl.own, ownL, c]
    have h2 : (Sl.mk (if D.imm.immAll ds then 2 else 0) (.tup ds) v ns).rst a = ns.count a := by simp [Sl.rst, rstL, c]
    rw [h1, h2]
    exact ⟨Nat.zero_le _, fun h => absurd h (Nat.lt_irrefl 0), fun h => .inr (hs a (List.count_pos_iff.mp h))⟩
theorem arg_ns {s : Sl} (h : s ∈ As) : ∀ a ∈ s.ns, 0 < oL As a + rL As a := fun a ha => by
  have := oL_mem a h
  have := (s.mem a).mpr ha
  omega
theorem same_upd {p : Addr} {o : HO} (hp : H p = none) : Same H (upd H p o) := fun b q e => by
  rw [upd_ne (ne_of_none e hp)]
  exact e
theorem mut_upd {p : Addr} {o : HO} (h : Mut (some o)) : Mut (upd H p o p) := by rw [upd_same]; exact h
/-- reading a new list -/
theorem rd_new {p : Addr} {vs : List V} {ds : List D} {ns : List Addr} (hp : H p = none) (hr : Rds K H vs ds ns) : Rd K (upd H p (.lst vs)) (.ref p) (.lst ds) (p :: ns) := .lst upd_same (hr.same (same_upd hp))
theorem rd_newT {p : Addr} {vs : List V} {ds : List D} {ns : List Addr} (hp : H p = none) (hr : Rds K H vs ds ns) : Rd K (upd H p (.tup vs)) (.ref p) (.tup ds) ns := .tup (.of upd_same) (hr.same (same_upd hp))
end
def mulOk (i j : Int) : Bool := decide (i.natAbs < 2 ^ 64) || decide (j.natAbs < 2 ^ 64) || decide (i.natAbs.log2 + j.natAbs.log2 < 1000000)
theorem mulOk_ok {i j : Int} (h : mulOk i j = true) : IntMulOk i j := by
  unfold mulOk at h
  simp only [Bool.or_eq_true, decide_eq_true_eq] at h
  rcases h with (h | h) | h
  · exact CMul.ok (.inl (by omega))
  · exact CMul.ok (.inr (by omega))
  · exact CMulW.ok h
/-- lists of at most so many things -/
def szOk (n : Nat) : Bool := decide (n ≤ 16777216)
theorem szOk_ok {n : Nat} (h : szOk n = true) : n ≤ sizeLine := by rw [sizeLine_eq]; exact of_decide_eq_true h
def fAdd : D → D → Option LD
  | .int a, .int b => some (2, .int (a + b))
  | .lst xs, .lst ys => if szOk (xs.length + ys.length) then some (lvN (xs ++ ys), .lst (xs ++ ys)) else none
  | .tup xs, .tup ys => if szOk (xs.length + ys.length) then some (if D.imm.immAll (xs ++ ys) then 2 else 0, .tup (xs ++ ys)) else none
  | .str x, .str y => if szOk (x.length + y.length) then some (2, .str (x ++ y)) else none
  | _, _ => none
abbrev gAdd := gL2 fAdd
theorem mem2 {s t : Sl} {n1 n2 : List Addr} (h1 : s.ns = n1) (h2 : t.ns = n2) : ∀ a ∈ n1 ++ n2, 0 < oL [s, t] a + rL [s, t] a := fun a ha => by
  rcases List.mem_append.mp ha with ha | ha
  · exact arg_ns (s := s) (List.mem_cons_self ..) a (by rw [h1]; exact ha)
  · exact arg_ns (s := t) (List.mem_cons_of_mem _ (List.mem_cons_self ..)) a (by rw [h2]; exact ha)
def rAddAny (K : PySem.W.Frag) : R2 := fun x y H Q => (rI0 (fun i j => .int (i + j)) x y H Q ∨ rCat x y H Q) ∨ (rCatA K x y H Q ∨ ∃ i j, x = .str i ∧ y = .str j ∧ i.length + j.length ≤ sizeLine ∧ Q (.str (i ++ j)) H)
theorem op_addAny {X : Cx} : OpR X (binaryOp .Add) (rAddAny X.K) := (op_add.or op_cat).or (op_catA.or op_add_str)
theorem vAdd {K : PySem.W.Frag} : VOk K (r2l (rAddAny K)) gAdd := vL2 fun s t H Q ok h1 h2 l d hg k => by
  obtain ⟨l1, d1, v1, n1⟩ := s
  obtain ⟨l2, d2, v2, n2⟩ := t
  dsimp only at *
  unfold fAdd at hg
  split at hg
  · obtain ⟨rfl, rfl⟩ := rd_int h1
    obtain ⟨rfl, rfl⟩ := rd_int h2
    cases hg
    exact .inl (.inl ⟨_, _, rfl, rfl, k _ [] H (Same.refl H) (.int _) (res_imm rfl)⟩)
  · split at hg
    · rename_i hz
      cases hg
      cases h1 with
      | lst e1 r1 =>
        cases h2 with
        | lst e2 r2 =>
          have rr := r1.append r2
          refine .inl (.inr ⟨_, _, _, _, rfl, rfl, e1, e2, by rw [r1.length, r2.length]; exact szOk_ok hz, fun p hp => k _ _ _ (same_upd hp) (rd_new hp rr) (res_lst hp rr (fun a ha => ?_) (mut_upd trivial))⟩)
          rcases List.mem_append.mp ha with ha | ha
          · exact arg_ns (List.mem_cons_self ..) a (List.mem_cons_of_mem _ ha)
          · exact arg_ns (List.mem_cons_of_mem _ (List.mem_cons_self ..)) a (List.mem_cons_of_mem _ ha)
    · cases hg
  · split at hg
    · rename_i hz
      cases hg
      cases h1 with
      | tup e1 r1 =>
        cases h2 with
        | tup e2 r2 =>
          have rr := r1.append r2
          refine .inr (.inl ⟨_, _, _, _, rfl, rfl, e1, e2, by rw [r1.length, r2.length]; exact szOk_ok hz, fun hx => ?_, fun hx hy => ?_, fun hx hy p hp => ?_⟩)
          · subst hx
            cases r1
            exact k _ _ _ (Same.refl H) (.tup e2 r2) (res_tup (ds := [] ++ _) (by simpa using r2) (fun a ha => arg_ns (List.mem_cons_of_mem _ (List.mem_cons_self ..)) a ha))
          · subst hy
            cases r2
            exact k _ _ _ (Same.refl H) (by simpa using Rd.tup e1 r1) (res_tup rr (mem2 rfl rfl))
          · exact k _ _ _ (same_upd hp) (rd_newT hp rr) (res_tup rr (mem2 rfl rfl))
    · cases hg
  · split at hg
    · rename_i hz
      cases hg
      obtain ⟨rfl, rfl⟩ := rd_str h1
      obtain ⟨rfl, rfl⟩ := rd_str h2
      exact .inr (.inr ⟨_, _, rfl, rfl, szOk_ok hz, k _ [] H (Same.refl H) (.str _) (res_imm rfl)⟩)
    · cases hg
  · cases hg
/-- an operation of two ints -/
def fI2 (c : Int → Int → Bool) (f : Int → Int → D) : D → D → Option LD
  | .int a, .int b => if c a b then some (2, f a b) else none
  | _, _ => none
abbrev gI2 (c : Int → Int → Bool) (f : Int → Int → D) := gL2 (fI2 c f)
theorem vI2 {K : PySem.W.Frag} {C : Int → Int → Prop} {c : Int → Int → Bool} {f : Int → Int → D} {g : Int → Int → V} (hc : ∀ a b, c a b = true → C a b) (hf : ∀ H a b, c a b = true → Rd K H (g a b) (f a b) []) : VOk K (r2l (rI C g)) (gI2 c f) := vL2 fun s t H Q ok h1 h2 l d hg k => by
  obtain ⟨l1, d1, v1, n1⟩ := s
  obtain ⟨l2, d2, v2, n2⟩ := t
  dsimp only at *
  unfold fI2 at hg
  split at hg
  · split at hg
    · rename_i hz
      obtain ⟨rfl, rfl⟩ := rd_int h1
      obtain ⟨rfl, rfl⟩ := rd_int h2
      cases hg
      exact ⟨_, _, rfl, rfl, hc _ _ hz, k _ [] H (Same.refl H) (hf H _ _ hz) (res_imm rfl)⟩
    · cases hg
  · cases hg
theorem vI20 {K : PySem.W.Frag} {f : Int → Int → D} {g : Int → Int → V} (hf : ∀ H a b, Rd K H (g a b) (f a b) []) : VOk K (r2l (rI0 g)) (gI2 (fun _ _ => true) f) := vL2 fun s t H Q ok h1 h2 l d hg k => by
  obtain ⟨l1, d1, v1, n1⟩ := s
  obtain ⟨l2, d2, v2, n2⟩ := t
  dsimp only at *
  unfold fI2 at hg
  split at hg
  · rw [if_pos rfl] at hg
    obtain ⟨rfl, rfl⟩ := rd_int h1
    obtain ⟨rfl, rfl⟩ := rd_int h2
    cases hg
    exact ⟨_, _, rfl, rfl, k _ [] H (Same.refl H) (hf H _ _) (res_imm rfl)⟩
  · cases hg
abbrev gSub : List LD → Option LD := gI2 (fun _ _ => true) fun a b => .int (a - b)
theorem vSub {K : PySem.W.Frag} : VOk K (r2l (rI0 fun i j => .int (i - j))) gSub := vI20 fun H a b => .int _
def fdOk (_ j : Int) : Bool := decide (0 < j) && decide (j.natAbs.log2 < 9000)
abbrev gFdiv : List LD → Option LD := gI2 fdOk fun a b => .int (a / b)
theorem vFdiv {K : PySem.W.Frag} : VOk K (r2l (rI CDivW fun i j => .int (i / j))) gFdiv := vI2 (fun a b h => by simpa [fdOk, CDivW] using h) fun H a b _ => .int _
abbrev gMod : List LD → Option LD := gI2 (fun _ j => decide (0 < j)) fun a b => .int (a % b)
theorem vMod {K : PySem.W.Frag} : VOk K (r2l (rI (fun _ j => 0 < j) fun i j => .int (i % j))) gMod := vI2 (fun a b h => by simpa using h) fun H a b _ => .int _
def powOk (i j : Int) : Bool := decide (0 ≤ j) && decide (j.natAbs ≤ 1000000) && decide (i.natAbs < 2 ^ 64)
theorem powOk_ok {i j : Int} (h : powOk i j = true) : CPow i j := by
  unfold powOk at h
  simp only [Bool.and_eq_true, decide_eq_true_eq] at h
  exact ⟨h.1.1, by have := h.1.2; have := h.1.1; omega, h.2⟩
abbrev gPow : List LD → Option LD := gI2 powOk fun a b => .int (a ^ b.toNat)
theorem vPow {K : PySem.W.Frag} : VOk K (r2l (rI CPow fun i j => .int (i ^ j.toNat))) gPow := vI2 (fun _ _ => powOk_ok) fun H a b _ => .int _
abbrev gShr : List LD → Option LD := gI2 (fun _ j => decide (0 ≤ j)) fun a b => .int (a / 2 ^ b.toNat)
theorem vShr {K : PySem.W.Frag} : VOk K (r2l (rI (fun _ j => 0 ≤ j) fun i j => .int (i / 2 ^ j.toNat))) gShr := vI2 (fun a b h => by simpa using h) fun H a b _ => .int _
abbrev gCmp (f : Int → Int → Bool) : List LD → Option LD := gI2 (fun _ _ => true) fun a b => .bl (f a b)
abbrev gLt := gCmp fun a b => decide (a < b)
abbrev gGe := gCmp fun a b => decide (b ≤ a)
theorem vCmp {K : PySem.W.Frag} {f : Int → Int → Bool} : VOk K (r2l (rI0 fun i j => .bl (f i j))) (gCmp f) := vI20 fun H a b => .bl _
def fNeg : LD → Option LD
  | (_, .int a) => some (2, .int (-a))
  | _ => none
abbrev gNeg := gL1 fNeg
theorem vNeg {K : PySem.W.Frag} : VOk K (r1l (rU fun i => .int (-i))) gNeg := vL1 fun s H Q ok h1 l d hg k => by
  obtain ⟨l1, d1, v1, n1⟩ := s
  dsimp only at *
  unfold fNeg at hg
  split at hg
  · rename_i e
    cases e
    obtain ⟨rfl, rfl⟩ := rd_int h1
    cases hg
    exact ⟨_, rfl, k _ [] H (Same.refl H) (.int _) (res_imm rfl)⟩
  · cases hg
/-- data of at most so many levels, without dicts -/
def eqd : Nat → D → Bool
  | _, .non => true
  | _, .bl _ => true
  | _, .int _ => true
  | _, .str x => x.cps.all (· < 0x110000)
  | _, .frz _ => true
  | n + 1, .tup xs => xs.all (eqd n)
  | n + 1, .lst xs => xs.all (eqd n)
  | _, _ => false
mutual
def D.py : D → PyData
  | .non => .none
  | .bl b => .bool b
  | .int i => .int i
  | .str x => .str x
  | .frz xs => .list (xs.map .int)
  | .tup xs => .tuple (pyAll xs)
  | .lst xs => .list (pyAll xs)
  | .dk _ => .none
  | .exn _ => .none
  | .nd _ _ => .none
  | .obj _ _ _ _ _ => .none
def pyAll : List D → List PyData
  | [] => []
  | x :: xs => x.py :: pyAll xs
end
mutual
def deq : D → D → Bool
  | .non, .non => true
  | .bl a, .bl b => a == b
  | .bl a, .int j => (if a then 1 else 0) == j
  | .int i, .bl b => i == (if b then 1 else 0)
  | .int i, .int j => i == j
  | .str x, .str y => x == y
  | .tup xs, .tup ys => deqAll xs ys
  | .lst xs, .lst ys => deqAll xs ys
  | a, b => PyData.eqv a.py b.py
def deqAll : List D → List D → Bool
  | [], [] => true
  | x :: xs, y :: ys => deq x y && deqAll xs ys
  | [], _ :: _ => false
  | _ :: _, [] => false
end
mutual
theorem deq_py : ∀ a b : D, deq a b = PyData.eqv a.py b.py
  | .non, b => by cases b <;> simp [deq, D.py, PyData.eqv]
  | .bl a, b => by cases b <;> simp [deq, D.py, PyData.eqv]
  | .int i, b => by cases b <;> simp [deq, D.py, PyData.eqv]
  | .str x, b => by cases b <;> simp [deq, D.py, PyData.eqv]
  | .frz xs, b => by cases b <;> simp [deq]
  | .dk xs, b => by cases b <;> simp [deq]
  | .exn n, b => by cases b <;> simp [deq]
  | .nd _ _, b => by cases b <;> simp [deq]
  | .obj _ _ _ _ _, b => by cases b <;> simp [deq]
  | .tup xs, b => by
    cases b with
    | tup ys => simp only [deq, D.py, PyData.eqv]; exact deqAll_py xs ys
    | _ => simp [deq]
  | .lst xs, b => by
    cases b with
    | lst ys => simp only [deq, D.py, PyData.eqv]; exact deqAll_py xs ys
    | _ => simp [deq]
theorem deqAll_py : ∀ xs ys : List D, deqAll xs ys = PyData.eqvAll (pyAll xs) (pyAll ys)
  | [], [] => by simp [deqAll, pyAll, PyData.eqvAll]
  | [], y :: ys => by simp [deqAll, pyAll, PyData.eqvAll]
  | x :: xs, [] => by simp [deqAll, pyAll, PyData.eqvAll]
  | x :: xs, y :: ys => by simp only [deqAll, pyAll, PyData.eqvAll]; rw [deq_py x y, deqAll_py xs ys]
end
section
variable {K : PySem.W.Frag} {H : Hp}
theorem dp_ints : ∀ xs : List Int, DpAll K H (xs.map V.int) (xs.map PyData.int)
  | [] => .nil
  | x :: xs => .cons (.int x) (dp_ints xs)
mutual
theorem Rd.dp : ∀ (n : Nat) (d : D) (v : V) (ns : List Addr), eqd n d = true → Rd K H v d ns → Dp K H v d.py
  | _, .non, _, _, _, .non => .non
  | _, .bl _, _, _, _, .bl _ => .bl _
  | _, .int _, _, _, _, .int _ => .int _
  | _, .str _, _, _, _, .str _ => .str _
  | _, .frz xs, _, _, _, .frz h => .lst h.sq (dp_ints xs)
  | 0, .tup ds, _, _, e, .tup h r => by simp [eqd] at e
  | 0, .lst ds, _, _, e, .lst h r => by simp [eqd] at e
  | n + 1, .tup ds, _, _, e, .tup h r => .tup h (Rds.dp n ds _ _ (by simpa only [eqd] using e) r)
  | n + 1, .lst ds, _, _, e, .lst h r => .lst (.of h) (Rds.dp n ds _ _ (by simpa only [eqd] using e) r)
  | 0, .dk _, _, _, e, _ => by simp [eqd] at e
  | n + 1, .dk _, _, _, e, _ => by simp [eqd] at e
  | 0, .exn _, _, _, e, _ => by simp [eqd] at e
  | n + 1, .exn _, _, _, e, _ => by simp [eqd] at e
  | 0, .nd _ _, _, _, e, _ => by simp [eqd] at e
  | n + 1, .nd _ _, _, _, e, _ => by simp [eqd] at e
  | 0, .obj _ _ _ _ _, _, _, e, _ => by simp [eqd] at e
  | n + 1, .obj _ _ _ _ _, _, _, e, _ => by simp [eqd] at e
theorem Rds.dp : ∀ (n : Nat) (ds : List D) (vs : List V) (ns : List Addr), ds.all (eqd n) = true → Rds K H vs ds ns → DpAll K H vs (pyAll ds)
  | _, [], _, _, _, .nil => .nil
  | n, d :: ds, _, _, e, .cons h r => by
    rw [List.all_cons, Bool.and_eq_true] at e
    exact .cons (Rd.dp n d _ _ e.1 h) (Rds.dp n ds _ _ e.2 r)
end
end
theorem lay_ints : ∀ xs : List Int, PyData.canLayAll0 (xs.map PyData.int) = true ∧ PyData.depthAll (xs.map PyData.int) = 0
  | [] => ⟨rfl, rfl⟩
  | x :: xs => ⟨by simp [PyData.canLayAll0, PyData.canLay0, (lay_ints xs).1], by simp [PyData.depthAll, PyData.depth, (lay_ints xs).2]⟩
mutual
theorem eqd_lay : ∀ (n : Nat) (d : D), eqd n d = true → d.py.canLay0 = true ∧ d.py.depth ≤ n + 1
  | n, .non, _ => by simp [D.py, PyData.canLay0, PyData.depth]
  | n, .bl _, _ => by simp [D.py, PyData.canLay0, PyData.depth]
  | n, .int _, _ => by simp [D.py, PyData.canLay0, PyData.depth]
  | n, .str x, h => by
    have h' : x.cps.all (· < 0x110000) = true := by cases n <;> simpa only [eqd] using h
    exact ⟨by show PyData.canLay0 (.str x) = true; rw [PyData.canLay0]; exact h', by simp [D.py, PyData.depth]⟩
  | n, .frz xs, _ => by simp only [D.py, PyData.canLay0, PyData.depth, (lay_ints xs).1, (lay_ints xs).2]; exact ⟨trivial, by omega⟩
  | 0, .tup xs, h => by simp [eqd] at h
  | 0, .lst xs, h => by simp [eqd] at h
  | n + 1, .tup xs, h => by
    obtain ⟨h1, h2⟩ := eqd_layAll n xs (by simpa only [eqd] using h)
    simp only [D.py, PyData.canLay0, PyData.depth]
    exact ⟨h1, by omega⟩
  | n + 1, .lst xs, h => by
    obtain ⟨h1, h2⟩ := eqd_layAll n xs (by simpa only [eqd] using h)
    simp only [D.py, PyData.canLay0, PyData.depth]
    exact ⟨h1, by omega⟩
  | 0, .dk _, h => by simp [eqd] at h
  | n + 1, .dk _, h => by simp [eqd] at h
  | 0, .exn _, h => by simp [eqd] at h
  | n + 1, .exn _, h => by simp [eqd] at h
  | 0, .nd _ _, h => by simp [eqd] at h
  | n + 1, .nd _ _, h => by simp [eqd] at h
  | 0, .obj _ _ _ _ _, h => by simp [eqd] at h
  | n + 1, .obj _ _ _ _ _, h => by simp [eqd] at h
theorem eqd_layAll : ∀ (n : Nat) (ds : List D), ds.all (eqd n) = true → PyData.canLayAll0 (pyAll ds) = true ∧ PyData.depthAll (pyAll ds) ≤ n + 1
  | n, [], _ => by simp [pyAll, PyData.canLayAll0, PyData.depthAll]
  | n, d :: ds, h => by
    rw [List.all_cons, Bool.and_eq_true] at h
    obtain ⟨h1, h2⟩ := eqd_lay n d h.1
    obtain ⟨h3, h4⟩ := eqd_layAll n ds h.2
    simp only [pyAll, PyData.canLayAll0, PyData.depthAll, h1, h3]
    exact ⟨rfl, by omega⟩
end
theorem eqd_shaped {d : D} (h : eqd 60 d = true) : SeqAt.shaped d.py = true := by
  obtain ⟨h1, h2⟩ := eqd_lay 60 d h
  unfold SeqAt.shaped
  rw [h1, Bool.true_and]
  exact decide_eq_true (by omega)
def fEq (a b : D) : Option LD := if eqd 60 a && eqd 60 b then some (2, .bl (deq a b)) else none
def fNe (a b : D) : Option LD := if eqd 60 a && eqd 60 b then some (2, .bl (!deq a b)) else none
abbrev gEq := gL2 fEq
abbrev gNe := gL2 fNe
theorem vEq {K : PySem.W.Frag} : VOk K (r2l (rEqD K)) gEq := vL2 fun s t H Q ok h1 h2 l d hg k => by
  unfold fEq at hg
  split at hg
  · rename_i hz
    cases hg
    rw [Bool.and_eq_true] at hz
    refine ⟨_, _, h1.dp 60 _ _ _ hz.1, h2.dp 60 _ _ _ hz.2, eqd_shaped hz.1, eqd_shaped hz.2, ?_⟩
    rw [← deq_py]
    exact k _ [] H (Same.refl H) (.bl _) (res_imm rfl)
  · cases hg
theorem vNe {K : PySem.W.Frag} : VOk K (r2l (rNeD K)) gNe := vL2 fun s t H Q ok h1 h2 l d hg k => by
  unfold fNe at hg
  split at hg
  · rename_i hz
    cases hg
    rw [Bool.and_eq_true] at hz
    refine ⟨_, _, h1.dp 60 _ _ _ hz.1, h2.dp 60 _ _ _ hz.2, eqd_shaped hz.1, eqd_shaped hz.2, ?_⟩
    rw [← deq_py]
    exact k _ [] H (Same.refl H) (.bl _) (res_imm rfl)
  · cases hg
/-- is None -/
def D.isNon : D → Bool
  | .non => true
  | _ => false
def fIsN (p : Bool) (a b : D) : Option LD := if b.isNon then some (2, .bl (a.isNon == p)) else none
end DL
namespace DL
open L2 PySem PySem.Spec PyProof.Rows
def gLL2 (f : LD → LD → Option LD) : List LD → Option LD
  | [a, b] => f a b
  | _ => none
theorem vLL2 {K : PySem.W.Frag} {r : R2} {f : LD → LD → Option LD} (h : ∀ (s t : Sl) (H : Hp) (Q : VK), ArgsOk K H [s, t] → Rd K H s.v s.d s.ns → Rd K H t.v t.d t.ns → ∀ l d, f (s.l, s.d) (t.l, t.d) = some (l, d) →
    (∀ v ns H', Same H H' → Rd K H' v d ns → Res [s, t] H H' ⟨l, d, v, ns⟩ → Q v H') → r s.v t.v H Q) : VOk K (r2l r) (gLL2 f) := by
  intro As H Q ok l d hg k
  rcases As with _ | ⟨s, _ | ⟨t, _ | ⟨u, As⟩⟩⟩
  · cases hg
  · cases hg
  · exact h s t H Q ok (ok.rd _ (List.mem_cons_self ..)) (ok.rd _ (List.mem_cons_of_mem _ (List.mem_cons_self ..))) l d hg k
  · cases hg
section
variable {K : PySem.W.Frag} {H H' : Hp} {As : List Sl}
/-- a part of an argument -/
theorem res_part {s : Sl} {d : D} {v : V} {n n1 n2 : List Addr} (ok : ArgsOk K H As) (hs : s ∈ As) (e : s.ns = n1 ++ (n ++ n2)) (hr : Rd K H v d n) : Res As H H ⟨if 2 ≤ s.l % 10 then 2 else 0, d, v, n⟩ := by
  have hn : ∀ a, n.count a ≤ s.ns.count a := fun a => by rw [e, List.count_append, List.count_append]; omega
  intro a
  have hm := oL_mem a hs
  have sp := ok.sep a
  have ht := s.tot a
  by_cases c : 2 ≤ s.l % 10
  · have h1 : (Sl.mk (if 2 ≤ s.l % 10 then 2 else 0) d v n).own a = n.count a := by simp [Sl.own, ownL, c]
    have h2 : (Sl.mk (if 2 ≤ s.l % 10 then 2 else 0) d v n).rst a = 0 := by simp [Sl.rst, rstL, c]
    have h3 : s.rst a = 0 := rst_top (d := s.d) (v := s.v) (ns := s.ns) c a
    have := hn a
    rw [h1, h2]
    exact ⟨by omega, fun h => ⟨rfl, ok.wr a (by omega), .inr (by omega)⟩, fun h => absurd h (Nat.lt_irrefl 0)⟩
  · have h1 : (Sl.mk (if 2 ≤ s.l % 10 then 2 else 0) d v n).own a = 0 := by simp [Sl.own, ownL, c]
    have h2 : (Sl.mk (if 2 ≤ s.l % 10 then 2 else 0) d v n).rst a = n.count a := by simp [Sl.rst, rstL, c]
    have := hn a
    rw [h1, h2]
    exact ⟨Nat.zero_le _, fun h => absurd h (Nat.lt_irrefl 0), fun h => .inr (by omega)⟩
/-- dicts: what stands at a key -/
def dGet (kds : List (Key × D)) (k : Key) : Option D := (kds.find? fun kv => decide (kv.1 = k)).map (·.2)
def dPut (kds : List (Key × D)) (k : Key) (d : D) : List (Key × D) :=
  if (kds.any fun kv => decide (kv.1 = k)) = true then kds.map (fun kv => if kv.1 = k then (kv.1, d) else kv) else kds ++ [(k, d)]
def D.key : D → Option Key
  | .int i => some (.inl i)
  | .str x => some (.inr x)
  | _ => none
theorem rd_key {v : V} {d : D} {ns : List Addr} {k : Key} (h : Rd K H v d ns) (e : d.key = some k) : v = kV k := by
  cases h with
  | int i => cases e; rfl
  | str x => cases e; rfl
  | _ => cases e
theorem dGet_rd {k : Key} : ∀ {kvs : List (Key × V)} {kds : List (Key × D)} {ns : List Addr}, kvs.map (·.1) = kds.map (·.1) → Rds K H (kvs.map (·.2)) (kds.map (·.2)) ns →
    (dGet kds k = none → valV kvs k = none) ∧ ∀ d, dGet kds k = some d → ∃ v n n1 n2, valV kvs k = some v ∧ Rd K H v d n ∧ ns = n1 ++ (n ++ n2)
  | [], [], _, _, .nil => ⟨fun _ => rfl, fun d h => nomatch h⟩
  | [], (_, _) :: _, _, e, _ => by simp at e
  | _ :: _, [], _, e, _ => by simp at e
  | (k1, v) :: kvs, (k2, d) :: kds, _, e, .cons (n := n) (ns := ns) h r => by
    simp only [List.map_cons, List.cons.injEq] at e
    obtain ⟨e1, e2⟩ := e
    subst e1
    obtain ⟨i1, i2⟩ := dGet_rd (k := k) e2 r
    by_cases c : k1 = k
    · have a1 : dGet ((k1, d) :: kds) k = some d := by simp [dGet, List.find?_cons, c]
      have a2 : valV ((k1, v) :: kvs) k = some v := by simp [valV, List.find?_cons, c]
      rw [a1, a2]
      exact ⟨(fun q => nomatch q), fun d' hd => by cases hd; exact ⟨v, n, [], ns, rfl, h, rfl⟩⟩
    · have a1 : dGet ((k1, d) :: kds) k = dGet kds k := by simp [dGet, List.find?_cons, c]
      have a2 : valV ((k1, v) :: kvs) k = valV kvs k := by simp [valV, List.find?_cons, c]
      rw [a1, a2]
      refine ⟨i1, fun d' hd => ?_⟩
      obtain ⟨v', m, m1, m2, h1, h2, h3⟩ := i2 d' hd
      exact ⟨v', m, n ++ m1, m2, h1, h2, by rw [h3, List.append_assoc]⟩
end
def rIxD : R2 := fun x y H Q => ∃ a v, x = .ref a ∧ DGet H a y (some v) ∧ Q v H
theorem ix_dict {X : Cx} (hu : X.A.units + 1 < cLine) : IxR X rIxD := by
  intro value slice pins s σ H x y v u Q I rx ry h hs
  obtain ⟨a, z, rfl, g, q⟩ := h
  obtain rfl : v = Value.ref a := rx
  exact tail_any (dict_typeIs I g) PySem.F.slot_dict_getitem.lookup (d_getItem hu I g ry fun w' s' I' r' => ⟨z, H, I', r', q⟩) hs
def rIxAny (K : PySem.W.Frag) : R2 := fun x y H Q => rIx K x y H Q ∨ rIxD x y H Q
theorem ix_any {X : Cx} (hu : X.A.units + 1 < cLine) : IxR X (rIxAny X.K) := ix_seq.or (ix_dict hu)
def fIx : LD → LD → Option LD
  | (l, .lst xs), (_, .int i) => (atI xs i).map fun d => (if 2 ≤ l % 10 then 2 else 0, d)
  | (l, .tup xs), (_, .int i) => (atI xs i).map fun d => (if 2 ≤ l % 10 then 2 else 0, d)
  | (_, .frz xs), (_, .int i) => (atI xs i).map fun d => (2, .int d)
  | (_, .str z), (_, .int i) => if szOk z.length then (atI z.cps.toList i).map fun c => (2, .str ⟨#[c]⟩) else none
  | (l, .dk kds), (_, k) => match k.key with
    | some k => (dGet kds k).map fun d => (if 2 ≤ l % 10 then 2 else 0, d)
    | none => none
  | _, _ => none
abbrev gIx := gLL2 fIx
section
variable {K : PySem.W.Frag} {H : Hp}
theorem atI_len {α β : Type} {xs : List α} {ys : List β} (h : xs.length = ys.length) {i : Int} {y : β} (e : atI ys i = some y) : ∃ j : Nat, ys[j]? = some y ∧ ∀ x, xs[j]? = some x → atI xs i = some x := by
  unfold atI at e ⊢
  cases q : ixN ys.length i with
  | none => rw [q] at e; cases e
  | some j =>
    rw [q] at e
    exact ⟨j, e, fun x hx => by rw [h, q]; exact hx⟩
theorem Rds.atI {vs : List V} {ds : List D} {ns : List Addr} {i : Int} {d : D} (r : Rds K H vs ds ns) (e : L2.atI ds i = some d) : ∃ v n n1 n2, L2.atI vs i = some v ∧ Rd K H v d n ∧ ns = n1 ++ (n ++ n2) := by
  obtain ⟨j, h1, h2⟩ := atI_len (xs := vs) r.length e
  obtain ⟨v, n, n1, n2, h3, h4, h5⟩ := r.get h1
  exact ⟨v, n, n1, n2, h2 v h3, h4, h5⟩
end
theorem vIx {K : PySem.W.Frag} : VOk K (r2l (rIxAny K)) gIx := vLL2 fun s t H Q ok h1 h2 l d hg k => by
  obtain ⟨l1, d1, v1, n1⟩ := s
  obtain ⟨l2, d2, v2, n2⟩ := t
  dsimp only at *
  unfold fIx at hg
  split at hg
  · rename_i l0 xs l3 i e1 e2
    cases e1
    cases e2
    obtain ⟨rfl, rfl⟩ := rd_int h2
    obtain ⟨x, hx, e⟩ := Option.map_eq_some_iff.mp hg
    cases e
    cases h1 with
    | lst e1 r1 =>
      obtain ⟨v, n, m1, m2, q1, q2, q3⟩ := r1.atI hx
      exact .inl (.inl ⟨_, _, _, _, rfl, rfl, .of e1, q1, k v n H (Same.refl H) q2 (res_part (s := ⟨l1, .lst xs, _, _ :: _⟩) (n1 := _ :: m1) ok (List.mem_cons_self ..) (by rw [q3]; rfl) q2)⟩)
  · rename_i l0 xs l3 i e1 e2
    cases e1
    cases e2
    obtain ⟨rfl, rfl⟩ := rd_int h2
    obtain ⟨x, hx, e⟩ := Option.map_eq_some_iff.mp hg
    cases e
    cases h1 with
    | tup e1 r1 =>
      obtain ⟨v, n, m1, m2, q1, q2, q3⟩ := r1.atI hx
      exact .inl (.inr (.inl ⟨_, _, _, _, rfl, rfl, e1, q1, k v n H (Same.refl H) q2 (res_part (s := ⟨l1, .tup xs, _, _⟩) (n1 := m1) ok (List.mem_cons_self ..) q3 q2)⟩))
  · rename_i l0 xs l3 i e1 e2
    cases e1
    cases e2
    obtain ⟨rfl, rfl⟩ := rd_int h2
    obtain ⟨x, hx, e⟩ := Option.map_eq_some_iff.mp hg
    cases e
    cases h1 with
    | frz e1 =>
      obtain ⟨j, q1, q2⟩ := atI_len (xs := xs.map V.int) (by simp) hx
      exact .inl (.inl ⟨_, _, _, _, rfl, rfl, e1.sq, q2 (.int x) (by simp [q1]), k _ [] H (Same.refl H) (.int x) (res_imm rfl)⟩)
  · rename_i l0 z l3 i e1 e2
    cases e1
    cases e2
    obtain ⟨rfl, rfl⟩ := rd_int h2
    obtain ⟨rfl, rfl⟩ := rd_str h1
    split at hg
    · rename_i hz
      obtain ⟨x, hx, e⟩ := Option.map_eq_some_iff.mp hg
      cases e
      exact .inl (.inr (.inr ⟨_, _, _, rfl, rfl, szOk_ok hz, hx, k _ [] H (Same.refl H) (.str _) (res_imm rfl)⟩))
    · cases hg
  · rename_i l0 kds l3 kk e1 e2
    cases e1
    cases e2
    split at hg
    · rename_i k0 hk
      have hv := rd_key h2 hk
      subst hv
      obtain ⟨x, hx, e⟩ := Option.map_eq_some_iff.mp hg
      cases e
      cases h1 with
      | dk e1 ek r1 =>
        obtain ⟨v, n, m1, m2, q1, q2, q3⟩ := (dGet_rd ek r1).2 _ hx
        refine .inr ⟨_, v, rfl, .inl ⟨_, k0, .inl e1, rfl, q1.symm⟩, k v n H (Same.refl H) q2 (res_part (s := ⟨l1, .dk kds, _, _ :: _⟩) (n1 := _ :: m1) ok (List.mem_cons_self ..) (by rw [q3]; rfl) q2)⟩
    · cases hg
  · cases hg
def rLst : List V → Hp → VK → Prop := fun xs H Q => xs.length ≤ sizeLine ∧ ∀ p, H p = none → Q (.ref p) (upd H p (.lst xs))
def rTup : List V → Hp → VK → Prop := fun xs H Q => xs.length ≤ sizeLine ∧ ∀ p, H p = none → Q (.ref p) (upd H p (.tup xs))
/-- all that is in them is new, or may not be changed -/
def allTop (lds : List LD) : Bool := lds.all fun x => decide (2 ≤ x.1 % 10) || x.2.imm
def gLstL (lds : List LD) : Option LD := if szOk lds.length then some (if allTop lds then 2 else 1, .lst (lds.map (·.2))) else none
def gTupL (lds : List LD) : Option LD := if szOk lds.length then some (if allTop lds then 2 else 0, .tup (lds.map (·.2))) else none
section
variable {K : PySem.W.Frag} {H H' : Hp}
theorem args_rds : ∀ {As : List Sl}, (∀ s ∈ As, Rd K H s.v s.d s.ns) → Rds K H (As.map Sl.v) (As.map Sl.d) (As.flatMap Sl.ns)
  | [], _ => .nil
  | s :: As, h => .cons (h s (List.mem_cons_self ..)) (args_rds fun t ht => h t (List.mem_cons_of_mem _ ht))
theorem cnt_flat (a : Addr) : ∀ As : List Sl, (As.flatMap Sl.ns).count a = oL As a + rL As a
  | [] => rfl
  | s :: As => by
    rw [List.flatMap_cons, List.count_append, cnt_flat a As, ← s.tot a]
    simp only [oL, rL]
    omega
theorem top_rst {As : List Sl} (h : ∀ s ∈ As, Rd K H s.v s.d s.ns) (ht : allTop (As.map Sl.ld) = true) (a : Addr) : rL As a = 0 := by
  induction As with
  | nil => rfl
  | cons s As ih =>
    simp only [allTop, List.map_cons, List.all_cons, Bool.and_eq_true, Bool.or_eq_true, decide_eq_true_eq, Sl.ld] at ht
    have h1 : s.rst a = 0 := by
      rcases ht.1 with c | c
      · exact rst_top c a
      · exact (imm_cnt (l := s.l) (h s (List.mem_cons_self ..)) c a).1
    have h2 := ih (fun t q => h t (List.mem_cons_of_mem _ q)) ht.2
    simp only [rL, h1, h2]
theorem vLst : VOk K rLst gLstL := by
  intro As H Q ok l d hg k
  unfold gLstL at hg
  split at hg
  · rename_i hz
    cases hg
    refine ⟨by simpa using szOk_ok hz, fun p hp => ?_⟩
    have rr := args_rds ok.rd
    have ed : (As.map Sl.ld).map (·.2) = As.map Sl.d := by rw [List.map_map]; rfl
    rw [ed] at k
    refine k _ _ _ (same_upd hp) (rd_new hp rr) fun a => ?_
    have hpn : p ∉ As.flatMap Sl.ns := fun h => rr.dom _ _ _ p h hp
    have cf := cnt_flat a As
    have sp := ok.sep a
    by_cases c : allTop (As.map Sl.ld) = true
    · have h1 : (Sl.mk (if allTop (As.map Sl.ld) then 2 else 1) (.lst (As.map Sl.d)) (.ref p) (p :: As.flatMap Sl.ns)).own a = (p :: As.flatMap Sl.ns).count a := by simp [Sl.own, ownL, c]
      have h2 : (Sl.mk (if allTop (As.map Sl.ld) then 2 else 1) (.lst (As.map Sl.d)) (.ref p) (p :: As.flatMap Sl.ns)).rst a = 0 := by simp [Sl.rst, rstL, c]
      have h3 := top_rst ok.rd c a
      rw [h1, h2, List.count_cons, cf, h3]
      by_cases hap : a = p
      · subst hap
        have := List.count_eq_zero.mpr hpn
        rw [cf] at this
        refine ⟨by simp; omega, fun _ => ⟨rfl, mut_upd trivial, .inl hp⟩, fun h => absurd h (Nat.lt_irrefl 0)⟩
      · have : (p == a) = false := by simpa using fun e => hap e.symm
        rw [this]
        refine ⟨by simp; omega, fun h => ⟨rfl, ?_, .inr (by simpa using h)⟩, fun h => absurd h (Nat.lt_irrefl 0)⟩
        rw [upd_ne hap]
        exact ok.wr a (by simpa using h)
    · have h1 : (Sl.mk (if allTop (As.map Sl.ld) then 2 else 1) (.lst (As.map Sl.d)) (.ref p) (p :: As.flatMap Sl.ns)).own a = [p].count a := by simp [Sl.own, ownL, c, D.mut, D.top]
      have h2 : (Sl.mk (if allTop (As.map Sl.ld) then 2 else 1) (.lst (As.map Sl.d)) (.ref p) (p :: As.flatMap Sl.ns)).rst a = (As.flatMap Sl.ns).count a := by simp [Sl.rst, rstL, c, D.mut, D.top]
      rw [h1, h2]
      refine ⟨by rw [List.count_cons, List.count_nil]; split <;> omega, fun h => ?_, fun h => .inr (by omega)⟩
      have : a = p := List.mem_singleton.mp (List.count_pos_iff.mp h)
      subst this
      exact ⟨List.count_eq_zero.mpr hpn, mut_upd trivial, .inl hp⟩
  · cases hg
theorem vTup : VOk K rTup gTupL := by
  intro As H Q ok l d hg k
  unfold gTupL at hg
  split at hg
  · rename_i hz
    cases hg
    refine ⟨by simpa using szOk_ok hz, fun p hp => ?_⟩
    have rr := args_rds ok.rd
    have ed : (As.map Sl.ld).map (·.2) = As.map Sl.d := by rw [List.map_map]; rfl
    rw [ed] at k
    refine k _ _ _ (same_upd hp) (rd_newT hp rr) fun a => ?_
    have cf := cnt_flat a As
    have sp := ok.sep a
    by_cases c : allTop (As.map Sl.ld) = true
    · have h1 : (Sl.mk (if allTop (As.map Sl.ld) then 2 else 0) (.tup (As.map Sl.d)) (.ref p) (As.flatMap Sl.ns)).own a = (As.flatMap Sl.ns).count a := by simp [Sl.own, ownL, c]
      have h2 : (Sl.mk (if allTop (As.map Sl.ld) then 2 else 0) (.tup (As.map Sl.d)) (.ref p) (As.flatMap Sl.ns)).rst a = 0 := by simp [Sl.rst, rstL, c]
      have h3 := top_rst ok.rd c a
      rw [h1, h2, cf, h3]
      refine ⟨by omega, fun h => ⟨rfl, ?_, .inr (by omega)⟩, fun h => absurd h (Nat.lt_irrefl 0)⟩
      have hw := ok.wr a (by omega)
      by_cases hap : a = p
      · rw [hap, hp] at hw; exact hw.elim
      · rw [upd_ne hap]; exact hw
    · have h1 : (Sl.mk (if allTop (As.map Sl.ld) then 2 else 0) (.tup (As.map Sl.d)) (.ref p) (As.flatMap Sl.ns)).own a = 0 := by simp [Sl.own, ownL, c]
      have h2 : (Sl.mk (if allTop (As.map Sl.ld) then 2 else 0) (.tup (As.map Sl.d)) (.ref p) (As.flatMap Sl.ns)).rst a = (As.flatMap Sl.ns).count a := by simp [Sl.rst, rstL, c]
      rw [h1, h2]
      exact ⟨Nat.zero_le _, fun h => absurd h (Nat.lt_irrefl 0), fun h => .inr (by omega)⟩
  · cases hg
end
def fLen : LD → Option LD
  | (_, .lst xs) => some (2, .int xs.length)
  | (_, .tup xs) => some (2, .int xs.length)
  | (_, .frz xs) => some (2, .int xs.length)
  | (_, .str x) => if szOk x.length then some (2, .int x.length) else none
  | (_, .dk kds) => some (2, .int kds.length)
  | _ => none
theorem vC1 {K : PySem.W.Frag} {r : List V → Hp → VK → Prop} {f : LD → Option LD} (h : ∀ (s : Sl) (H : Hp) (Q : VK), ArgsOk K H [s] → Rd K H s.v s.d s.ns → ∀ l d, f (s.l, s.d) = some (l, d) →
    (∀ v ns H', Same H H' → Rd K H' v d ns → Res [s] H H' ⟨l, d, v, ns⟩ → Q v H') → r [s.v] H Q) : VOk K r (gL1 f) := by
  intro As H Q ok l d hg k
  rcases As with _ | ⟨s, _ | ⟨t, As⟩⟩
  · cases hg
  · exact h s H Q ok (ok.rd _ (List.mem_cons_self ..)) l d hg k
  · cases hg
abbrev gLen := gL1 fLen
def rLenAny (K : PySem.W.Frag) : List V → Hp → VK → Prop := fun xs H Q => ((∃ p ys, xs = [.ref p] ∧ (SqL K H p ys ∨ SqT K H p ys) ∧ Q (.int ys.length) H) ∨ ∃ z, xs = [.str z] ∧ z.length ≤ sizeLine ∧ Q (.int z.length) H) ∨ ∃ a kvs, xs = [.ref a] ∧ H a = some (.dK kvs) ∧ Q (.int kvs.length) H
theorem call_lenAny {X : Cx} : CallR X (.builtin "len") (rLenAny X.K) := by
  intro pins s σ H xs us Q I r h
  rcases h with h | ⟨a, kvs, rfl, hd, q⟩
  · exact (call_len_seq.or call_len_str) pins s σ H xs us Q I r h
  · exact call_lenD pins s σ H _ us Q I r ⟨a, kvs, rfl, hd, q⟩
theorem vLen {K : PySem.W.Frag} : VOk K (rLenAny K) gLen := vC1 fun s H Q ok h1 l d hg k => by
  obtain ⟨l1, d1, v1, n1⟩ := s
  dsimp only at *
  unfold fLen at hg
  split at hg
  · rename_i xs e
    cases e
    cases hg
    cases h1 with
    | lst e1 r1 => exact .inl (.inl ⟨_, _, rfl, .inl (.of e1), by rw [r1.length]; exact k _ [] H (Same.refl H) (.int _) (res_imm rfl)⟩)
  · rename_i xs e
    cases e
    cases hg
    cases h1 with
    | tup e1 r1 => exact .inl (.inl ⟨_, _, rfl, .inr e1, by rw [r1.length]; exact k _ [] H (Same.refl H) (.int _) (res_imm rfl)⟩)
  · rename_i xs e
    cases e
    cases hg
    cases h1 with
    | frz e1 => exact .inl (.inl ⟨_, _, rfl, .inl e1.sq, by rw [List.length_map]; exact k _ [] H (Same.refl H) (.int _) (res_imm rfl)⟩)
  · rename_i x e
    cases e
    split at hg
    · rename_i hz
      cases hg
      obtain ⟨rfl, rfl⟩ := rd_str h1
      exact .inl (.inr ⟨_, rfl, szOk_ok hz, k _ [] H (Same.refl H) (.int _) (res_imm rfl)⟩)
    · cases hg
  · rename_i kds e
    cases e
    cases hg
    cases h1 with
    | dk e1 ek r1 =>
      have hl := congrArg List.length ek
      simp only [List.length_map] at hl
      exact .inr ⟨_, _, rfl, e1, by rw [hl]; exact k _ [] H (Same.refl H) (.int _) (res_imm rfl)⟩
  · cases hg
def fListOf : LD → Option LD
  | (_, .lst xs) => some (lvN xs, .lst xs)
  | (_, .tup xs) => some (lvN xs, .lst xs)
  | (_, .frz xs) => some (2, .lst (xs.map .int))
  | _ => none
abbrev gListOf := gL1 fListOf
section
variable {K : PySem.W.Frag} {H : Hp}
theorem rds_ints : ∀ xs : List Int, Rds K H (xs.map V.int) (xs.map D.int) []
  | [] => .nil
  | x :: xs => .cons (.int x) (rds_ints xs)
theorem imm_ints : ∀ xs : List Int, D.imm.immAll (xs.map D.int) = true
  | [] => rfl
  | x :: xs => by simp [D.imm.immAll, D.imm, imm_ints xs]
end
theorem vListOf {K : PySem.W.Frag} : VOk K (fun xs H Q => ∃ p ys, xs = [.ref p] ∧ (SqL K H p ys ∨ SqT K H p ys) ∧ ∀ l, H l = none → Q (.ref l) (upd H l (.lst ys))) gListOf := vC1 fun s H Q ok h1 l d hg k => by
  obtain ⟨l1, d1, v1, n1⟩ := s
  dsimp only at *
  unfold fListOf at hg
  split at hg
  · rename_i xs e
    cases e
    cases hg
    cases h1 with
    | lst e1 r1 => exact ⟨_, _, rfl, .inl (.of e1), fun p hp => k _ _ _ (same_upd hp) (rd_new hp r1) (res_lst hp r1 (fun a ha => arg_ns (List.mem_cons_self ..) a (List.mem_cons_of_mem _ ha)) (mut_upd trivial))⟩
  · rename_i xs e
    cases e
    cases hg
    cases h1 with
    | tup e1 r1 => exact ⟨_, _, rfl, .inr e1, fun p hp => k _ _ _ (same_upd hp) (rd_new hp r1) (res_lst hp r1 (fun a ha => arg_ns (List.mem_cons_self ..) a ha) (mut_upd trivial))⟩
  · rename_i xs e
    cases e
    cases hg
    cases h1 with
    | frz e1 =>
      refine ⟨_, _, rfl, .inl e1.sq, fun p hp => k _ _ _ (same_upd hp) (rd_new hp (rds_ints xs)) ?_⟩
      rename_i a0
      have := res_lst (As := [⟨l1, .frz xs, V.ref a0, []⟩]) (H' := upd H p (.lst (xs.map V.int))) hp (rds_ints (K := K) xs) (fun a ha => nomatch ha) (mut_upd trivial)
      rw [lvN, imm_ints, if_pos rfl] at this
      exact this
  · cases hg
def fTupOf : LD → Option LD
  | (_, .lst xs) => some (if D.imm.immAll xs then 2 else 0, .tup xs)
  | (_, .tup xs) => some (if D.imm.immAll xs then 2 else 0, .tup xs)
  | _ => none
def D.flat : D → Bool
  | .non => true
  | .bl _ => true
  | .int _ => true
  | .str x => x.cps.all (· < 0x110000)
  | _ => false
def fIn (p : Bool) : D → D → Option LD
  | a, .lst ys => if eqd 60 a && eqd 60 (.lst ys) then some (2, .bl ((ys.any fun z => deq z a) == p)) else none
  | a, .frz ys => if eqd 60 a then some (2, .bl ((ys.any fun z => deq (.int z) a) == p)) else none
  | a, .tup ys => if a.flat && ys.all D.flat then some (2, .bl ((ys.any fun z => deq z a) == p)) else none
  | a, .dk kds => match a.key with
    | some k => some (2, .bl ((dGet kds k).isSome == p))
    | none => none
  | _, _ => none
abbrev gNotIn := gL2 (fIn false)
def rInDk (p : Bool) : R2 := fun x y H Q => ∃ a o, y = .ref a ∧ DGet H a x o ∧ Q (.bl (o.isSome == p)) H
theorem op_notInDk {X : Cx} (hu : X.A.units + 1 < cLine) : OpR X (compareOp .NotIn) (rInDk false) := by
  intro pins s σ H x y v u Q I rx ry h
  obtain ⟨a, o, rfl, g, q⟩ := h
  obtain rfl : u = Value.ref a := ry
  exact d_notIn hu I g rx fun s' I' => ⟨.bl (!o.isSome), H, I', rfl, by cases o <;> exact q⟩
def rNotInAny (K : PySem.W.Frag) : R2 := fun x y H Q => (rNotInD K x y H Q ∨ rIn K true x y H Q) ∨ rInDk false x y H Q
theorem op_notInAny {X : Cx} (hu : X.A.units + 65 < cLine) : OpR X (compareOp .NotIn) (rNotInAny X.K) := ((op_notInD hu).or op_notIn_seq).or (op_notInDk (by omega))
section
variable {K : PySem.W.Frag} {H : Hp}
theorem any_py (a : D) : ∀ ys : List D, ((pyAll ys).any fun z => PyData.eqv z a.py) = ys.any fun z => deq z a
  | [] => rfl
  | y :: ys => by rw [pyAll, List.any_cons, List.any_cons, any_py a ys, deq_py]
end
theorem flat_rd {K : PySem.W.Frag} {H : Hp} {v w : V} {a b : D} {n m : List Addr} (ha : Rd K H v a n) (hb : Rd K H w b m) (ea : a.flat = true) (eb : b.flat = true) : eqV v w = deq a b ∧ flatV v = true ∧ flatV w = true := by
  cases ha <;> simp only [D.flat] at ea <;> first | cases ea; done | skip
  all_goals (cases hb <;> simp only [D.flat] at eb <;> first | (cases eb; done) | exact ⟨by simp [eqV, deq, D.py, PyData.eqv], rfl, rfl⟩)
end DL
namespace DL
open L2 PySem PySem.Spec PyProof.Rows
section
variable {K : PySem.W.Frag} {H : Hp}
theorem any_flat {v : V} {a : D} {n : List Addr} (ha : Rd K H v a n) (ea : a.flat = true) : ∀ {ws : List V} {ys : List D} {m : List Addr}, Rds K H ws ys m → ys.all D.flat = true → inV v ws = (ys.any fun z => deq z a) ∧ ws.all flatV = true
  | _, _, _, .nil, _ => ⟨rfl, rfl⟩
  | _, _, _, .cons h r, e => by
    rw [List.all_cons, Bool.and_eq_true] at e
    obtain ⟨h1, h2⟩ := any_flat ha ea r e.2
    obtain ⟨q1, q2, q3⟩ := flat_rd h ha e.1 ea
    unfold inV at h1 ⊢
    rw [List.any_cons, List.any_cons, List.all_cons, q1, h1, q2, h2]
    exact ⟨rfl, rfl⟩
theorem flat_V {v : V} {a : D} {n : List Addr} (ha : Rd K H v a n) (ea : a.flat = true) : flatV v = true := (flat_rd ha ha ea ea).2.1
theorem any_frz (a : D) : ∀ ys : List Int, ((ys.map PyData.int).any fun z => PyData.eqv z a.py) = ys.any fun z => deq (.int z) a
  | [] => rfl
  | y :: ys => by rw [List.map_cons, List.any_cons, List.any_cons, any_frz a ys, deq_py]; rfl
end
theorem vInGen {K : PySem.W.Frag} {r : R2} (p : Bool) (hr : ∀ x y H Q, ((∃ d ds, Dp K H x d ∧ Dp K H y (.list ds) ∧ SeqAt.shaped d = true ∧ SeqAt.shaped (.list ds) = true ∧ Q (.bl ((ds.any fun z => PyData.eqv z d) == p)) H) ∨
    (∃ a xs, y = .ref a ∧ (SqL K H a xs ∨ SqT K H a xs) ∧ flatV x = true ∧ xs.all flatV = true ∧ Q (.bl (inV x xs == p)) H) ∨ rInDk p x y H Q) → r x y H Q) : VOk K (r2l r) (gL2 (fIn p)) := vL2 fun s t H Q ok h1 h2 l d hg k => by
  obtain ⟨l1, d1, v1, n1⟩ := s
  obtain ⟨l2, d2, v2, n2⟩ := t
  dsimp only at *
  refine hr _ _ _ _ ?_
  unfold fIn at hg
  split at hg
  · split at hg
    · rename_i ys _ hz
      cases hg
      rw [Bool.and_eq_true] at hz
      refine .inl ⟨_, _, h1.dp 60 _ _ _ hz.1, h2.dp 60 _ _ _ hz.2, eqd_shaped hz.1, eqd_shaped hz.2, ?_⟩
      rw [any_py]
      exact k _ [] H (Same.refl H) (.bl _) (res_imm rfl)
    · cases hg
  · split at hg
    · rename_i ys _ hz
      cases hg
      refine .inl ⟨_, _, h1.dp 60 _ _ _ hz, h2.dp 60 _ _ _ rfl, eqd_shaped hz, eqd_shaped (d := .frz _) rfl, ?_⟩
      rw [any_frz]
      exact k _ [] H (Same.refl H) (.bl _) (res_imm rfl)
    · cases hg
  · split at hg
    · rename_i ys _ hz
      cases hg
      rw [Bool.and_eq_true] at hz
      cases h2 with
      | tup e2 r2 =>
        obtain ⟨q1, q2⟩ := any_flat h1 hz.1 r2 hz.2
        refine .inr (.inl ⟨_, _, rfl, .inr e2, flat_V h1 hz.1, q2, ?_⟩)
        rw [q1]
        exact k _ [] H (Same.refl H) (.bl _) (res_imm rfl)
    · cases hg
  · split at hg
    · rename_i kds _ k0 hk
      cases hg
      have hv := rd_key h1 hk
      subst hv
      cases h2 with
      | @dk a2 kvs2 _ ns2 e2 ek r2 =>
        obtain ⟨q1, q2⟩ := dGet_rd (k := k0) ek r2
        refine .inr (.inr ⟨_, _, rfl, .inl ⟨_, k0, .inl e2, rfl, rfl⟩, ?_⟩)
        have e : (valV kvs2 k0).isSome = (dGet kds k0).isSome := by
          cases c : dGet kds k0 with
          | none => rw [q1 c]; rfl
          | some d =>
            obtain ⟨v, n, m1, m2, c1, _, _⟩ := q2 d c
            rw [c1]; rfl
        rw [e]
        exact k _ [] H (Same.refl H) (.bl _) (res_imm rfl)
    · cases hg
  · cases hg
theorem vNotIn {K : PySem.W.Frag} : VOk K (r2l (rNotInAny K)) gNotIn := vInGen false fun x y H Q h => by
  rcases h with ⟨d, ds, h1, h2, h3, h4, q⟩ | ⟨a, xs, h1, h2, h3, h4, q⟩ | h
  · exact .inl (.inl ⟨d, ds, h1, h2, h3, h4, by rw [beq_false] at q; exact q⟩)
  · exact .inl (.inr ⟨a, xs, h1, h2, h3, h4, by rw [beq_false] at q; exact q⟩)
  · exact .inr h
def fMul : D → D → Option LD
  | .int a, .int b => if mulOk a b then some (2, .int (a * b)) else none
  | .lst xs, .int n => if decide (n.natAbs < 4611686018427387904) && szOk (xs.length * n.toNat) then some (lvN (List.replicate n.toNat xs).flatten, .lst (List.replicate n.toNat xs).flatten) else none
  | _, _ => none
abbrev gMul := gL2 fMul
def rMulAny : R2 := fun x y H Q => rI IntMulOk (fun i j => .int (i * j)) x y H Q ∨ rRep x y H Q
theorem op_mulAny {X : Cx} : OpR X (binaryOp .Mult) rMulAny := (opI fun _ _ _ _ _ _ _ hc q => mul_int q hc).or op_rep
theorem vMul {K : PySem.W.Frag} : VOk K (r2l rMulAny) gMul := vL2 fun s t H Q ok h1 h2 l d hg k => by
  obtain ⟨l1, d1, v1, n1⟩ := s
  obtain ⟨l2, d2, v2, n2⟩ := t
  dsimp only at *
  unfold fMul at hg
  split at hg
  · split at hg
    · rename_i hz
      obtain ⟨rfl, rfl⟩ := rd_int h1
      obtain ⟨rfl, rfl⟩ := rd_int h2
      cases hg
      exact .inl ⟨_, _, rfl, rfl, mulOk_ok hz, k _ [] H (Same.refl H) (.int _) (res_imm rfl)⟩
    · cases hg
  · split at hg
    · rename_i xs n hz
      obtain ⟨rfl, rfl⟩ := rd_int h2
      cases hg
      simp only [Bool.and_eq_true, decide_eq_true_eq] at hz
      cases h1 with
      | @lst a vs ds ns e1 r1 =>
        obtain ⟨m, r, hm⟩ : ∃ m, Rds K H (List.replicate n.toNat vs).flatten (List.replicate n.toNat xs).flatten m ∧ ∀ b ∈ m, b ∈ ns := by
          generalize n.toNat = j
          induction j with
          | zero => exact ⟨[], .nil, fun _ h => nomatch h⟩
          | succ j ih =>
            obtain ⟨m, r, hm⟩ := ih
            refine ⟨ns ++ m, by rw [List.replicate_succ, List.replicate_succ, List.flatten_cons, List.flatten_cons]; exact r1.append r, fun b hb => ?_⟩
            rcases List.mem_append.mp hb with hb | hb
            · exact hb
            · exact hm b hb
        refine .inr ⟨_, n, _, rfl, rfl, e1, by have := hz.1; omega, by have := hz.1; omega, by rw [r1.length]; exact szOk_ok hz.2, fun p hp => k _ _ _ (same_upd hp) (rd_new hp r) (res_lst hp r (fun b hb => ?_) (mut_upd trivial))⟩
        exact arg_ns (List.mem_cons_self ..) b (List.mem_cons_of_mem _ (hm b hb))
    · cases hg
  · cases hg
def cutD (xs : List D) (lo hi : Option Int) : List D := (xs.drop (HT.sIx xs.length 0 lo)).take (HT.sIx xs.length xs.length hi - HT.sIx xs.length 0 lo)
section
variable {K : PySem.W.Frag} {H : Hp}
theorem Rds.drop : ∀ (n : Nat) {vs : List V} {ds : List D} {ns : List Addr}, Rds K H vs ds ns → ∃ m, Rds K H (vs.drop n) (ds.drop n) m ∧ ∀ a ∈ m, a ∈ ns
  | 0, _, _, _, r => ⟨_, r, fun _ h => h⟩
  | _ + 1, _, _, _, .nil => ⟨[], .nil, fun _ h => h⟩
  | n + 1, _, _, _, .cons h r => by
    obtain ⟨m, q1, q2⟩ := Rds.drop n r
    exact ⟨m, q1, fun a ha => List.mem_append_right _ (q2 a ha)⟩
theorem Rds.take : ∀ (n : Nat) {vs : List V} {ds : List D} {ns : List Addr}, Rds K H vs ds ns → ∃ m, Rds K H (vs.take n) (ds.take n) m ∧ ∀ a ∈ m, a ∈ ns
  | 0, _, _, _, r => ⟨[], .nil, fun _ h => nomatch h⟩
  | _ + 1, _, _, _, .nil => ⟨[], .nil, fun _ h => h⟩
  | n + 1, _, _, _, .cons (n := n0) h r => by
    obtain ⟨m, q1, q2⟩ := Rds.take n r
    refine ⟨n0 ++ m, .cons h q1, fun a ha => ?_⟩
    rcases List.mem_append.mp ha with ha | ha
    · exact List.mem_append_left _ ha
    · exact List.mem_append_right _ (q2 a ha)
theorem Rds.cut {vs : List V} {ds : List D} {ns : List Addr} (r : Rds K H vs ds ns) (lo hi : Option Int) : ∃ m, Rds K H (cutV vs lo hi) (cutD ds lo hi) m ∧ ∀ a ∈ m, a ∈ ns := by
  unfold cutV cutD
  rw [r.length]
  obtain ⟨m, r1, h1⟩ := r.drop (HT.sIx ds.length 0 lo)
  obtain ⟨m2, r2, h2⟩ := r1.take (HT.sIx ds.length ds.length hi - HT.sIx ds.length 0 lo)
  exact ⟨m2, r2, fun a ha => h1 a (h2 a ha)⟩
end
end DL
namespace DL
open L2 PySem PySem.Spec PyProof.Rows
section
variable {K : PySem.W.Frag} {W : WW} {A : List Nat} {σ : L2.St} {H : Hp}
theorem tDP_mono {f : PF} {Q Q' : VK} (h : tDP K W A f σ H Q) (i : ∀ v H', Q v H' → Q' v H') : tDP K W A f σ H Q' := by
  obtain ⟨Z, L, M, R, q⟩ := h
  refine ⟨Z, L, M, R, ?_⟩
  revert q
  cases f (er L) with
  | bad => exact id
  | exc c => exact id
  | ok x => exact fun q v ns H' B => i v H' (q v ns H' B)
theorem tDE_mono {f : EF} {Q Q' : VK} (h : tDE K W f σ H Q) (i : ∀ v H', Q v H' → Q' v H') : tDE K W f σ H Q' := by
  obtain ⟨Z, L, M, R, q⟩ := h
  refine ⟨Z, L, M, R, ?_⟩
  revert q
  cases f (er L) with
  | bad => exact id
  | exc c Γ' => exact id
  | ok x Γ' => exact fun q v ns H' L' e R' z => i v H' (q v ns H' L' e R' z)
/-- a reckoning that must give an int -/
def pI (f : PF) : PF := fun Γ => match f Γ with
  | .ok (l, .int i) => .ok (l, .int i)
  | .exc c => .exc c
  | _ => .bad
def eI (f : EF) : EF := fun Γ => match f Γ with
  | .ok (l, .int i) Γ' => .ok (l, .int i) Γ'
  | .exc c Γ' => .exc c Γ'
  | _ => .bad
theorem tI_P {f : PF} {Q : VK} (h : tDP K W A (pI f) σ H Q) : tDP K W A f σ H (fun x H1 => ∃ i, x = .int i ∧ Q x H1) := by
  obtain ⟨Z, L, M, R, q⟩ := h
  refine ⟨Z, L, M, R, ?_⟩
  unfold pI at q
  cases ef : f (er L) with
  | bad => rw [ef] at q; exact q
  | exc c => rw [ef] at q; exact q
  | ok x =>
    obtain ⟨l, d⟩ := x
    rw [ef] at q
    cases d with
    | int i => exact fun v ns H' B => ⟨i, (rd_int B.rd).1, q v ns H' B⟩
    | _ => exact q.elim
end
theorem appL {A B : List Nat} : ∀ i ∈ A, i ∈ A ++ B := fun _ h => List.mem_append_left _ h
theorem appR {A B : List Nat} : ∀ i ∈ B, i ∈ A ++ B := fun _ h => List.mem_append_right _ h
theorem mem2l {A B : List Nat} {f g : PF} : ∀ p ∈ [(A, f), (B, g)], ∀ i ∈ p.1, i ∈ A ++ B := fun p hp => by
  rcases List.mem_cons.mp hp with rfl | hp
  · exact appL
  · rw [List.mem_singleton.mp hp]; exact appR
theorem mem1l {A : List Nat} {f : PF} : ∀ p ∈ [(A, f)], ∀ i ∈ p.1, i ∈ A := fun p hp => by
  rw [List.mem_singleton.mp hp]; exact fun _ h => h
section
variable {X : Cx} {W : WW} {A B C : List Nat} {a b c : Expr} {f g h : PF} {f' g' h' : EF} {pos : Pos} {op : Operator} {uop : PySem.UnaryOp} {cop : CmpOp} {r : R2} {q : V → Hp → VK → Prop} {G : List LD → Option LD}
theorem p_bin (ho : OpR X (binaryOp op) r) (hv : VOk X.K (r2l r) G) (ha : DP X W A a f) (hb : DP X W B b g) : DP X W (A ++ B) (.BinOp a op b pos) (pApp G [f, g]) :=
  p_app [(A, f), (B, g)] mem2l hv (pe_op ho ha hb) fun _ _ _ h => h
theorem p_un (ho : UnR X (unaryOp uop) q) (hv : VOk X.K (r1l q) G) (ha : DP X W A a f) : DP X W A (.UnaryOp uop a pos) (pApp G [f]) :=
  p_app [(A, f)] mem1l hv (pe_un ho ha) fun _ _ _ h => h
theorem p_cmp (ho : OpR X (compareOp cop) r) (hv : VOk X.K (r2l r) G) (ha : DP X W A a f) (hb : DP X W B b g) (hm : behindInMarks cop b = false) : DP X W (A ++ B) (.Compare a [cop] [b] pos) (pApp G [f, g]) :=
  p_app [(A, f), (B, g)] mem2l hv (pe_cmpR ho ha hb hm) fun _ _ _ h => h
theorem t_cmp (ho : OpR X (compareOp cop) r) (hv : VOk X.K (r2l r) G) (ha : DP X W A a f) (hb : DP X W B b g) (hm : behindInMarks cop b = false) : DTP X W (.Compare a [cop] [b] pos) (pB (pApp G [f, g])) :=
  t_app (A := A ++ B) [(A, f), (B, g)] mem2l hv (pt_cmpR ho ha hb hm) fun _ _ _ h => h
theorem p_ix (hu : X.A.units + 100 < cLine) (ha : DP X W A a f) (hb : DP X W B b g) (hs : PlainIx b) : DP X W (A ++ B) (.Subscript a b pos) (pApp gIx [f, g]) :=
  p_app [(A, f), (B, g)] mem2l vIx (pe_ix (ix_any (by omega)) ha hb hs) fun _ _ _ h => h
/-- reckonings for a written list of arguments -/
inductive PArgL (X : Cx) (W : WW) : List Nat → List Expr → List PF → Prop
  | nil : PArgL X W [] [] []
  | cons {A B : List Nat} {e : Expr} {es : List Expr} {f : PF} {fs : List PF} : DP X W A e f → PArgL X W B es fs → starEach (e :: es) X.env = (false, eval e X.env) :: starEach es X.env → PArgL X W (A ++ B) (e :: es) (f :: fs)
inductive EArgL (X : Cx) (W : WW) : List Expr → List EF → Prop
  | nil : EArgL X W [] []
  | cons {e : Expr} {es : List Expr} {f : EF} {fs : List EF} : DE X W e f → EArgL X W es fs → starEach (e :: es) X.env = (false, eval e X.env) :: starEach es X.env → EArgL X W (e :: es) (f :: fs)
def tAl : List TE → TA
  | [] => tNil
  | t :: ts => tCons t (tAl ts)
theorem PArgL.pa {A : List Nat} {es : List Expr} {fs : List PF} (h : PArgL X W A es fs) : ∃ gs : List (List Nat × PF), gs.map (·.2) = fs ∧ (∀ p ∈ gs, ∀ i ∈ p.1, i ∈ A) ∧ PA X es (tAl (gs.map fun p => tDP X.K W p.1 p.2)) := by
  induction h with
  | nil => exact ⟨[], rfl, fun _ h => (nomatch h), pa_nil⟩
  | @cons A B e es f fs h _ hs ih =>
    obtain ⟨gs, e1, e2, e3⟩ := ih
    refine ⟨(A, f) :: gs, by simp [e1], fun p hp => ?_, pa_cons h e3 hs⟩
    rcases List.mem_cons.mp hp with rfl | hp
    · exact appL
    · exact fun i hi => appR i (e2 p hp i hi)
theorem EArgL.pa {es : List Expr} {fs : List EF} (h : EArgL X W es fs) : PA X es (tAl (fs.map fun f => tDE X.K W f)) := by
  induction h with
  | nil => exact pa_nil
  | cons h _ hs ih => exact pa_cons h ih hs
theorem tAl_args {r : List V → Hp → VK → Prop} : ∀ (ts : List TE) {σ : L2.St} {H : Hp} {Q : VK} (k : List V → Hp → Prop), (∀ xs H', r xs H' Q → k xs H') → (∀ t ∈ ts, ∀ σ H Q Q', (∀ v H', Q v H' → Q' v H') → t σ H Q → t σ H Q') → tArgs ts r σ H Q → tAl ts σ H k
  | [], _, H, _, k, hk, _, h => hk [] H h
  | t :: ts, σ, H, Q, k, hk, hm, h => hm t (List.mem_cons_self ..) σ H _ _ (fun v H' q => tAl_args (r := fun xs => r (v :: xs)) ts (fun xs => k (v :: xs)) (fun xs H2 => hk (v :: xs) H2) (fun t ht => hm t (List.mem_cons_of_mem _ ht)) q) h
theorem monoP (gs : List (List Nat × PF)) : ∀ t ∈ gs.map (fun p => tDP X.K W p.1 p.2), ∀ σ H Q Q', (∀ v H', Q v H' → Q' v H') → t σ H Q → t σ H Q' := fun t ht σ H Q Q' i h => by
  obtain ⟨p, _, rfl⟩ := List.mem_map.mp ht
  exact tDP_mono h i
theorem monoE (fs : List EF) : ∀ t ∈ fs.map (fun f => tDE X.K W f), ∀ σ H Q Q', (∀ v H', Q v H' → Q' v H') → t σ H Q → t σ H Q' := fun t ht σ H Q Q' i h => by
  obtain ⟨p, _, rfl⟩ := List.mem_map.mp ht
  exact tDE_mono h i
theorem p_lst {A : List Nat} {es : List Expr} {fs : List PF} (h : PArgL X W A es fs) : DP X W A (.List es pos) (pApp gLstL fs) := by
  obtain ⟨gs, rfl, e2, e3⟩ := h.pa
  exact p_app gs e2 vLst (pe_lst e3) fun σ H Q q => tAl_args _ _ (fun _ _ h => h) (monoP gs) q
theorem e_lst {es : List Expr} {fs : List EF} (h : EArgL X W es fs) : DE X W (.List es pos) (eApp gLstL fs) :=
  e_app fs vLst (pe_lst h.pa) fun σ H Q q => tAl_args _ _ (fun _ _ h => h) (monoE fs) q
theorem p_tup {A : List Nat} {es : List Expr} {fs : List PF} {x1} (h : PArgL X W A es fs) : DP X W A (.Tuple es x1 pos) (pApp gTupL fs) := by
  obtain ⟨gs, rfl, e2, e3⟩ := h.pa
  exact p_app gs e2 vTup (pe_tup e3) fun σ H Q q => tAl_args _ _ (fun _ _ h => h) (monoP gs) q
theorem e_tup {es : List Expr} {fs : List EF} {x1} (h : EArgL X W es fs) : DE X W (.Tuple es x1 pos) (eApp gTupL fs) :=
  e_app fs vTup (pe_tup h.pa) fun σ H Q q => tAl_args _ _ (fun _ _ h => h) (monoE fs) q
/-- a built-in function, a built-in class, called -/
theorem p_callB {r : List V → Hp → VK → Prop} {x : Str} {id : String} {e : Expr} {es : List Expr} {fs : List PF} {p : Pos} (hc : CallR X (.builtin id) r) (hv : VOk X.K r G) (hg : Gl X x) (hm : X.mg x = none) (hb : bootBuiltins x = some (.builtin id)) (h : PArgL X W A (e :: es) fs)
    (hn : x ≠ "__name__" := by decide) (hdb : (x == ("__debug__" : Str)) = false := by decide) (he : starEach (e :: es) X.env = (false, eval e X.env) :: starEach es X.env := by rfl) (hpl : (backTo pos (starEach es X.env)).any (·.1) = false := by rfl) :
    DP X W A (.Call (.Name x p) (e :: es) [] pos) (pApp G fs) := by
  obtain ⟨gs, rfl, e2, e3⟩ := h.pa
  exact p_app gs e2 hv (pe_callB hc hg hm hb e3 hn hdb he hpl) fun σ H Q q => tAl_args _ _ (fun _ _ h => h) (monoP gs) q
theorem p_callTy {r : List V → Hp → VK → Prop} {x : Str} {T : String} {e : Expr} {es : List Expr} {fs : List PF} {p : Pos} (hc : CallR X (.type T) r) (hv : VOk X.K r G) (hg : Gl X x) (hm : X.mg x = none) (hb : bootBuiltins x = some (.type T)) (h : PArgL X W A (e :: es) fs)
    (hn : x ≠ "__name__" := by decide) (hdb : (x == ("__debug__" : Str)) = false := by decide) (he : starEach (e :: es) X.env = (false, eval e X.env) :: starEach es X.env := by rfl) (hpl : (backTo pos (starEach es X.env)).any (·.1) = false := by rfl) :
    DP X W A (.Call (.Name x p) (e :: es) [] pos) (pApp G fs) := by
  obtain ⟨gs, rfl, e2, e3⟩ := h.pa
  exact p_app gs e2 hv (pe_callTy hc hg hm hb e3 hn hdb he hpl) fun σ H Q q => tAl_args _ _ (fun _ _ h => h) (monoP gs) q
end
end DL
namespace DL
open L2 PySem PySem.Spec PyProof.Rows
/-- what a def gives: its value, the parameters that it hands back -/
inductive FR where
  | ret (x : LD) (fin : List LD)
  | exc (c : String) (fin : List LD)
  | bad
def Fram (As : List Sl) (H H' : Hp) : Prop := (∀ a o, H a = some o → oL As a = 0 → H' a = some o) ∧ ∀ a, H' a = none → H a = none
def From (As : List Sl) (H : Hp) (Bs : List Sl) : Prop := ∀ a, (0 < oL Bs a → H a = none ∨ 0 < oL As a) ∧ (0 < oL Bs a + rL Bs a → H a = none ∨ 0 < oL As a + rL As a)
/-- the class that is called so -/
def xc (mg : Str → Option Value) (c : String) : Value := (mg (Str.ofString c)).getD .none
/-- those of a list that a mask tells -/
def msk {α : Type} : List Bool → List α → List α
  | true :: bs, x :: xs => x :: msk bs xs
  | false :: bs, _ :: xs => msk bs xs
  | _, _ => []
/-- the promise of a def: n parameters, those that io tells come back -/
def spF (K : PySem.W.Frag) (mg : Str → Option Value) (n : Nat) (io : List Bool) (F : List LD → FR) : Sp := fun vs H Q E => ∃ As : List Sl, vs = As.map Sl.v ∧ As.length = n ∧ ArgsOk K H As ∧ match F (As.map Sl.ld) with
  | .ret (l, d) fin => ∀ v ns (Fs : List Sl) H', Fs.map Sl.ld = fin → Fs.map Sl.v = msk io (As.map Sl.v) → Fram As H H' → ArgsOk K H' (⟨l, d, v, ns⟩ :: Fs) → From As H (⟨l, d, v, ns⟩ :: Fs) → Q v H'
  | .exc c fin => ∀ (Fs : List Sl) H', Fs.map Sl.ld = fin → Fs.map Sl.v = msk io (As.map Sl.v) → Fram As H H' → ArgsOk K H' Fs → From As H Fs → E (xc mg c) none H'
  | .bad => False
theorem spF_len {K : PySem.W.Frag} {mg : Str → Option Value} {n : Nat} {io : List Bool} {F : List LD → FR} {ps : List Str} (hn : ps.length = n) : ∀ vs H Q E, spF K mg n io F vs H Q E → vs.length = ps.length := fun vs H Q E ⟨As, e, hl, _⟩ => by
  rw [e, List.length_map, hl, hn]
section
variable {K : PySem.W.Frag} {Z : Zone} {σ : L2.St} {H H' : Hp} {L : List (Option Sl)} {M : List Tm} {A : List Nat} {W : WW}
theorem Rel.swap {m n : Tm} (R : Rel K Z σ H L (m :: n :: M)) : Rel K Z σ H L (n :: m :: M) where
  len := R.len
  slot := R.slot
  tms := fun t ht => R.tms t (by
    rcases List.mem_cons.mp ht with h | h
    · exact List.mem_cons_of_mem _ (h ▸ List.mem_cons_self ..)
    · rcases List.mem_cons.mp h with h | h
      · exact h ▸ List.mem_cons_self ..
      · exact List.mem_cons_of_mem _ (List.mem_cons_of_mem _ h))
  sep := fun a => by have := R.sep a; simp only [oM, rM] at this ⊢; omega
  wr := fun a ha => R.wr a (by simp only [oM] at ha ⊢; omega)
  zf := R.zf
  pin := R.pin
/-- a slot's content, taken as a temp -/
def Sl.un (s : Sl) : Sl := { s with l := s.l % 10 }
theorem un_own (s : Sl) (a : Addr) : s.un.own a = s.own a := by unfold Sl.un Sl.own ownL; dsimp only; rw [Nat.mod_mod]
theorem un_rst (s : Sl) (a : Addr) : s.un.rst a = s.rst a := by unfold Sl.un Sl.rst rstL; dsimp only; rw [Nat.mod_mod]
theorem Rel.take {i : Nat} {s : Sl} (R : Rel K Z σ H L M) (h1 : L[i]? = some (some s)) : Rel K Z σ H (L.set i none) (s.un.tm K :: M) where
  len := by simpa using R.len
  slot := fun j t hj => by
    by_cases hij : i = j
    · subst hij
      rw [List.getElem?_set_self (List.getElem?_eq_some_iff.mp h1).1] at hj
      cases hj
    · rw [List.getElem?_set_ne hij] at hj
      exact R.slot j t hj
  tms := fun m hm => by
    rcases List.mem_cons.mp hm with rfl | hm
    · have h3 := (R.slot i s h1).2.1
      exact ⟨h3, Sl.stab _ _, fun a ha => h3.dom _ _ _ a ((s.un.mem a).mp ha)⟩
    · exact R.tms m hm
  sep := fun a => by
    have g1 := oS_set (x := none) a h1
    have g2 := rS_set (x := none) a h1
    have sp := R.sep a
    simp only [oO, rO] at g1 g2
    simp only [oM, rM, Sl.tm]
    rw [un_own, un_rst]
    omega
  wr := fun a ha => by
    have g1 := oS_set (x := none) a h1
    simp only [oO] at g1
    simp only [oM, Sl.tm] at ha
    rw [un_own] at ha
    exact R.wr a (by omega)
  zf := R.zf
  pin := fun j t hj hl => by
    by_cases hij : i = j
    · subst hij
      rw [List.getElem?_set_self (List.getElem?_eq_some_iff.mp h1).1] at hj
      cases hj
    · rw [List.getElem?_set_ne hij] at hj
      exact R.pin j t hj hl
/-- a slot is emptied -/
theorem Rel.drop {i : Nat} (R : Rel K Z σ H L M) : Rel K Z σ H (L.set i none) M := by
  cases h : L[i]? with
  | none =>
    have : L.set i none = L := by
      apply List.ext_getElem?
      intro j
      by_cases hij : i = j
      · subst hij
        rw [h, List.getElem?_eq_none_iff]
        simpa using h
      · rw [List.getElem?_set_ne hij]
    rw [this]; exact R
  | some o =>
    cases o with
    | none =>
      have : L.set i none = L := by
        apply List.ext_getElem?
        intro j
        by_cases hij : i = j
        · subst hij
          rw [List.getElem?_set_self (List.getElem?_eq_some_iff.mp h).1, h]
        · rw [List.getElem?_set_ne hij]
      rw [this]; exact R
    | some s => exact (R.take h).pop
/-- a temp goes into an empty slot; the slot's value may be stored with it -/
theorem Rel.put0 {σ' : L2.St} {i : Nat} {s : Sl} (R : Rel K Z σ H L (s.tm K :: M)) (h0 : L[i]? = some none) (hσ : σ'[i]? = some (some s.v)) (hl : σ'.length = σ.length) (hs : ∀ j, j ≠ i → σ'[j]? = σ[j]?) (hz : ∀ a ∈ s.ns, Z a) (hp : 10 ≤ s.l → s.v = Z.pv i) : Rel K Z σ' H (L.set i (some s)) M where
  len := by rw [hl]; simpa using R.len
  slot := fun j t hj => by
    by_cases hij : i = j
    · subst hij
      rw [List.getElem?_set_self (List.getElem?_eq_some_iff.mp h0).1] at hj
      cases hj
      exact ⟨hσ, (R.tms _ (List.mem_cons_self ..)).1, hz⟩
    · rw [List.getElem?_set_ne hij] at hj
      rw [hs j (Ne.symm hij)]
      exact R.slot j t hj
  tms := fun m hm => R.tms m (List.mem_cons_of_mem _ hm)
  sep := fun a => by
    have g1 := oS_set (x := some s) a h0
    have g2 := rS_set (x := some s) a h0
    have sp := R.sep a
    simp only [oO, rO] at g1 g2
    simp only [oM, rM, Sl.tm] at sp
    omega
  wr := fun a ha => by
    have g1 := oS_set (x := some s) a h0
    simp only [oO] at g1
    exact R.wr a (by simp only [oM, Sl.tm]; omega)
  zf := R.zf
  pin := fun j t hj hl => by
    by_cases hij : i = j
    · subst hij
      rw [List.getElem?_set_self (List.getElem?_eq_some_iff.mp h0).1] at hj
      cases hj
      exact hp hl
    · rw [List.getElem?_set_ne hij] at hj
      exact R.pin j t hj hl
theorem set_none_at {i : Nat} (h : i < L.length) : (L.set i none)[i]? = some none := by rw [List.getElem?_set_self h]
theorem set_set {α : Type} (l : List α) (i : Nat) (x y : α) : (l.set i x).set i y = l.set i y := by simp
/-- a temp is stored in a slot -/
theorem Rel.store {i : Nat} {s : Sl} (R : Rel K Z σ H L (s.tm K :: M)) (hi : i < L.length) (hz : ∀ a ∈ s.ns, Z a) (hp : s.l < 10) : Rel K Z (σ.set i (some s.v)) H (L.set i (some s)) M := by
  have h := (R.drop (i := i)).put0 (σ' := σ.set i (some s.v)) (i := i) (s := s) (set_none_at hi) (by rw [List.getElem?_set_self (by rw [← R.len]; exact hi)]) (by simp) (fun j hj => by rw [List.getElem?_set_ne (Ne.symm hj)]) hz (fun q => absurd q (by omega))
  rw [set_set] at h
  exact h
theorem Rel.splitA {s : Sl} {As : List Sl} (R : Rel K Z σ H L (tmA K (s :: As) :: M)) : Rel K Z σ H L (s.tm K :: tmA K As :: M) where
  len := R.len
  slot := R.slot
  tms := fun m hm => by
    obtain ⟨h1, _, h3⟩ := R.tms _ (List.mem_cons_self ..)
    rcases List.mem_cons.mp hm with rfl | hm
    · exact ⟨h1 s (List.mem_cons_self ..), s.stab _, fun a ha => h3 a (by show 0 < (s.own a + oL As a) + (s.rst a + rL As a); have ha : 0 < s.own a + s.rst a := ha; omega)⟩
    · rcases List.mem_cons.mp hm with rfl | hm
      · exact ⟨fun t ht => h1 t (List.mem_cons_of_mem _ ht), tmA_stab _, fun a ha => h3 a (by show 0 < (s.own a + oL As a) + (s.rst a + rL As a); have ha : 0 < oL As a + rL As a := ha; omega)⟩
      · exact R.tms m (List.mem_cons_of_mem _ hm)
  sep := fun a => by
    have := R.sep a
    have e1 : oM (tmA K (s :: As) :: M) a = (s.own a + oL As a) + oM M a := rfl
    have e2 : rM (tmA K (s :: As) :: M) a = (s.rst a + rL As a) + rM M a := rfl
    have e3 : oM (s.tm K :: tmA K As :: M) a = s.own a + (oL As a + oM M a) := rfl
    have e4 : rM (s.tm K :: tmA K As :: M) a = s.rst a + (rL As a + rM M a) := rfl
    rw [e1, e2] at this
    rw [e3, e4]
    omega
  wr := fun a ha => R.wr a (by
    have e1 : oM (tmA K (s :: As) :: M) a = (s.own a + oL As a) + oM M a := rfl
    have e3 : oM (s.tm K :: tmA K As :: M) a = s.own a + (oL As a + oM M a) := rfl
    rw [e3] at ha
    rw [e1]
    omega)
  zf := R.zf
  pin := R.pin
theorem Rel.joinA {s : Sl} {As : List Sl} (R : Rel K Z σ H L (s.tm K :: tmA K As :: M)) : Rel K Z σ H L (tmA K (s :: As) :: M) where
  len := R.len
  slot := R.slot
  tms := fun m hm => by
    rcases List.mem_cons.mp hm with rfl | hm
    · obtain ⟨h1, _, h3⟩ := R.tms (s.tm K) (List.mem_cons_self ..)
      obtain ⟨g1, _, g3⟩ := R.tms (tmA K As) (List.mem_cons_of_mem _ (List.mem_cons_self ..))
      refine ⟨fun t ht => ?_, tmA_stab _, fun a ha => ?_⟩
      · rcases List.mem_cons.mp ht with rfl | ht
        · exact h1
        · exact g1 t ht
      · have ha : 0 < (s.own a + oL As a) + (s.rst a + rL As a) := ha
        by_cases c : 0 < s.own a + s.rst a
        · exact h3 a c
        · exact g3 a (by show 0 < oL As a + rL As a; omega)
    · exact R.tms m (List.mem_cons_of_mem _ (List.mem_cons_of_mem _ hm))
  sep := fun a => by
    have := R.sep a
    have e1 : oM (tmA K (s :: As) :: M) a = (s.own a + oL As a) + oM M a := rfl
    have e2 : rM (tmA K (s :: As) :: M) a = (s.rst a + rL As a) + rM M a := rfl
    have e3 : oM (s.tm K :: tmA K As :: M) a = s.own a + (oL As a + oM M a) := rfl
    have e4 : rM (s.tm K :: tmA K As :: M) a = s.rst a + (rL As a + rM M a) := rfl
    rw [e3, e4] at this
    rw [e1, e2]
    omega
  wr := fun a ha => R.wr a (by
    have e1 : oM (tmA K (s :: As) :: M) a = (s.own a + oL As a) + oM M a := rfl
    have e3 : oM (s.tm K :: tmA K As :: M) a = s.own a + (oL As a + oM M a) := rfl
    rw [e1] at ha
    rw [e3]
    omega)
  zf := R.zf
  pin := R.pin
/-- arguments in another order -/
theorem oL_perm {As Bs : List Sl} (h : As.Perm Bs) (a : Addr) : oL As a = oL Bs a ∧ rL As a = rL Bs a := by
  induction h with
  | nil => exact ⟨rfl, rfl⟩
  | cons x _ ih => simp only [oL, rL]; omega
  | swap x y l => simp only [oL, rL]; omega
  | trans _ _ i1 i2 => omega
theorem ArgsOk.perm {As Bs : List Sl} (h : As.Perm Bs) (k : ArgsOk K H As) : ArgsOk K H Bs :=
  ⟨fun s hs => k.rd s (h.mem_iff.mpr hs), fun a => by have := k.sep a; have := oL_perm h a; omega, fun a ha => k.wr a (by have := oL_perm h a; omega)⟩
/-- behind a call that took the arguments As: the things Bs have come, all else stands -/
theorem Rel.callA {As Bs : List Sl} (R : Rel K Z σ H L (tmA K As :: M)) (fr : Fram As H H') (ok : ArgsOk K H' Bs) (fm : From As H Bs) : Rel K Z σ H' L (tmA K Bs :: M) := by
  have e : ∀ a, oM (tmA K As :: M) a = oL As a + oM M a := fun _ => rfl
  have e' : ∀ a, rM (tmA K As :: M) a = rL As a + rM M a := fun _ => rfl
  have f : ∀ a, oM (tmA K Bs :: M) a = oL Bs a + oM M a := fun _ => rfl
  have f' : ∀ a, rM (tmA K Bs :: M) a = rL Bs a + rM M a := fun _ => rfl
  have sp : ∀ a, oS L a + (oL As a + oM M a) ≤ 1 ∧ (0 < oS L a + (oL As a + oM M a) → rS L a + (rL As a + rM M a) = 0) := fun a => by have := R.sep a; rwa [e, e'] at this
  have tk : TupK H H' := fun a o h n => fr.1 a o h (Nat.eq_zero_of_not_pos fun q => by
    have := R.wr a (by rw [e]; omega)
    rw [h] at this
    exact n this)
  have st : ∀ a, H a ≠ none → oL As a = 0 → H' a = H a := fun a h q => by
    cases c : H a with
    | none => exact absurd c h
    | some o => exact fr.1 a o c q
  have free : ∀ a, H a = none → oS L a = 0 ∧ rS L a = 0 ∧ oM M a = 0 ∧ rM M a = 0 := fun a h => by
    have := R.free h
    rw [e, e'] at this
    omega
  refine ⟨R.len, fun i s h => ?_, fun m hm => ?_, fun a => ?_, fun a ha => ?_, fun a ha => R.zf a (fr.2 a ha), R.pin⟩
  · obtain ⟨h1, h2, h3⟩ := R.slot i s h
    refine ⟨h1, Rd.at tk _ _ _ h2 fun a ha => st a (h2.dom _ _ _ a ha) ?_, h3⟩
    have g := (s.mem a).mpr ha
    have := oS_get a h
    have := rS_get a h
    have := sp a
    omega
  · rcases List.mem_cons.mp hm with rfl | hm
    · exact ⟨ok.rd, tmA_stab _, fun a ha => by
        obtain ⟨s, h1, h2⟩ := oL_pos (As := Bs) (a := a) ha
        exact (ok.rd s h1).dom _ _ _ a h2⟩
    · obtain ⟨h1, h2, h3⟩ := R.tms m (List.mem_cons_of_mem _ hm)
      have k : ∀ a, 0 < m.own a + m.rst a → H' a = H a := fun a ha => st a (h3 a ha) (by
        have := oM_mem a hm
        have := sp a
        omega)
      exact ⟨h2 H H' h1 tk k, h2, fun a ha => by rw [k a ha]; exact h3 a ha⟩
  · rw [f, f']
    have q1 := sp a
    have q2 := ok.sep a
    have q3 := fm a
    by_cases c : 0 < oL Bs a
    · rcases q3.1 c with z | z
      · have := free a z; omega
      · omega
    · by_cases c' : 0 < rL Bs a
      · rcases q3.2 (by omega) with z | z
        · have := free a z; omega
        · omega
      · omega
  · rw [f] at ha
    by_cases c : 0 < oL Bs a
    · exact ok.wr a c
    · have w := R.wr a (by rw [e]; omega)
      have hn : H a ≠ none := fun z => by rw [z] at w; exact w
      have : oL As a = 0 := by have := sp a; omega
      rw [st a hn this]
      exact w
theorem From.zone {As Bs : List Sl} (R : Rel K Z σ H L M) (hz : ∀ t ∈ As, ∀ a ∈ t.ns, Z a) (fm : From As H Bs) : ∀ t ∈ Bs, ∀ a ∈ t.ns, Z a := fun t ht a ha => by
  have h1 := oL_mem a ht
  have h2 := (t.mem a).mpr ha
  rcases (fm a).2 (by omega) with q | q
  · exact Z.sub a (R.zf a q)
  · obtain ⟨u, g1, g2⟩ := oL_pos q
    exact hz u g1 a g2
end
def wx (X : Cx) (W : WW) : WX := fun cls d σ H => ∃ c, cls = xc X.mg c ∧ d = none ∧ W c σ H
def pCall (F : List LD → FR) (fs : List PF) : PF := fun Γ => match evP fs Γ with
  | .ok xs => (match F xs with
    | .ret x _ => .ok x
    | .exc c _ => .exc c
    | .bad => .bad)
  | .exc c => .exc c
  | .bad => .bad
section
variable {X : Cx} {W : WW} {A : List Nat}
theorem p_call {f : Addr} {fd : FuncData} {ps : List Str} {k n : Nat} {F : List LD → FR} {x : Str} {p pos : Pos} {e : Expr} {es : List Expr} {fs : List PF} (tk : Takes X (wx X W)) (G : FnOk X.prog X.w X.K X.mg X.base (L2.CX X.prog X.w) k f fd ps (spF X.K X.mg n [] F)) (hr : Room k X.A)
    (hg : Gl X x) (hm : X.mg x = some (.ref f)) (hk : PySem.W.keepIn X.K (.ref f) = true) (hb : Binds X.K fd ps []) (hn : fs.length = n) (h : PArgL X W A (e :: es) fs)
    (hdb : (x == ("__debug__" : Str)) = false := by decide) (he : starEach (e :: es) X.env = (false, eval e X.env) :: starEach es X.env := by rfl) (hpl : (backTo pos (starEach es X.env)).any (·.1) = false := by rfl) :
    DP X W A (.Call (.Name x p) (e :: es) [] pos) (pCall F fs) := by
  obtain ⟨gs, rfl, e2, e3⟩ := h.pa
  refine PE.imp (pe_callS G hr hg hm hk hb (fun σ => passAt tk σ) e3 hdb he hpl) fun σ H Q ⟨Z, L, M, R, q⟩ => ?_
  refine tAl_args (r := fun vs H Q => spF X.K X.mg n [] F vs H Q (WE (wx X W) σ)) _ _ (fun _ _ h => h) (monoP gs) ?_
  refine parts (A := A) (r := fun vs H Q => spF X.K X.mg n [] F vs H Q (WE (wx X W) σ)) (fun _ _ _ z => z) gs [] H e2 R (PArgs.nil R) ?_
  unfold pCall at q
  cases ev : evP (gs.map (·.2)) (er L) with
  | bad => rw [ev] at q; exact q
  | exc c => rw [ev] at q; exact q
  | ok xs =>
    rw [ev] at q
    intro Bs H1 e1 p1
    simp only [List.nil_append] at p1 ⊢
    have hlen : Bs.length = n := by
      have h1 : xs.length = (gs.map (·.2)).length := by
        have gen : ∀ (fs : List PF) (ys : List LD), evP fs (er L) = .ok ys → ys.length = fs.length := by
          intro fs
          induction fs with
          | nil => intro ys h; cases h; rfl
          | cons f fs ih =>
            intro ys h
            unfold evP at h
            split at h
            · split at h
              · cases h
                rename_i hh
                simp [ih _ hh]
              · cases h
              · cases h
            · cases h
            · cases h
        exact gen _ _ ev
      rw [← e1, List.length_map] at h1
      rw [h1]; exact hn
    have sm : ∀ {H'}, Fram Bs H1 H' → Same H H' := fun {H'} fr a o ho => fr.1 a o (p1.same a o ho) (Nat.eq_zero_of_not_pos fun z => by
      have := p1.own a z
      rw [ho] at this
      cases this)
    refine ⟨Bs, rfl, hlen, p1.ok, ?_⟩
    rw [e1]
    dsimp only at q
    cases ef : F xs with
    | bad => rw [ef] at q; exact q
    | exc c fin =>
      rw [ef] at q
      exact fun Fs H' _ _ fr _ _ => ⟨c, rfl, rfl, q H' (sm fr)⟩
    | ret x fin =>
      obtain ⟨l, d⟩ := x
      rw [ef] at q
      intro v ns Fs H' _ _ fr ok fm
      refine q v ns H' (p1.res R (sm fr) (ok.rd _ (List.mem_cons_self ..)) fun a => ?_)
      have h1 := ok.sep a
      have h2 := fm a
      have h3 := ok.wr a
      simp only [oL, rL] at h1 h2 h3
      refine ⟨by omega, fun z => ⟨by omega, h3 (by omega), h2.1 (by omega)⟩, fun z => h2.2 (by omega)⟩
end
abbrev AE := Sum Nat EF
/-- arguments from the left: a slot's stays where it is -/
def evA : List AE → Env → R (List LD)
  | [], Γ => .ok [] Γ
  | .inl i :: as, Γ => (match Γ[i]? with
    | some (some _) => evA as Γ
    | _ => .bad)
  | .inr f :: as, Γ => match f Γ with
    | .ok x Γ1 => (match evA as Γ1 with
      | .ok xs Γ2 => .ok (x :: xs) Γ2
      | .exc c Γ2 => .exc c Γ2
      | .bad => .bad)
    | .exc c Γ1 => .exc c Γ1
    | .bad => .bad
/-- then the slots' contents are taken -/
def tkA : List AE → List LD → Env → Option (List LD × List (Nat × Nat) × Env)
  | [], _, Γ => some ([], [], Γ)
  | .inl i :: as, xs, Γ => (match Γ[i]? with
    | some (some (l, d)) => (tkA as xs (Γ.set i none)).map fun r => ((l % 10, d) :: r.1, (i, l - l % 10) :: r.2.1, r.2.2)
    | _ => none)
  | .inr _ :: as, x :: xs, Γ => (tkA as xs Γ).map fun r => (x :: r.1, r.2)
  | .inr _ :: _, [], _ => none
/-- .. and laid back: a parameter of ours stays ours -/
def ptA : List (Nat × Nat) → List LD → Env → Env
  | (i, p) :: is, (l, d) :: xs, Γ => ptA is xs (Γ.set i (some (l % 10 + p, d)))
  | _, _, Γ => Γ
def mkA : List AE → List Bool
  | [] => []
  | .inl _ :: as => true :: mkA as
  | .inr _ :: as => false :: mkA as
def eCallR (F : List LD → FR) (as : List AE) (xs : List LD) (Γ : Env) : R LD := match tkA as xs Γ with
  | some (ys, ps, Γ1) => (match F ys with
    | .ret x fin => if fin.length = ps.length then .ok x (ptA ps fin Γ1) else .bad
    | .exc c fin => if fin.length = ps.length then .exc c (ptA ps fin Γ1) else .bad
    | .bad => .bad)
  | none => .bad
def eCall (F : List LD → FR) (as : List AE) : EF := fun Γ => match evA as Γ with
  | .ok xs Γ' => eCallR F as xs Γ'
  | .exc c Γ' => .exc c Γ'
  | .bad => .bad
def teA (K : PySem.W.Frag) (W : WW) : AE → TE
  | .inl i => tVar i
  | .inr f => tDE K W f
def vfit (σ : L2.St) : List AE → List Sl → List V → Prop
  | [], [], [] => True
  | .inl i :: as, Bs, v :: vs => σ[i]? = some (some v) ∧ vfit σ as Bs vs
  | .inr _ :: as, b :: Bs, v :: vs => v = b.v ∧ vfit σ as Bs vs
  | _, _, _ => False
section
variable {K : PySem.W.Frag} {Z : Zone} {σ : L2.St} {M : List Tm} {W : WW}
theorem aparts {r : List V → Hp → VK → Prop} {Q : VK} : ∀ (as : List AE) (As : List Sl) (vs0 : List V) (H : Hp) (L : List (Option Sl)), Rel K Z σ H L (tmA K As :: M) → (∀ t ∈ As, ∀ a ∈ t.ns, Z a) →
    (match evA as (er L) with
      | .ok xs Γ' => ∀ Bs vs H' L', er L' = Γ' → Bs.map Sl.ld = xs → Rel K Z σ H' L' (tmA K (As ++ Bs) :: M) → (∀ t ∈ As ++ Bs, ∀ a ∈ t.ns, Z a) → vfit σ as Bs vs → r (vs0 ++ vs) H' Q
      | .exc c Γ' => ∀ H' L', er L' = Γ' → Rel K Z σ H' L' M → W c σ H'
      | .bad => False) →
    tArgs (as.map (teA K W)) (fun xs => r (vs0 ++ xs)) σ H Q
  | [], As, vs0, H, L, R, hz, h => h [] [] H L rfl rfl (by rw [List.append_nil]; exact R) (by rw [List.append_nil]; exact hz) trivial
  | .inl i :: as, As, vs0, H, L, R, hz, h => by
    simp only [evA] at h
    cases el : (er L)[i]? with
    | none => simp only [el] at h
    | some o =>
      cases o with
      | none => simp only [el] at h
      | some x =>
        simp only [el] at h
        obtain ⟨s, h1, _, _⟩ := er_some (l := x.1) (d := x.2) el
        have hs := (R.slot i s h1).1
        refine ⟨s.v, hs, ?_⟩
        have hv : (fun xs => r (vs0 ++ s.v :: xs)) = fun xs => r ((vs0 ++ [s.v]) ++ xs) := by
          funext xs
          simp
        show tArgs (as.map (teA K W)) (fun xs => r (vs0 ++ s.v :: xs)) σ H Q
        rw [hv]
        refine aparts as As _ H L R hz ?_
        cases ev : evA as (er L) with
        | bad => simp only [ev] at h
        | exc c Γ2 => simp only [ev] at h; exact h
        | ok xs Γ2 =>
          simp only [ev] at h
          intro Bs vs H' L' e1 e2 R' z' vf
          have := h Bs (s.v :: vs) H' L' e1 e2 R' z' ⟨hs, vf⟩
          simpa using this
  | .inr f :: as, As, vs0, H, L, R, hz, h => by
    refine ⟨Z, L, _, R, ?_⟩
    simp only [evA] at h
    cases ef : f (er L) with
    | bad => simp only [ef] at h
    | exc c Γ1 =>
      simp only [ef] at h
      exact fun H' L' e R' => h H' L' e R'.pop
    | ok x Γ1 =>
      obtain ⟨l, d⟩ := x
      simp only [ef] at h
      intro v ns H1 L1 e1 R1 z1
      have R2 := R1.argsC
      have hv : (fun xs => r (vs0 ++ v :: xs)) = fun xs => r ((vs0 ++ [v]) ++ xs) := by
        funext xs
        simp
      show tArgs (as.map (teA K W)) (fun xs => r (vs0 ++ v :: xs)) σ H1 Q
      rw [hv]
      refine aparts as _ _ H1 L1 R2 (fun t ht => ?_) ?_
      · rcases List.mem_append.mp ht with ht | ht
        · exact hz t ht
        · rw [List.mem_singleton.mp ht]; exact z1
      rw [e1]
      cases ev : evA as Γ1 with
      | bad => simp only [ev] at h
      | exc c Γ2 => simp only [ev] at h; exact h
      | ok xs Γ2 =>
        simp only [ev] at h
        intro Bs vs H2 L2 e2 eB R3 z3 vf
        have := h (⟨l, d, v, ns⟩ :: Bs) (v :: vs) H2 L2 e2 (by simp [Sl.ld, eB]) (by simpa using R3) (by simpa using z3) ⟨rfl, vf⟩
        simpa using this
theorem Rel.permA {H : Hp} {L : List (Option Sl)} {As Bs : List Sl} (h : As.Perm Bs) (R : Rel K Z σ H L (tmA K As :: M)) : Rel K Z σ H L (tmA K Bs :: M) := by
  have e1 : oL As = oL Bs := funext fun a => (oL_perm h a).1
  have e2 : rL As = rL Bs := funext fun a => (oL_perm h a).2
  have e3 : (fun H => ∀ s ∈ As, Rd K H s.v s.d s.ns) = fun H => ∀ s ∈ Bs, Rd K H s.v s.d s.ns := funext fun H => propext ⟨fun q s hs => q s (h.mem_iff.mpr hs), fun q s hs => q s (h.mem_iff.mp hs)⟩
  have e : tmA K As = tmA K Bs := by unfold tmA; rw [e1, e2, e3]
  rw [← e]; exact R
/-- the slots' contents are taken: their values, which of them are parameters that are kept -/
theorem take_all {H : Hp} : ∀ (as : List AE) (Bs : List Sl) (vs : List V) (L : List (Option Sl)) (Es : List Sl) (ys : List LD) (ps : List (Nat × Nat)) (Γ1 : Env), vfit σ as Bs vs → Rel K Z σ H L (tmA K (Es ++ Bs) :: M) → (∀ t ∈ Es ++ Bs, ∀ a ∈ t.ns, Z a) →
    tkA as (Bs.map Sl.ld) (er L) = some (ys, ps, Γ1) → ∃ (Cs : List Sl) (L1 : List (Option Sl)), er L1 = Γ1 ∧ Cs.map Sl.ld = ys ∧ Cs.map Sl.v = vs ∧ Rel K Z σ H L1 (tmA K (Es ++ Cs) :: M) ∧ (∀ t ∈ Es ++ Cs, ∀ a ∈ t.ns, Z a) ∧ Cs.length = as.length ∧
      (ps.map (·.1)).Nodup ∧ (∀ j : Nat, L[j]? = some none → L1[j]? = some none) ∧ (∀ p ∈ ps, (∃ s : Sl, L[p.1]? = some (some s)) ∧ L1[p.1]? = some none) ∧ Paired (fun (p : Nat × Nat) v => σ[p.1]? = some (some v) ∧ (10 ≤ p.2 → v = Z.pv p.1) ∧ p.2 % 10 = 0) ps (msk (mkA as) vs)
  | [], [], [], L, Es, ys, ps, Γ1, _, R, hz, h => by
    simp only [tkA, List.map_nil, Option.some.injEq, Prod.mk.injEq] at h
    obtain ⟨rfl, rfl, rfl⟩ := h
    exact ⟨[], L, rfl, rfl, rfl, R, hz, rfl, List.nodup_nil, fun _ h => h, (fun _ h => nomatch h), .nil⟩
  | [], [], _ :: _, _, _, _, _, _, vf, _, _, _ => by simp [vfit] at vf
  | [], _ :: _, _, _, _, _, _, _, vf, _, _, _ => by simp [vfit] at vf
  | .inl i :: as, Bs, [], _, _, _, _, _, vf, _, _, _ => by cases Bs <;> simp [vfit] at vf
  | .inr _ :: _, [], _, _, _, _, _, _, vf, _, _, _ => by simp [vfit] at vf
  | .inr _ :: _, _ :: _, [], _, _, _, _, _, vf, _, _, _ => by simp [vfit] at vf
  | .inr f :: as, b :: Bs, v :: vs, L, Es, ys, ps, Γ1, vf, R, hz, h => by
    obtain ⟨hv, vf⟩ := vf
    subst hv
    simp only [tkA, List.map_cons] at h
    obtain ⟨r, hr, e⟩ := Option.map_eq_some_iff.mp h
    obtain ⟨ys', ps', Γ'⟩ := r
    simp only [Prod.mk.injEq] at e
    obtain ⟨rfl, rfl, rfl⟩ := e
    have hb : Es ++ b :: Bs = (Es ++ [b]) ++ Bs := by simp
    rw [hb] at R hz
    obtain ⟨Cs, L1, q1, q2, q3, q4, q5, q6, q7, q8, q9, q10⟩ := take_all as Bs vs L (Es ++ [b]) ys' ps' Γ' vf R hz hr
    have hc : Es ++ b :: Cs = (Es ++ [b]) ++ Cs := by simp
    exact ⟨b :: Cs, L1, q1, by simp [q2], by simp [q3], by rw [hc]; exact q4, by rw [hc]; exact q5, by simp [q6], q7, q8, q9, q10⟩
  | .inl i :: as, Bs, v :: vs, L, Es, ys, ps, Γ1, vf, R, hz, h => by
    have vf' : σ[i]? = some (some v) ∧ vfit σ as Bs vs := by cases Bs <;> exact vf
    obtain ⟨hv, vf⟩ := vf'
    simp only [tkA] at h
    cases el : (er L)[i]? with
    | none => simp only [el] at h; cases h
    | some o =>
      cases o with
      | none => simp only [el] at h; cases h
      | some x =>
        obtain ⟨l, d⟩ := x
        simp only [el] at h
        obtain ⟨r, hr, e⟩ := Option.map_eq_some_iff.mp h
        obtain ⟨ys', ps', Γ'⟩ := r
        simp only [Prod.mk.injEq] at e
        obtain ⟨rfl, rfl, rfl⟩ := e
        obtain ⟨s, h1, e1, e2⟩ := er_some el
        subst e1 e2
        have hsv : s.v = v := by
          have := (R.slot i s h1).1
          rw [hv] at this
          exact (Option.some.inj (Option.some.inj this)).symm
        have R1 := (R.take h1).joinA
        have hp : (s.un :: (Es ++ Bs)).Perm ((Es ++ [s.un]) ++ Bs) := by
          rw [List.append_assoc]
          exact (List.perm_middle (l₁ := Es) (l₂ := Bs) (a := s.un)).symm
        have R2 := R1.permA hp
        have z2 : ∀ t ∈ (Es ++ [s.un]) ++ Bs, ∀ a ∈ t.ns, Z a := fun t ht => by
          rcases List.mem_cons.mp (hp.mem_iff.mpr ht) with rfl | ht
          · exact (R.slot i s h1).2.2
          · exact hz t ht
        have e0 : er (L.set i none) = (er L).set i none := by rw [er_set]; rfl
        rw [← e0] at hr
        obtain ⟨Cs, L1, q1, q2, q3, q4, q5, q6, q7, q8, q9, q10⟩ := take_all as Bs vs (L.set i none) (Es ++ [s.un]) ys' ps' Γ' vf R2 z2 hr
        have hc : Es ++ s.un :: Cs = (Es ++ [s.un]) ++ Cs := by simp
        have hil := (List.getElem?_eq_some_iff.mp h1).1
        have hin : (L.set i none)[i]? = some none := by rw [List.getElem?_set_self hil]
        have hni : ∀ p ∈ ps', p.1 ≠ i := fun p hp e => by
          obtain ⟨⟨t, ht⟩, _⟩ := q9 p hp
          rw [e, hin] at ht
          cases ht
        refine ⟨s.un :: Cs, L1, q1, by simp [q2, Sl.un, Sl.ld], by simp [q3, Sl.un, hsv], by rw [hc]; exact q4, by rw [hc]; exact q5, by simp [q6], ?_, fun j hj => q8 j ?_, fun p hp => ?_, ?_⟩
        · rw [List.map_cons, List.nodup_cons]
          exact ⟨fun hm => by
            obtain ⟨p, hp, e⟩ := List.mem_map.mp hm
            exact hni p hp e, q7⟩
        · by_cases hij : i = j
          · subst hij; exact hin
          · rw [List.getElem?_set_ne hij]; exact hj
        · rcases List.mem_cons.mp hp with rfl | hp
          · exact ⟨⟨s, h1⟩, q8 i hin⟩
          · obtain ⟨⟨t, ht⟩, g⟩ := q9 p hp
            rw [List.getElem?_set_ne (Ne.symm (hni p hp))] at ht
            exact ⟨⟨t, ht⟩, g⟩
        · refine .cons ⟨hv, fun hl => ?_, ?_⟩ q10
          · rw [← hsv]
            exact R.pin i s h1 (by dsimp only at hl; omega)
          · dsimp only; omega
theorem tm_lvl {s t : Sl} (h1 : s.l % 10 = t.l % 10) (h2 : s.d = t.d) (h3 : s.v = t.v) (h4 : s.ns = t.ns) : s.tm K = t.tm K := by
  obtain ⟨l, d, v, ns⟩ := s
  obtain ⟨l', d', v', ns'⟩ := t
  dsimp only at *
  subst h2 h3 h4
  have e1 : (Sl.mk l d v ns).own = (Sl.mk l' d v ns).own := funext fun a => by unfold Sl.own ownL; dsimp only; rw [h1]
  have e2 : (Sl.mk l d v ns).rst = (Sl.mk l' d v ns).rst := funext fun a => by unfold Sl.rst rstL; dsimp only; rw [h1]
  unfold Sl.tm
  rw [e1, e2]
/-- .. and are laid back -/
theorem put_all {H : Hp} : ∀ (ps : List (Nat × Nat)) (Fs : List Sl) (L : List (Option Sl)) (vs : List V), Rel K Z σ H L (tmA K Fs :: M) → (∀ t ∈ Fs, ∀ a ∈ t.ns, Z a) → (ps.map (·.1)).Nodup → (∀ p ∈ ps, L[p.1]? = some none) →
    Paired (fun (p : Nat × Nat) v => σ[p.1]? = some (some v) ∧ (10 ≤ p.2 → v = Z.pv p.1) ∧ p.2 % 10 = 0) ps vs → Fs.map Sl.v = vs → ∃ L', er L' = ptA ps (Fs.map Sl.ld) (er L) ∧ Rel K Z σ H L' M
  | [], _, L, _, R, _, _, _, _, _ => ⟨L, rfl, R.pop⟩
  | _ :: _, [], _, _, _, _, _, _, .cons _ _, e => nomatch e
  | (i, p) :: ps, s :: Fs, L, _, R, hz, nd, hn, .cons (b := v) ⟨h1, h2, h3⟩ pr, e => by
    rw [List.map_cons, List.cons.injEq] at e
    obtain ⟨e1, e2⟩ := e
    have R1 := R.splitA
    have et : s.tm K = (Sl.mk (s.l % 10 + p) s.d s.v s.ns).tm K := tm_lvl (by dsimp only at h3 ⊢; omega) rfl rfl rfl
    rw [et] at R1
    have R2 := R1.swap
    have R1' := R1
    have hi : L[i]? = some none := hn _ (List.mem_cons_self ..)
    have R3 := Rel.put0 (σ' := σ) (i := i) R1 hi (by rw [← e1] at h1; exact h1) rfl (fun _ _ => rfl) (hz s (List.mem_cons_self ..)) (fun hl => by
      show s.v = Z.pv i
      rw [e1]
      exact h2 (by dsimp only at h3 hl ⊢; omega))
    rw [List.map_cons, List.nodup_cons] at nd
    obtain ⟨L', q1, q2⟩ := put_all ps Fs _ _ R3 (fun t ht => hz t (List.mem_cons_of_mem _ ht)) nd.2 (fun q hq => by
      have hne : i ≠ q.1 := fun z => nd.1 (List.mem_map.mpr ⟨q, hq, z.symm⟩)
      rw [List.getElem?_set_ne hne]
      exact hn q (List.mem_cons_of_mem _ hq)) pr e2
    refine ⟨L', ?_, q2⟩
    rw [q1, er_set]
    rfl
end
/-- what a call that hands slots back asks of its reading -/
theorem call_core {K : PySem.W.Frag} {mg : Str → Option Value} {W : WW} {n : Nat} {io : List Bool} {F : List LD → FR} {as : List AE} {σ : L2.St} {H : Hp} {Q : VK} {r : List V → Hp → VK → Prop} {E : XK} (hr : ∀ vs H Q, spF K mg n io F vs H Q E → r vs H Q) (hE : ∀ c H', W c σ H' → E (xc mg c) none H')
    (hio : io = mkA as) (hn : as.length = n) (h : tDE K W (eCall F as) σ H Q) : tArgs (as.map (teA K W)) r σ H Q := by
  obtain ⟨Z, L, M, R, q⟩ := h
  refine aparts (r := r) (M := M) as [] [] H L R.args0 (fun _ h => (nomatch h)) ?_
  unfold eCall at q
  cases ev : evA as (er L) with
  | bad => rw [ev] at q; exact q
  | exc c Γ' => rw [ev] at q; exact q
  | ok xs Γ' =>
    rw [ev] at q
    intro Bs vs H1 L1 e1 eB R1 z1 vf
    simp only [List.nil_append] at R1 z1 ⊢
    dsimp only at q
    unfold eCallR at q
    cases et : tkA as xs Γ' with
    | none => rw [et] at q; exact q.elim
    | some r0 =>
      obtain ⟨ys, ps, Γ1⟩ := r0
      rw [et] at q
      dsimp only at q
      obtain ⟨Cs, L2', q1, q2, q3, q4, q5, q6, q7, q8, q9, q10⟩ := take_all as Bs vs L1 [] ys ps Γ1 vf (by simpa using R1) (by simpa using z1) (by rw [eB, e1]; exact et)
      simp only [List.nil_append] at q4 q5
      refine hr vs H1 Q ⟨Cs, q3.symm, by rw [q6, hn], q4.argsOk, ?_⟩
      rw [q2]
      have plen : ∀ {Fs : List Sl}, Fs.map Sl.v = msk io (Cs.map Sl.v) → Paired (fun (p : Nat × Nat) v => σ[p.1]? = some (some v) ∧ (10 ≤ p.2 → v = Z.pv p.1) ∧ p.2 % 10 = 0) ps (Fs.map Sl.v) := fun {Fs} e => by rw [e, hio, q3]; exact q10
      cases ef : F ys with
      | bad => rw [ef] at q; exact q
      | exc c fin =>
        rw [ef] at q
        dsimp only at q ⊢
        intro Fs H' eF eV fr ok fm
        by_cases hl : fin.length = ps.length
        · rw [if_pos hl] at q
          have R5 := q4.callA fr ok fm
          have z5 := From.zone q4 q5 fm
          obtain ⟨L', g1, g2⟩ := put_all ps Fs L2' _ R5 z5 q7 (fun p hp => (q9 p hp).2) (plen eV) rfl
          exact hE c H' (q H' L' (by rw [g1, eF, q1]) g2)
        · rw [if_neg hl] at q; exact q.elim
      | ret x fin =>
        obtain ⟨l, d⟩ := x
        rw [ef] at q
        dsimp only at q ⊢
        intro v ns Fs H' eF eV fr ok fm
        by_cases hl : fin.length = ps.length
        · rw [if_pos hl] at q
          have R5 := ((q4.callA fr ok fm).splitA).swap
          have z5 := From.zone q4 q5 fm
          obtain ⟨L', g1, g2⟩ := put_all ps Fs L2' _ R5 (fun t ht => z5 t (List.mem_cons_of_mem _ ht)) q7 (fun p hp => (q9 p hp).2) (plen eV) rfl
          exact q v ns H' L' (by rw [g1, eF, q1]) g2 (z5 _ (List.mem_cons_self ..))
        · rw [if_neg hl] at q; exact q.elim
/-- arguments of a written list, slots among them -/
inductive AArgL (X : Cx) (W : WW) : List Expr → List AE → Prop
  | nil : AArgL X W [] []
  | slot {e : Expr} {es : List Expr} {i : Nat} {as : List AE} : PE X e (tVar i) → AArgL X W es as → starEach (e :: es) X.env = (false, eval e X.env) :: starEach es X.env → AArgL X W (e :: es) (.inl i :: as)
  | ex {e : Expr} {es : List Expr} {f : EF} {as : List AE} : DE X W e f → AArgL X W es as → starEach (e :: es) X.env = (false, eval e X.env) :: starEach es X.env → AArgL X W (e :: es) (.inr f :: as)
section
variable {X : Cx} {W : WW}
theorem AArgL.pa {es : List Expr} {as : List AE} (h : AArgL X W es as) : PA X es (tAl (as.map (teA X.K W))) := by
  induction h with
  | nil => exact pa_nil
  | slot h _ hs ih => exact pa_cons h ih hs
  | ex h _ hs ih => exact pa_cons h ih hs
theorem monoA (as : List AE) : ∀ t ∈ as.map (teA X.K W), ∀ σ H Q Q', (∀ v H', Q v H' → Q' v H') → t σ H Q → t σ H Q' := fun t ht σ H Q Q' i h => by
  obtain ⟨p, _, rfl⟩ := List.mem_map.mp ht
  cases p with
  | inl j =>
    obtain ⟨v, e, q⟩ := h
    exact ⟨v, e, i v H q⟩
  | inr f => exact tDE_mono h i
end
end DL
namespace DL
open L2 PySem PySem.Spec PyProof.Rows
/-- what a statement gives -/
inductive O where
  | nx (Γ : Env)
  | rt (x : LD) (Γ : Env)
  | bk (Γ : Env)
  | ct (Γ : Env)
  | exc (c : String) (Γ : Env)
  | bad
abbrev SF := Env → O
/-- what is wanted of what a statement gives -/
def oW (K : PySem.W.Frag) (W : WW) (Z : Zone) (M : List Tm) (D : Ends) : O → Prop
  | .nx Γ' => ∀ σ' H' L', er L' = Γ' → Rel K Z σ' H' L' M → D.nx σ' H'
  | .rt (l, d) Γ' => ∀ v ns σ' H' L', er L' = Γ' → Rel K Z σ' H' L' (Sl.tm K ⟨l, d, v, ns⟩ :: M) → (∀ a ∈ ns, Z a) → D.rt v H'
  | .bk Γ' => ∀ σ' H' L', er L' = Γ' → Rel K Z σ' H' L' M → D.bk σ' H'
  | .ct Γ' => ∀ σ' H' L', er L' = Γ' → Rel K Z σ' H' L' M → D.ct σ' H'
  | .exc c Γ' => ∀ σ' H' L', er L' = Γ' → Rel K Z σ' H' L' M → W c σ' H'
  | .bad => False
def tDS (K : PySem.W.Frag) (W : WW) (f : SF) : TS := fun D σ H => ∃ Z L M, Rel K Z σ H L M ∧ oW K W Z M D (f (er L))
def DS (X : Cx) (W : WW) (st : Stmt) (f : SF) : Prop := PS X st (tDS X.K W f)
def DSs (X : Cx) (W : WW) (st : List Stmt) (f : SF) : Prop := PSs X st (tDS X.K W f)
def sSeq (f g : SF) : SF := fun Γ => match f Γ with
  | .nx Γ' => g Γ'
  | o => o
def sNil : SF := fun Γ => .nx Γ
def sRet (f : EF) : SF := fun Γ => match f Γ with
  | .ok x Γ' => .rt x Γ'
  | .exc c Γ' => .exc c Γ'
  | .bad => .bad
def sExpr (f : EF) : SF := fun Γ => match f Γ with
  | .ok _ Γ' => .nx Γ'
  | .exc c Γ' => .exc c Γ'
  | .bad => .bad
def sIf (t : EB) (f g : SF) : SF := fun Γ => match t Γ with
  | .ok true Γ' => f Γ'
  | .ok false Γ' => g Γ'
  | .exc c Γ' => .exc c Γ'
  | .bad => .bad
def sRaise (c : String) : SF := fun Γ => .exc c Γ
section
variable {X : Cx} {W : WW} {st : Stmt} {sts a b : List Stmt} {e c : Expr} {f g : SF} {h : EF} {pos : Pos}
theorem ss_nil : DSs X W [] sNil := PSs.imp pss_nil fun D σ H ⟨Z, L, M, R, q⟩ => q σ H L rfl R
theorem ss_one (h : DS X W st f) : DSs X W [st] f := pss_one h
theorem ss_cons (h : DS X W st f) (k : DSs X W sts g) : DSs X W (st :: sts) (sSeq f g) := by
  refine PSs.imp (pss_cons h k) fun D σ H ⟨Z, L, M, R, q⟩ => ⟨Z, L, M, R, ?_⟩
  unfold sSeq at q
  cases ef : f (er L) with
  | nx Γ' =>
    rw [ef] at q
    intro σ' H' L' e R'
    exact ⟨Z, L', M, R', by rw [e]; exact q⟩
  | rt x Γ' => rw [ef] at q; exact q
  | bk Γ' => rw [ef] at q; exact q
  | ct Γ' => rw [ef] at q; exact q
  | exc c Γ' => rw [ef] at q; exact q
  | bad => rw [ef] at q; exact q
theorem s_ret (he : DE X W e h) : DS X W (.Return (some e) pos) (sRet h) := by
  refine PS.imp (ps_ret he) fun D σ H ⟨Z, L, M, R, q⟩ => ⟨Z, L, M, R, ?_⟩
  unfold sRet at q
  cases ef : h (er L) with
  | bad => rw [ef] at q; exact q
  | exc c Γ' => rw [ef] at q; exact fun H' L' e R' => q σ H' L' e R'
  | ok x Γ' => rw [ef] at q; exact fun v ns H' L' e R' z => q v ns σ H' L' e R' z
theorem s_expr (he : DE X W e h) (hs : swapsWith e none pos.line X.env = pure false := by rfl) : DS X W (.Expr e pos) (sExpr h) := by
  refine PS.imp (ps_expr he hs) fun D σ H ⟨Z, L, M, R, q⟩ => ⟨Z, L, M, R, ?_⟩
  unfold sExpr at q
  cases ef : h (er L) with
  | bad => rw [ef] at q; exact q
  | exc c Γ' => rw [ef] at q; exact fun H' L' e R' => q σ H' L' e R'
  | ok x Γ' => rw [ef] at q; exact fun v ns H' L' e R' z => q σ H' L' e R'.pop
theorem s_if {t : EB} (hc : DT X W c t) (ha : DSs X W a f) (hb : DSs X W b g) : DS X W (.If c a b pos) (sIf t f g) := by
  refine PS.imp (ps_if hc ha hb) fun D σ H ⟨Z, L, M, R, q⟩ => ⟨Z, L, M, R, ?_⟩
  unfold sIf at q
  cases ef : t (er L) with
  | bad => rw [ef] at q; exact q
  | exc c Γ' => rw [ef] at q; exact fun H' L' e R' => q σ H' L' e R'
  | ok k Γ' =>
    rw [ef] at q
    intro H' L' e R'
    cases k with
    | true => exact iteT ⟨Z, L', M, R', by rw [e]; exact q⟩
    | false => exact iteF ⟨Z, L', M, R', by rw [e]; exact q⟩
theorem s_raise {C : Addr} {x m : Str} {c : String} {j : Nat} {p p2 pos2 : Pos} (hc : X.calm = true) (tk : Takes X (wx X W)) (hx : x = Str.ofString c) (q : PySem.W.excIn X.K C [.type "ValueError", .type "Exception", .type "BaseException", .type "object"] "ValueError.__new__" = true)
    (gC : X.mg x = some (.ref C)) (kC : PySem.W.keepIn X.K (.ref C) = true) (r : Raises X (.ref C)) (hg : Gl X x) (hdb : (x == ("__debug__" : Str)) = false := by decide) :
    DS X W (.Raise (some (.Call (.Name x p) [.Constant (.str m) j p2] [] pos2)) none pos) (sRaise c) := by
  refine PS.imp (ps_raise hc tk (pmk_own PySem.F.excBase_ValueError q gC kC r hg hdb)) fun D σ H ⟨Z, L, M, R, q⟩ => ?_
  subst hx
  refine ⟨c, ?_, rfl, q σ H L rfl R⟩
  unfold xc
  rw [gC]; rfl
end
abbrev BF := LD → Env → Option Env
/-- a target over data: s the value that comes -/
def But (js : List Nat) (σ σ' : L2.St) (L L' : List (Option Sl)) : Prop := σ'.length = σ.length ∧ ∀ k, k ∉ js → σ'[k]? = σ[k]? ∧ L'[k]? = L[k]?
theorem But.trans {js : List Nat} {σ σ1 σ2 : L2.St} {L L1 L2 : List (Option Sl)} (a : But js σ σ1 L L1) (b : But js σ1 σ2 L1 L2) : But js σ σ2 L L2 := ⟨b.1.trans a.1, fun k h => ⟨(b.2 k h).1.trans (a.2 k h).1, (b.2 k h).2.trans (a.2 k h).2⟩⟩
def TgOk (K : PySem.W.Frag) (js : List Nat) (g : TG) (bd : BF) : Prop := ∀ (Z : Zone) (s : Sl) (σ : L2.St) (H : Hp) (L : List (Option Sl)) (M : List Tm) (Γ' : Env) (Q : L2.St → Hp → Prop), Rel K Z σ H L (s.tm K :: M) → (∀ a ∈ s.ns, Z a) → bd (s.l, s.d) (er L) = some Γ' →
  (∀ σ' L', er L' = Γ' → Rel K Z σ' H L' M → But js σ σ' L L' → Q σ' H) → g s.v σ H Q
def bName (i : Nat) : BF := fun x Γ => if i < Γ.length then some (Γ.set i (some (x.1 % 10, x.2))) else none
theorem tg_name {K : PySem.W.Frag} {i : Nat} : TgOk K [i] (gName i) (bName i) := by
  intro Z s σ H L M Γ' Q R hz hb k
  unfold bName at hb
  split at hb
  · rename_i hi
    cases hb
    rw [er_length] at hi
    have e : s.tm K = s.un.tm K := tm_lvl (by simp [Sl.un]) rfl rfl rfl
    rw [e] at R
    exact k _ _ (by rw [er_set]; rfl) (R.store hi hz (by simp [Sl.un]; omega)) ⟨by simp, fun j hj => ⟨by rw [List.getElem?_set_ne (fun e => hj (List.mem_singleton.mpr e.symm))], by rw [List.getElem?_set_ne (fun e => hj (List.mem_singleton.mpr e.symm))]⟩⟩
  · cases hb
/-- names one behind the other -/
def gNs : List Nat → TGs
  | [] => gNil
  | i :: is => gCons (gName i) (gNs is)
def bNs : List Nat → List LD → Env → Option Env
  | [], [], Γ => some Γ
  | i :: is, x :: xs, Γ => (bName i x Γ).bind (bNs is xs)
  | _, _, _ => none
section
variable {K : PySem.W.Frag} {Z : Zone} {σ : L2.St} {H : Hp} {L : List (Option Sl)} {M : List Tm}
theorem Rel.one {s : Sl} (R : Rel K Z σ H L (s.tm K :: M)) : Rel K Z σ H L (tmA K [s] :: M) := by
  have h := R.args0
  exact h.swap.joinA
theorem Fram.refl {As : List Sl} : Fram As H H := ⟨fun _ _ h _ => h, fun _ h => h⟩
/-- the parts of a thing -/
theorem parts_of (l : Nat) (hl : l = 0 ∨ l = 2) : ∀ {vs : List V} {ds : List D} {ns : List Addr}, Rds K H vs ds ns → ∃ ts : List Sl, ts.map Sl.v = vs ∧ ts.map Sl.ld = ds.map (fun d => (l, d)) ∧ (∀ t ∈ ts, Rd K H t.v t.d t.ns) ∧ (∀ t ∈ ts, ∀ a ∈ t.ns, a ∈ ns) ∧ ∀ a, oL ts a = (if l = 2 then ns.count a else 0) ∧ rL ts a = (if l = 2 then 0 else ns.count a)
  | _, _, _, .nil => ⟨[], rfl, rfl, fun _ h => (nomatch h), fun _ h => (nomatch h), fun a => by simp [oL, rL]⟩
  | _, _, _, .cons (v := v) (d := d) (n := n) (ns := ns) h r => by
    obtain ⟨ts, h1, h2, h3, h4, h5⟩ := parts_of l hl r
    refine ⟨⟨l, d, v, n⟩ :: ts, by simp [h1], by simp [h2, Sl.ld], fun t ht => ?_, fun t ht a ha => ?_, fun a => ?_⟩
    · rcases List.mem_cons.mp ht with rfl | ht
      · exact h
      · exact h3 t ht
    · rcases List.mem_cons.mp ht with rfl | ht
      · exact List.mem_append_left _ ha
      · exact List.mem_append_right _ (h4 t ht a ha)
    · obtain ⟨q1, q2⟩ := h5 a
      rcases hl with rfl | rfl
      · simp only [oL, rL, q1, q2, Sl.own, Sl.rst, ownL, rstL, List.count_append]
        simp
      · simp only [oL, rL, q1, q2, Sl.own, Sl.rst, ownL, rstL, List.count_append]
        simp
/-- a thing comes apart -/
theorem Rel.apart {s : Sl} {vs : List V} {ds : List D} {ns : List Addr} (R : Rel K Z σ H L (s.tm K :: M)) (hz : ∀ a ∈ s.ns, Z a) (r : Rds K H vs ds ns) (hc : ∀ a, ns.count a ≤ s.ns.count a) :
    ∃ ts : List Sl, ts.map Sl.v = vs ∧ ts.map Sl.ld = ds.map (fun d => (if 2 ≤ s.l % 10 then 2 else 0, d)) ∧ Rel K Z σ H L (tmA K ts :: M) ∧ ∀ t ∈ ts, ∀ a ∈ t.ns, Z a := by
  obtain ⟨ts, h1, h2, h3, h4, h5⟩ := parts_of (if 2 ≤ s.l % 10 then 2 else 0) (by split <;> simp) r
  have R1 := R.one
  have ok := R1.argsOk
  have e1 : ∀ a, oL [s] a = s.own a := fun a => by simp [oL]
  have e2 : ∀ a, rL [s] a = s.rst a := fun a => by simp [rL]
  have key : ∀ a, oL ts a ≤ s.own a ∧ oL ts a + rL ts a ≤ s.own a + s.rst a := fun a => by
    obtain ⟨q1, q2⟩ := h5 a
    have := hc a
    have t := s.tot a
    by_cases c : 2 ≤ s.l % 10
    · have z : s.rst a = 0 := rst_top (d := s.d) (v := s.v) (ns := s.ns) c a
      simp only [c, if_true] at q1 q2
      omega
    · simp only [c, if_false] at q1 q2
      have h0 : ¬ (0 : Nat) = 2 := by decide
      simp only [h0, if_false] at q1 q2
      omega
  refine ⟨ts, h1, h2, R1.callA Fram.refl ⟨h3, fun a => ?_, fun a ha => ok.wr a ?_⟩ (fun a => ?_), fun t ht a ha => ?_⟩
  · have := key a
    have := ok.sep a
    rw [e1, e2] at this
    obtain ⟨q1, q2⟩ := h5 a
    by_cases c : 2 ≤ s.l % 10
    · simp only [c, if_true] at q1 q2
      omega
    · simp only [c, if_false] at q1 q2
      have h0 : ¬ (0 : Nat) = 2 := by decide
      simp only [h0, if_false] at q1 q2
      omega
  · have := key a
    rw [e1]
    omega
  · have := key a
    rw [e1, e2]
    exact ⟨fun h => .inr (by omega), fun h => .inr (by omega)⟩
  · have := h4 t ht a ha
    have c := hc a
    have : 0 < ns.count a := List.count_pos_iff.mpr this
    exact hz a (List.count_pos_iff.mp (by omega))
theorem tg_names : ∀ (is : List Nat) (ts : List Sl) (σ : L2.St) (L : List (Option Sl)) (Γ' : Env) (Q : L2.St → Hp → Prop), Rel K Z σ H L (tmA K ts :: M) → (∀ t ∈ ts, ∀ a ∈ t.ns, Z a) → bNs is (ts.map Sl.ld) (er L) = some Γ' →
    (∀ σ' L', er L' = Γ' → Rel K Z σ' H L' M → But is σ σ' L L' → Q σ' H) → gNs is (ts.map Sl.v) σ H Q
  | [], [], σ, L, Γ', Q, R, hz, hb, k => ⟨rfl, k σ L (by cases hb; rfl) R.pop ⟨rfl, fun _ _ => ⟨rfl, rfl⟩⟩⟩
  | [], _ :: _, _, _, _, _, _, _, hb, _ => by simp [bNs] at hb
  | _ :: _, [], _, _, _, _, _, _, hb, _ => by simp [bNs] at hb
  | i :: is, t :: ts, σ, L, Γ', Q, R, hz, hb, k => by
    simp only [bNs, List.map_cons] at hb
    obtain ⟨Γ1, h1, h2⟩ := Option.bind_eq_some_iff.mp hb
    refine ⟨t.v, ts.map Sl.v, rfl, ?_⟩
    exact tg_name Z t σ H L (tmA K ts :: M) Γ1 _ R.splitA (hz t (List.mem_cons_self ..)) h1 fun σ' L' e R' b1 => tg_names is ts σ' L' Γ' Q R' (fun u hu => hz u (List.mem_cons_of_mem _ hu)) (by rw [e]; exact h2) fun σ2 L2 e2 R2 b2 => k σ2 L2 e2 R2 (But.trans (js := i :: is) ⟨b1.1, fun j hj => b1.2 j fun z => hj (by rw [List.mem_singleton.mp z]; exact List.mem_cons_self ..)⟩ ⟨b2.1, fun j hj => b2.2 j fun z => hj (List.mem_cons_of_mem _ z)⟩)
end
def bUn (is : List Nat) : BF := fun x Γ => match x with
  | (l, .tup ds) => bNs is (ds.map fun d => (if 2 ≤ l % 10 then 2 else 0, d)) Γ
  | (l, .lst ds) => bNs is (ds.map fun d => (if 2 ≤ l % 10 then 2 else 0, d)) Γ
  | _ => none
def gUn (K : PySem.W.Frag) (n : Nat) (t : TGs) : TG := fun v σ H Q => gTup K n t v σ H Q ∨ gLst K n t v σ H Q
theorem pg_un {X : Cx} {es : List Expr} {k : Nat} {t : TGs} {n : Nat} {pos : Pos} (hc : X.calm = true) (h : PGs X es t) (hn : (assignEach es X.env).length = n := by rfl) (hst : (assignEach es X.env).findIdx? (·.1) = none := by rfl) : PG X (.Tuple es k pos) (gUn X.K n t) := by
  refine ⟨fun pins s σ H v u Q I r h0 => ?_⟩
  rcases h0 with h0 | h0
  · exact (pg_tup hc h hn hst).run pins s σ H v u Q I r h0
  · exact (pg_lst hc h hn hst).run pins s σ H v u Q I r h0
theorem bNs_len {is : List Nat} {xs : List LD} {Γ Γ' : Env} (h : bNs is xs Γ = some Γ') : xs.length = is.length := by
  induction is generalizing xs Γ with
  | nil => cases xs with
    | nil => rfl
    | cons x xs => simp [bNs] at h
  | cons i is ih => cases xs with
    | nil => simp [bNs] at h
    | cons x xs =>
      simp only [bNs] at h
      obtain ⟨Γ1, h1, h2⟩ := Option.bind_eq_some_iff.mp h
      simp [ih h2]
theorem tg_un {K : PySem.W.Frag} {is : List Nat} {n : Nat} (hn : is.length = n) : TgOk K is (gUn K n (gNs is)) (bUn is) := by
  intro Z s σ H L M Γ' Q R hz hb k
  obtain ⟨l, d, v, ns⟩ := s
  dsimp only at *
  have rd := (R.tms _ (List.mem_cons_self ..)).1
  unfold bUn at hb
  split at hb
  · rename_i l0 ds e
    cases e
    cases rd with
    | tup h r =>
      obtain ⟨ts, h1, h2, R1, z1⟩ := R.apart hz r (fun a => Nat.le_refl _)
      refine .inl ⟨_, _, rfl, h, ?_, ?_⟩
      · rw [r.length, ← hn, ← bNs_len hb, List.length_map]
      · rw [← h1]
        exact tg_names is ts σ L Γ' Q R1 z1 (by rw [h2]; exact hb) k
  · rename_i l0 ds e
    cases e
    cases rd with
    | lst h r =>
      obtain ⟨ts, h1, h2, R1, z1⟩ := R.apart hz r (fun a => by show _ ≤ (_ :: _ : List Addr).count a; rw [List.count_cons]; omega)
      refine .inr ⟨_, _, rfl, .of h, ?_, ?_⟩
      · rw [r.length, ← hn, ← bNs_len hb, List.length_map]
      · rw [← h1]
        exact tg_names is ts σ L Γ' Q R1 z1 (by rw [h2]; exact hb) k
  · cases hb
def sAsg (f : EF) (bd : BF) : SF := fun Γ => match f Γ with
  | .ok x Γ' => (match bd x Γ' with
    | some Γ2 => .nx Γ2
    | none => .bad)
  | .exc c Γ' => .exc c Γ'
  | .bad => .bad
theorem asg_core {K : PySem.W.Frag} {W : WW} {f : EF} {js : List Nat} {bd : BF} {g : TG} (hg : TgOk K js g bd) {D : Ends} {σ : L2.St} {H : Hp} (h : tDS K W (sAsg f bd) D σ H) : tAsg (tDE K W f) g D σ H := by
  obtain ⟨Z, L, M, R, q⟩ := h
  refine ⟨Z, L, M, R, ?_⟩
  unfold sAsg at q
  cases ef : f (er L) with
  | bad => rw [ef] at q; exact q
  | exc c Γ' => rw [ef] at q; exact fun H' L' e R' => q σ H' L' e R'
  | ok x Γ' =>
    obtain ⟨l, d⟩ := x
    rw [ef] at q
    dsimp only at q ⊢
    intro v ns H' L' e R' z
    cases eb : bd (l, d) Γ' with
    | none => rw [eb] at q; exact q.elim
    | some Γ2 =>
      rw [eb] at q
      exact hg Z ⟨l, d, v, ns⟩ σ H' L' M Γ2 D.nx R' z (by rw [e]; exact eb) fun σ2 L2 e2 R2 _ => q σ2 H' L2 e2 R2
section
variable {X : Cx} {W : WW} {e : Expr} {h : EF} {pos pos' : Pos}
theorem s_set {i : Nat} {x : Str} (hN : X.N.Nodup) (hi : X.N[i]? = some x) (hx : Loc X.env.scope x) (he : DE X W e h) (hs : swapsWith e (some (.Name x pos')) pos.line X.env = pure false := by rfl) (hf : X.fn x = true ∨ X.env.scope.names.lookup x = some .local := by first | exact .inl rfl | exact .inr rfl | assumption) :
    DS X W (.Assign [.Name x pos'] e pos) (sAsg h (bName i)) :=
  PS.imp (ps_set hN hi hx he hs hf) fun D σ H q => asg_core tg_name q
theorem s_un {es : List Expr} {k : Nat} {is : List Nat} {n : Nat} {pos2 : Pos} (hc : X.calm = true) (hl : is.length = n) (he : DE X W e h) (hg : PGs X es (gNs is)) (hn : (assignEach es X.env).length = n := by rfl) (hst : (assignEach es X.env).findIdx? (·.1) = none := by rfl)
    (hs : swapsWithSole [.Tuple es k pos2] e pos.line X.env = pure false := by rfl) (hw : swappedStores [.Tuple es k pos2] e X.env = pure none := by rfl) (h1 : (assignEach [.Tuple es k pos2] X.env).map (·.2) = [assign (.Tuple es k pos2) X.env] := by rfl) :
    DS X W (.Assign [.Tuple es k pos2] e pos) (sAsg h (bUn is)) :=
  PS.imp (ps_asg he (pg_un hc hg hn hst) hs hw h1) fun D σ H q => asg_core (tg_un hl) q
end
/-- name op= e, of ints -/
def sAug (i : Nat) (c : Int → Int → Bool) (f : Int → Int → Int) (h : EF) : SF := fun Γ => match Γ[i]? with
  | some (some (_, .int a)) => (match h Γ with
    | .ok (_, .int b) Γ' => if c a b && decide (i < Γ'.length) then .nx (Γ'.set i (some (2, .int (f a b)))) else .bad
    | .exc x Γ' => .exc x Γ'
    | _ => .bad)
  | _ => .bad
/-- what is walked, as data: m what is kept at each turn -/
structure WalkD (K : PySem.W.Frag) (Z : Zone) (J : It) (xs : List LD) (m : Nat → Tm) : Prop where
  goes : ∀ i H, i < xs.length → (m i).P H → J.go i H
  stops : ∀ H, (m xs.length).P H → J.stop xs.length H
  stab : ∀ i, (m i).Stab K
  step : ∀ i x H v H', xs[i]? = some x → (m i).P H → J.yld i H v H' → Same H H' ∧ ∃ ns, Rd K H' v x.2 ns ∧ (∀ a ∈ ns, Z a) ∧ (m (i + 1)).P H' ∧ (∀ a, 0 < (m (i + 1)).own a + (m (i + 1)).rst a → H' a ≠ none) ∧
    ∀ a, (Sl.mk x.1 x.2 v ns).own a + (m (i + 1)).own a ≤ (m i).own a ∧ (0 < (Sl.mk x.1 x.2 v ns).rst a + (m (i + 1)).rst a → 0 < (m i).own a + (m i).rst a) ∧
      (0 < (Sl.mk x.1 x.2 v ns).own a + (m (i + 1)).own a → (Sl.mk x.1 x.2 v ns).rst a + (m (i + 1)).rst a = 0)
abbrev IF' := Env → R (List LD)
/-- an iterable over data -/
def DI (X : Cx) (W : WW) (tg iter : Expr) (src : IF') : Prop := ∃ wi, PI X tg iter wi ∧ ∀ σ H R, (∃ Z L M, Rel X.K Z σ H L M ∧ match src (er L) with
    | .ok xs Γ' => ∀ H' L' J m, er L' = Γ' → Rel X.K Z σ H' L' (m 0 :: M) → WalkD X.K Z J xs m → R J H'
    | .exc c Γ' => ∀ H' L', er L' = Γ' → Rel X.K Z σ H' L' M → W c σ H'
    | .bad => False) → wi σ H R
def forL (bd : BF) (body : SF) : List LD → Env → O
  | [], Γ => .nx Γ
  | x :: xs, Γ => match bd x Γ with
    | none => .bad
    | some Γ1 => match body Γ1 with
      | .nx Γ2 => forL bd body xs Γ2
      | .ct Γ2 => forL bd body xs Γ2
      | .bk Γ2 => .nx Γ2
      | o => o
def sFor (src : IF') (bd : BF) (body : SF) : SF := fun Γ => match src Γ with
  | .ok xs Γ' => forL bd body xs Γ'
  | .exc c Γ' => .exc c Γ'
  | .bad => .bad
section
variable {K : PySem.W.Frag} {Z : Zone} {σ : L2.St} {H H' : Hp} {L : List (Option Sl)} {M : List Tm}
theorem Rel.turn {s : Sl} {m m' : Tm} (R : Rel K Z σ H L (m :: M)) (sm : Same H H') (rd : Rd K H' s.v s.d s.ns) (hP : m'.P H') (hS : m'.Stab K) (hd : ∀ a, 0 < m'.own a + m'.rst a → H' a ≠ none)
    (hc : ∀ a, s.own a + m'.own a ≤ m.own a ∧ (0 < s.rst a + m'.rst a → 0 < m.own a + m.rst a) ∧ (0 < s.own a + m'.own a → s.rst a + m'.rst a = 0)) : Rel K Z σ H' L (s.tm K :: m' :: M) := by
  have R0 := R.pop.same sm
  have sp : ∀ a, oS L a + (m.own a + oM M a) ≤ 1 ∧ (0 < oS L a + (m.own a + oM M a) → rS L a + (m.rst a + rM M a) = 0) := fun a => R.sep a
  have w : ∀ a, 0 < m.own a → Mut (H' a) := fun a ha => by
    have := R.wr a (by simp only [oM]; omega)
    cases e : H a with
    | none => rw [e] at this; exact this.elim
    | some o => rw [e] at this; rw [sm a o e]; exact this
  have R1 : Rel K Z σ H' L (m' :: M) := R0.push hP hS hd (fun a => ⟨by have := hc a; have := sp a; omega, fun h => by have := (hc a).2.2 (by omega); omega⟩) (fun a ha => ⟨w a (by have := hc a; omega), by have := hc a; have := sp a; omega⟩) fun a ha => by
    have := (hc a).2.1 (by omega)
    have := sp a
    omega
  refine R1.push rd (s.stab K) (fun a ha => rd.dom _ _ _ a ((s.mem a).mp ha)) (fun a => ⟨by have := hc a; have := sp a; show s.own a ≤ 1; omega, fun h => by have h : 0 < s.own a := h; have := (hc a).2.2 (by omega); show s.rst a = 0; omega⟩) (fun a ha => ?_) fun a ha => ?_
  · have ha : 0 < s.own a := ha
    have h1 := hc a
    have h2 := sp a
    have h3 := (hc a).2.2 (by omega)
    exact ⟨w a (by omega), by omega, by omega, by show m'.own a + oM M a = 0; omega, by show m'.rst a + rM M a = 0; omega⟩
  · have ha : 0 < s.rst a := ha
    have h1 := hc a
    have h2 := sp a
    have h3 := (hc a).2.1 (by omega)
    exact ⟨by omega, by show m'.own a + oM M a = 0; omega⟩
end
theorem s_for {X : Cx} {W : WW} {tg iter : Expr} {body : List Stmt} {src : IF'} {g : TG} {js : List Nat} {bd : BF} {f : SF} {pos : Pos} (hp : PassesOwn (model X.prog X.w) X.A X.env X.xe) (hc : X.calm = true) (hi : DI X W tg iter src) (hg : PG X tg g) (ht : TgOk X.K js g bd) (hb : DSs X W body f)
    (hs : ∀ x, foldedSetIterable iter X.env x = pure x := by intro _; rfl) : DS X W (.For tg iter body [] pos) (sFor src bd f) := by
  obtain ⟨wi, hi, hw⟩ := hi
  refine PS.imp (ps_for hp hc hi hg hb hs) fun D σ H ⟨Z, L, M, R, q⟩ => hw σ H _ ⟨Z, L, M, R, ?_⟩
  unfold sFor at q
  cases ef : src (er L) with
  | bad => rw [ef] at q; exact q
  | exc c Γ' => rw [ef] at q; exact fun H' L' e R' => q σ H' L' e R'
  | ok xs Γ' =>
    rw [ef] at q
    dsimp only at q ⊢
    intro H1 L1 J m e1 R1 wk
    refine ⟨fun i n σ H => n = xs.length - i ∧ i ≤ xs.length ∧ ∃ L', Rel X.K Z σ H L' (m i :: M) ∧ oW X.K W Z M D (forL bd f (xs.drop i) (er L')), ⟨xs.length, by simp, Nat.zero_le _, L1, R1, by rw [e1]; simpa using q⟩, ?_⟩
    rintro i n σ2 H2 ⟨rfl, hil, L2', R2, q2⟩
    by_cases hlt : i < xs.length
    · refine .inr ⟨wk.goes i H2 hlt (R2.tms _ (List.mem_cons_self ..)).1, fun σ' H' => i + 1 ≤ xs.length ∧ ∃ L', Rel X.K Z σ' H' L' (m (i + 1) :: M) ∧ oW X.K W Z M D (forL bd f (xs.drop (i + 1)) (er L')), fun σ' H' h => ⟨xs.length - (i + 1), by omega, rfl, h.1, h.2⟩, fun v H' y => ?_⟩
      have hx : xs[i]? = some xs[i] := by simp [hlt]
      obtain ⟨sm, ns, rd, hz, hP, hd, hcn⟩ := wk.step i _ H2 v H' hx (R2.tms _ (List.mem_cons_self ..)).1 y
      have R3 := Rel.turn (s := ⟨xs[i].1, xs[i].2, v, ns⟩) R2 sm rd hP (wk.stab _) hd hcn
      have ed : xs.drop i = xs[i] :: xs.drop (i + 1) := by simp
      rw [ed] at q2
      simp only [forL] at q2
      cases eb : bd xs[i] (er L2') with
      | none => rw [eb] at q2; exact q2.elim
      | some Γ1 =>
        rw [eb] at q2
        dsimp only at q2
        refine ht Z ⟨xs[i].1, xs[i].2, v, ns⟩ σ2 H' L2' (m (i + 1) :: M) Γ1 _ R3 hz eb fun σ4 L4 e4 R4 _ => ⟨Z, L4, m (i + 1) :: M, R4, ?_⟩
        rw [e4]
        cases eo : f Γ1 with
        | nx Γ2 => rw [eo] at q2; exact fun σ5 H5 L5 e5 R5 => ⟨by omega, L5, R5, by rw [e5]; exact q2⟩
        | ct Γ2 => rw [eo] at q2; exact fun σ5 H5 L5 e5 R5 => ⟨by omega, L5, R5, by rw [e5]; exact q2⟩
        | bk Γ2 => rw [eo] at q2; exact fun σ5 H5 L5 e5 R5 => q2 σ5 H5 L5 e5 R5.pop
        | rt x Γ2 => rw [eo] at q2; exact fun v ns σ5 H5 L5 e5 R5 z => q2 v ns σ5 H5 L5 e5 R5.swap.pop z
        | exc c Γ2 => rw [eo] at q2; exact fun σ5 H5 L5 e5 R5 => q2 σ5 H5 L5 e5 R5.pop
        | bad => rw [eo] at q2; exact q2
    · have e : i = xs.length := by omega
      subst e
      refine .inl ⟨wk.stops H2 (R2.tms _ (List.mem_cons_self ..)).1, ?_⟩
      rw [List.drop_length] at q2
      exact q2 σ2 H2 L2' rfl R2.pop
def mkS : List Bool → List LD → Env
  | b :: bs, (l, d) :: xs => some (l % 10 + (if b then 10 else 0), d) :: mkS bs xs
  | [], (l, d) :: xs => some (l % 10, d) :: mkS [] xs
  | _, [] => []
def finS : List Bool → Env → Option (List LD)
  | [], _ => some []
  | true :: bs, some (l, d) :: Γ => if 10 ≤ l then (finS bs Γ).map ((l % 10, d) :: ·) else none
  | false :: bs, _ :: Γ => finS bs Γ
  | _, _ => none
def runF (n N : Nat) (io : List Bool) (body : SF) : List LD → FR := fun xs =>
  if xs.length = n then match body (mkS io xs ++ List.replicate (N - n) none) with
    | .nx Γ => (match finS io Γ with
      | some fs => .ret (2, .non) fs
      | none => .bad)
    | .rt x Γ => (match finS io Γ with
      | some fs => .ret x fs
      | none => .bad)
    | .exc c Γ => (match finS io Γ with
      | some fs => .exc c fs
      | none => .bad)
    | _ => .bad
  else .bad
end DL
namespace DL
open L2 PySem PySem.Spec PyProof.Rows
/-- a parameter's slot at the entry -/
def pinL (b : Bool) (s : Sl) : Sl := { s with l := s.l % 10 + (if b then 10 else 0) }
def sls : List Bool → List Sl → List (Option Sl)
  | b :: bs, s :: xs => some (pinL b s) :: sls bs xs
  | [], s :: xs => some (pinL false s) :: sls [] xs
  | _, [] => []
section
variable {K : PySem.W.Frag} {H H' : Hp}
theorem pin_own (b : Bool) (s : Sl) (a : Addr) : (pinL b s).own a = s.own a ∧ (pinL b s).rst a = s.rst a := by
  have e : (s.l % 10 + (if b then 10 else 0)) % 10 = s.l % 10 := by cases b <;> simp <;> omega
  unfold pinL Sl.own Sl.rst ownL rstL
  dsimp only
  rw [e]
  exact ⟨rfl, rfl⟩
theorem sls_len : ∀ (bs : List Bool) (As : List Sl), (sls bs As).length = As.length
  | _, [] => by unfold sls; split <;> simp_all
  | [], s :: As => by simp [sls, sls_len [] As]
  | b :: bs, s :: As => by simp [sls, sls_len bs As]
theorem sls_cnt (a : Addr) : ∀ (bs : List Bool) (As : List Sl), oS (sls bs As) a = oL As a ∧ rS (sls bs As) a = rL As a
  | bs, [] => by cases bs <;> exact ⟨rfl, rfl⟩
  | [], s :: As => by
    obtain ⟨h1, h2⟩ := sls_cnt a [] As
    obtain ⟨q1, q2⟩ := pin_own false s a
    simp only [sls, oS, rS, oL, rL, h1, h2, q1, q2]
    exact ⟨trivial, trivial⟩
  | b :: bs, s :: As => by
    obtain ⟨h1, h2⟩ := sls_cnt a bs As
    obtain ⟨q1, q2⟩ := pin_own b s a
    simp only [sls, oS, rS, oL, rL, h1, h2, q1, q2]
    exact ⟨trivial, trivial⟩
theorem sls_get : ∀ (bs : List Bool) (As : List Sl) (i : Nat) (t : Sl), (sls bs As)[i]? = some (some t) → ∃ s, As[i]? = some s ∧ t.v = s.v ∧ t.d = s.d ∧ t.ns = s.ns
  | bs, [], i, t, h => by cases bs <;> simp [sls] at h
  | [], s :: As, 0, t, h => by
    simp only [sls, List.getElem?_cons_zero, Option.some.injEq] at h
    subst h
    exact ⟨s, rfl, rfl, rfl, rfl⟩
  | [], s :: As, i + 1, t, h => by
    simp only [sls, List.getElem?_cons_succ] at h
    exact sls_get [] As i t h
  | b :: bs, s :: As, 0, t, h => by
    simp only [sls, List.getElem?_cons_zero, Option.some.injEq] at h
    subst h
    exact ⟨s, rfl, rfl, rfl, rfl⟩
  | b :: bs, s :: As, i + 1, t, h => by
    simp only [sls, List.getElem?_cons_succ] at h
    exact sls_get bs As i t h
theorem er_sls : ∀ (bs : List Bool) (As : List Sl), er (sls bs As) = mkS bs (As.map Sl.ld)
  | bs, [] => by cases bs <;> rfl
  | [], s :: As => by
    have h := er_sls [] As
    simp only [er, sls, List.map_cons, mkS, Sl.ld, pinL] at h ⊢
    rw [h]; rfl
  | b :: bs, s :: As => by
    have h := er_sls bs As
    simp only [er, sls, List.map_cons, mkS, Sl.ld, pinL] at h ⊢
    rw [h]; rfl
theorem er_append (L1 L2 : List (Option Sl)) : er (L1 ++ L2) = er L1 ++ er L2 := by unfold er; simp
theorem er_rep (n : Nat) : er (List.replicate n none) = List.replicate n none := by unfold er; simp
theorem oS_append (L1 L2 : List (Option Sl)) (a : Addr) : oS (L1 ++ L2) a = oS L1 a + oS L2 a := by
  induction L1 with
  | nil => simp [oS]
  | cons x L1 ih => cases x <;> simp only [List.cons_append, oS, ih] <;> omega
theorem rS_append (L1 L2 : List (Option Sl)) (a : Addr) : rS (L1 ++ L2) a = rS L1 a + rS L2 a := by
  induction L1 with
  | nil => simp [rS]
  | cons x L1 ih => cases x <;> simp only [List.cons_append, rS, ih] <;> omega
theorem oS_rep (n : Nat) (a : Addr) : oS (List.replicate n none) a = 0 ∧ rS (List.replicate n none) a = 0 := by
  induction n with
  | zero => exact ⟨rfl, rfl⟩
  | succ n ih => simpa only [List.replicate_succ, oS, rS] using ih
/-- what is handed back -/
theorem fin_of {Z : Zone} {σ : L2.St} {M : List Tm} : ∀ (bs : List Bool) (L : List (Option Sl)) (fs : List LD) (j : Nat) (L0 : List (Option Sl)), finS bs (er L) = some fs → Rel K Z σ H (L0 ++ L) M → L0.length = j →
    ∃ Fs : List Sl, Fs.map Sl.ld = fs ∧ (∀ t ∈ Fs, Rd K H t.v t.d t.ns ∧ ∀ a ∈ t.ns, Z a) ∧ (∀ a, oL Fs a ≤ oS L a ∧ rL Fs a ≤ rS L a) ∧ Fs.map Sl.v = msk bs ((List.range bs.length).map fun i => Z.pv (j + i))
  | [], L, fs, j, L0, h, R, hj => by
    simp only [finS, Option.some.injEq] at h
    subst h
    exact ⟨[], rfl, (fun _ h => nomatch h), fun a => ⟨Nat.zero_le _, Nat.zero_le _⟩, rfl⟩
  | true :: bs, [], fs, j, L0, h, R, hj => by simp [finS, er] at h
  | true :: bs, none :: L, fs, j, L0, h, R, hj => by simp [finS, er] at h
  | true :: bs, some s :: L, fs, j, L0, h, R, hj => by
    simp only [er, List.map_cons, Option.map_some, Sl.ld, finS] at h
    split at h
    · rename_i hl
      obtain ⟨gs, h1, h2⟩ := Option.map_eq_some_iff.mp h
      subst h2
      have e0 : L0 ++ some s :: L = (L0 ++ [some s]) ++ L := by simp
      rw [e0] at R
      obtain ⟨Fs, q1, q2, q3, q4⟩ := fin_of bs L gs (j + 1) (L0 ++ [some s]) h1 R (by simp [hj])
      have hs : ((L0 ++ [some s]) ++ L)[j]? = some (some s) := by
        rw [← hj]
        simp
      obtain ⟨r1, r2, r3⟩ := R.slot j s hs
      refine ⟨s.un :: Fs, by simp [q1, Sl.un, Sl.ld], fun t ht => ?_, fun a => ?_, ?_⟩
      · rcases List.mem_cons.mp ht with rfl | ht
        · exact ⟨r2, r3⟩
        · exact q2 t ht
      · have := q3 a
        simp only [oL, rL, oS, rS, un_own, un_rst]
        omega
      · rw [List.map_cons, q4, List.length_cons, List.range_succ_eq_map, List.map_cons, msk]
        have hp := R.pin j s hs hl
        congr 1
        rw [List.map_map]
        congr 1
        apply List.map_congr_left
        intro i _
        show Z.pv (j + 1 + i) = Z.pv (j + (i + 1))
        congr 1
        omega
    · cases h
  | false :: bs, [], fs, j, L0, h, R, hj => by simp [finS, er] at h
  | false :: bs, x :: L, fs, j, L0, h, R, hj => by
    simp only [er, List.map_cons, finS] at h
    have e0 : L0 ++ x :: L = (L0 ++ [x]) ++ L := by simp
    rw [e0] at R
    obtain ⟨Fs, q1, q2, q3, q4⟩ := fin_of bs L fs (j + 1) (L0 ++ [x]) h R (by simp [hj])
    refine ⟨Fs, q1, q2, fun a => ?_, ?_⟩
    · have := q3 a
      cases x <;> simp only [oS, rS] <;> omega
    · rw [q4, List.length_cons, List.range_succ_eq_map, List.map_cons, msk]
      rw [List.map_map]
      congr 1
      apply List.map_congr_left
      intro i _
      show Z.pv (j + 1 + i) = Z.pv (j + (i + 1))
      congr 1
      omega
theorem msk_pv : ∀ (bs : List Bool) (vs : List V), bs.length ≤ vs.length → msk bs ((List.range bs.length).map fun i => (vs[0 + i]?).getD .non) = msk bs vs := by
  have gen : ∀ (bs : List Bool) (vs ws : List V), bs.length ≤ vs.length → msk bs ((List.range bs.length).map fun i => ((ws ++ vs)[ws.length + i]?).getD .non) = msk bs vs := by
    intro bs
    induction bs with
    | nil => intro vs ws _; rfl
    | cons b bs ih =>
      intro vs ws h
      cases vs with
      | nil => simp at h
      | cons v vs =>
        have h' : bs.length ≤ vs.length := by simpa using h
        have e := ih vs (ws ++ [v]) h'
        rw [List.length_cons, List.range_succ_eq_map, List.map_cons, List.map_map]
        have e2 : (List.map ((fun i => (((ws ++ v :: vs)[ws.length + i]?).getD .non)) ∘ Nat.succ) (List.range bs.length)) = (List.range bs.length).map fun i => (((ws ++ [v]) ++ vs)[(ws ++ [v]).length + i]?).getD .non := by
          apply List.map_congr_left
          intro i _
          show (((ws ++ v :: vs)[ws.length + (i + 1)]?).getD .non) = _
          have e3 : ws ++ v :: vs = (ws ++ [v]) ++ vs := by simp
          have e4 : ws.length + (i + 1) = (ws ++ [v]).length + i := by simp; omega
          rw [e3, e4]
        rw [e2]
        cases b with
        | true =>
          simp only [msk]
          rw [e]
          simp
        | false =>
          simp only [msk]
          rw [e]
  intro bs vs h
  have := gen bs vs [] h
  simpa using this
end
/-- THE RULE for a def: its body, as a statement over data -/
theorem def_ok {P : Program} {w : World} {K : PySem.W.Frag} {mg : Str → Option Value} {base : Heap} {x qual : Str} {st : Stmt} {f : Addr} {fd : FuncData} {N ps : List Str} {k : Nat} (n m : Nat) (io : List Bool) (body : SF) (F : Fun K x qual st f fd) (S : FnScope N ps (defScope st))
    (hps : ps.length = n) (hN : N.length = m) (hio : io.length ≤ n) (hnm : n ≤ m)
    (hb : ∀ (cdv : Value) (A : Around) (outer : List PySem.Env) (s : Shared) (H : Hp) (E : XK) (W : WW), Room k (A.deeper (envOfC qual (defScope st) s.heap.objs.size f cdv)) → Takes (cxOf (L2.CX P w) P w K mg base N qual (defScope st) f cdv A outer s H E) (wx (cxOf (L2.CX P w) P w K mg base N qual (defScope st) f cdv A outer s H E) W) →
      DSs (cxOf (L2.CX P w) P w K mg base N qual (defScope st) f cdv A outer s H E) W (defBody st) body) : FnOk P w K mg base (L2.CX P w) (k + 1) f fd ps (spF K mg n io (runF n m io body)) := by
  refine F.okX S (spF_len hps) fun cdv A outer s H vs Q E hr h => ?_
  obtain ⟨As, ev, hl, ok, q⟩ := h
  have tk : Takes (cxOf (L2.CX P w) P w K mg base N qual (defScope st) f cdv A outer s H E) (wx (cxOf (L2.CX P w) P w K mg base N qual (defScope st) f cdv A outer s H E) (fun c _ H' => E (xc mg c) none H')) :=
    Takes.imp (takes_of rfl rfl rfl rfl) fun cls d σ H' ⟨c, h1, h2, h3⟩ => by
      subst h1 h2
      exact h3
  refine ⟨_, hb cdv A outer s H E _ hr tk, ?_⟩
  subst ev
  have hz : ∀ a, H a = none → H a = none ∨ ∃ s ∈ As, a ∈ s.ns := fun a h => .inl h
  let Z : Zone := ⟨fun a => H a = none ∨ ∃ s ∈ As, a ∈ s.ns, fun a => H a = none, hz, fun i => ((As.map Sl.v)[i]?).getD .non⟩
  let pr : Tm := ⟨fun _ => 0, fun a => if (H a).isSome = true ∧ oL As a = 0 then 1 else 0, fun H' => ∀ a o, H a = some o → oL As a = 0 → H' a = some o⟩
  have prs : pr.Stab K := fun H1 H2 h1 _ e a o ho h0 => by
    rw [e a (by show 0 < 0 + (if (H a).isSome = true ∧ oL As a = 0 then 1 else 0); rw [if_pos ⟨by rw [ho]; rfl, h0⟩]; decide)]
    exact h1 a o ho h0
  have R : Rel K Z (start N (As.map Sl.v)) H (sls io As ++ List.replicate (m - n) none) [pr] := by
    refine ⟨?_, fun i t ht => ?_, fun t ht => ?_, fun a => ?_, fun a ha => ?_, fun a h => h, fun i t ht hp => ?_⟩
    · unfold L2.start
      simp [sls_len, hN, hl]
    · by_cases hi : i < As.length
      · rw [List.getElem?_append_left (by rw [sls_len]; exact hi)] at ht
        obtain ⟨u, h1, e1, e2, e3⟩ := sls_get io As i t ht
        have hu : u ∈ As := List.mem_of_getElem? h1
        refine ⟨?_, by rw [e1, e2, e3]; exact ok.rd u hu, fun a ha => .inr ⟨u, hu, by rw [← e3]; exact ha⟩⟩
        unfold L2.start
        rw [List.getElem?_append_left (by simpa using hi)]
        simp [h1, e1]
      · rw [List.getElem?_append_right (by rw [sls_len]; omega), List.getElem?_replicate] at ht
        split at ht <;> cases ht
    · rw [List.mem_singleton.mp ht]
      refine ⟨fun a o h _ => h, prs, fun a ha => ?_⟩
      have ha : 0 < 0 + (if (H a).isSome = true ∧ oL As a = 0 then 1 else 0) := ha
      split at ha
      · rename_i c
        intro z
        rw [z] at c
        exact absurd c.1 (by simp)
      · omega
    · have h1 := ok.sep a
      obtain ⟨q1, q2⟩ := sls_cnt a io As
      obtain ⟨q3, q4⟩ := oS_rep (m - n) a
      rw [oS_append, rS_append, q1, q2, q3, q4]
      show oL As a + 0 + (0 + 0) ≤ 1 ∧ (0 < oL As a + 0 + (0 + 0) → rL As a + 0 + ((if (H a).isSome = true ∧ oL As a = 0 then 1 else 0) + 0) = 0)
      refine ⟨by omega, fun c => ?_⟩
      rw [if_neg (by omega)]
      omega
    · obtain ⟨q1, q2⟩ := sls_cnt a io As
      obtain ⟨q3, q4⟩ := oS_rep (m - n) a
      rw [oS_append, q1, q3] at ha
      exact ok.wr a (by have ha : 0 < oL As a + 0 + (0 + 0) := ha; omega)
    · by_cases hi : i < As.length
      · rw [List.getElem?_append_left (by rw [sls_len]; exact hi)] at ht
        obtain ⟨u, h1, e1, _, _⟩ := sls_get io As i t ht
        show t.v = ((As.map Sl.v)[i]?).getD .non
        simp [h1, e1]
      · rw [List.getElem?_append_right (by rw [sls_len]; omega), List.getElem?_replicate] at ht
        split at ht <;> cases ht
  have e0 : er (sls io As ++ List.replicate (m - n) none) = mkS io (As.map Sl.ld) ++ List.replicate (m - n) none := by rw [er_append, er_sls, er_rep]
  -- the end of it: what has come
  have endd : ∀ {σ' : L2.St} {H' : Hp} {L' : List (Option Sl)} {xs : List Sl} {M : List Tm} {fs : List LD}, Rel K Z σ' H' L' (tmA K xs :: pr :: M) → (∀ t ∈ xs, ∀ a ∈ t.ns, Z a) → finS io (er L') = some fs →
      ∃ Fs : List Sl, Fs.map Sl.ld = fs ∧ Fs.map Sl.v = msk io (As.map Sl.v) ∧ Fram As H H' ∧ ArgsOk K H' (xs ++ Fs) ∧ From As H (xs ++ Fs) := fun {σ' H' L' xs M fs} R' zx hf => by
    obtain ⟨Fs, f1, f2, f3, f4⟩ := fin_of io L' fs 0 [] hf (by simpa using R') rfl
    have hprm : pr ∈ tmA K xs :: pr :: M := List.mem_cons_of_mem _ (List.mem_cons_self ..)
    obtain ⟨p1, _, _⟩ := R'.tms pr hprm
    obtain ⟨x1, _, _⟩ := R'.tms _ (List.mem_cons_self ..)
    have sp : ∀ a, oS L' a + (oL xs a + (0 + oM M a)) ≤ 1 ∧ (0 < oS L' a + (oL xs a + (0 + oM M a)) → rS L' a + (rL xs a + ((if (H a).isSome = true ∧ oL As a = 0 then 1 else 0) + rM M a)) = 0) := fun a => R'.sep a
    have oldOr : ∀ a, 0 < oS L' a + oL xs a → H a = none ∨ 0 < oL As a := fun a ha => by
      have h1 := (sp a).2 (by omega)
      by_cases c : (H a).isSome = true ∧ oL As a = 0
      · rw [if_pos c] at h1; omega
      · by_cases c2 : oL As a = 0
        · left
          cases e : H a with
          | none => rfl
          | some o => exact absurd ⟨by rw [e]; rfl, c2⟩ c
        · right; omega
    have zone : ∀ a, Z a → H a = none ∨ 0 < oL As a + rL As a := fun a ha => by
      rcases ha with ha | ⟨u, h1, h2⟩
      · exact .inl ha
      · have := oL_mem a h1
        have := (u.mem a).mpr h2
        exact .inr (by omega)
    refine ⟨Fs, f1, by rw [f4]; exact msk_pv io (As.map Sl.v) (by simpa [hl] using hio), ⟨p1, fun a h => R'.zf a h⟩, ⟨fun t ht => ?_, fun a => ?_, fun a ha => ?_⟩, fun a => ?_⟩
    · rcases List.mem_append.mp ht with ht | ht
      · exact x1 t ht
      · exact (f2 t ht).1
    · rw [oL_append, rL_append]
      have h1 := sp a
      have h2 := f3 a
      omega
    · rw [oL_append] at ha
      have h2 := f3 a
      exact R'.wr a (by show 0 < oS L' a + (oL xs a + (0 + oM M a)); omega)
    · rw [oL_append, rL_append]
      have h2 := f3 a
      refine ⟨fun h => oldOr a (by omega), fun h => zone a ?_⟩
      by_cases c : 0 < oL xs a + rL xs a
      · obtain ⟨t, g1, g2⟩ := oL_pos c
        exact zx t g1 a g2
      · obtain ⟨t, g1, g2⟩ := oL_pos (As := Fs) (a := a) (by omega)
        exact (f2 t g1).2 a g2
  refine ⟨Z, _, _, R, ?_⟩
  rw [e0]
  unfold runF at q
  rw [List.length_map, if_pos hl] at q
  cases eb : body (mkS io (As.map Sl.ld) ++ List.replicate (m - n) none) with
  | bad => rw [eb] at q; exact q
  | bk Γ => rw [eb] at q; exact q.elim
  | ct Γ => rw [eb] at q; exact q.elim
  | nx Γ =>
    rw [eb] at q
    dsimp only at q
    intro σ' H' L' e R'
    cases ef : finS io Γ with
    | none => rw [ef] at q; exact q.elim
    | some fs =>
      rw [ef] at q
      dsimp only at q
      obtain ⟨Fs, f1, f2, f3, f4, f5⟩ := endd (R'.push (m := (Sl.mk 2 .non .non []).tm K) .non (Sl.stab _ _) (fun a h => by simp [Sl.tm, Sl.own, Sl.rst, ownL, rstL] at h) (fun a => by simp [Sl.tm, Sl.own, Sl.rst, ownL, rstL]) (fun a h => by simp [Sl.tm, Sl.own, ownL] at h) fun a h => by simp [Sl.tm, Sl.rst, rstL] at h).one
        (fun t ht a ha => by rw [List.mem_singleton.mp ht] at ha; cases ha) (by rw [e]; exact ef)
      exact q .non [] Fs H' f1 f2 f3 f4 f5
  | rt x Γ =>
    obtain ⟨l, d⟩ := x
    rw [eb] at q
    dsimp only at q
    intro v ns σ' H' L' e R' z
    cases ef : finS io Γ with
    | none => rw [ef] at q; exact q.elim
    | some fs =>
      rw [ef] at q
      dsimp only at q
      obtain ⟨Fs, f1, f2, f3, f4, f5⟩ := endd R'.one (fun t ht a ha => by rw [List.mem_singleton.mp ht] at ha; exact z a ha) (by rw [e]; exact ef)
      exact q v ns Fs H' f1 f2 f3 f4 f5
  | exc c Γ =>
    rw [eb] at q
    dsimp only at q
    intro σ' H' L' e R'
    cases ef : finS io Γ with
    | none => rw [ef] at q; exact q.elim
    | some fs =>
      rw [ef] at q
      dsimp only at q
      obtain ⟨Fs, f1, f2, f3, f4, f5⟩ := endd R'.args0 (fun t ht => nomatch ht) (by rw [e]; exact ef)
      exact q Fs H' f1 f2 f3 (by simpa using f4) (by simpa using f5)
end DL
namespace DL
open L2 PySem PySem.Spec PyProof.Rows
/-- a walk over data that leans on the arguments As -/
structure WalkV (K : PySem.W.Frag) (As : List Sl) (J : It) (ds : List D) : Prop where
  goes : ∀ i H, i < ds.length → (∀ s ∈ As, Rd K H s.v s.d s.ns) → J.go i H
  stops : ∀ H, (∀ s ∈ As, Rd K H s.v s.d s.ns) → J.stop ds.length H
  step : ∀ (i : Nat) d H v H', ds[i]? = some d → (∀ s ∈ As, Rd K H s.v s.d s.ns) → J.yld i H v H' → Same H H' ∧ ∃ ns, Rd K H' v d ns ∧ ∀ a ∈ ns, 0 < oL As a + rL As a
abbrev WR := List V → Hp → (It → Hp → Prop) → Prop
def SV (K : PySem.W.Frag) (w : WR) (g : List LD → Option (List D)) : Prop := ∀ (As : List Sl) (H : Hp) (R : It → Hp → Prop) (ds : List D), ArgsOk K H As → g (As.map Sl.ld) = some ds → (∀ J, WalkV K As J ds → R J H) → w (As.map Sl.v) H R
def fItems : LD → Option (List D)
  | (_, .lst xs) => some xs
  | (_, .tup xs) => some xs
  | (_, .frz xs) => some (xs.map .int)
  | _ => none
def g1S (f : LD → Option (List D)) : List LD → Option (List D)
  | [x] => f x
  | _ => none
def wSeq (K : PySem.W.Frag) : WR := fun vs H R => match vs with
  | [x] => (∃ a, x = .ref a ∧ (∃ xs, SqL K H a xs) ∧ R (Itl K a) H) ∨ (∃ a, x = .ref a ∧ (∃ xs, SqT K H a xs) ∧ R (Itt K a) H)
  | _ => False
theorem sv1 {K : PySem.W.Frag} {w : WR} {f : LD → Option (List D)} (h : ∀ (s : Sl) (H : Hp) (R : It → Hp → Prop) (ds : List D), ArgsOk K H [s] → Rd K H s.v s.d s.ns → f (s.l, s.d) = some ds → (∀ J, WalkV K [s] J ds → R J H) → w [s.v] H R) : SV K w (g1S f) := by
  intro As H R ds ok hg k
  rcases As with _ | ⟨s, _ | ⟨t, As⟩⟩
  · cases hg
  · exact h s H R ds ok (ok.rd _ (List.mem_cons_self ..)) hg k
  · cases hg
theorem one_ns {s : Sl} {a : Addr} (h : a ∈ s.ns) : 0 < oL [s] a + rL [s] a := arg_ns (List.mem_cons_self ..) a h
theorem sv_seq {K : PySem.W.Frag} : SV K (wSeq K) (g1S fItems) := sv1 fun s H R ds ok h1 hg k => by
  obtain ⟨l1, d1, v1, n1⟩ := s
  dsimp only at *
  unfold fItems at hg
  split at hg
  · rename_i xs e
    cases e
    cases hg
    cases h1 with
    | @lst a vs _ ns e1 r1 =>
      refine .inl ⟨a, rfl, ⟨vs, .of e1⟩, k _ ⟨fun i H i' q => ?_, fun H q => ?_, fun i d H v H' hd q y => ?_⟩⟩
      · have := q _ (List.mem_cons_self ..)
        cases this with
        | @lst _ ws _ _ e2 r2 => exact ⟨ws, ws[i]'(by rw [r2.length]; exact i'), .of e2, by simp⟩
      · have := q _ (List.mem_cons_self ..)
        cases this with
        | @lst _ ws _ _ e2 r2 => exact ⟨ws, .of e2, by rw [r2.length]; exact Nat.le_refl _⟩
      · have := q _ (List.mem_cons_self ..)
        cases this with
        | @lst _ ws _ _ e2 r2 =>
          obtain ⟨v', n, m1, m2, g1, g2, g3⟩ := r2.get hd
          obtain ⟨y1, y2⟩ := y
          subst y1
          have := y2 ws (.of e2)
          rw [g1] at this
          cases this
          exact ⟨Same.refl _, n, g2, fun b hb => one_ns (s := ⟨l1, .lst _, V.ref a, a :: _⟩) (List.mem_cons_of_mem _ (by rw [g3]; exact List.mem_append_right _ (List.mem_append_left _ hb)))⟩
  · rename_i xs e
    cases e
    cases hg
    cases h1 with
    | @tup a vs _ ns e1 r1 =>
      refine .inr ⟨a, rfl, ⟨vs, e1⟩, k _ ⟨fun i H i' q => ?_, fun H q => ?_, fun i d H v H' hd q y => ?_⟩⟩
      · have := q _ (List.mem_cons_self ..)
        cases this with
        | @tup _ ws _ _ e2 r2 => exact ⟨ws, ws[i]'(by rw [r2.length]; exact i'), e2, by simp⟩
      · have := q _ (List.mem_cons_self ..)
        cases this with
        | @tup _ ws _ _ e2 r2 => exact ⟨ws, e2, by rw [r2.length]; exact Nat.le_refl _⟩
      · have := q _ (List.mem_cons_self ..)
        cases this with
        | @tup _ ws _ _ e2 r2 =>
          obtain ⟨v', n, m1, m2, g1, g2, g3⟩ := r2.get hd
          obtain ⟨y1, y2⟩ := y
          subst y1
          have := y2 ws e2
          rw [g1] at this
          cases this
          exact ⟨Same.refl _, n, g2, fun b hb => one_ns (s := ⟨l1, .tup _, V.ref a, _⟩) (by rw [g3]; exact List.mem_append_right _ (List.mem_append_left _ hb))⟩
  · rename_i xs e
    cases e
    cases hg
    cases h1 with
    | @frz a _ e1 =>
      refine .inl ⟨a, rfl, ⟨_, e1.sq⟩, k _ ⟨fun i H i' q => ?_, fun H q => ?_, fun i d H v H' hd q y => ?_⟩⟩
      · have := q _ (List.mem_cons_self ..)
        cases this with
        | @frz _ _ e2 => exact ⟨_, (xs.map V.int)[i]'(by simpa using i'), e2.sq, by simp⟩
      · have := q _ (List.mem_cons_self ..)
        cases this with
        | @frz _ _ e2 => exact ⟨_, e2.sq, by simp⟩
      · have := q _ (List.mem_cons_self ..)
        cases this with
        | @frz _ _ e2 =>
          obtain ⟨y1, y2⟩ := y
          subst y1
          have := y2 _ (e2.sq)
          rw [List.getElem?_map] at hd this
          cases ex : xs[i]? with
          | none => rw [ex] at hd; cases hd
          | some x =>
            rw [ex] at hd this
            cases hd
            cases this
            exact ⟨Same.refl _, [], .int x, fun b hb => nomatch hb⟩
  · cases hg
def bd62 (i : Int) : Bool := decide (i.natAbs < 4611686018427387904)
theorem bd62_ok {i : Int} (h : bd62 i = true) : -(2 ^ 62) ≤ i ∧ i < 2 ^ 62 := by
  unfold bd62 at h
  have h := of_decide_eq_true h
  omega
def rngD (lo : Int) (n : Nat) : List D := (List.range n).map fun (k : Nat) => D.int (lo + k)
def g2S (f : D → D → Option (List D)) : List LD → Option (List D)
  | [x, y] => f x.2 y.2
  | _ => none
def fR1 : LD → Option (List D)
  | (_, .int j) => if bd62 j then some (rngD 0 j.toNat) else none
  | _ => none
def fR2 : D → D → Option (List D)
  | .int i, .int j => if bd62 i && bd62 j then some (rngD i (j - i).toNat) else none
  | _, _ => none
abbrev gR1 := g1S fR1
def wR1 : WR := fun vs H R => ∃ j : Int, vs = [.int j] ∧ -(2 ^ 62) ≤ j ∧ j < 2 ^ 62 ∧ R (Itr 0 j.toNat) H
theorem walk_rng {K : PySem.W.Frag} {As : List Sl} {lo : Int} {n : Nat} : WalkV K As (Itr lo n) (rngD lo n) := by
  have hl : (rngD lo n).length = n := by simp [rngD]
  refine ⟨fun i H hi _ => by rw [hl] at hi; exact hi, fun H _ => by rw [hl]; exact Nat.le_refl _, fun i d H v H' hd _ y => ?_⟩
  obtain ⟨y1, y2⟩ := y
  subst y1 y2
  unfold rngD at hd
  rw [List.getElem?_map] at hd
  obtain ⟨k, h1, h2⟩ := Option.map_eq_some_iff.mp hd
  have : k = i := by
    rw [List.getElem?_range] at h1
    · exact (Option.some.inj h1).symm
    · have := (List.getElem?_eq_some_iff.mp h1).1
      simpa using this
  subst this
  subst h2
  exact ⟨Same.refl _, [], .int _, fun b hb => nomatch hb⟩
theorem sv_r1 {K : PySem.W.Frag} : SV K wR1 gR1 := sv1 fun s H R ds ok h1 hg k => by
  obtain ⟨l1, d1, v1, n1⟩ := s
  dsimp only at *
  unfold fR1 at hg
  split at hg
  · rename_i j e
    cases e
    split at hg
    · rename_i hz
      cases hg
      obtain ⟨rfl, rfl⟩ := rd_int h1
      obtain ⟨q1, q2⟩ := bd62_ok hz
      exact ⟨_, rfl, q1, q2, k _ walk_rng⟩
    · cases hg
  · cases hg
def fEnum : LD → Option (List D)
  | (_, .lst xs) => some (xs.zipIdx.map fun p => .tup [.int p.2, p.1])
  | (_, .frz xs) => some (xs.zipIdx.map fun p => .tup [.int p.2, .int p.1])
  | _ => none
def srcE (g : List LD → Option (List D)) (fs : List EF) : IF' := fun Γ => match evE fs Γ with
  | .ok xs Γ' => (match g xs with
    | some ds => .ok (ds.map fun d => (0, d)) Γ'
    | none => .bad)
  | .exc c Γ' => .exc c Γ'
  | .bad => .bad
section
variable {K : PySem.W.Frag} {Z : Zone} {σ : L2.St} {H H' : Hp} {L : List (Option Sl)} {M : List Tm}
/-- a temp told otherwise -/
theorem Rel.conv {m m' : Tm} (R : Rel K Z σ H L (m :: M)) (hP : m'.P H) (hS : m'.Stab K) (hc : ∀ a, m'.own a ≤ m.own a ∧ (0 < m'.rst a → 0 < m.own a + m.rst a) ∧ (0 < m'.own a → m'.rst a = 0)) : Rel K Z σ H L (m' :: M) := by
  have sp : ∀ a, oS L a + (m.own a + oM M a) ≤ 1 ∧ (0 < oS L a + (m.own a + oM M a) → rS L a + (m.rst a + rM M a) = 0) := fun a => R.sep a
  obtain ⟨_, _, hd⟩ := R.tms m (List.mem_cons_self ..)
  exact R.pop.push hP hS (fun a ha => hd a (by have := hc a; by_cases c : 0 < m'.rst a; exact (hc a).2.1 c; omega)) (fun a => ⟨by have := hc a; have := sp a; omega, fun h => (hc a).2.2 h⟩)
    (fun a ha => ⟨R.wr a (by show 0 < oS L a + (m.own a + oM M a); have := hc a; omega), by have := hc a; have := sp a; omega⟩) fun a ha => by
    have := (hc a).2.1 ha
    have := sp a
    omega
end
theorem di_gen {X : Cx} {W : WW} {tg iter : Expr} {w : WR} {g : List LD → Option (List D)} {fs : List EF} {wi : TI} (hv : SV X.K w g) (hi : PI X tg iter wi) (ht : ∀ σ H R, tArgs (fs.map fun f => tDE X.K W f) (fun vs H _ => w vs H R) σ H (fun _ _ => True) → wi σ H R) : DI X W tg iter (srcE g fs) := by
  refine ⟨wi, hi, fun σ H R' ⟨Z, L, M, R, q⟩ => ht σ H R' ?_⟩
  refine eparts (r := fun vs H _ => w vs H R') (M := M) fs [] H L R.args0 (fun _ h => (nomatch h)) ?_
  unfold srcE at q
  cases ev : evE fs (er L) with
  | bad => rw [ev] at q; exact q
  | exc c Γ' => rw [ev] at q; exact q
  | ok xs Γ' =>
    rw [ev] at q
    intro Bs H1 L1 e1 eB R1 z1
    simp only [List.nil_append] at R1 z1 ⊢
    dsimp only at q
    cases eg : g xs with
    | none => rw [eg] at q; exact q.elim
    | some ds =>
      rw [eg] at q
      dsimp only at q
      refine hv Bs H1 R' ds R1.argsOk (by rw [eB]; exact eg) fun J wk => ?_
      -- the arguments are kept, nothing of them is owned
      have stb : (⟨fun _ => 0, fun a => oL Bs a + rL Bs a, fun H => ∀ s ∈ Bs, Rd X.K H s.v s.d s.ns⟩ : Tm).Stab X.K := fun H H' h t e s hs => Rd.at t _ _ _ (h s hs) fun a ha => e a (by
        have := oL_mem a hs
        have := (s.mem a).mpr ha
        show 0 < 0 + (oL Bs a + rL Bs a)
        omega)
      have R2 := R1.conv (m' := ⟨fun _ => 0, fun a => oL Bs a + rL Bs a, fun H => ∀ s ∈ Bs, Rd X.K H s.v s.d s.ns⟩) R1.argsOk.rd stb fun a => ⟨Nat.zero_le _, fun h => h, fun h => absurd h (Nat.lt_irrefl 0)⟩
      refine q H1 L1 J (fun _ => ⟨fun _ => 0, fun a => oL Bs a + rL Bs a, fun H => ∀ s ∈ Bs, Rd X.K H s.v s.d s.ns⟩) e1 R2 ⟨fun i H hi h => wk.goes i H (by simpa using hi) h, fun H h => by simpa using wk.stops H h, fun _ => stb, fun i x H v H' hx h y => ?_⟩
      rw [List.getElem?_map] at hx
      obtain ⟨d, hd, e⟩ := Option.map_eq_some_iff.mp hx
      subst e
      obtain ⟨sm, ns, rd, hn⟩ := wk.step i d H v H' hd h y
      have h' : ∀ s ∈ Bs, Rd X.K H' s.v s.d s.ns := fun s hs => (h s hs).same sm
      refine ⟨sm, ns, rd, fun a ha => ?_, h', fun a ha => ?_, fun a => ?_⟩
      · obtain ⟨t, g1, g2⟩ := oL_pos (hn a ha)
        exact z1 t g1 a g2
      · obtain ⟨t, g1, g2⟩ := oL_pos (As := Bs) (a := a) (by have ha : 0 < 0 + (oL Bs a + rL Bs a) := ha; omega)
        exact (h' t g1).dom _ _ _ a g2
      · have e1 : (Sl.mk 0 d v ns).own a = 0 := by simp [Sl.own, ownL]
        have e2 : (Sl.mk 0 d v ns).rst a = ns.count a := by simp [Sl.rst, rstL]
        dsimp only
        rw [e1, e2]
        refine ⟨Nat.le_refl _, fun c => ?_, fun c => absurd c (by omega)⟩
        by_cases c2 : 0 < ns.count a
        · have := hn a (List.count_pos_iff.mp c2)
          omega
        · omega
end DL
namespace DL
open L2 PySem PySem.Spec PyProof.Rows
section
variable {K : PySem.W.Frag} {H H' : Hp}
theorem tot_cnt (As : List Sl) (a : Addr) : oL As a + rL As a = (As.flatMap Sl.ns).count a := (cnt_flat a As).symm
/-- a list that is owned: its own object stands in it once, and nowhere else -/
theorem top_own {As : List Sl} {l : Nat} {d : D} {v : V} {p : Addr} {ns : List Addr} (ok : ArgsOk K H As) (hs : (⟨l, d, v, p :: ns⟩ : Sl) ∈ As) (hl : 1 ≤ l % 10) (hm : d.mut = true) : (As.flatMap Sl.ns).count p = 1 ∧ 0 < oL As p := by
  have h1 : 0 < (Sl.mk l d v (p :: ns)).own p := by
    unfold Sl.own ownL
    dsimp only
    split
    · omega
    · rw [mut_top hm]; simp
    · simp [List.count_cons]
  have h2 := oL_mem p hs
  have h3 := ok.sep p
  have h4 := tot_cnt As p
  omega
theorem tupk_upd {p : Addr} {o o' : HO} (hp : H p = some o) (hm : Mut (some o)) : TupK H (upd H p o') := fun a q e n => by
  by_cases c : a = p
  · subst c
    rw [hp] at e
    cases e
    exact absurd hm n
  · rw [upd_ne c]; exact e
/-- readings that do not lean on the object that is written -/
theorem Rds.upd {vs : List V} {ds : List D} {ns : List Addr} {p : Addr} {o o' : HO} (h : Rds K H vs ds ns) (hp : H p = some o) (hm : Mut (some o)) (hn : p ∉ ns) : Rds K (upd H p o') vs ds ns :=
  Rds.at (tupk_upd hp hm) _ _ _ h fun a ha => upd_ne fun e => hn (e ▸ ha)
theorem Rd.upd {v : V} {d : D} {ns : List Addr} {p : Addr} {o o' : HO} (h : Rd K H v d ns) (hp : H p = some o) (hm : Mut (some o)) (hn : p ∉ ns) : Rd K (upd H p o') v d ns :=
  Rd.at (tupk_upd hp hm) _ _ _ h fun a ha => upd_ne fun e => hn (e ▸ ha)
theorem Fram.upd {As : List Sl} {p : Addr} {o : HO} (h : 0 < oL As p) : Fram As H (upd H p o) := ⟨fun a q e z => by
    rw [upd_ne (fun c => by rw [c] at z; omega)]
    exact e, fun a e => by
    unfold L2.upd at e
    split at e
    · cases e
    · exact e⟩
end
/-- a call by values that keeps a promise over data -/
def MOk (K : PySem.W.Frag) (mg : Str → Option Value) (n : Nat) (io : List Bool) (r : List V → Hp → VK → Prop) (G : List LD → FR) : Prop := ∀ vs H Q E, spF K mg n io G vs H Q E → r vs H Q
def r1a (r : V → List V → Hp → VK → Prop) : List V → Hp → VK → Prop := fun xs H Q => match xs with
  | x :: ys => r x ys H Q
  | _ => False
section
variable {K : PySem.W.Frag} {mg : Str → Option Value} {H : Hp}
/-- behind a change of an object that is owned: what there is now; t: what is given -/
theorem chg {As : List Sl} {l' : Nat} {d' : D} {t : Sl} {p : Addr} {o o' : HO} {ms : List Addr} (ok : ArgsOk K H As) (h1 : (As.flatMap Sl.ns).count p = 1) (h2 : 0 < oL As p) (hp : H p = some o) (hm' : Mut (some o')) (hr : Rd K (upd H p o') (.ref p) d' (p :: ms)) (hd : d'.mut = true)
    (hrt : Rd K (upd H p o') t.v t.d t.ns) (hm : ∀ a, (p :: (ms ++ t.ns)).count a ≤ (As.flatMap Sl.ns).count a) (hl' : l' = 1 ∨ (l' = 2 ∧ ∀ a, 0 < ms.count a → 0 < oL As a)) (ht : t.l = 0 ∨ (t.l = 2 ∧ ∀ a, 0 < t.ns.count a → 0 < oL As a)) :
    Fram As H (upd H p o') ∧ ArgsOk K (upd H p o') [t, ⟨l', d', .ref p, p :: ms⟩] ∧ From As H [t, ⟨l', d', .ref p, p :: ms⟩] := by
  have tot := fun a => tot_cnt As a
  have cn : ∀ a, (if p = a then 1 else 0) + ms.count a + t.ns.count a ≤ oL As a + rL As a := fun a => by
    have := hm a
    rw [← tot a, List.count_cons, List.count_append] at this
    by_cases c : p = a
    · simp only [c, beq_self_eq_true, if_true] at this ⊢; omega
    · simp only [c, beq_iff_eq, if_false] at this ⊢; omega
  have hp' := tot p
  have sO : ∀ a, (Sl.mk l' d' (.ref p) (p :: ms)).own a = (if p = a then 1 else 0) + (if l' = 2 then ms.count a else 0) ∧ (Sl.mk l' d' (.ref p) (p :: ms)).rst a = (if l' = 2 then 0 else ms.count a) := fun a => by
    rcases hl' with e | ⟨e, _⟩
    · subst e
      simp only [Sl.own, Sl.rst, ownL, rstL, mut_top hd, List.take_succ_cons, List.take_zero, List.drop_succ_cons, List.drop_zero, List.count_cons, List.count_nil, beq_iff_eq]
      simp
    · subst e
      simp only [Sl.own, Sl.rst, ownL, rstL, List.count_cons, List.count_nil, beq_iff_eq]
      simp; omega
  have tO : ∀ a, t.own a = (if t.l = 2 then t.ns.count a else 0) ∧ t.rst a = (if t.l = 2 then 0 else t.ns.count a) := fun a => by
    obtain ⟨l, d, v, ns⟩ := t
    dsimp only at *
    rcases ht with e | ⟨e, _⟩
    · subst e; simp [Sl.own, Sl.rst, ownL, rstL]
    · subst e; simp [Sl.own, Sl.rst, ownL, rstL]
  have B : ∀ a, oL [t, ⟨l', d', .ref p, p :: ms⟩] a = (if t.l = 2 then t.ns.count a else 0) + ((if p = a then 1 else 0) + (if l' = 2 then ms.count a else 0)) ∧ rL [t, ⟨l', d', .ref p, p :: ms⟩] a = (if t.l = 2 then 0 else t.ns.count a) + (if l' = 2 then 0 else ms.count a) := fun a => by
    simp only [oL, rL, (sO a).1, (sO a).2, (tO a).1, (tO a).2, Nat.add_zero]
    simp
  have C : ∀ a, ∃ m1 m2 t1 t2 b : Nat, m1 + m2 = ms.count a ∧ t1 + t2 = t.ns.count a ∧ (a = p → b = 1) ∧ ((b = 0 ∧ a ≠ p) ∨ (a = p ∧ b = 1)) ∧ b + ms.count a + t.ns.count a ≤ oL As a + rL As a ∧ oL [t, ⟨l', d', .ref p, p :: ms⟩] a = t1 + (b + m1) ∧ rL [t, ⟨l', d', .ref p, p :: ms⟩] a = t2 + m2 ∧ (0 < m1 → 0 < oL As a) ∧ (0 < t1 → 0 < oL As a) := fun a => by
    refine ⟨if l' = 2 then ms.count a else 0, if l' = 2 then 0 else ms.count a, if t.l = 2 then t.ns.count a else 0, if t.l = 2 then 0 else t.ns.count a, if p = a then 1 else 0, by split <;> simp, by split <;> simp, fun e => if_pos e.symm, ?_, cn a, (B a).1, (B a).2, ?_, ?_⟩
    · by_cases c : p = a
      · exact .inr ⟨c.symm, if_pos c⟩
      · exact .inl ⟨if_neg c, fun e => c e.symm⟩
    · rcases hl' with e | ⟨e, k⟩
      · rw [e]; exact fun h => absurd h (by simp)
      · rw [if_pos e]; exact k a
    · rcases ht with e | ⟨e, k⟩
      · rw [e]; exact fun h => absurd h (by simp)
      · rw [if_pos e]; exact k a
  -- what is owned now was owned
  have ow : ∀ a, 0 < oL [t, ⟨l', d', .ref p, p :: ms⟩] a → 0 < oL As a := fun a ha => by
    obtain ⟨m1, m2, t1, t2, b, c1, c2, c3, c4, c5, c6, c7, c8, c9⟩ := C a
    by_cases e : a = p
    · exact e ▸ h2
    · by_cases f : 0 < m1
      · exact c8 f
      · rcases c4 with c4 | c4
        · exact c9 (by omega)
        · exact absurd c4.1 e
  refine ⟨.upd h2, ⟨fun s hs => ?_, fun a => ?_, fun a ha => ?_⟩, fun a => ⟨fun h => .inr (ow a h), fun h => .inr ?_⟩⟩
  · rcases List.mem_cons.mp hs with rfl | hs
    · exact hrt
    · rw [List.mem_singleton.mp hs]; exact hr
  · have k := ow a
    have s := ok.sep a
    obtain ⟨m1, m2, t1, t2, b, c1, c2, c3, c4, c5, c6, c7, c8, c9⟩ := C a
    rw [c6] at k ⊢
    rw [c7]
    by_cases f : 0 < t1 + (b + m1)
    · have f2 := k f
      have f3 := s.2 f2
      have f4 := s.1
      exact ⟨by omega, fun _ => by omega⟩
    · exact ⟨by omega, fun z => absurd z f⟩
  · have k := ow a ha
    by_cases e : a = p
    · subst e; rw [upd_same]; exact hm'
    · rw [upd_ne e]; exact ok.wr a k
  · obtain ⟨m1, m2, t1, t2, b, c1, c2, c3, c4, c5, c6, c7, c8, c9⟩ := C a
    omega
def fullS (s : Sl) : Prop := 2 ≤ s.l % 10 ∨ s.ns = []
theorem full_own {s : Sl} (h : fullS s) (a : Addr) : s.own a = s.ns.count a := by
  rcases h with h | h
  · have h1 := s.tot a
    have h2 := rst_top (d := s.d) (v := s.v) (ns := s.ns) h a
    have h3 : s.rst a = 0 := h2
    omega
  · have h1 := s.tot a
    rw [h] at h1 ⊢
    simp at h1 ⊢
    omega
theorem fulls_own {a : Addr} : ∀ {Xs : List Sl}, (∀ x ∈ Xs, fullS x) → oL Xs a = (Xs.flatMap Sl.ns).count a
  | [], _ => rfl
  | x :: Xs, h => by
    rw [List.flatMap_cons, List.count_append, ← fulls_own fun y hy => h y (List.mem_cons_of_mem _ hy), ← full_own (h x (List.mem_cons_self ..))]
    rfl
/-- an object that is owned has other content now -/
theorem obj_chg {l l' : Nat} {d d' : D} {p : Addr} {o o' : HO} {ns ms : List Addr} {Xs : List Sl} {t : Sl} (ok : ArgsOk K H (⟨l, d, .ref p, p :: ns⟩ :: Xs)) (hd : d.mut = true) (hd' : d'.mut = true) (hl : 1 ≤ l % 10) (hp : H p = some o) (hm : Mut (some o)) (hm' : Mut (some o')) (rd : p ∉ ms → Rd K (upd H p o') (.ref p) d' (p :: ms)) (rt : Rd K H t.v t.d t.ns)
    (cnt : ∀ a, ms.count a + t.ns.count a ≤ ns.count a + (Xs.flatMap Sl.ns).count a) (hl' : l' = 1 ∨ (l' = 2 ∧ 2 ≤ l % 10 ∧ ∀ x ∈ Xs, fullS x)) (ht : t.l = 0 ∨ (t.l = 2 ∧ (t.ns = [] ∨ (2 ≤ l % 10 ∧ ∀ x ∈ Xs, fullS x)))) :
    Fram (⟨l, d, .ref p, p :: ns⟩ :: Xs) H (upd H p o') ∧ ArgsOk K (upd H p o') [t, ⟨l', d', .ref p, p :: ms⟩] ∧ From (⟨l, d, .ref p, p :: ns⟩ :: Xs) H [t, ⟨l', d', .ref p, p :: ms⟩] := by
  obtain ⟨h1, h2⟩ := top_own ok (List.mem_cons_self ..) hl hd
  have h1' := h1
  rw [List.flatMap_cons, List.count_append] at h1'
  simp only [List.count_cons, beq_self_eq_true, if_true] at h1'
  have cp := cnt p
  have hpm : p ∉ ms := fun c => by have := List.count_pos_iff.mpr c; omega
  have hpt : p ∉ t.ns := fun c => by have := List.count_pos_iff.mpr c; omega
  have full : 2 ≤ l % 10 → (∀ x ∈ Xs, fullS x) → ∀ a, 0 < ns.count a + (Xs.flatMap Sl.ns).count a → 0 < oL (⟨l, d, .ref p, p :: ns⟩ :: Xs) a := fun g1 g2 a ha => by
    have := full_own (s := ⟨l, d, .ref p, p :: ns⟩) (.inl g1) a
    have := fulls_own (a := a) g2
    show 0 < (Sl.mk l d (.ref p) (p :: ns)).own a + oL Xs a
    have : ns.count a ≤ (p :: ns).count a := by rw [List.count_cons]; omega
    simp only at *
    omega
  refine chg ok h1 h2 hp hm' (rd hpm) hd' (rt.upd hp hm hpt) (fun a => ?_) ?_ ?_
  · have := cnt a
    rw [List.flatMap_cons, List.count_append]
    simp only [List.count_cons, List.count_append]
    omega
  · rcases hl' with e | ⟨e, g1, g2⟩
    · exact .inl e
    · exact .inr ⟨e, fun a ha => full g1 g2 a (by have := cnt a; omega)⟩
  · rcases ht with e | ⟨e, g⟩
    · exact .inl e
    · refine .inr ⟨e, fun a ha => ?_⟩
      rcases g with g | ⟨g1, g2⟩
      · rw [g] at ha; simp at ha
      · exact full g1 g2 a (by have := cnt a; omega)
theorem rd_mut {d : D} {v : V} {ns : List Addr} (h : Rd K H v d ns) (hd : d.mut = true) : ∃ p o ms, v = .ref p ∧ ns = p :: ms ∧ H p = some o ∧ Mut (some o) := by
  cases h with
  | lst h r => exact ⟨_, _, _, rfl, rfl, h, trivial⟩
  | dk h k r => exact ⟨_, _, _, rfl, rfl, h, trivial⟩
  | nd h hn k r1 r => exact ⟨_, _, _, rfl, rfl, h, True.intro⟩
  | _ => cases hd
/-- the level of a thing whose things are all ours, of one whose things are not -/
def l12 (b : Bool) : Nat := if b then 2 else 1
def l02 (b : Bool) : Nat := if b then 2 else 0
def ful (x : LD) : Bool := decide (2 ≤ x.1 % 10) || x.2.imm
theorem ful_ok {s : Sl} (h : ful s.ld = true) (r : Rd K H s.v s.d s.ns) : fullS s := by
  unfold ful at h
  rw [Bool.or_eq_true, decide_eq_true_eq] at h
  rcases h with h | h
  · exact .inl h
  · exact .inr (r.imm _ _ _ h)
/-- what changes an object: from it and the other arguments to the value and what it is then -/
def GL (f : D → List LD → Option (Option D × D)) : List LD → FR
  | (l, d) :: as => if 1 ≤ l % 10 then (if d.mut then (match f d as with
    | some (some x, d') => .ret (l02 (decide (2 ≤ l % 10) && as.all ful || x.imm), x) [(l12 (decide (2 ≤ l % 10) && as.all ful), d')]
    | some (none, d') => .ret (2, .non) [(l12 (decide (2 ≤ l % 10) && as.all ful), d')]
    | none => .bad) else .bad) else .bad
  | _ => .bad
/-- what such a method is to be -/
def LOk (K : PySem.W.Frag) (r : V → List V → Hp → VK → Prop) (f : D → List LD → Option (Option D × D)) : Prop := ∀ (d : D) (p : Addr) (ns : List Addr) (Xs : List Sl) (H : Hp) (Q : VK) (od : Option D) (d' : D), d.mut = true → Rd K H (.ref p) d (p :: ns) → (∀ s ∈ Xs, Rd K H s.v s.d s.ns) → f d (Xs.map Sl.ld) = some (od, d') →
  (∀ v nv o' ms, d'.mut = true → Mut (some o') → (∀ o, H p = some o → Mut (some o) → p ∉ ms → Rd K (upd H p o') (.ref p) d' (p :: ms)) → Rd K H v (od.getD .non) nv → (∀ a, ms.count a + nv.count a ≤ ns.count a + (Xs.flatMap Sl.ns).count a) → Q v (upd H p o')) → r (.ref p) (Xs.map Sl.v) H Q
theorem MOk.of {r : V → List V → Hp → VK → Prop} {f : D → List LD → Option (Option D × D)} {n : Nat} (h : LOk K r f) : MOk K mg (n + 1) (true :: List.replicate n false) (r1a r) (GL f) := by
  rintro _ H Q E ⟨As, rfl, hn, ok, q⟩
  rcases As with _ | ⟨⟨l, d, v, ns⟩, Xs⟩
  · cases hn
  · have rs := ok.rd ⟨l, d, v, ns⟩ (List.mem_cons_self ..)
    have rX : ∀ s ∈ Xs, Rd K H s.v s.d s.ns := fun s hs => ok.rd s (List.mem_cons_of_mem _ hs)
    have mk : msk (true :: List.replicate n false) (v :: Xs.map Sl.v) = [v] := by
      have : ∀ (n : Nat) (vs : List V), msk (List.replicate n false) vs = [] := fun n => by
        induction n with
        | zero => intro vs; rfl
        | succ n ih =>
          intro vs
          cases vs with
          | nil => rfl
          | cons v vs => exact ih vs
      show v :: msk (List.replicate n false) _ = _
      rw [this]
    simp only [List.map_cons, Sl.ld] at q
    unfold GL at q
    dsimp only at rs q
    by_cases hl : 1 ≤ l % 10
    · rw [if_pos hl] at q
      by_cases hd : d.mut = true
      · rw [if_pos hd] at q
        obtain ⟨p, o, ms0, rfl, rfl, hp, hm⟩ := rd_mut rs hd
        show r (.ref p) (Xs.map Sl.v) H Q
        have fl : ∀ b, (decide (2 ≤ l % 10) && (Xs.map Sl.ld).all ful) = b → l12 b = 1 ∨ (l12 b = 2 ∧ 2 ≤ l % 10 ∧ ∀ x ∈ Xs, fullS x) := fun b hb => by
          subst hb
          cases hb : (decide (2 ≤ l % 10) && (Xs.map Sl.ld).all ful) with
          | false => exact .inl rfl
          | true =>
            rw [Bool.and_eq_true, decide_eq_true_eq, List.all_eq_true] at hb
            exact .inr ⟨rfl, hb.1, fun x hx => ful_ok (hb.2 _ (List.mem_map.mpr ⟨x, hx, rfl⟩)) (rX x hx)⟩
        cases ef : f d (Xs.map Sl.ld) with
        | none =>
          have q : False := by simpa [ef] using q
          exact q.elim
        | some z =>
          obtain ⟨od, d'⟩ := z
          refine h d p ms0 Xs H Q od d' hd rs rX ef fun v nv o' ms hd' hm' r1 r2 cn => ?_
          cases od with
          | none =>
            have q := q
            simp only [ef] at q
            have e2 : nv = [] := by cases r2; rfl
            have e3 : v = .non := by cases r2; rfl
            subst e2 e3
            obtain ⟨g1, g2, g3⟩ := obj_chg (t := ⟨2, .non, .non, []⟩) ok hd hd' hl hp hm hm' (r1 o hp hm) r2 cn (fl _ rfl) (.inr ⟨rfl, .inl rfl⟩)
            exact q _ _ [⟨_, _, _, _⟩] _ rfl mk.symm g1 g2 g3
          | some x =>
            have q := q
            simp only [ef] at q
            simp only [Option.getD_some] at r2
            obtain ⟨g1, g2, g3⟩ := obj_chg (t := ⟨l02 (decide (2 ≤ l % 10) && (Xs.map Sl.ld).all ful || x.imm), x, v, nv⟩) ok hd hd' hl hp hm hm' (r1 o hp hm) r2 cn (fl _ rfl) (by
              dsimp only
              cases e1 : x.imm with
              | true => exact .inr ⟨by simp [l02], .inl (r2.imm _ _ _ e1)⟩
              | false =>
                rw [Bool.or_false]
                rcases fl _ rfl with g | ⟨g, g1, g2⟩
                · left
                  revert g
                  cases (decide (2 ≤ l % 10) && (Xs.map Sl.ld).all ful) <;> simp [l12, l02]
                · right
                  revert g
                  cases (decide (2 ≤ l % 10) && (Xs.map Sl.ld).all ful) <;> simp [l12, l02, g1]
                  exact .inr g2)
            exact q _ _ [⟨_, _, _, _⟩] _ rfl mk.symm g1 g2 g3
      · rw [if_neg hd] at q; exact q.elim
    · rw [if_neg hl] at q; exact q.elim
/-- a store: the value, the object, the place -/
def GS (f : D → List LD → Option (Option D × D)) : List LD → FR
  | [x, s, k] => GL f [s, x, k]
  | _ => .bad
def r3s (r : V → List V → Hp → VK → Prop) : List V → Hp → VK → Prop := fun xs H Q => match xs with
  | [v, o, i] => r o [v, i] H Q
  | _ => False
theorem MOk.store {r : V → List V → Hp → VK → Prop} {f : D → List LD → Option (Option D × D)} (h : LOk K r f) : MOk K mg 3 [false, true, false] (r3s r) (GS f) := by
  rintro _ H Q E ⟨As, rfl, hn, ok, q⟩
  rcases As with _ | ⟨x, _ | ⟨s, _ | ⟨k, _ | ⟨y, As⟩⟩⟩⟩
  · cases hn
  · cases hn
  · cases hn
  rotate_left
  · simp at hn
  have pm : [x, s, k].Perm [s, x, k] := .swap ..
  refine (MOk.of (mg := mg) (n := 2) h) [s.v, x.v, k.v] H Q E ⟨[s, x, k], rfl, rfl, ok.perm pm, ?_⟩
  have eo : ∀ a, oL [x, s, k] a = oL [s, x, k] a ∧ rL [x, s, k] a = rL [s, x, k] a := fun a => oL_perm pm a
  have e1 : ∀ {H'}, Fram [s, x, k] H H' → Fram [x, s, k] H H' := fun g => ⟨fun a o h1 h2 => g.1 a o h1 (by rw [← (eo a).1]; exact h2), g.2⟩
  have e2 : ∀ {Bs}, From [s, x, k] H Bs → From [x, s, k] H Bs := fun g a => by rw [(eo a).1, (eo a).2]; exact g a
  simp only [List.map_cons, List.map_nil, GS] at q ⊢
  cases eg : GL f [s.ld, x.ld, k.ld] with
  | bad => rw [eg] at q; exact q
  | exc c fin =>
    rw [eg] at q
    exact fun Fs H' g1 g2 g3 g4 g5 => q Fs H' g1 g2 (e1 g3) g4 (e2 g5)
  | ret y fin =>
    rw [eg] at q
    exact fun v ns Fs H' g1 g2 g3 g4 g5 => q v ns Fs H' g1 g2 (e1 g3) g4 (e2 g5)
end
end DL
namespace DL
open L2 PySem PySem.Spec PyProof.Rows
section
variable {K : PySem.W.Frag}
theorem LOk.lst {r : V → List V → Hp → VK → Prop} {f : D → List LD → Option (Option D × D)} (hn : ∀ d as, d.mut = true → (∀ xs, d ≠ .lst xs) → f d as = none) (h : ∀ (xs : List D) (p : Addr) (vs : List V) (ns : List Addr) (Xs : List Sl) (H : Hp) (Q : VK) (od : Option D) (d' : D), H p = some (.lst vs) → Rds K H vs xs ns → (∀ s ∈ Xs, Rd K H s.v s.d s.ns) → f (.lst xs) (Xs.map Sl.ld) = some (od, d') →
    (∀ v nv ys ws ms, d' = .lst ys → Rds K H ws ys ms → Rd K H v (od.getD .non) nv → (∀ a, ms.count a + nv.count a ≤ ns.count a + (Xs.flatMap Sl.ns).count a) → Q v (upd H p (.lst ws))) → r (.ref p) (Xs.map Sl.v) H Q) : LOk K r f := by
  intro d p ns Xs H Q od d' hd rd rX hf k
  cases rd with
  | lst hp rs =>
    exact h _ p _ ns Xs H Q od d' hp rs rX hf fun v nv ys ws ms e g1 g2 g3 => k v nv (.lst ws) ms (by rw [e]; rfl) trivial (fun o ho hm hq => e ▸ .lst upd_same (g1.upd ho hm hq)) g2 g3
  | dk h1 h2 h3 => rw [hn _ _ rfl (fun _ e => by cases e)] at hf; cases hf
  | nd h1 h2 h3 h4 h5 => rw [hn _ _ rfl (fun _ e => by cases e)] at hf; cases hf
  | tup h r => cases hd
  | obj => cases hd
def fApp : D → List LD → Option (Option D × D)
  | .lst xs, [x] => if szOk (xs.length + 1) then some (none, .lst (xs ++ [x.2])) else none
  | _, _ => none
theorem l_append : LOk K rAppend fApp := LOk.lst (fun d as hd hn => by
    cases d <;> first | rfl | exact absurd rfl (hn _)) fun xs p vs ns Xs H Q od d' hp rs rX hf k => by
  rcases Xs with _ | ⟨x, _ | ⟨y, Xs⟩⟩
  · cases hf
  · simp only [List.map_cons, List.map_nil, fApp] at hf
    split at hf
    · next hz =>
      cases hf
      refine ⟨p, vs, x.v, rfl, rfl, hp, ?_, k .non [] _ _ _ rfl (rs.append (.cons (rX x (List.mem_cons_self ..)) .nil)) .non fun a => ?_⟩
      · have := szOk_ok hz
        rw [rs.length]
        omega
      · simp [List.count_append]
    · cases hf
  · cases hf
def fIns : D → List LD → Option (Option D × D)
  | .lst xs, [(_, .int i), x] => if szOk (xs.length + 1) && decide (0 ≤ i) && decide (i.natAbs < 9223372036854775808) then some (none, .lst (xs.take i.toNat ++ [x.2] ++ xs.drop i.toNat)) else none
  | _, _ => none
theorem Rds.split {H : Hp} : ∀ (n : Nat) {vs : List V} {ds : List D} {ns : List Addr}, Rds K H vs ds ns → ∃ n1 n2, ns = n1 ++ n2 ∧ Rds K H (vs.take n) (ds.take n) n1 ∧ Rds K H (vs.drop n) (ds.drop n) n2
  | 0, _, _, ns, r => ⟨[], ns, rfl, .nil, r⟩
  | _ + 1, _, _, _, .nil => ⟨[], [], rfl, .nil, .nil⟩
  | n + 1, _, _, _, .cons (n := n0) h r => by
    obtain ⟨n1, n2, e, q1, q2⟩ := Rds.split n r
    exact ⟨n0 ++ n1, n2, by rw [e, List.append_assoc], .cons h q1, q2⟩
def fPopI (i : Int) (xs : List D) : Option (Option D × D) := if decide (i.natAbs < 9223372036854775808) then (match seqIndex? i xs.length with
    | some k => (match xs[k]? with
      | some d => some (some d, .lst (xs.eraseIdx k))
      | none => none)
    | none => none) else none
def fPop : D → List LD → Option (Option D × D)
  | .lst xs, [] => (match xs[xs.length - 1]? with
    | some d => some (some d, .lst xs.dropLast)
    | none => none)
  | _, _ => none
def fPopA : D → List LD → Option (Option D × D)
  | .lst xs, [(_, .int i)] => fPopI i xs
  | _, _ => none
def fClr : D → List LD → Option (Option D × D)
  | .lst _, [] => some (none, .lst [])
  | _, _ => none
def fRev : D → List LD → Option (Option D × D)
  | .lst xs, [] => some (none, .lst xs.reverse)
  | _, _ => none
def fExt : D → List LD → Option (Option D × D)
  | .lst xs, [(_, .lst ys)] => if szOk (xs.length + ys.length) then some (none, .lst (xs ++ ys)) else none
  | _, _ => none
/-- x[i] = v: the value, the place -/
def fPut : D → List LD → Option (Option D × D)
  | .lst xs, [x, (_, .int i)] => (match ixN xs.length i with
    | some j => some (none, .lst (xs.set j x.2))
    | none => none)
  | .dk kvs, [x, (_, d)] => (match d.key with
    | some k => if szOk (kvs.length + 1) && (x.2.imm || decide ((kvs.map (·.1)).Nodup)) then some (none, .dk (dPut kvs k x.2)) else none
    | none => none)
  | _, _ => none
theorem Rds.set {H : Hp} {d1 : D} {v1 : V} {n1 : List Addr} : ∀ {ds : List D} {k : Nat} {vs : List V} {ns : List Addr}, Rds K H vs ds ns → Rd K H v1 d1 n1 → ∃ m, Rds K H (vs.set k v1) (ds.set k d1) m ∧ ∀ a, m.count a ≤ ns.count a + n1.count a := by
  intro ds
  induction ds with
  | nil => intro k vs ns h _; cases h; exact ⟨[], .nil, fun a => by simp⟩
  | cons d ds ih =>
    intro k vs ns h r1
    cases h with
    | cons h r =>
      cases k with
      | zero => exact ⟨_, .cons r1 r, fun a => by simp only [List.count_append]; omega⟩
      | succ k =>
        obtain ⟨m, q, c⟩ := ih (k := k) r r1
        exact ⟨_, .cons h q, fun a => by have := c a; simp only [List.count_append]; omega⟩
end
end DL
namespace DL
open L2 PySem PySem.Spec PyProof.Rows
/-- the type's name that a method is looked up in -/
def D.ty : D → String
  | .lst _ => "list"
  | .dk _ => "dict"
  | .str _ => "str"
  | .int _ => "int"
  | _ => ""
theorem ty_of {K : PySem.W.Frag} {H : Hp} {v : V} {d : D} {ns : List Addr} {T : String} (h : Rd K H v d ns) (e : d.ty = T) (hT : (T == "") = false) : tyV K T v H := by
  subst e
  cases h with
  | lst h r => exact .inl ⟨rfl, _, .of h⟩
  | dk h k r => exact .inr (.inr (.inl ⟨rfl, .inl ⟨_, h⟩⟩))
  | str x => exact rfl
  | int i => exact rfl
  | _ => cases hT
def pTy (T : String) (f : PF) : PF := fun Γ => match f Γ with
  | .ok x => if x.2.ty == T then .ok x else .bad
  | o => o
section
variable {X : Cx} {W : WW} {A : List Nat} {T id : String} {name : Str} {r : V → List V → Hp → VK → Prop} {o : Expr} {es : List Expr} {apos cpos : Pos}
theorem pTy_ok {K : PySem.W.Frag} {f : PF} {σ : L2.St} {H : Hp} {Q : VK} (hT : (T == "") = false) (h : tDP K W A (pTy T f) σ H Q) : tDP K W A f σ H fun v H' => tyV K T v H' ∧ Q v H' := by
  obtain ⟨Z, L, M, R, q⟩ := h
  refine ⟨Z, L, M, R, ?_⟩
  unfold pTy at q
  cases ef : f (er L) with
  | bad => rw [ef] at q; exact q
  | exc c => rw [ef] at q; exact q
  | ok x =>
    obtain ⟨l, d⟩ := x
    rw [ef] at q
    dsimp only at q ⊢
    by_cases c : (d.ty == T) = true
    · rw [if_pos c] at q
      exact fun v ns H' B => ⟨ty_of B.rd (beq_iff_eq.mp c) hT, q v ns H' B⟩
    · rw [if_neg c] at q; exact q.elim
theorem tyMono {t : TE} {K : PySem.W.Frag} {rest : V → Hp → Prop} {k : V → Hp → Prop} {σ : L2.St} {H : Hp} (hm : ∀ σ H Q Q', (∀ v H', Q v H' → Q' v H') → t σ H Q → t σ H Q') (hi : ∀ v H', rest v H' → k v H') (h : t σ H fun v H' => tyV K T v H' ∧ rest v H') : t σ H fun v H' => tyV K T v H' ∧ k v H' :=
  hm σ H _ _ (fun v H' q => ⟨q.1, hi v H' q.2⟩) h
/-- a method that changes what a slot holds -/
def eMeth (T : String) (G : List LD → FR) (i : Nat) (as : List AE) : EF := fun Γ => match Γ[i]? with
  | some (some (_, d)) => if d.ty == T then eCall G (.inl i :: as) Γ else .bad
  | _ => .bad
theorem eMeth_ok {K : PySem.W.Frag} {mg : Str → Option Value} {G : List LD → FR} {i n : Nat} {as : List AE} {io : List Bool} {σ : L2.St} {H : Hp} {Q : VK} (hM : MOk K mg n io (r1a r) G) (hio : io = true :: mkA as) (hn : as.length + 1 = n) (hT : (T == "") = false) (h : tDE K W (eMeth T G i as) σ H Q) :
    tVar i σ H fun x H1 => tyV K T x H1 ∧ tArgs (as.map (teA K W)) (fun xs => r x xs) σ H1 Q := by
  obtain ⟨Z, L, M, R, q⟩ := h
  unfold eMeth at q
  cases el : (er L)[i]? with
  | none => simp only [el] at q
  | some ox =>
    cases ox with
    | none => simp only [el] at q
    | some ld =>
      obtain ⟨l, d⟩ := ld
      simp only [el] at q
      by_cases c : (d.ty == T) = true
      · rw [if_pos c] at q
        obtain ⟨s, hs, e1, e2⟩ := er_some el
        obtain ⟨g1, g2, _⟩ := R.slot i s hs
        have q2 : tArgs (((.inl i : AE) :: as).map (teA K W)) (r1a r) σ H Q := call_core (W := W) (mg := mg) (n := n) (io := io) (F := G) (E := fun c _ H' => ∃ d, c = xc mg d ∧ W d σ H') (fun vs H Q p => hM vs H Q _ p) (fun c H' w => ⟨c, rfl, w⟩) hio hn ⟨Z, L, M, R, q⟩
        obtain ⟨v, g3, g4⟩ := (show tVar i σ H fun x H1 => tArgs (as.map (teA K W)) (fun xs => r1a r (x :: xs)) σ H1 Q from q2)
        rw [g1] at g3
        simp only [Option.some.injEq] at g3
        exact ⟨s.v, g1, ty_of g2 (by rw [e2]; exact beq_iff_eq.mp c) hT, by rw [g3]; exact g4⟩
      · rw [if_neg c] at q; exact q.elim
theorem e_methM {G : List LD → FR} {i n : Nat} {as : List AE} {io : List Bool} {e : Expr} (pa : PlainAttrs T) (slot : Slot T name id) (hty : typeOf (.builtin id) = pure (.type "method_descriptor")) (hm : MtR X id r) (hM : MOk X.K X.mg n io (r1a r) G) (ho : PE X o (tVar i)) (h : AArgL X W (e :: es) as) (hio : io = true :: mkA as := by rfl) (hn : as.length + 1 = n := by rfl)
    (hT : (T == "") = false := by decide) (hbase : attributeBase o name X.env (eval o X.env) = eval o X.env := by rfl)
    (hfew : ((backTo cpos (starEach (e :: es) X.env)).all (fun x => !x.1) && (backToKw cpos (keywordEach [] X.env)).all (fun x => x.1.isSome)
      && decide ((e :: es).length + ([] : List Keyword).length + (if ([] : List Keyword).isEmpty then 0 else 1) < 30)) = true := by rfl)
    (hline : (apos.endLine == cpos.line) = true := by rfl) (hs : starEach (e :: es) X.env = (false, eval e X.env) :: starEach es X.env := by rfl) (hplain : (backTo cpos (starEach es X.env)).any (·.1) = false := by rfl) :
    DE X W (.Call (.Attribute o name apos) (e :: es) [] cpos) (eMeth T G i as) :=
  PE.imp (pe_bm pa slot hty hm ho h.pa hbase hfew hline hs hplain) fun σ H Q q => by
    obtain ⟨v, g1, g2, g3⟩ := eMeth_ok hM hio hn hT q
    exact ⟨v, g1, g2, tAl_args (r := fun xs => r v xs) _ _ (fun _ _ h => h) (monoA as) g3⟩
/-- x[i] = v -/
def sPut (G : List LD → FR) (fv : EF) (i : Nat) (fk : EF) : SF := sExpr (eCall G [.inr fv, .inl i, .inr fk])
end
end DL
namespace DL
open L2 PySem PySem.Spec PyProof.Rows
section
variable {K : PySem.W.Frag} {Z : Zone} {σ σ' : L2.St} {H H' : Hp} {L L' : List (Option Sl)} {M : List Tm}
/-- other slots that own no more and lean on no more -/
theorem Rel.with (R : Rel K Z σ H L M) (len : L'.length = σ'.length) (slot : ∀ (i : Nat) (s : Sl), L'[i]? = some (some s) → σ'[i]? = some (some s.v) ∧ Rd K H s.v s.d s.ns ∧ ∀ a ∈ s.ns, Z a)
    (cnt : ∀ a, oS L' a ≤ oS L a ∧ rS L' a ≤ rS L a) (pin : ∀ (i : Nat) (s : Sl), L'[i]? = some (some s) → 10 ≤ s.l → s.v = Z.pv i) : Rel K Z σ' H L' M where
  len := len
  slot := slot
  tms := R.tms
  sep := fun a => by have := R.sep a; have := cnt a; omega
  wr := fun a ha => R.wr a (by have := cnt a; omega)
  zf := R.zf
  pin := pin
end
/-- slots emptied -/
def clr {α : Type} (L : List (Option α)) : List Nat → List (Option α)
  | [] => L
  | v :: vs => (clr L vs).set v none
theorem clr_length {α : Type} (L : List (Option α)) : ∀ vs, (clr L vs).length = L.length
  | [] => rfl
  | v :: vs => by unfold clr; rw [List.length_set, clr_length L vs]
theorem clr_out {α : Type} {L : List (Option α)} {i : Nat} : ∀ {vs : List Nat}, i ∉ vs → (clr L vs)[i]? = L[i]?
  | [], _ => rfl
  | v :: vs, h => by
    simp only [List.mem_cons, not_or] at h
    unfold clr
    rw [List.getElem?_set_ne (fun e => h.1 e.symm), clr_out h.2]
theorem clr_in {α : Type} {L : List (Option α)} {i : Nat} {x : α} : ∀ {vs : List Nat}, i ∈ vs → (clr L vs)[i]? ≠ some (some x)
  | v :: vs, h => by
    unfold clr
    by_cases e : v = i
    · subst e
      by_cases hv : v < (clr L vs).length
      · rw [List.getElem?_set_self hv]; simp
      · rw [List.getElem?_eq_none (by simpa using hv)]; simp
    · rw [List.getElem?_set_ne e]
      rcases List.mem_cons.mp h with h | h
      · exact absurd h.symm e
      · exact clr_in h
theorem er_clr (L : List (Option Sl)) : ∀ vs, er (clr L vs) = clr (er L) vs
  | [] => rfl
  | v :: vs => by unfold clr; rw [er_set, er_clr L vs]; rfl
theorem wipe_eq (σ : L2.St) : ∀ vs, wipe σ vs = clr σ vs
  | [] => rfl
  | v :: vs => by unfold wipe clr; rw [wipe_eq σ vs]
theorem cnt_set {L : List (Option Sl)} {i : Nat} {x : Option Sl} (a : Addr) (h : oO x a = 0 ∧ rO x a = 0) : oS (L.set i x) a ≤ oS L a ∧ rS (L.set i x) a ≤ rS L a := by
  cases e : L[i]? with
  | none =>
    have : L.set i x = L := List.set_eq_of_length_le (by simpa using e)
    rw [this]
    exact ⟨Nat.le_refl _, Nat.le_refl _⟩
  | some s =>
    have := oS_set (x := x) a e
    have := rS_set (x := x) a e
    omega
theorem cnt_clr (L : List (Option Sl)) (a : Addr) : ∀ vs, oS (clr L vs) a ≤ oS L a ∧ rS (clr L vs) a ≤ rS L a
  | [] => ⟨Nat.le_refl _, Nat.le_refl _⟩
  | v :: vs => by
    have := cnt_clr L a vs
    have := cnt_set (L := clr L vs) (i := v) (x := none) a ⟨rfl, rfl⟩
    unfold clr
    omega
section
variable {K : PySem.W.Frag} {Z : Zone} {σ σ' : L2.St} {H H' : Hp} {L L' : List (Option Sl)} {M : List Tm}
theorem Rel.wipe (R : Rel K Z σ H L M) (vs : List Nat) : Rel K Z (wipe σ vs) H (clr L vs) M := by
  refine R.with (by rw [clr_length, wipe_length, R.len]) (fun i s h => ?_) (fun a => cnt_clr L a vs) fun i s h => ?_
  · by_cases hi : i ∈ vs
    · exact absurd h (clr_in hi)
    · rw [clr_out hi] at h
      rw [wipe_eq, clr_out hi]
      exact R.slot i s h
  · by_cases hi : i ∈ vs
    · exact absurd h (clr_in hi)
    · rw [clr_out hi] at h
      exact R.pin i s h
end
/-- what a slot that was emptied for a while is again: only what may not be changed -/
def kpE : Option (Option LD) → Option LD
  | some (some x) => if x.2.imm then some x else none
  | _ => none
def kpS : Option (Option Sl) → Option Sl
  | some (some s) => if s.d.imm then some s else none
  | _ => none
def bakE (Γ0 : Env) (Γ : Env) : List Nat → Env
  | [] => Γ
  | v :: vs => (bakE Γ0 Γ vs).set v (kpE Γ0[v]?)
def bakS (L0 : List (Option Sl)) (L : List (Option Sl)) : List Nat → List (Option Sl)
  | [] => L
  | v :: vs => (bakS L0 L vs).set v (kpS L0[v]?)
theorem er_bak (L0 L : List (Option Sl)) : ∀ vs, er (bakS L0 L vs) = bakE (er L0) (er L) vs
  | [] => rfl
  | v :: vs => by
    unfold bakS bakE
    rw [er_set, er_bak L0 L vs]
    congr 1
    rw [er_get]
    cases L0[v]? with
    | none => rfl
    | some o =>
      cases o with
      | none => rfl
      | some s =>
        simp only [kpS, kpE, Option.map_some, Sl.ld]
        split <;> rfl
theorem bak_length (L0 L : List (Option Sl)) : ∀ vs, (bakS L0 L vs).length = L.length
  | [] => rfl
  | v :: vs => by unfold bakS; rw [List.length_set, bak_length L0 L vs]
theorem bak_get {L0 L : List (Option Sl)} {i : Nat} {s : Sl} : ∀ {vs : List Nat}, (bakS L0 L vs)[i]? = some (some s) → (i ∈ vs ∧ L0[i]? = some (some s) ∧ s.d.imm = true) ∨ (i ∉ vs ∧ L[i]? = some (some s))
  | [], h => .inr ⟨by simp, h⟩
  | v :: vs, h => by
    unfold bakS at h
    by_cases e : v = i
    · subst e
      by_cases hv : v < (bakS L0 L vs).length
      · rw [List.getElem?_set_self hv] at h
        simp only [Option.some.injEq] at h
        refine .inl ⟨List.mem_cons_self .., ?_⟩
        unfold kpS at h
        split at h
        · next t e =>
          split at h
          · next hi => cases h; exact ⟨e, hi⟩
          · cases h
        · cases h
      · rw [List.getElem?_eq_none (by simpa using hv)] at h; cases h
    · rw [List.getElem?_set_ne e] at h
      rcases bak_get h with ⟨h1, h2⟩ | ⟨h1, h2⟩
      · exact .inl ⟨List.mem_cons_of_mem _ h1, h2⟩
      · exact .inr ⟨by simp only [List.mem_cons, not_or]; exact ⟨fun z => e z.symm, h1⟩, h2⟩
section
variable {K : PySem.W.Frag} {Z : Zone} {σ σ' : L2.St} {H H' H0 : Hp} {L L' L0 : List (Option Sl)} {M : List Tm}
theorem cnt_bak (R0 : Rel K Z σ H0 L0 M) (a : Addr) : ∀ vs, oS (bakS L0 L vs) a ≤ oS L a ∧ rS (bakS L0 L vs) a ≤ rS L a
  | [] => ⟨Nat.le_refl _, Nat.le_refl _⟩
  | v :: vs => by
    have := cnt_bak R0 a vs
    have := cnt_set (L := bakS L0 L vs) (i := v) (x := kpS L0[v]?) a (by
      cases e : L0[v]? with
      | none => exact ⟨rfl, rfl⟩
      | some o =>
        cases o with
        | none => exact ⟨rfl, rfl⟩
        | some s =>
          simp only [kpS]
          split
          · next hi =>
            have h := imm_cnt (l := s.l) (R0.slot v s e).2.1 hi a
            exact ⟨h.2, h.1⟩
          · exact ⟨rfl, rfl⟩)
    unfold bakS
    omega
/-- what may not be changed in the slots vs, kept -/
def keepT (K : PySem.W.Frag) (L0 : List (Option Sl)) : Tm := ⟨fun _ => 0, fun _ => 0, fun H => ∀ (i : Nat) (s : Sl), L0[i]? = some (some s) → s.d.imm = true → Rd K H s.v s.d s.ns⟩
theorem keepT_stab (R0 : Rel K Z σ H0 L0 M) : (keepT K L0).Stab K := fun H H' h t _ i s h1 h2 => by
  have h : ∀ (i : Nat) (s : Sl), L0[i]? = some (some s) → s.d.imm = true → Rd K H s.v s.d s.ns := h
  refine Rd.at t _ _ _ (h i s h1 h2) fun a ha => ?_
  rw [(R0.slot i s h1).2.1.imm _ _ _ h2] at ha
  cases ha
theorem Rel.keepT (R : Rel K Z σ H L M) : Rel K Z σ H L (keepT K L :: M) :=
  R.push (m := DL.keepT K L) (fun i s h _ => (R.slot i s h).2.1) (keepT_stab R) (fun a h => absurd h (Nat.lt_irrefl 0)) (fun a => ⟨Nat.zero_le _, fun _ => rfl⟩) (fun a h => absurd h (Nat.lt_irrefl 0)) fun a h => absurd h (Nat.lt_irrefl 0)
theorem Rel.back {vs : List Nat} {N : List Tm} (R0 : Rel K Z σ H0 L0 N) (R : Rel K Z (L2.wipe σ vs) H L M) (k : (DL.keepT K L0).P H) : Rel K Z σ H (bakS L0 L vs) M := by
  refine R.with (by rw [bak_length, R.len, wipe_length]) (fun i s h => ?_) (fun a => cnt_bak R0 a vs) fun i s h hl => ?_
  · rcases bak_get h with ⟨h1, h2, h3⟩ | ⟨h1, h2⟩
    · obtain ⟨g1, g2, g3⟩ := R0.slot i s h2
      exact ⟨g1, k i s h2 h3, g3⟩
    · obtain ⟨g1, g2, g3⟩ := R.slot i s h2
      rw [wipe_eq, clr_out h1] at g1
      exact ⟨g1, g2, g3⟩
  · rcases bak_get h with ⟨h1, h2, h3⟩ | ⟨h1, h2⟩
    · exact R0.pin i s h2 hl
    · exact R.pin i s h2 hl
end
def W0 : WW := fun _ _ _ => False
/-- the turns of a comprehension -/
def lcL (bd : BF) (tt : EB) (te : EF) (vs : List Nat) : List LD → Bool → List D → Env → R LD
  | [], b, ds, Γ => .ok (l12 b, .lst ds) Γ
  | x :: xs, b, ds, Γ => match bd x Γ with
    | none => .bad
    | some Γ1 => match tt Γ1 with
      | .ok true Γ2 => (match te Γ2 with
        | .ok y Γ3 => lcL bd tt te vs xs (b && ful y) (ds ++ [y.2]) (clr Γ3 vs)
        | _ => .bad)
      | .ok false Γ2 => lcL bd tt te vs xs b ds (clr Γ2 vs)
      | _ => .bad
def eLc (src : IF') (bd : BF) (tt : EB) (te : EF) (vs : List Nat) : EF := fun Γ => match src Γ with
  | .ok xs Γ1 => if szOk xs.length then (match lcL bd tt te vs xs true [] (clr Γ1 vs) with
    | .ok x Γ2 => .ok x (bakE Γ1 Γ2 vs)
    | _ => .bad) else .bad
  | .exc c Γ1 => .exc c Γ1
  | .bad => .bad
def ebT : EB := fun Γ => .ok true Γ
section
variable {K : PySem.W.Frag} {Z : Zone} {σ σ' : L2.St} {H H' H0 : Hp} {L L' L0 : List (Option Sl)} {M : List Tm}
/-- the second and the third, the other way about -/
theorem Rel.under {m n k : Tm} (R : Rel K Z σ H L (m :: n :: k :: M)) : Rel K Z σ H L (m :: k :: n :: M) where
  len := R.len
  slot := R.slot
  tms := fun t ht => R.tms t (by
    simp only [List.mem_cons] at ht ⊢
    rcases ht with h | h | h | h
    · exact .inl h
    · exact .inr (.inr (.inl h))
    · exact .inr (.inl h)
    · exact .inr (.inr (.inr h)))
  sep := fun a => by have := R.sep a; simp only [oM, rM] at this ⊢; omega
  wr := fun a ha => R.wr a (by simp only [oM] at ha ⊢; omega)
  zf := R.zf
  pin := R.pin
theorem Rel.un1 {s : Sl} (R : Rel K Z σ H L (tmA K [s] :: M)) : Rel K Z σ H L (s.tm K :: M) := R.splitA.swap.pop
/-- the new thing laid behind the others -/
theorem Rel.snoc {s : Sl} {b : Bool} {ds : List D} {p : Addr} {ns : List Addr} (R : Rel K Z σ H L (s.tm K :: (Sl.mk (l12 b) (.lst ds) (.ref p) (p :: ns)).tm K :: M)) : ∃ vs, H p = some (.lst vs) ∧ vs.length = ds.length ∧
    Rel K Z σ (upd H p (.lst (vs ++ [s.v]))) L ((Sl.mk (l12 (b && ful s.ld)) (.lst (ds ++ [s.d])) (.ref p) (p :: (ns ++ (s.ns ++ [])))).tm K :: M) := by
  have rs := (R.tms _ (List.mem_cons_self ..)).1
  have ra := (R.tms _ (List.mem_cons_of_mem _ (List.mem_cons_self ..))).1
  obtain ⟨p', vs, ms, e1, e2, hp, rd⟩ : ∃ p' vs ms, V.ref p = .ref p' ∧ p :: ns = p' :: ms ∧ H p' = some (.lst vs) ∧ Rds K H vs ds ms := by
    cases (show Rd K H (.ref p) (.lst ds) (p :: ns) from ra) with
    | lst h r => exact ⟨_, _, _, rfl, rfl, h, r⟩
  cases e1
  cases e2
  have R1 : Rel K Z σ H L (tmA K [⟨l12 b, .lst ds, .ref p, p :: ns⟩, s] :: M) := by
    have := (R.swap : Rel K Z σ H L ((Sl.mk (l12 b) (.lst ds) (.ref p) (p :: ns)).tm K :: s.tm K :: M))
    exact Rel.joinA (As := [s]) (by
      have R2 := R.swap
      exact (Rel.swap (Rel.one R2.swap)))
  have rs' : Rd K H s.v s.d s.ns := rs
  obtain ⟨g1, g2, g3⟩ := obj_chg (l' := l12 (b && ful s.ld)) (t := ⟨2, .non, .non, []⟩) (Xs := [s]) (d' := .lst (ds ++ [s.d])) (o' := .lst (vs ++ [s.v])) (ms := ns ++ (s.ns ++ [])) R1.argsOk rfl rfl (by cases b <;> decide) hp trivial trivial (fun h => .lst upd_same ((rd.append (.cons rs' .nil)).upd hp trivial h)) .non (fun a => by simp [List.count_append]) (by
    cases h1 : b with
    | false => exact .inl rfl
    | true =>
      cases h2 : ful s.ld with
      | false => exact .inl rfl
      | true => exact .inr ⟨rfl, by decide, fun x hx => by rw [List.mem_singleton.mp hx]; exact ful_ok h2 rs'⟩) (.inr ⟨rfl, .inl rfl⟩)
  exact ⟨vs, hp, rd.length, (R1.callA g1 g2 g3).splitA.pop.un1⟩
end
theorem wipe_but {vs js : List Nat} {σ σ2 : L2.St} {La Lb : List (Option Sl)} (hj : ∀ j ∈ js, j ∈ vs) (b : But js (L2.wipe σ vs) σ2 La Lb) : L2.wipe σ2 vs = L2.wipe σ vs := by
  have hl : σ2.length = σ.length := by rw [b.1, wipe_length]
  apply List.ext_getElem?
  intro i
  by_cases hi : i ∈ vs
  · have e : ∀ σ : L2.St, (L2.wipe σ vs)[i]? = if i < σ.length then some none else none := fun σ => by
      rw [wipe_eq]
      split
      · next h =>
        have h' : i < (clr σ vs).length := by rw [clr_length]; exact h
        have := List.getElem?_eq_getElem h'
        cases ec : (clr σ vs)[i] with
        | none => rw [this, ec]
        | some x => rw [ec] at this; exact absurd this (clr_in hi)
      · next h => exact List.getElem?_eq_none (by rw [clr_length]; omega)
    rw [e, e, hl]
  · rw [wipe_eq σ2, clr_out hi]
    exact (b.2 i fun h => hi (hj i h)).1
/-- a comprehension over data -/
theorem lc_ok {K : PySem.W.Frag} {W : WW} {src : IF'} {js vs : List Nat} {bd : BF} {g : TG} {tt : EB} {te : EF} {wi : TI} {σ : L2.St} {H : Hp} {Q : VK} (hj : ∀ j ∈ js, j ∈ vs) (hg : TgOk K js g bd)
    (hw : ∀ σ H R, (∃ Z L M, Rel K Z σ H L M ∧ match src (er L) with
    | .ok xs Γ' => ∀ H' L' J m, er L' = Γ' → Rel K Z σ H' L' (m 0 :: M) → WalkD K Z J xs m → R J H'
    | .exc c Γ' => ∀ H' L', er L' = Γ' → Rel K Z σ H' L' M → W c σ H'
    | .bad => False) → wi σ H R) (h : tDE K W (eLc src bd tt te vs) σ H Q) : tLc wi g (tDT K W0 tt) (tDE K W0 te) vs σ H Q := by
  obtain ⟨Z, L, M, R, q⟩ := h
  refine hw σ H _ ⟨Z, L, M, R, ?_⟩
  unfold eLc at q
  cases es : src (er L) with
  | bad => rw [es] at q; exact q
  | exc c Γ1 => rw [es] at q; exact q
  | ok xs Γ1 =>
    rw [es] at q
    dsimp only at q ⊢
    intro H1 L1 J m e1 R1 wk D hD
    by_cases hz : szOk xs.length = true
    rotate_left
    · rw [if_neg hz] at q; exact q.elim
    rw [if_pos hz] at q
    have hsz := szOk_ok hz
    -- the start
    have mk := (R1.zf D hD)
    have Rk : Rel K Z σ H1 L1 (m 0 :: keepT K L1 :: M) := R1.keepT.swap
    have fr := Rk.free hD
    have sm : Same H1 (upd H1 D (.lst [])) := same_upd hD
    have Ra : Rel K Z σ (upd H1 D (.lst [])) L1 ((Sl.mk (l12 true) (.lst []) (.ref D) [D]).tm K :: m 0 :: keepT K L1 :: M) := by
      have c1 : ∀ a, (Sl.mk (l12 true) (.lst []) (.ref D) [D]).own a = if D = a then 1 else 0 := fun a => by simp [Sl.own, ownL, l12, List.count_cons]
      have c2 : ∀ a, (Sl.mk (l12 true) (.lst []) (.ref D) [D]).rst a = 0 := fun a => by simp [Sl.rst, rstL, l12]
      have c3 : ∀ a, 0 < (Sl.mk (l12 true) (.lst []) (.ref D) [D]).own a → D = a := fun a h => by
        rw [c1] at h
        by_cases e : D = a
        · exact e
        · rw [if_neg e] at h; exact absurd h (Nat.lt_irrefl 0)
      refine (Rk.same sm).push (m := (Sl.mk (l12 true) (.lst []) (.ref D) [D]).tm K) (.lst upd_same .nil) (Sl.stab _ _) (fun a ha => ?_) (fun a => ⟨?_, fun _ => c2 a⟩) (fun a ha => ?_) fun a ha => ?_
      · have ha : 0 < (Sl.mk (l12 true) (.lst []) (.ref D) [D]).own a + (Sl.mk (l12 true) (.lst []) (.ref D) [D]).rst a := ha
        rw [c2] at ha
        rw [← c3 a ha, upd_same]
        exact fun z => nomatch z
      · show (Sl.mk (l12 true) (.lst []) (.ref D) [D]).own a ≤ 1
        rw [c1]; split <;> omega
      · rw [← c3 a ha]
        exact ⟨by rw [upd_same]; trivial, fr.1, fr.2.1, fr.2.2.1, fr.2.2.2⟩
      · have ha : 0 < (Sl.mk (l12 true) (.lst []) (.ref D) [D]).rst a := ha
        rw [c2] at ha
        exact absurd ha (Nat.lt_irrefl 0)
    let Fin : DL.R LD → Prop := fun r => match r with
      | .ok (l, d) Γ2 => ∀ v ns H' L', er L' = bakE Γ1 Γ2 vs → Rel K Z σ H' L' (Sl.tm K ⟨l, d, v, ns⟩ :: M) → (∀ a ∈ ns, Z a) → Q v H'
      | _ => False
    have q0 : Fin (lcL bd tt te vs xs true [] (clr Γ1 vs)) := by
      revert q
      cases lcL bd tt te vs xs true [] (clr Γ1 vs) with
      | ok x Γ2 => exact fun q => q
      | exc c Γ2 => exact fun q => q
      | bad => exact fun q => q
    refine ⟨fun i n H => n = xs.length - i ∧ i ≤ xs.length ∧ ∃ L' b ds ns, Rel K Z (L2.wipe σ vs) H L' ((Sl.mk (l12 b) (.lst ds) (.ref D) (D :: ns)).tm K :: m i :: keepT K L1 :: M) ∧ (∀ a ∈ D :: ns, Z a) ∧ ds.length ≤ i ∧ Fin (lcL bd tt te vs (xs.drop i) b ds (er L')), ⟨xs.length, by simp, Nat.zero_le _, clr L1 vs, true, [], [], Ra.wipe vs, fun a ha => by rw [List.mem_singleton.mp ha]; exact Z.sub _ mk, Nat.le_refl _, by rw [er_clr, e1]; simpa using q0⟩, ?_⟩
    rintro i n H2 ⟨rfl, hil, L2', b, ds, ns, R2, z2, hds, q2⟩
    have pm := (R2.tms _ (List.mem_cons_of_mem _ (List.mem_cons_self ..))).1
    by_cases hlt : i < xs.length
    · refine .inr ⟨wk.goes i H2 hlt pm, fun H' => i + 1 ≤ xs.length ∧ ∃ L' b ds ns, Rel K Z (L2.wipe σ vs) H' L' ((Sl.mk (l12 b) (.lst ds) (.ref D) (D :: ns)).tm K :: m (i + 1) :: keepT K L1 :: M) ∧ (∀ a ∈ D :: ns, Z a) ∧ ds.length ≤ i + 1 ∧ Fin (lcL bd tt te vs (xs.drop (i + 1)) b ds (er L')), fun H' h => ⟨xs.length - (i + 1), by omega, rfl, h.1, h.2⟩, fun v H3 y => ?_⟩
      have hx : xs[i]? = some xs[i] := by simp [hlt]
      obtain ⟨sm2, nx, rd, hzx, hP, hd, hcn⟩ := wk.step i _ H2 v H3 hx pm y
      have R3 := Rel.turn (s := ⟨xs[i].1, xs[i].2, v, nx⟩) R2.swap sm2 rd hP (wk.stab _) hd hcn
      have ed : xs.drop i = xs[i] :: xs.drop (i + 1) := by simp
      rw [ed] at q2
      simp only [lcL] at q2
      cases eb : bd xs[i] (er L2') with
      | none => rw [eb] at q2; exact q2.elim
      | some Γ2 =>
        rw [eb] at q2
        dsimp only at q2
        refine hg Z ⟨xs[i].1, xs[i].2, v, nx⟩ _ H3 L2' _ Γ2 _ R3 hzx eb fun σ4 L4 e4 R4 bt => ⟨wipe_but hj bt, Z, L4, _, R4, ?_⟩
        rw [e4]
        cases et : tt Γ2 with
        | bad => rw [et] at q2; exact q2
        | exc c Γ3 => rw [et] at q2; exact q2.elim
        | ok k Γ3 =>
          rw [et] at q2
          dsimp only
          intro H5 L5 e5 R5
          cases k with
          | false =>
            dsimp only at q2 ⊢
            rw [if_neg (by decide)]
            refine ⟨by omega, clr L5 vs, b, ds, ns, ?_, z2, by omega, by rw [er_clr, e5]; exact q2⟩
            have := (R5.wipe vs).swap
            rw [wipe_but hj bt] at this
            exact this
          | true =>
            dsimp only at q2 ⊢
            rw [if_pos rfl]
            refine ⟨Z, L5, _, R5, ?_⟩
            rw [e5]
            cases ey : te Γ3 with
            | bad => rw [ey] at q2; exact q2
            | exc c Γ4 => rw [ey] at q2; exact q2.elim
            | ok y Γ4 =>
              obtain ⟨ly, dy⟩ := y
              rw [ey] at q2
              dsimp only at q2 ⊢
              intro vy ny H6 L6 e6 R6 zy
              -- the thing, the list, the source
              have R7 : Rel K Z σ4 H6 L6 ((Sl.mk ly dy vy ny).tm K :: (Sl.mk (l12 b) (.lst ds) (.ref D) (D :: ns)).tm K :: m (i + 1) :: keepT K L1 :: M) := Rel.under R6
              obtain ⟨us, hD6, hlen, R8⟩ := R7.snoc
              refine ⟨us, hD6, by omega, by omega, clr L6 vs, b && ful (ly, dy), ds ++ [dy], ns ++ (ny ++ []), ?_, fun a ha => ?_, by simp; omega, by rw [er_clr, e6]; exact q2⟩
              · have := R8.wipe vs
                rw [wipe_but hj bt] at this
                exact this
              · rcases List.mem_cons.mp ha with rfl | ha
                · exact z2 _ (List.mem_cons_self ..)
                · rcases List.mem_append.mp ha with ha | ha
                  · exact z2 a (List.mem_cons_of_mem _ ha)
                  · rw [List.append_nil] at ha; exact zy a ha
    · have e : i = xs.length := by omega
      subst e
      refine .inl ⟨wk.stops H2 pm, ?_⟩
      rw [List.drop_length] at q2
      have R9 := R2.swap.pop
      have kp := (R9.tms _ (List.mem_cons_of_mem _ (List.mem_cons_self ..))).1
      have R10 := Rel.back (N := m 0 :: M) R1 (R9.swap.pop) kp
      exact q2 (.ref D) (D :: ns) H2 _ (by rw [er_bak, e1]) R10 z2
section
variable {X : Cx} {W : WW} {elt tg iter : Expr} {ifs : List Expr} {scope : Scope} {own : List (Str × Nat)} {pos : Pos} {src : IF'} {js : List Nat} {bd : BF} {g : TG} {tt : EB} {te : EF}
theorem pts0 {X : Cx} : PTs X [] (tDT X.K W0 ebT) := by
  have := pts_nil (X := X)
  exact ⟨fun pins s σ H Q I h => this.run pins s σ H Q I (by
    obtain ⟨Z, L, M, R, q⟩ := h
    exact q H L rfl R)⟩
theorem e_lc (hc : X.calm = true) (hN : X.N.Nodup) (hi : DI X W tg iter src) (ok : BlkOk X.N X.env.scope scope own) (hj : ∀ j ∈ js, j ∈ own.map (·.2)) (htg : TgOk X.K js g bd)
    (hg : ∀ (s : Shared) (H : Hp) (C : Addr) (cl : List (Str × Addr)) (fp : List Addr), PG (X.blk s H scope (compEnvC scope cl C X.env) fp) tg g) (ht : ∀ (s : Shared) (H : Hp) (C : Addr) (cl : List (Str × Addr)) (fp : List Addr), PTs (X.blk s H scope (compEnvC scope cl C X.env) fp) ifs (tDT X.K W0 tt))
    (he : ∀ (s : Shared) (H : Hp) (C : Addr) (cl : List (Str × Addr)) (fp : List Addr), DE (X.blk s H scope (compEnvC scope cl C X.env) fp) W0 elt te) (hs : ∀ x, foldedSetIterable iter X.env x = pure x := by intro _; rfl) :
    DE X W (.ListComp elt [⟨tg, iter, ifs, 0⟩] scope pos) (eLc src bd tt te (own.map (·.2))) := by
  obtain ⟨wi, hi, hw⟩ := hi
  exact PE.imp (pe_lc (te := tDE X.K W0 te) hc hN hi ok hg ht he hs) fun σ H Q q => lc_ok hj htg hw q
end
end DL
namespace DL
open L2 PySem PySem.Spec PyProof.Rows
def dInts : List D → Option (List Int)
  | [] => some []
  | .int i :: xs => (dInts xs).map (i :: ·)
  | _ => none
theorem dInts_map : ∀ (ns : List Int), dInts (ns.map .int) = some ns
  | [] => rfl
  | n :: ns => by simp [dInts, dInts_map ns]
/-- a list of ints -/
def D.seqI : D → Option (List Int)
  | .lst xs => dInts xs
  | .frz xs => some xs
  | _ => none
section
variable {K : PySem.W.Frag} {H H' : Hp} {As : List Sl}
/-- what a call gives that takes a list of ints -/
def fInts (f : List Int → Option D) : LD → Option LD := fun x => match x.2.seqI with
  | some is => (f is).map fun d => (2, d)
  | none => none
def sortI (is : List Int) : List Int := is.mergeSort fun a b => decide (a ≤ b)
theorem sortI_perm (is : List Int) : (sortI is).Perm is := List.mergeSort_perm ..
def mnI : List Int → Option Int
  | [] => none
  | x :: xs => some (xs.foldl min x)
def gMax2 : List LD → Option LD := gL2 fun a b => match a, b with
    | .int i, .int j => some (2, .int (if j > i then j else i))
    | _, _ => none
def gMin2 : List LD → Option LD := gL2 fun a b => match a, b with
    | .int i, .int j => some (2, .int (if j < i then j else i))
    | _, _ => none
def fAbs : LD → Option LD
  | (_, .int i) => some (2, .int (if i < 0 then -i else i))
  | _ => none
def fInt1 : LD → Option LD
  | (_, .int i) => some (2, .int i)
  | (_, .bl b) => some (2, .int (if b then 1 else 0))
  | _ => none
theorem vInt1 : VOk K (fun xs H Q => (∃ i, xs = [.int i] ∧ Q (.int i) H) ∨ ∃ k, xs = [.bl k] ∧ Q (.int (if k then 1 else 0)) H) (gL1 fInt1) := vC1 fun s H Q ok h1 l d hg k => by
  obtain ⟨l1, d1, v1, n1⟩ := s
  dsimp only at *
  unfold fInt1 at hg
  split at hg
  · rename_i e
    cases e
    cases hg
    obtain ⟨rfl, rfl⟩ := rd_int h1
    exact .inl ⟨_, rfl, k _ [] H (Same.refl H) (.int _) (res_imm rfl)⟩
  · rename_i e
    cases e
    cases hg
    obtain ⟨rfl, rfl⟩ := rd_bl h1
    exact .inr ⟨_, rfl, k _ [] H (Same.refl H) (.int _) (res_imm rfl)⟩
  · cases hg
end
end DL
namespace DL
open L2 PySem PySem.Spec PyProof.Rows
section
variable {X : Cx} {W : WW} {A B C : List Nat} {f g h : PF} {f' g' h' : EF} {pos : Pos} {a b c e : Expr}
def fLenSet : LD → Option LD := fInts fun is => if is.length < 4000 then some (.int (firstMet (fun i => is.getD i 0) is.length).length) else none
def rgI (i j : Int) : List Int := (List.range (j - i).toNat).map fun (k : Nat) => i + k
def rgOk (i j : Int) : Bool := decide (i.natAbs < 4611686018427387904) && decide (j.natAbs < 4611686018427387904) && decide ((j - i).toNat ≤ 16777216)
def fLR (i j : Int) : Option LD := if rgOk i j then some (2, .lst ((rgI i j).map .int)) else none
def fLR1 : LD → Option LD
  | (_, .int j) => fLR 0 j
  | _ => none
def gLR2 : List LD → Option LD := gL2 fun a b => match a, b with
  | .int i, .int j => fLR i j
  | _, _ => none
def D.tyN : D → String
  | .non => "NoneType"
  | .bl _ => "bool"
  | .int _ => "int"
  | .str _ => "str"
  | .frz _ => "list"
  | .tup _ => "tuple"
  | .lst _ => "list"
  | .dk _ => "dict"
  | .exn _ => "exn"
  | .nd _ _ => "exn"
  | .obj _ _ _ _ _ => "exn"
def D.isX : D → Bool
  | .exn _ => true
  | .nd _ _ => true
  | .obj _ _ _ _ _ => true
  | _ => false
def isT (a T : String) : Bool := a == T || (a == "bool" && T == "int")
theorem kits : ∀ a ∈ ["NoneType", "bool", "int", "str", "list", "tuple", "dict"], ∀ T ∈ ["bool", "int", "str", "list", "tuple"], kitB a T = some (isT a T) := by decide +kernel
theorem tyN_mem (d : D) (hx : d.isX = false) : d.tyN ∈ ["NoneType", "bool", "int", "str", "list", "tuple", "dict"] := by cases d <;> simp [D.tyN, D.isX] at hx ⊢
theorem tyx {K : PySem.W.Frag} {H : Hp} {v : V} {d : D} {ns : List Addr} (h : Rd K H v d ns) (hx : d.isX = false) : TyX K H v (.type d.tyN) := by
  cases h with
  | non => exact .base .non
  | bl b => exact .base (.bl b)
  | int i => exact .base (.int i)
  | str x => exact .base (.str x)
  | tup h r =>
    rcases h with (h | ⟨o, h⟩) | ⟨o, its, n, h1, h2, _⟩
    · exact .base (.tup h)
    · exact .fTuple h
    · exact .kTuple h1 h2
  | frz h =>
    rcases h with ⟨o, h⟩ | ⟨o, its, n, h1, h2, _⟩
    · exact .base (.frz h)
    · exact .kList h1 h2
  | lst h r => exact .base (.lst h)
  | dk h k r => exact .base (.dK h)
  | exn h c => cases hx
  | nd => cases hx
  | obj => cases hx
def fIsi (T : String) : LD → Option LD := fun x => if x.2.isX then none else some (2, .bl (isT x.2.tyN T))
theorem vIsi {K : PySem.W.Frag} {T : String} (hT : T ∈ ["bool", "int", "str", "list", "tuple"]) : VOk K (r1l fun x H Q => rIsi K [x, .ty T] H Q) (gL1 (fIsi T)) := vL1 fun s H Q ok h1 l d hg k => by
  obtain ⟨l1, d1, v1, n1⟩ := s
  unfold fIsi at hg
  split at hg
  · cases hg
  rename_i hx
  have hx := Bool.eq_false_iff.mpr hx
  cases hg
  exact ⟨_, _, _, _, _, rfl, .ty T, tyx h1 hx, kit_ty (kits _ (tyN_mem d1 hx) _ hT), k _ [] H (Same.refl H) (.bl _) (res_imm rfl)⟩
def fIsiT (T T2 : String) : LD → Option LD := fun x => if x.2.isX then none else some (2, .bl (isT x.2.tyN T || isT x.2.tyN T2))
section
variable {T T2 : String} {xT xT2 : Str} {p p2 p3 p4 : Pos} {kk : Nat}
theorem pe_ty (hg : Gl X xT) (hm : X.mg xT = none) (hb : bootBuiltins xT = some (.type T)) (hn : xT ≠ "__name__" := by decide) (hd : (xT == ("__debug__" : Str)) = false := by decide) : PE X (.Name xT p) (tC (.ty T)) := pe_bltn hg hm hb rfl hn hd
theorem p_isi (hg : Gl X "isinstance") (hm : X.mg "isinstance" = none) (hT : T ∈ ["bool", "int", "str", "list", "tuple"]) (ht : PE X e (tC (.ty T))) (ha : DP X W A a f)
    (na : starEach [a, e] X.env = (false, eval a X.env) :: starEach [e] X.env := by rfl) (nb : starEach [e] X.env = (false, eval e X.env) :: starEach [] X.env := by rfl) (hp : (backTo pos (starEach [e] X.env)).any (·.1) = false := by rfl) :
    DP X W A (.Call (.Name "isinstance" p) [a, e] [] pos) (pApp (gL1 (fIsi T)) [f]) :=
  p_app [(A, f)] mem1l (vIsi hT) (pe_callB call_isi hg hm (by rfl) (pa_cons ha (pa_cons ht pa_nil nb) na) (by decide) (by decide) na hp) fun _ _ _ h => h
end
end
end DL
namespace DL
open L2 PySem PySem.Spec PyProof.Rows
def fSl (x : LD) (lo hi : Option Int) : Option LD := match x with
  | (_, .lst xs) => some (lvN (cutD xs lo hi), .lst (cutD xs lo hi))
  | (_, .frz xs) => some (lvN (cutD (xs.map .int) lo hi), .lst (cutD (xs.map .int) lo hi))
  | (_, .tup xs) => some (if D.imm.immAll (cutD xs lo hi) then 2 else 0, .tup (cutD xs lo hi))
  | _ => none
def rSl (K : PySem.W.Frag) : V → Option Int → Option Int → Hp → VK → Prop := fun x lo hi H Q => rSlL K x lo hi H Q ∨ rSlA K x lo hi H Q
theorem sl_any {X : Cx} : SlR X (rSl X.K) := sl_list.or sl_tupA
section
variable {K : PySem.W.Frag} {H : Hp} {Q : VK} {As : List Sl} {s : Sl} {l : Nat} {d : D}
theorem cut_whole {α : Type} (xs : List α) {lo hi : Option Int} (h : HT.sIx xs.length 0 lo = 0 ∧ HT.sIx xs.length xs.length hi = xs.length) : (xs.drop (HT.sIx xs.length 0 lo)).take (HT.sIx xs.length xs.length hi - HT.sIx xs.length 0 lo) = xs := by
  rw [h.1, h.2]; simp
theorem vSl {lo hi : Option Int} (hm : s ∈ As) (h1 : Rd K H s.v s.d s.ns) (hg : fSl (s.l, s.d) lo hi = some (l, d)) (k : ∀ v ns H', Same H H' → Rd K H' v d ns → Res As H H' ⟨l, d, v, ns⟩ → Q v H') : rSl K s.v lo hi H Q := by
  obtain ⟨l1, d1, v1, n1⟩ := s
  dsimp only at *
  cases h1 with
  | lst e1 r1 =>
    simp only [fSl] at hg
    cases hg
    obtain ⟨m, r2, hm2⟩ := r1.cut lo hi
    exact .inl ⟨_, _, rfl, .of e1, fun p hp => k _ _ _ (same_upd hp) (rd_new hp r2) (res_lst hp r2 (fun a ha => arg_ns hm a (List.mem_cons_of_mem _ (hm2 a ha))) (mut_upd trivial))⟩
  | frz e1 =>
    simp only [fSl] at hg
    cases hg
    obtain ⟨m, r2, hm2⟩ := (rds_ints (K := K) (H := H) _).cut lo hi
    exact .inl ⟨_, _, rfl, e1.sq, fun p hp => k _ _ _ (same_upd hp) (rd_new hp r2) (res_lst hp r2 (fun a ha => absurd (hm2 a ha) (by simp)) (mut_upd trivial))⟩
  | tup e1 r1 =>
    simp only [fSl] at hg
    cases hg
    obtain ⟨m, r2, hm2⟩ := r1.cut lo hi
    refine .inr ⟨_, _, rfl, e1, fun w => ?_, fun w p hp => k _ _ _ (same_upd hp) (rd_newT hp r2) (res_tup r2 (fun a ha => arg_ns hm a (hm2 a ha)))⟩
    have r1' := r1
    have e2 : cutD _ lo hi = _ := cut_whole _ (by rw [← r1.length]; exact w)
    rw [e2] at k
    exact k _ _ _ (Same.refl H) (.tup e1 r1) (res_tup r1 (fun a ha => arg_ns hm a ha))
  | _ => cases hg
def gSlN : List LD → Option LD
  | [x] => fSl x none none
  | _ => none
def gSlH : List LD → Option LD
  | [x, (_, .int j)] => fSl x none (some j)
  | _ => none
def gSlL : List LD → Option LD
  | [x, (_, .int i)] => fSl x (some i) none
  | _ => none
def gSlB : List LD → Option LD
  | [x, (_, .int i), (_, .int j)] => fSl x (some i) (some j)
  | _ => none
end
section
variable {X : Cx} {W : WW} {A B C : List Nat} {f g h : PF} {f' g' h' : EF} {pos p2 : Pos} {a b c e : Expr}
def pChain (k k' : Int → Int → Bool) (f g h : PF) : PF := fun Γ => match f Γ with
  | .ok (_, .int i) => (match g Γ with
    | .ok (_, .int j) => if k i j then (match h Γ with
      | .ok (_, .int m) => .ok (2, .bl (k' j m))
      | .exc c => .exc c
      | _ => .bad) else .ok (2, .bl false)
    | .exc c => .exc c
    | _ => .bad)
  | .exc c => .exc c
  | _ => .bad
theorem pChain_ok {K : PySem.W.Frag} {k k' : Int → Int → Bool} {σ : L2.St} {H : Hp} {Q : VK} (q : tDP K W (A ++ (B ++ C)) (pChain k k' f g h) σ H Q) : tChain (rI0 fun i j => .bl (k i j)) (rI0 fun i j => .bl (k' i j)) (tDP K W A f) (tDP K W B g) (tDP K W C h) σ H Q := by
  obtain ⟨Z, L, M, R, q⟩ := q
  unfold pChain at q
  refine tDP_then (B := A) R (Same.refl H) (fun _ h => h) ?_
  cases ef : f (er L) with
  | bad => rw [ef] at q; exact q
  | exc c => rw [ef] at q; exact q
  | ok x =>
    obtain ⟨l1, d1⟩ := x
    rw [ef] at q
    intro v n1 H1 B1
    cases d1 with
    | int i =>
      obtain ⟨e1, _⟩ := rd_int B1.rd
      dsimp only at q e1
      refine tDP_then (B := B) R B1.same (fun _ h => h) ?_
      cases eg : g (er L) with
      | bad => rw [eg] at q; exact q
      | exc c => rw [eg] at q; exact q
      | ok y =>
        obtain ⟨l2, d2⟩ := y
        rw [eg] at q
        intro u n2 H2 B2
        cases d2 with
        | int j =>
          obtain ⟨e2, _⟩ := rd_int B2.rd
          dsimp only at q e2
          refine ⟨i, j, e1, e2, k i j, rfl, ?_⟩
          by_cases c : k i j = true
          · rw [if_pos c] at q ⊢
            refine tDP_then (B := C) R B2.same (fun _ h => h) ?_
            cases eh : h (er L) with
            | bad => rw [eh] at q; exact q
            | exc c => rw [eh] at q; exact q
            | ok z =>
              obtain ⟨l3, d3⟩ := z
              rw [eh] at q
              intro w n3 H3 B3
              cases d3 with
              | int m =>
                obtain ⟨e3, _⟩ := rd_int B3.rd
                exact ⟨j, m, e2, e3, q _ [] H3 (blC B3.same _)⟩
              | _ => exact False.elim q
          · rw [if_neg c] at q
            simp only [Bool.not_eq_true] at c
            rw [c, if_neg Bool.false_ne_true]
            exact q _ [] H2 (blC B2.same _)
        | _ => exact False.elim q
    | _ => exact False.elim q
theorem t_chain {op op' : CmpOp} {k k' : Int → Int → Bool} (ho : OpR X (compareOp op) (rI0 fun i j => .bl (k i j))) (ho' : OpR X (compareOp op') (rI0 fun i j => .bl (k' i j))) (ha : DP X W A a f) (hb : DP X W B b g) (hc : DP X W C c h)
    (hm : lastMarks [op, op'] [b, c] = false := by with_unfolding_all rfl) : DTP X W (.Compare a [op, op'] [b, c] pos) (pB (pChain k k' f g h)) :=
  PT.imp (pt_chain ho ho' ha hb hc hm) fun σ H Q q => pChain_ok (tB_P q)
def dPairs : List D → Option (List (Key × D))
  | [] => some []
  | .tup [a, d] :: xs => (match a.key with
    | some k => if d.imm then (dPairs xs).map ((k, d) :: ·) else none
    | none => none)
  | _ => none
def dMerge (kds more : List (Key × D)) : List (Key × D) := more.foldl (fun acc kv => dPut acc kv.1 kv.2) kds
def fDict : LD → Option LD
  | (_, .lst xs) => (dPairs xs).map fun kds => (2, .dk (dMerge [] kds))
  | _ => none
end
end DL
namespace DL
open L2 PySem PySem.Spec PyProof.Rows
section
variable {X : Cx} {W : WW} {tg : Expr}
theorem pi_seq {l : Expr} {tl : TE} (hl : PE X l tl) : PI X tg l fun σ H R => tl σ H fun x H1 => wSeq X.K [x] H1 R := by
  refine ⟨fun pins s σ H R I h => ?_⟩
  refine thn (hl.run pins s σ H _ I h) fun v s1 ⟨x, H1, I1, r1, q1⟩ => ?_
  rcases q1 with ⟨a, e, ⟨xs, hq⟩, q⟩ | ⟨a, e, ⟨xs, hq⟩, q⟩
  · subst e
    cases r1
    obtain ⟨its, rv, p, hz⟩ := I1.list hq
    refine wpAny_pyIter_list p.isList ?_
    refine ⟨s1.heap.objs.size, [s1.heap.objs.size], _, _, H1, rfl, I1.kept (t' := s1.toks) fun b o e => Heap.get?_push_of_some _ e, turn_list a _, ⟨_, Heap.get?_push_size _ rfl, rfl, rfl⟩, fun b hb => ?_, q⟩
    have e : b = s1.heap.objs.size := by simpa using hb
    subst e
    exact I1.fpOk (Nat.le_refl _) (I1.hok.fresh (Nat.le_refl _))
  · subst e
    cases r1
    obtain ⟨its, rv, p, hz⟩ := I1.tuple hq
    refine wpAny_pyIter_tuple (show s1.heap.IsTuple a its.toArray from p) ?_
    refine ⟨s1.heap.objs.size, [s1.heap.objs.size], _, _, H1, rfl, I1.kept (t' := s1.toks) fun b o e => Heap.get?_push_of_some _ e, turn_tuple a _, ⟨_, Heap.get?_push_size _ rfl, rfl, rfl⟩, fun b hb => ?_, q⟩
    have e : b = s1.heap.objs.size := by simpa using hb
    subst e
    exact I1.fpOk (Nat.le_refl _) (I1.hok.fresh (Nat.le_refl _))
theorem di_seq {l : Expr} {f : EF} (h : DE X W l f) : DI X W tg l (srcE (g1S fItems) [f]) := di_gen sv_seq (pi_seq h) fun σ H R q => q
variable {a b c : Expr} {f g h : EF} {p pos : Pos}
theorem di_r1 (hg : Gl X "range") (hm : X.mg "range" = none) (ha : DE X W a f) (hs : starEach [a] X.env = [(false, eval a X.env)] := by rfl) : DI X W tg (.Call (.Name "range" p) [a] [] pos) (srcE gR1 [f]) :=
  di_gen sv_r1 (pi_range1 hg hm (pa_cons ha pa_nil (by rw [hs]; rfl)) hs) fun σ H R q => tAl_args (r := fun vs H _ => wR1 vs H R) [tDE X.K W f] _ (fun _ _ h => h) (monoE [f]) q
/-- a name of the module that holds an int -/
theorem p_gl {x : Str} {i : Int} (hg : Gl X x) (hm : ∃ t, X.mg x = some (.int i t)) (hd : (x == ("__debug__" : Str)) = false := by decide) : DP X W [] (.Name x pos) (pC (.int i)) := by
  obtain ⟨t, hm⟩ := hm
  exact p_C (v := .int i) (pe_glob hg hm ⟨t, rfl⟩ hd) fun _ => .int i
end
end DL
namespace DL
open L2 PySem PySem.Spec PyProof.Rows
theorem room100 {k : Nat} {A : Around} (hr : Room k A) : A.units + 100 < cLine := by have := hr.un; omega
theorem room64 {k : Nat} {A : Around} (hr : Room k A) : A.units + 64 < cLine := by have := hr.un; omega
theorem room65 {k : Nat} {A : Around} (hr : Room k A) : A.units + 65 < cLine := by have := hr.un; omega
theorem room1 {k : Nat} {A : Around} (hr : Room k A) : A.units + 1 < cLine := by have := hr.un; omega
/-- a def of the module, by its promise over data -/
def DCal (P : Program) (w : World) (K : PySem.W.Frag) (mg : Str → Option Value) (base : Heap) (k : Nat) (x : Str) (ps : List Str) (n : Nat) (io : List Bool) (F : List LD → FR) : Prop :=
  ∃ f fd, FnOk P w K mg base (L2.CX P w) k f fd ps (spF K mg n io F) ∧ mg x = some (.ref f) ∧ PySem.W.keepIn K (.ref f) = true ∧ Binds K fd ps []
/-- a class of errors, own, behind ValueError -/
def XCls (K : PySem.W.Frag) (mg : Str → Option Value) (x : Str) : Prop := ∃ C, PySem.W.excIn K C [.type "ValueError", .type "Exception", .type "BaseException", .type "object"] "ValueError.__new__" = true ∧ mg x = some (.ref C) ∧ PySem.W.keepIn K (.ref C) = true ∧
  PySem.W.subIn K (.ref C) (.type "BaseException") = some true ∧ PySem.W.typeIn K (.ref C) = some (.type "type")
section
variable {X : Cx} {W : WW} {A : List Nat}
theorem tkB : Takes X (wx X W0) := Takes.imp takes0 fun cls d σ H ⟨c, _, _, h⟩ => h
theorem p_v (i : Nat) {x : Str} {pos : Pos} (hN : X.N[i]? = some x := by rfl) (hv : Vis X.env.scope x := by first | exact Or.inl rfl | exact Or.inr (Or.inl rfl) | exact Or.inr (Or.inr rfl)) (hd : (x == ("__debug__" : Str)) = false := by decide)
    (hcd : (x == ("__classdict__" : Str)) = false := by decide) : DP X W [i] (.Name x pos) (pVar i) := p_var (pv i hN hv hd hcd)
theorem e_v (i : Nat) {x : Str} {pos : Pos} (hN : X.N[i]? = some x := by rfl) (hv : Vis X.env.scope x := by first | exact Or.inl rfl | exact Or.inr (Or.inl rfl) | exact Or.inr (Or.inr rfl)) (hd : (x == ("__debug__" : Str)) = false := by decide)
    (hcd : (x == ("__classdict__" : Str)) = false := by decide) : DE X W (.Name x pos) (eMove i) := e_move (pv i hN hv hd hcd)
theorem g_n (i : Nat) {x : Str} {pos : Pos} (nd : X.N.Nodup) (hi : X.N[i]? = some x := by rfl) (hx : Loc X.env.scope x := by first | exact Or.inl rfl | exact Or.inr rfl) (hf : X.fn x = true ∨ X.env.scope.names.lookup x = some .local := by first | exact .inl rfl | exact .inr rfl | assumption) : PG X (.Name x pos) (gName i) := pg_name nd hi hx hf
theorem s_st (i : Nat) {x : Str} {pos pos' : Pos} {e : Expr} {h : EF} (nd : X.N.Nodup) (he : DE X W e h) (hi : X.N[i]? = some x := by rfl) (hx : Loc X.env.scope x := by first | exact Or.inl rfl | exact Or.inr rfl) (hs : swapsWith e (some (.Name x pos')) pos.line X.env = pure false := by rfl) (hf : X.fn x = true ∨ X.env.scope.names.lookup x = some .local := by first | exact .inl rfl | exact .inr rfl | assumption) :
    DS X W (.Assign [.Name x pos'] e pos) (sAsg h (bName i)) := s_set nd hi hx he hs hf
theorem p_c {k n : Nat} {ps : List Str} {F : List LD → FR} {x : Str} {p pos : Pos} {e : Expr} {es : List Expr} {fs : List PF} (tk : Takes X (wx X W)) (C : DCal X.prog X.w X.K X.mg X.base k x ps n [] F) (hr : Room k X.A) (h : PArgL X W A (e :: es) fs) (hg : Gl X x := by rfl) (hn : fs.length = n := by rfl)
    (hdb : (x == ("__debug__" : Str)) = false := by decide) (he : starEach (e :: es) X.env = (false, eval e X.env) :: starEach es X.env := by rfl) (hpl : (backTo pos (starEach es X.env)).any (·.1) = false := by rfl) : DP X W A (.Call (.Name x p) (e :: es) [] pos) (pCall F fs) := by
  obtain ⟨f, fd, G, hm, hk, hb⟩ := C
  exact p_call tk G hr hg hm hk hb hn h hdb he hpl
theorem s_rs {x m : Str} {c : String} {j : Nat} {p p2 pos2 pos : Pos} (tk : Takes X (wx X W)) (q : XCls X.K X.mg x) (hc : X.calm = true := by rfl) (hx : x = Str.ofString c := by rfl) (hg : Gl X x := by rfl) (hdb : (x == ("__debug__" : Str)) = false := by decide) :
    DS X W (.Raise (some (.Call (.Name x p) [.Constant (.str m) j p2] [] pos2)) none pos) (sRaise c) := by
  obtain ⟨C, q1, q2, q3, q4, q5⟩ := q
  exact s_raise hc tk hx q1 q2 q3 (raises_own q4 q5) hg hdb
end
end DL
namespace DL
open L2 PySem PySem.Spec PyProof.Rows
/-- the law's promise, whatever the module's names hold -/
def spLaw (K : PySem.W.Frag) (F : List LD → FR) : Sp := fun vs H Q E => ∀ mg, spF K mg 1 [] F vs H Q E
theorem spLaw_of {K : PySem.W.Frag} {F : List LD → FR} {H : Hp} {a : Addr} {ns : List Int} (law : ∀ ns : List Int, ns.length ≤ 63 → ∃ l, F [(0, .frz ns)] = .ret (l, .bl true) []) (hl : ns.length ≤ 63) (hO : Only H) (hS : SqL K H a (ns.map V.int)) :
    spLaw K F [.ref a] H (fun v _ => v = .bl true) fun _ _ _ => False := by
  intro mg
  obtain ⟨l, e⟩ := law ns hl
  have fz : FzL K H a (ns.map V.int) := by
    rcases hS with (h | ⟨o, h⟩) | h
    · rcases hO a with z | ⟨o, xs, z⟩
      · rw [z] at h; cases h
      · rw [z] at h; cases h
    · exact .inl ⟨o, h⟩
    · exact .inr h
  refine ⟨[⟨0, .frz ns, .ref a, []⟩], rfl, rfl, ⟨fun s hs => ?_, fun b => ?_, fun b hb => ?_⟩, ?_⟩
  · rw [List.mem_singleton.mp hs]; exact .frz fz
  · simp [oL, rL, Sl.own, Sl.rst, ownL, rstL]
  · simp [oL, Sl.own, ownL] at hb
  · show match F [(0, .frz ns)] with
      | .ret (l, d) fin => _
      | .exc c fin => _
      | .bad => False
    rw [e]
    intro v ns' Fs H' _ _ _ ok _
    exact (rd_bl (ok.rd _ (List.mem_cons_self ..))).1
theorem cx_false {P : Program} {w : World} {H : Hp} {s s' : Shared} {e : Value} (c : L2.CX P w [] H s (fun _ _ _ => False) e s') : False := by
  obtain ⟨_, _, _, _, _, _, _, _, _, _, _, _, z⟩ := c
  exact z
end DL
namespace DL
open L2 PySem PySem.Spec PyProof.Rows
/-- what a def gives behind its body -/
def outF (io : List Bool) (o : O) : FR := match o with
  | .nx Γ => (match finS io Γ with
    | some fs => .ret (2, .non) fs
    | none => .bad)
  | .rt x Γ => (match finS io Γ with
    | some fs => .ret x fs
    | none => .bad)
  | .exc c Γ => (match finS io Γ with
    | some fs => .exc c fs
    | none => .bad)
  | _ => .bad
theorem runF_out {n N : Nat} {io : List Bool} {body : SF} {xs : List LD} {Γ : DL.Env} (h : xs.length = n) (e : mkS io xs ++ List.replicate (N - n) none = Γ) : runF n N io body xs = outF io (body Γ) := by
  unfold runF
  rw [if_pos h, e]
  rfl
@[simp] theorem mulOk_r {a b : Int} (h : b.natAbs < 18446744073709551616) : mulOk a b = true := by
  unfold mulOk
  simp [mkS, finS, bNs, gL1, gL2, gLL2, fI2, tkA, ptA, GS, GL, fPut, ful, l12, l02, DL.D.mut, DL.D.top, DL.D.imm, DL.D.imm.immAll, fdOk, fIx, fMul, fAdd, powOk, gLstL, gTupL, DL.D.ty, lvN, szOk, fLen, fListOf, fTupOf, fSl, gSlN, gSlH, gSlL, gSlB, fIsi, fIsiT, isT, DL.D.tyN, DL.D.isX, fInts, DL.D.seqI, fLenSet, fLR, fLR1, gLR2, rgOk, fDict, fAbs, fInt1, gMax2, gMin2, g1S, g2S, fItems, fR1, fR2, bd62, lowE, clr, bakE, kpE, fApp, fIns, fPop, fPopA, fPopI, fClr, fRev, fExt, h]
@[simp] theorem mulOk_l {a b : Int} (h : a.natAbs < 18446744073709551616) : mulOk a b = true := by
  unfold mulOk
  simp [mkS, finS, bNs, gL1, gL2, gLL2, fI2, tkA, ptA, GS, GL, fPut, ful, l12, l02, DL.D.mut, DL.D.top, DL.D.imm, DL.D.imm.immAll, fdOk, fIx, fMul, fAdd, powOk, gLstL, gTupL, DL.D.ty, lvN, szOk, fLen, fListOf, fTupOf, fSl, gSlN, gSlH, gSlL, gSlB, fIsi, fIsiT, isT, DL.D.tyN, DL.D.isX, fInts, DL.D.seqI, fLenSet, fLR, fLR1, gLR2, rgOk, fDict, fAbs, fInt1, gMax2, gMin2, g1S, g2S, fItems, fR1, fR2, bd62, lowE, clr, bakE, kpE, fApp, fIns, fPop, fPopA, fPopI, fClr, fRev, fExt, h]
@[simp] theorem log2_ok {n : Nat} (h : n < 10000000000000000000000000000000000000000000000000000000000000000000000000000000000000000000000000000) : n.log2 < 9000 := by
  by_cases c : n = 0
  · subst c; decide
  · have : n < 2 ^ 9000 := Nat.lt_of_lt_of_le h (by decide +kernel)
    exact (Nat.log2_lt c).mpr this
@[simp] theorem forL_nil {bd : BF} {f : SF} {Γ : Env} : forL bd f [] Γ = .nx Γ := rfl
@[simp] theorem imm_ints' (ns : List Int) : D.imm.immAll (ns.map .int) = true := imm_ints ns
@[simp] theorem dInts_map' (ns : List Int) : dInts (ns.map .int) = some ns := dInts_map ns
@[simp] theorem eqd_int (i : Int) : eqd 60 (.int i) = true := rfl
@[simp] theorem eqd_bl (i : Bool) : eqd 60 (.bl i) = true := rfl
@[simp] theorem eqd_nil : eqd 60 (.lst []) = true := rfl
@[simp] theorem eqd_ints (xs : List Int) : eqd 60 (.lst (xs.map .int)) = true := by
  rw [eqd, List.all_eq_true]
  intro d hd
  obtain ⟨i, _, rfl⟩ := List.mem_map.mp hd
  rfl
@[simp] theorem deq_int (i j : Int) : deq (.int i) (.int j) = decide (i = j) := by
  rw [deq]; by_cases h : i = j <;> simp [mkS, finS, bNs, gL1, gL2, gLL2, fI2, tkA, ptA, GS, GL, fPut, ful, l12, l02, DL.D.mut, DL.D.top, DL.D.imm, DL.D.imm.immAll, fdOk, fIx, fMul, fAdd, powOk, gLstL, gTupL, DL.D.ty, lvN, szOk, fLen, fListOf, fTupOf, fSl, gSlN, gSlH, gSlL, gSlB, fIsi, fIsiT, isT, DL.D.tyN, DL.D.isX, fInts, DL.D.seqI, fLenSet, fLR, fLR1, gLR2, rgOk, fDict, fAbs, fInt1, gMax2, gMin2, g1S, g2S, fItems, fR1, fR2, bd62, lowE, clr, bakE, kpE, fApp, fIns, fPop, fPopA, fPopI, fClr, fRev, fExt, allTop, fEq, fNe, fNeg, fIsN, DL.D.isNon, DL.D.key, dGet, h]
@[simp] theorem deq_bl (i j : Bool) : deq (.bl i) (.bl j) = decide (i = j) := by
  rw [deq]; by_cases h : i = j <;> simp [mkS, finS, bNs, gL1, gL2, gLL2, fI2, tkA, ptA, GS, GL, fPut, ful, l12, l02, DL.D.mut, DL.D.top, DL.D.imm, DL.D.imm.immAll, fdOk, fIx, fMul, fAdd, powOk, gLstL, gTupL, DL.D.ty, lvN, szOk, fLen, fListOf, fTupOf, fSl, gSlN, gSlH, gSlL, gSlB, fIsi, fIsiT, isT, DL.D.tyN, DL.D.isX, fInts, DL.D.seqI, fLenSet, fLR, fLR1, gLR2, rgOk, fDict, fAbs, fInt1, gMax2, gMin2, g1S, g2S, fItems, fR1, fR2, bd62, lowE, clr, bakE, kpE, fApp, fIns, fPop, fPopA, fPopI, fClr, fRev, fExt, allTop, fEq, fNe, fNeg, fIsN, DL.D.isNon, DL.D.key, dGet, h]
theorem deqAll_ints : ∀ (a b : List Int), deqAll (a.map .int) (b.map .int) = decide (a = b)
  | [], [] => by simp [mkS, finS, bNs, gL1, gL2, gLL2, fI2, tkA, ptA, GS, GL, fPut, ful, l12, l02, DL.D.mut, DL.D.top, DL.D.imm, DL.D.imm.immAll, fdOk, fIx, fMul, fAdd, powOk, gLstL, gTupL, DL.D.ty, lvN, szOk, fLen, fListOf, fTupOf, fSl, gSlN, gSlH, gSlL, gSlB, fIsi, fIsiT, isT, DL.D.tyN, DL.D.isX, fInts, DL.D.seqI, fLenSet, fLR, fLR1, gLR2, rgOk, fDict, fAbs, fInt1, gMax2, gMin2, g1S, g2S, fItems, fR1, fR2, bd62, lowE, clr, bakE, kpE, fApp, fIns, fPop, fPopA, fPopI, fClr, fRev, fExt, allTop, fEq, fNe, fNeg, fIsN, DL.D.isNon, DL.D.key, dGet, deqAll]
  | [], _ :: _ => by simp [mkS, finS, bNs, gL1, gL2, gLL2, fI2, tkA, ptA, GS, GL, fPut, ful, l12, l02, DL.D.mut, DL.D.top, DL.D.imm, DL.D.imm.immAll, fdOk, fIx, fMul, fAdd, powOk, gLstL, gTupL, DL.D.ty, lvN, szOk, fLen, fListOf, fTupOf, fSl, gSlN, gSlH, gSlL, gSlB, fIsi, fIsiT, isT, DL.D.tyN, DL.D.isX, fInts, DL.D.seqI, fLenSet, fLR, fLR1, gLR2, rgOk, fDict, fAbs, fInt1, gMax2, gMin2, g1S, g2S, fItems, fR1, fR2, bd62, lowE, clr, bakE, kpE, fApp, fIns, fPop, fPopA, fPopI, fClr, fRev, fExt, allTop, fEq, fNe, fNeg, fIsN, DL.D.isNon, DL.D.key, dGet, deqAll]
  | _ :: _, [] => by simp [mkS, finS, bNs, gL1, gL2, gLL2, fI2, tkA, ptA, GS, GL, fPut, ful, l12, l02, DL.D.mut, DL.D.top, DL.D.imm, DL.D.imm.immAll, fdOk, fIx, fMul, fAdd, powOk, gLstL, gTupL, DL.D.ty, lvN, szOk, fLen, fListOf, fTupOf, fSl, gSlN, gSlH, gSlL, gSlB, fIsi, fIsiT, isT, DL.D.tyN, DL.D.isX, fInts, DL.D.seqI, fLenSet, fLR, fLR1, gLR2, rgOk, fDict, fAbs, fInt1, gMax2, gMin2, g1S, g2S, fItems, fR1, fR2, bd62, lowE, clr, bakE, kpE, fApp, fIns, fPop, fPopA, fPopI, fClr, fRev, fExt, allTop, fEq, fNe, fNeg, fIsN, DL.D.isNon, DL.D.key, dGet, deqAll]
  | x :: a, y :: b => by
    simp only [List.map_cons, deqAll, deq_int, deqAll_ints a b, List.cons.injEq]
    by_cases h1 : x = y <;> by_cases h2 : a = b <;> simp [mkS, finS, bNs, gL1, gL2, gLL2, fI2, tkA, ptA, GS, GL, fPut, ful, l12, l02, DL.D.mut, DL.D.top, DL.D.imm, DL.D.imm.immAll, fdOk, fIx, fMul, fAdd, powOk, gLstL, gTupL, DL.D.ty, lvN, szOk, fLen, fListOf, fTupOf, fSl, gSlN, gSlH, gSlL, gSlB, fIsi, fIsiT, isT, DL.D.tyN, DL.D.isX, fInts, DL.D.seqI, fLenSet, fLR, fLR1, gLR2, rgOk, fDict, fAbs, fInt1, gMax2, gMin2, g1S, g2S, fItems, fR1, fR2, bd62, lowE, clr, bakE, kpE, fApp, fIns, fPop, fPopA, fPopI, fClr, fRev, fExt, allTop, fEq, fNe, fNeg, fIsN, DL.D.isNon, DL.D.key, dGet, h1, h2]
@[simp] theorem deq_ints (a b : List Int) : deq (.lst (a.map .int)) (.lst (b.map .int)) = decide (a = b) := by rw [deq, deqAll_ints]
@[simp] theorem deq_nil0 : deq (.lst []) (.lst []) = true := by rw [deq]; rfl
end DL
namespace DL
open L2 PySem PySem.Spec PyProof.Rows
end DL
namespace DL
open L2 PySem PySem.Spec PyProof.Rows
section
variable {X : Cx} {W : WW} {tg : Expr}
def cT : Int → Int → Bool := fun _ _ => true
end
end DL
namespace DL
open L2 PySem PySem.Spec PyProof.Rows
def nrm : Option LD → Option LD
  | some (l, d) => some (if d.imm = true ∧ l < 10 then 2 else l, d)
  | none => none
/-- true: the slot stays; false: it is forgotten -/
def canE : List Bool → Env → Env
  | true :: ks, x :: Γ => nrm x :: canE ks Γ
  | false :: ks, _ :: Γ => none :: canE ks Γ
  | _, Γ => Γ
def nrS : Option Sl → Option Sl
  | some s => some { s with l := if s.d.imm = true ∧ s.l < 10 then 2 else s.l }
  | none => none
def canS : List Bool → List (Option Sl) → List (Option Sl)
  | true :: ks, x :: L => nrS x :: canS ks L
  | false :: ks, _ :: L => none :: canS ks L
  | _, L => L
theorem er_canS : ∀ (ks : List Bool) (L : List (Option Sl)), er (canS ks L) = canE ks (er L)
  | [], L => by cases L <;> rfl
  | true :: ks, [] => rfl
  | false :: ks, [] => rfl
  | true :: ks, x :: L => by
    have := er_canS ks L
    cases x <;> simp only [er, canS, canE, List.map_cons] at this ⊢ <;> rw [this] <;> rfl
  | false :: ks, x :: L => by
    have := er_canS ks L
    simp only [er, canS, canE, List.map_cons] at this ⊢
    rw [this]; rfl
theorem canS_len : ∀ (ks : List Bool) (L : List (Option Sl)), (canS ks L).length = L.length
  | [], L => by cases L <;> rfl
  | true :: ks, [] => rfl
  | false :: ks, [] => rfl
  | true :: ks, x :: L => by simp [mkS, finS, bNs, gL1, gL2, gLL2, fI2, tkA, ptA, GS, GL, fPut, ful, l12, l02, DL.D.mut, DL.D.top, DL.D.imm, DL.D.imm.immAll, fdOk, fIx, fMul, fAdd, powOk, gLstL, gTupL, DL.D.ty, lvN, szOk, fLen, fListOf, fTupOf, fSl, gSlN, gSlH, gSlL, gSlB, fIsi, fIsiT, isT, DL.D.tyN, DL.D.isX, fInts, DL.D.seqI, fLenSet, fLR, fLR1, gLR2, rgOk, fDict, fAbs, fInt1, gMax2, gMin2, g1S, g2S, fItems, fR1, fR2, bd62, lowE, clr, bakE, kpE, fApp, fIns, fPop, fPopA, fPopI, fClr, fRev, fExt, allTop, fEq, fNe, fNeg, fIsN, DL.D.isNon, DL.D.key, dGet, canS, canS_len ks L]
  | false :: ks, x :: L => by simp [mkS, finS, bNs, gL1, gL2, gLL2, fI2, tkA, ptA, GS, GL, fPut, ful, l12, l02, DL.D.mut, DL.D.top, DL.D.imm, DL.D.imm.immAll, fdOk, fIx, fMul, fAdd, powOk, gLstL, gTupL, DL.D.ty, lvN, szOk, fLen, fListOf, fTupOf, fSl, gSlN, gSlH, gSlL, gSlB, fIsi, fIsiT, isT, DL.D.tyN, DL.D.isX, fInts, DL.D.seqI, fLenSet, fLR, fLR1, gLR2, rgOk, fDict, fAbs, fInt1, gMax2, gMin2, g1S, g2S, fItems, fR1, fR2, bd62, lowE, clr, bakE, kpE, fApp, fIns, fPop, fPopA, fPopI, fClr, fRev, fExt, allTop, fEq, fNe, fNeg, fIsN, DL.D.isNon, DL.D.key, dGet, canS, canS_len ks L]
theorem canS_get : ∀ (ks : List Bool) (L : List (Option Sl)) (i : Nat) (s : Sl), (canS ks L)[i]? = some (some s) → ∃ t, L[i]? = some (some t) ∧ s.v = t.v ∧ s.d = t.d ∧ s.ns = t.ns ∧ (10 ≤ s.l → 10 ≤ t.l)
  | [], L, i, s, h => by
    have e : canS [] L = L := by cases L <;> rfl
    rw [e] at h
    exact ⟨s, h, rfl, rfl, rfl, id⟩
  | true :: ks, [], i, s, h => by simp [mkS, finS, bNs, gL1, gL2, gLL2, fI2, tkA, ptA, GS, GL, fPut, ful, l12, l02, DL.D.mut, DL.D.top, DL.D.imm, DL.D.imm.immAll, fdOk, fIx, fMul, fAdd, powOk, gLstL, gTupL, DL.D.ty, lvN, szOk, fLen, fListOf, fTupOf, fSl, gSlN, gSlH, gSlL, gSlB, fIsi, fIsiT, isT, DL.D.tyN, DL.D.isX, fInts, DL.D.seqI, fLenSet, fLR, fLR1, gLR2, rgOk, fDict, fAbs, fInt1, gMax2, gMin2, g1S, g2S, fItems, fR1, fR2, bd62, lowE, clr, bakE, kpE, fApp, fIns, fPop, fPopA, fPopI, fClr, fRev, fExt, allTop, fEq, fNe, fNeg, fIsN, DL.D.isNon, DL.D.key, dGet, canS] at h
  | false :: ks, [], i, s, h => by simp [mkS, finS, bNs, gL1, gL2, gLL2, fI2, tkA, ptA, GS, GL, fPut, ful, l12, l02, DL.D.mut, DL.D.top, DL.D.imm, DL.D.imm.immAll, fdOk, fIx, fMul, fAdd, powOk, gLstL, gTupL, DL.D.ty, lvN, szOk, fLen, fListOf, fTupOf, fSl, gSlN, gSlH, gSlL, gSlB, fIsi, fIsiT, isT, DL.D.tyN, DL.D.isX, fInts, DL.D.seqI, fLenSet, fLR, fLR1, gLR2, rgOk, fDict, fAbs, fInt1, gMax2, gMin2, g1S, g2S, fItems, fR1, fR2, bd62, lowE, clr, bakE, kpE, fApp, fIns, fPop, fPopA, fPopI, fClr, fRev, fExt, allTop, fEq, fNe, fNeg, fIsN, DL.D.isNon, DL.D.key, dGet, canS] at h
  | true :: ks, x :: L, 0, s, h => by
    simp only [canS, List.getElem?_cons_zero, Option.some.injEq] at h
    cases x with
    | none => cases h
    | some t =>
      simp only [nrS, Option.some.injEq] at h
      subst h
      refine ⟨t, rfl, rfl, rfl, rfl, fun z => ?_⟩
      dsimp only at z
      split at z <;> omega
  | false :: ks, x :: L, 0, s, h => by
    simp [mkS, finS, bNs, gL1, gL2, gLL2, fI2, tkA, ptA, GS, GL, fPut, ful, l12, l02, DL.D.mut, DL.D.top, DL.D.imm, DL.D.imm.immAll, fdOk, fIx, fMul, fAdd, powOk, gLstL, gTupL, DL.D.ty, lvN, szOk, fLen, fListOf, fTupOf, fSl, gSlN, gSlH, gSlL, gSlB, fIsi, fIsiT, isT, DL.D.tyN, DL.D.isX, fInts, DL.D.seqI, fLenSet, fLR, fLR1, gLR2, rgOk, fDict, fAbs, fInt1, gMax2, gMin2, g1S, g2S, fItems, fR1, fR2, bd62, lowE, clr, bakE, kpE, fApp, fIns, fPop, fPopA, fPopI, fClr, fRev, fExt, allTop, fEq, fNe, fNeg, fIsN, DL.D.isNon, DL.D.key, dGet, canS] at h
  | true :: ks, x :: L, i + 1, s, h => by
    simp only [canS, List.getElem?_cons_succ] at h
    exact canS_get ks L i s h
  | false :: ks, x :: L, i + 1, s, h => by
    simp only [canS, List.getElem?_cons_succ] at h
    exact canS_get ks L i s h
theorem nil_own {s : Sl} (h : s.ns = []) (a : Addr) : s.own a = 0 ∧ s.rst a = 0 := by
  have := s.tot a
  rw [h, List.count_nil] at this
  omega
theorem canS_cnt (a : Addr) : ∀ (ks : List Bool) (L : List (Option Sl)), (∀ (i : Nat) (s : Sl), L[i]? = some (some s) → s.d.imm = true → s.ns = []) → oS (canS ks L) a ≤ oS L a ∧ rS (canS ks L) a ≤ rS L a
  | [], L, _ => by
    have e : canS [] L = L := by cases L <;> rfl
    rw [e]
    exact ⟨Nat.le_refl _, Nat.le_refl _⟩
  | true :: ks, [], _ => ⟨Nat.le_refl _, Nat.le_refl _⟩
  | false :: ks, [], _ => ⟨Nat.le_refl _, Nat.le_refl _⟩
  | true :: ks, x :: L, h => by
    have ih := canS_cnt a ks L fun i s hs => h (i + 1) s (by simpa [mkS, finS, bNs, gL1, gL2, gLL2, fI2, tkA, ptA, GS, GL, fPut, ful, l12, l02, DL.D.mut, DL.D.top, DL.D.imm, DL.D.imm.immAll, fdOk, fIx, fMul, fAdd, powOk, gLstL, gTupL, DL.D.ty, lvN, szOk, fLen, fListOf, fTupOf, fSl, gSlN, gSlH, gSlL, gSlB, fIsi, fIsiT, isT, DL.D.tyN, DL.D.isX, fInts, DL.D.seqI, fLenSet, fLR, fLR1, gLR2, rgOk, fDict, fAbs, fInt1, gMax2, gMin2, g1S, g2S, fItems, fR1, fR2, bd62, lowE, clr, bakE, kpE, fApp, fIns, fPop, fPopA, fPopI, fClr, fRev, fExt, allTop, fEq, fNe, fNeg, fIsN, DL.D.isNon, DL.D.key, dGet] using hs)
    cases x with
    | none => exact ih
    | some t =>
      simp only [canS, nrS, oS, rS]
      by_cases c : t.d.imm = true ∧ t.l < 10
      · have e := h 0 t rfl c.1
        have e1 := nil_own e a
        have e2 := nil_own (s := { t with l := if t.d.imm = true ∧ t.l < 10 then 2 else t.l }) e a
        rw [e1.1, e1.2, e2.1, e2.2]
        omega
      · have e2 : ({ t with l := if t.d.imm = true ∧ t.l < 10 then 2 else t.l } : Sl) = t := by rw [if_neg c]
        rw [e2]
        omega
  | false :: ks, x :: L, h => by
    have ih := canS_cnt a ks L fun i s hs => h (i + 1) s (by simpa [mkS, finS, bNs, gL1, gL2, gLL2, fI2, tkA, ptA, GS, GL, fPut, ful, l12, l02, DL.D.mut, DL.D.top, DL.D.imm, DL.D.imm.immAll, fdOk, fIx, fMul, fAdd, powOk, gLstL, gTupL, DL.D.ty, lvN, szOk, fLen, fListOf, fTupOf, fSl, gSlN, gSlH, gSlL, gSlB, fIsi, fIsiT, isT, DL.D.tyN, DL.D.isX, fInts, DL.D.seqI, fLenSet, fLR, fLR1, gLR2, rgOk, fDict, fAbs, fInt1, gMax2, gMin2, g1S, g2S, fItems, fR1, fR2, bd62, lowE, clr, bakE, kpE, fApp, fIns, fPop, fPopA, fPopI, fClr, fRev, fExt, allTop, fEq, fNe, fNeg, fIsN, DL.D.isNon, DL.D.key, dGet] using hs)
    cases x with
    | none => exact ih
    | some t =>
      simp only [canS, oS, rS]
      omega
section
variable {K : PySem.W.Frag} {Z : Zone} {σ : L2.St} {H H' : Hp} {L : List (Option Sl)} {M : List Tm}
theorem Rel.can (R : Rel K Z σ H L M) (ks : List Bool) : Rel K Z σ H (canS ks L) M := by
  refine R.with (by rw [canS_len]; exact R.len) (fun i s h => ?_) (fun a => canS_cnt a ks L fun i s h e => (R.slot i s h).2.1.imm _ _ _ e) (fun i s h hl => ?_)
  · obtain ⟨t, h1, e1, e2, e3, _⟩ := canS_get ks L i s h
    have := R.slot i t h1
    rw [e1, e2, e3]
    exact this
  · obtain ⟨t, h1, e1, e2, e3, e4⟩ := canS_get ks L i s h
    rw [e1]
    exact R.pin i t h1 (e4 hl)
end
def sCan (ks : List Bool) (f : SF) : SF := fun Γ => f (canE ks Γ)
section
variable {X : Cx} {W : WW} {st : Stmt} {sts : List Stmt} {f : SF}
theorem ss_can (ks : List Bool) (h : DSs X W sts f) : DSs X W sts (sCan ks f) := PSs.imp h fun D σ H ⟨Z, L, M, R, q⟩ => ⟨Z, _, M, R.can ks, by rw [er_canS]; exact q⟩
theorem s_can (ks : List Bool) (h : DS X W st f) : DS X W st (sCan ks f) := PS.imp h fun D σ H ⟨Z, L, M, R, q⟩ => ⟨Z, _, M, R.can ks, by rw [er_canS]; exact q⟩
def sLow (A : List Nat) (f : SF) : SF := fun Γ => f (lowE A Γ)
theorem ss_low (A : List Nat) (h : DSs X W sts f) : DSs X W sts (sLow A f) := PSs.imp h fun D σ H ⟨Z, L, M, R, q⟩ => ⟨Z, _, M, R.low A, by rw [er_low]; exact q⟩
theorem DE.ref {e : Expr} {f g : EF} (h : DE X W e f) (r : ∀ Γ, g Γ ≠ .bad → f Γ = g Γ) : DE X W e g := PE.imp h fun σ H Q ⟨Z, L, M, R, q⟩ => ⟨Z, L, M, R, by
  rw [r (er L) fun z => by rw [z] at q; exact q]
  exact q⟩
theorem DS.ref {f g : SF} (h : DS X W st f) (r : ∀ Γ, g Γ ≠ .bad → f Γ = g Γ) : DS X W st g := PS.imp h fun D σ H ⟨Z, L, M, R, q⟩ => ⟨Z, L, M, R, by
  rw [r (er L) fun z => by rw [z] at q; exact q]
  exact q⟩
end
def colM {α β : Type} (φ : α → Option (Option β)) : List α → Option (List β)
  | [] => some []
  | x :: xs => match φ x with
    | none => none
    | some none => colM φ xs
    | some (some y) => match colM φ xs with
      | none => none
      | some ys => some (y :: ys)
/-- the thing, where it may be kept -/
def keepD : P LD → Option (Option D)
  | .ok (l, d) => if 2 ≤ l % 10 ∨ d.imm = true then some (some d) else none
  | _ => none
def turnP (bd : BF) (t : PB) (f : PF) (Γ : Env) (x : LD) : Option (Option D) := match bd x Γ with
  | none => none
  | some Γ2 => match t Γ2 with
    | .ok b => if b = true then keepD (f Γ2) else some none
    | _ => none
def pbT : PB := fun _ => .ok true
def lcEnd (Γ1 Γ2 : Env) (vs : List Nat) : Option (List D) → R LD
  | some ds => .ok (2, .lst ds) (bakE Γ1 Γ2 vs)
  | none => .bad
def eLcP (src : IF') (bd : BF) (t : PB) (f : PF) (vs : List Nat) : EF := fun Γ => match src Γ with
  | .ok xs Γ1 => if szOk xs.length then lcEnd Γ1 (clr Γ1 vs) vs (colM (turnP bd t f (clr Γ1 vs)) xs) else .bad
  | .exc c Γ1 => .exc c Γ1
  | .bad => .bad
/-- a target that sets no slot but its own -/
def BdIn (bd : BF) (vs : List Nat) : Prop := ∀ x Γ Γ', bd x Γ = some Γ' → clr Γ' vs = clr Γ vs
theorem clr_set {L : List (Option LD)} {i : Nat} {x : Option LD} : ∀ {vs : List Nat}, i ∈ vs → clr (L.set i x) vs = clr L vs
  | v :: vs, h => by
    by_cases e : i ∈ vs
    · unfold clr
      rw [clr_set e]
    · have e1 : i = v := by
        rcases List.mem_cons.mp h with h | h
        · exact h
        · exact absurd h e
      subst e1
      have aux : ∀ (ws : List Nat), i ∉ ws → clr (L.set i x) ws = (clr L ws).set i x := by
        intro ws
        induction ws with
        | nil => intro _; rfl
        | cons w ws ih =>
          intro hw
          simp only [List.mem_cons, not_or] at hw
          unfold clr
          rw [ih hw.2]
          rw [List.set_comm]
          exact hw.1
      unfold clr
      rw [aux vs e, List.set_set]
theorem bdIn_name (i : Nat) : BdIn (bName i) [i] := fun x Γ Γ' h => by
  unfold bName at h
  split at h
  · cases h
    exact clr_set (List.mem_singleton.mpr rfl)
  · cases h
theorem clr_clr (L : List (Option LD)) : ∀ (vs : List Nat), clr (clr L vs) vs = clr L vs := by
  have aux : ∀ (ws vs : List Nat), (∀ i ∈ ws, i ∈ vs) → clr (clr L ws) vs = clr L vs := by
    intro ws
    induction ws with
    | nil => intro vs _; rfl
    | cons w ws ih =>
      intro vs h
      show clr ((clr L ws).set w none) vs = _
      rw [clr_set (h w (List.mem_cons_self ..)), ih vs fun i hi => h i (List.mem_cons_of_mem _ hi)]
  intro vs
  exact aux vs vs fun _ h => h
theorem lcL_col {bd : BF} {t : PB} {f : PF} {A : List Nat} {vs : List Nat} {Γ : Env} (hb : BdIn bd vs) (hc : clr Γ vs = Γ) : ∀ (xs : List LD) (ds es : List D), colM (turnP bd t f Γ) xs = some es → lcL bd (toEB t) (toE A f) vs xs true ds Γ = .ok (2, .lst (ds ++ es)) Γ
  | [], ds, es, h => by
    simp only [colM, Option.some.injEq] at h
    subst h
    simp [mkS, finS, bNs, gL1, gL2, gLL2, fI2, tkA, ptA, GS, GL, fPut, ful, l12, l02, DL.D.mut, DL.D.top, DL.D.imm, DL.D.imm.immAll, fdOk, fIx, fMul, fAdd, powOk, gLstL, gTupL, DL.D.ty, lvN, szOk, fLen, fListOf, fTupOf, fSl, gSlN, gSlH, gSlL, gSlB, fIsi, fIsiT, isT, DL.D.tyN, DL.D.isX, fInts, DL.D.seqI, fLenSet, fLR, fLR1, gLR2, rgOk, fDict, fAbs, fInt1, gMax2, gMin2, g1S, g2S, fItems, fR1, fR2, bd62, lowE, clr, bakE, kpE, fApp, fIns, fPop, fPopA, fPopI, fClr, fRev, fExt, allTop, fEq, fNe, fNeg, fIsN, DL.D.isNon, DL.D.key, dGet, lcL, l12]
  | x :: xs, ds, es, h => by
    rw [colM] at h
    have hT : turnP bd t f Γ x = match bd x Γ with
      | none => none
      | some Γ2 => match t Γ2 with
        | .ok b => if b = true then keepD (f Γ2) else some none
        | _ => none := rfl
    rw [hT] at h
    rw [lcL]
    cases e1 : bd x Γ with
    | none => rw [e1] at h; cases h
    | some Γ1 =>
      rw [e1] at h
      dsimp only at h ⊢
      have c1 := (hb x Γ Γ1 e1).trans hc
      unfold toEB
      cases e2 : t Γ1 with
      | bad => rw [e2] at h; cases h
      | exc c => rw [e2] at h; cases h
      | ok k =>
        rw [e2] at h
        cases k with
        | false =>
          simp only [Bool.false_eq_true, if_false] at h
          dsimp only
          rw [c1]
          exact lcL_col hb hc xs ds es h
        | true =>
          simp only [if_true] at h
          dsimp only
          unfold toE
          cases e3 : f Γ1 with
          | bad => rw [e3] at h; cases h
          | exc c => rw [e3] at h; cases h
          | ok y =>
            obtain ⟨l, d⟩ := y
            rw [e3] at h
            unfold keepD at h
            dsimp only at h ⊢
            by_cases c : 2 ≤ l % 10 ∨ d.imm = true
            · rw [if_pos c] at h
              dsimp only at h
              rw [if_pos c, c1]
              cases e4 : colM (turnP bd t f Γ) xs with
              | none =>
                rw [e4] at h; cases h
              | some ys =>
                rw [e4] at h
                simp only [Option.some.injEq] at h
                subst h
                have fu : ful (l, d) = true := by
                  unfold ful
                  simpa [mkS, finS, bNs, gL1, gL2, gLL2, fI2, tkA, ptA, GS, GL, fPut, ful, l12, l02, DL.D.mut, DL.D.top, DL.D.imm, DL.D.imm.immAll, fdOk, fIx, fMul, fAdd, powOk, gLstL, gTupL, DL.D.ty, lvN, szOk, fLen, fListOf, fTupOf, fSl, gSlN, gSlH, gSlL, gSlB, fIsi, fIsiT, isT, DL.D.tyN, DL.D.isX, fInts, DL.D.seqI, fLenSet, fLR, fLR1, gLR2, rgOk, fDict, fAbs, fInt1, gMax2, gMin2, g1S, g2S, fItems, fR1, fR2, bd62, lowE, clr, bakE, kpE, fApp, fIns, fPop, fPopA, fPopI, fClr, fRev, fExt, allTop, fEq, fNe, fNeg, fIsN, DL.D.isNon, DL.D.key, dGet] using c
                rw [fu]
                have := lcL_col (A := A) hb hc xs (ds ++ [d]) ys e4
                rw [Bool.and_true]
                unfold toEB toE at this
                rw [this]
                simp [mkS, finS, bNs, gL1, gL2, gLL2, fI2, tkA, ptA, GS, GL, fPut, ful, l12, l02, DL.D.mut, DL.D.top, DL.D.imm, DL.D.imm.immAll, fdOk, fIx, fMul, fAdd, powOk, gLstL, gTupL, DL.D.ty, lvN, szOk, fLen, fListOf, fTupOf, fSl, gSlN, gSlH, gSlL, gSlB, fIsi, fIsiT, isT, DL.D.tyN, DL.D.isX, fInts, DL.D.seqI, fLenSet, fLR, fLR1, gLR2, rgOk, fDict, fAbs, fInt1, gMax2, gMin2, g1S, g2S, fItems, fR1, fR2, bd62, lowE, clr, bakE, kpE, fApp, fIns, fPop, fPopA, fPopI, fClr, fRev, fExt, allTop, fEq, fNe, fNeg, fIsN, DL.D.isNon, DL.D.key, dGet]
            · rw [if_neg c] at h
              cases h
theorem ref_lc {src : IF'} {bd : BF} {t : PB} {f : PF} {A : List Nat} {vs : List Nat} (hb : BdIn bd vs) (Γ : Env) (h : eLcP src bd t f vs Γ ≠ .bad) : eLc src bd (toEB t) (toE A f) vs Γ = eLcP src bd t f vs Γ := by
  unfold eLc
  unfold eLcP at h ⊢
  cases e1 : src Γ with
  | bad => rfl
  | exc c Γ1 => rfl
  | ok xs Γ1 =>
    rw [e1] at h
    dsimp only at h ⊢
    by_cases c : szOk xs.length = true
    · rw [if_pos c] at h ⊢
      rw [if_pos c]
      cases e2 : colM (turnP bd t f (clr Γ1 vs)) xs with
      | none => rw [e2] at h; exact absurd rfl h
      | some es =>
        rw [lcL_col hb (clr_clr _ _) xs [] es e2]
        rfl
    · rw [if_neg c] at h
      exact absurd rfl h
open Classical in
noncomputable def keepE (vs : List Nat) (Γ : Env) : R LD → Option (Option D)
  | .ok (l, d) Γ3 => if 2 ≤ l % 10 ∨ d.imm = true then (if clr Γ3 vs = Γ then some (some d) else none) else none
  | _ => none
open Classical in
noncomputable def turnE (bd : BF) (t : EB) (f : EF) (vs : List Nat) (Γ : Env) (x : LD) : Option (Option D) := match bd x Γ with
  | none => none
  | some Γ1 => match t Γ1 with
    | .ok b Γ2 => if b = true then keepE vs Γ (f Γ2) else (if clr Γ2 vs = Γ then some none else none)
    | _ => none
noncomputable def eLcE (src : IF') (bd : BF) (t : EB) (f : EF) (vs : List Nat) : EF := fun Γ => match src Γ with
  | .ok xs Γ1 => if szOk xs.length then lcEnd Γ1 (clr Γ1 vs) vs (colM (turnE bd t f vs (clr Γ1 vs)) xs) else .bad
  | .exc c Γ1 => .exc c Γ1
  | .bad => .bad
section
variable {X : Cx} {W : WW} {st : Stmt} {i : Nat}
theorem e_lcP {e : Expr} {src : IF'} {bd : BF} {t : PB} {f : PF} {A : List Nat} {vs : List Nat} (hb : BdIn bd vs) (h : DE X W e (eLc src bd (toEB t) (toE A f) vs)) : DE X W e (eLcP src bd t f vs) := h.ref fun Γ n => ref_lc hb Γ n
end
section
variable {α β γ : Type}
@[simp] theorem colM_nil (φ : α → Option (Option β)) : colM φ [] = some [] := rfl
@[simp] theorem colM_map (φ : α → Option (Option β)) (g : γ → α) : ∀ xs : List γ, colM φ (xs.map g) = colM (fun x => φ (g x)) xs
  | [] => rfl
  | x :: xs => by
    simp only [List.map_cons, colM, colM_map φ g xs]
@[simp] theorem colM_some (h : α → β) : ∀ xs : List α, colM (fun x => some (some (h x))) xs = some (xs.map h)
  | [] => rfl
  | x :: xs => by simp only [colM, colM_some h xs, List.map_cons]
@[simp] theorem colM_no : ∀ xs : List α, colM (β := β) (fun x => some none) xs = some []
  | [] => rfl
  | x :: xs => by simp only [colM, colM_no xs]
@[simp] theorem colM_if (p : α → Prop) [DecidablePred p] (h : α → β) : ∀ xs : List α, colM (fun x => if p x then some (some (h x)) else some none) xs = some ((xs.filter fun x => decide (p x)).map h)
  | [] => rfl
  | x :: xs => by
    rw [colM, colM_if p h xs, List.filter_cons]
    by_cases c : p x <;> simp [mkS, finS, bNs, gL1, gL2, gLL2, fI2, tkA, ptA, GS, GL, fPut, ful, l12, l02, DL.D.mut, DL.D.top, DL.D.imm, DL.D.imm.immAll, fdOk, fIx, fMul, fAdd, powOk, gLstL, gTupL, DL.D.ty, lvN, szOk, fLen, fListOf, fTupOf, fSl, gSlN, gSlH, gSlL, gSlB, fIsi, fIsiT, isT, DL.D.tyN, DL.D.isX, fInts, DL.D.seqI, fLenSet, fLR, fLR1, gLR2, rgOk, fDict, fAbs, fInt1, gMax2, gMin2, g1S, g2S, fItems, fR1, fR2, bd62, lowE, clr, bakE, kpE, fApp, fIns, fPop, fPopA, fPopI, fClr, fRev, fExt, allTop, fEq, fNe, fNeg, fIsN, DL.D.isNon, DL.D.key, dGet, c]
end
/-- the thing may be kept: of ints -/
@[simp] theorem keepD_ok {l : Nat} {d : D} (h : 2 ≤ l % 10 ∨ d.imm = true) : keepD (.ok (l, d)) = some (some d) := if_pos h
theorem forL_const {bd : BF} {f : SF} {Γ : Env} : ∀ {xs : List LD}, (∀ x ∈ xs, ∃ Γ1, bd x Γ = some Γ1 ∧ (f Γ1 = .nx Γ ∨ f Γ1 = .ct Γ)) → forL bd f xs Γ = .nx Γ
  | [], _ => rfl
  | x :: xs, h => by
    obtain ⟨Γ1, h1, h2⟩ := h x (List.mem_cons_self ..)
    rw [forL, h1]
    dsimp only
    have ih := forL_const (f := f) fun y hy => h y (List.mem_cons_of_mem _ hy)
    rcases h2 with h2 | h2 <;> rw [h2] <;> exact ih
/-- a loop whose env is told by a state: each turn by any next state that keeps I -/
theorem forL_st {S : Type} {bd : BF} {f : SF} (mk : S → Env) (I : Nat → S → Prop) : ∀ {xs : List LD} {k : Nat} {s : S}, I k s → (∀ (i : Nat) x s, xs[i]? = some x → I (k + i) s → ∃ Γ1, bd x (mk s) = some Γ1 ∧ ∃ s', (f Γ1 = .nx (mk s') ∨ f Γ1 = .ct (mk s')) ∧ I (k + i + 1) s') → ∃ s', forL bd f xs (mk s) = .nx (mk s') ∧ I (k + xs.length) s'
  | [], k, s, h0, _ => ⟨s, rfl, h0⟩
  | x :: xs, k, s, h0, hs => by
    obtain ⟨Γ1, h1, s2, h2, h3⟩ := hs 0 x s rfl h0
    obtain ⟨s', g1, g2⟩ := forL_st mk I (xs := xs) (k := k + 1) (s := s2) h3 fun i y s hy hi => by
      have := hs (i + 1) y s (by simpa [mkS, finS, bNs, gL1, gL2, gLL2, fI2, tkA, ptA, GS, GL, fPut, ful, l12, l02, DL.D.mut, DL.D.top, DL.D.imm, DL.D.imm.immAll, fdOk, fIx, fMul, fAdd, powOk, gLstL, gTupL, DL.D.ty, lvN, szOk, fLen, fListOf, fTupOf, fSl, gSlN, gSlH, gSlL, gSlB, fIsi, fIsiT, isT, DL.D.tyN, DL.D.isX, fInts, DL.D.seqI, fLenSet, fLR, fLR1, gLR2, rgOk, fDict, fAbs, fInt1, gMax2, gMin2, g1S, g2S, fItems, fR1, fR2, bd62, lowE, clr, bakE, kpE, fApp, fIns, fPop, fPopA, fPopI, fClr, fRev, fExt, allTop, fEq, fNe, fNeg, fIsN, DL.D.isNon, DL.D.key, dGet] using hy) (by rw [show k + (i + 1) = k + 1 + i by omega]; exact hi)
      rw [show k + (i + 1) = k + 1 + i by omega] at this
      exact this
    refine ⟨s', ?_, by rw [show k + (x :: xs).length = k + 1 + xs.length by simp [mkS, finS, bNs, gL1, gL2, gLL2, fI2, tkA, ptA, GS, GL, fPut, ful, l12, l02, DL.D.mut, DL.D.top, DL.D.imm, DL.D.imm.immAll, fdOk, fIx, fMul, fAdd, powOk, gLstL, gTupL, DL.D.ty, lvN, szOk, fLen, fListOf, fTupOf, fSl, gSlN, gSlH, gSlL, gSlB, fIsi, fIsiT, isT, DL.D.tyN, DL.D.isX, fInts, DL.D.seqI, fLenSet, fLR, fLR1, gLR2, rgOk, fDict, fAbs, fInt1, gMax2, gMin2, g1S, g2S, fItems, fR1, fR2, bd62, lowE, clr, bakE, kpE, fApp, fIns, fPop, fPopA, fPopI, fClr, fRev, fExt, allTop, fEq, fNe, fNeg, fIsN, DL.D.isNon, DL.D.key, dGet]; omega]; exact g2⟩
    rw [forL, h1]
    dsimp only
    rcases h2 with h2 | h2 <;> rw [h2] <;> exact g1
end DL
namespace DL
open L2 PySem PySem.Spec PyProof.Rows
section
variable {Γ Γ1 Γ2 : Env} {x : LD} {xs : List LD} {c : String} {b : Bool} {d : D} {l i : Nat} {io : List Bool}
def kSeq : O → SF → O
  | .nx Γ, g => g Γ
  | o, _ => o
@[simp] theorem sSeq_k (f g : SF) : sSeq f g Γ = kSeq (f Γ) g := by unfold sSeq kSeq; cases f Γ <;> rfl
@[simp] theorem kSeq_nx (g : SF) : kSeq (.nx Γ) g = g Γ := rfl
@[simp] theorem kSeq_rt (g : SF) : kSeq (.rt x Γ) g = .rt x Γ := rfl
@[simp] theorem kSeq_exc (g : SF) : kSeq (.exc c Γ) g = .exc c Γ := rfl
@[simp] theorem kSeq_bk (g : SF) : kSeq (.bk Γ) g = .bk Γ := rfl
@[simp] theorem kSeq_ct (g : SF) : kSeq (.ct Γ) g = .ct Γ := rfl
@[simp] theorem kSeq_bad (g : SF) : kSeq .bad g = .bad := rfl
@[simp] theorem sNil_k : sNil Γ = .nx Γ := rfl
@[simp] theorem sRaise_k : sRaise c Γ = .exc c Γ := rfl
@[simp] theorem sCan_k (ks : List Bool) (f : SF) : sCan ks f Γ = f (canE ks Γ) := rfl
@[simp] theorem sLow_k (A : List Nat) (f : SF) : sLow A f Γ = f (lowE A Γ) := rfl
def kSet : Option Env → O
  | some Γ => .nx Γ
  | none => .bad
@[simp] theorem kSet_some : kSet (some Γ) = .nx Γ := rfl
@[simp] theorem kSet_none : kSet none = .bad := rfl
def kAsg : R LD → BF → O
  | .ok x Γ, bd => kSet (bd x Γ)
  | .exc c Γ, _ => .exc c Γ
  | .bad, _ => .bad
@[simp] theorem sAsg_k (f : EF) (bd : BF) : sAsg f bd Γ = kAsg (f Γ) bd := by
  unfold sAsg kAsg kSet
  cases f Γ <;> rfl
@[simp] theorem kAsg_ok (bd : BF) : kAsg (.ok x Γ) bd = kSet (bd x Γ) := rfl
@[simp] theorem kAsg_exc (bd : BF) : kAsg (.exc c Γ) bd = .exc c Γ := rfl
@[simp] theorem kAsg_bad (bd : BF) : kAsg .bad bd = .bad := rfl
@[simp] theorem bName_k : bName i x Γ = if i < Γ.length then some (Γ.set i (some (x.1 % 10, x.2))) else none := rfl
@[simp] theorem bUn_tup (is : List Nat) (ds : List D) : bUn is (l, .tup ds) Γ = bNs is (ds.map fun d => (if 2 ≤ l % 10 then 2 else 0, d)) Γ := rfl
@[simp] theorem bUn_lst (is : List Nat) (ds : List D) : bUn is (l, .lst ds) Γ = bNs is (ds.map fun d => (if 2 ≤ l % 10 then 2 else 0, d)) Γ := rfl
def kRet : R LD → O
  | .ok x Γ => .rt x Γ
  | .exc c Γ => .exc c Γ
  | .bad => .bad
@[simp] theorem sRet_k (f : EF) : sRet f Γ = kRet (f Γ) := by unfold sRet kRet; cases f Γ <;> rfl
@[simp] theorem kRet_ok : kRet (.ok x Γ) = .rt x Γ := rfl
@[simp] theorem kRet_exc : kRet (.exc c Γ) = .exc c Γ := rfl
@[simp] theorem kRet_bad : kRet .bad = .bad := rfl
def kExp : R LD → O
  | .ok _ Γ => .nx Γ
  | .exc c Γ => .exc c Γ
  | .bad => .bad
@[simp] theorem sExpr_k (f : EF) : sExpr f Γ = kExp (f Γ) := by unfold sExpr kExp; cases f Γ <;> rfl
@[simp] theorem kExp_ok : kExp (.ok x Γ) = .nx Γ := rfl
@[simp] theorem kExp_exc : kExp (.exc c Γ) = .exc c Γ := rfl
@[simp] theorem kExp_bad : kExp .bad = .bad := rfl
@[simp] theorem sPut_k (G : List LD → FR) (fv : EF) (fk : EF) : sPut G fv i fk Γ = kExp (eCall G [.inr fv, .inl i, .inr fk] Γ) := sExpr_k _
def kIf : R Bool → SF → SF → O
  | .ok b Γ, f, g => if b = true then f Γ else g Γ
  | .exc c Γ, _, _ => .exc c Γ
  | .bad, _, _ => .bad
@[simp] theorem sIf_k (t : EB) (f g : SF) : sIf t f g Γ = kIf (t Γ) f g := by
  unfold sIf
  rcases t Γ with ⟨_ | _, Γ'⟩ | ⟨c, Γ'⟩ | _ <;> rfl
@[simp] theorem kIf_ok (f g : SF) : kIf (.ok b Γ) f g = if b = true then f Γ else g Γ := rfl
@[simp] theorem kIf_exc (f g : SF) : kIf (.exc c Γ) f g = .exc c Γ := rfl
@[simp] theorem kIf_bad (f g : SF) : kIf .bad f g = .bad := rfl
@[simp] theorem pC_k : pC d Γ = .ok (2, d) := rfl
def kVar : Option (Option LD) → P LD
  | some (some (_, d)) => .ok (0, d)
  | _ => .bad
@[simp] theorem pVar_k : pVar i Γ = kVar Γ[i]? := by unfold pVar kVar; rfl
@[simp] theorem kVar_some : kVar (some (some (l, d))) = .ok (0, d) := rfl
def kMov (i : Nat) (Γ : Env) : Option (Option LD) → R LD
  | some (some (l, d)) => .ok (l % 10, d) (Γ.set i none)
  | _ => .bad
@[simp] theorem eMove_k : eMove i Γ = kMov i Γ Γ[i]? := by unfold eMove kMov; rfl
@[simp] theorem kMov_some : kMov i Γ (some (some (l, d))) = .ok (l % 10, d) (Γ.set i none) := rfl
def kTo (A : List Nat) (Γ : Env) : P LD → R LD
  | .ok (l, d) => .ok (l, d) (if 2 ≤ l % 10 ∨ d.imm = true then Γ else lowE A Γ)
  | .exc c => .exc c Γ
  | .bad => .bad
@[simp] theorem toE_k (A : List Nat) (f : PF) : toE A f Γ = kTo A Γ (f Γ) := by unfold toE kTo; rfl
@[simp] theorem kTo_ok (A : List Nat) : kTo A Γ (.ok (l, d)) = .ok (l, d) (if 2 ≤ l % 10 ∨ d.imm = true then Γ else lowE A Γ) := rfl
@[simp] theorem kTo_exc (A : List Nat) : kTo A Γ (.exc c) = .exc c Γ := rfl
@[simp] theorem kTo_bad (A : List Nat) : kTo A Γ .bad = .bad := rfl
def kCons : P LD → P (List LD) → P (List LD)
  | .ok x, .ok xs => .ok (x :: xs)
  | .ok _, .exc c => .exc c
  | .ok _, .bad => .bad
  | .exc c, _ => .exc c
  | .bad, _ => .bad
@[simp] theorem evP_nil : evP [] Γ = .ok [] := rfl
@[simp] theorem evP_k (f : PF) (fs : List PF) : evP (f :: fs) Γ = kCons (f Γ) (evP fs Γ) := by
  rw [evP]
  cases f Γ <;> cases evP fs Γ <;> rfl
@[simp] theorem kCons_ok : kCons (.ok x) (.ok xs) = .ok (x :: xs) := rfl
@[simp] theorem kCons_exc (q : P (List LD)) : kCons (.exc c) q = .exc c := rfl
@[simp] theorem kCons_exc2 : kCons (.ok x) (.exc c) = .exc c := rfl
def kGet : Option LD → P LD
  | some x => .ok x
  | none => .bad
@[simp] theorem kGet_some : kGet (some x) = .ok x := rfl
@[simp] theorem kGet_none : kGet none = .bad := rfl
def kAp : P (List LD) → (List LD → Option LD) → P LD
  | .ok xs, g => kGet (g xs)
  | .exc c, _ => .exc c
  | .bad, _ => .bad
@[simp] theorem pApp_k (g : List LD → Option LD) (fs : List PF) : pApp g fs Γ = kAp (evP fs Γ) g := by
  unfold pApp kAp gP kGet
  cases evP fs Γ <;> rfl
@[simp] theorem kAp_ok (g : List LD → Option LD) : kAp (.ok xs) g = kGet (g xs) := rfl
@[simp] theorem kAp_exc (g : List LD → Option LD) : kAp (.exc c) g = .exc c := rfl
def kFR : FR → P LD
  | .ret x _ => .ok x
  | .exc c _ => .exc c
  | .bad => .bad
@[simp] theorem kFR_ret (fs : List LD) : kFR (.ret x fs) = .ok x := rfl
@[simp] theorem kFR_exc (fs : List LD) : kFR (.exc c fs) = .exc c := rfl
def kCl : P (List LD) → (List LD → FR) → P LD
  | .ok xs, F => kFR (F xs)
  | .exc c, _ => .exc c
  | .bad, _ => .bad
@[simp] theorem pCall_k (F : List LD → FR) (fs : List PF) : pCall F fs Γ = kCl (evP fs Γ) F := by
  unfold pCall kCl kFR
  cases evP fs Γ <;> rfl
@[simp] theorem kCl_ok (F : List LD → FR) : kCl (.ok xs) F = kFR (F xs) := rfl
@[simp] theorem kCl_exc (F : List LD → FR) : kCl (.exc c) F = .exc c := rfl
def kInt : P LD → P LD
  | .ok (l, .int i) => .ok (l, .int i)
  | .exc c => .exc c
  | _ => .bad
@[simp] theorem pI_k (f : PF) : pI f Γ = kInt (f Γ) := by unfold pI kInt; rfl
@[simp] theorem kInt_ok (i : Int) : kInt (.ok (l, .int i)) = .ok (l, .int i) := rfl
def kIntE : R LD → R LD
  | .ok (l, .int i) Γ => .ok (l, .int i) Γ
  | .exc c Γ => .exc c Γ
  | _ => .bad
@[simp] theorem eI_k (f : EF) : eI f Γ = kIntE (f Γ) := by unfold eI kIntE; rfl
@[simp] theorem kIntE_ok (i : Int) : kIntE (.ok (l, .int i) Γ) = .ok (l, .int i) Γ := rfl
def kHd : LD → R (List LD) → R (List LD)
  | x, .ok xs Γ => .ok (x :: xs) Γ
  | _, .exc c Γ => .exc c Γ
  | _, .bad => .bad
@[simp] theorem kHd_ok : kHd x (.ok xs Γ) = .ok (x :: xs) Γ := rfl
@[simp] theorem kHd_exc : kHd x (.exc c Γ) = .exc c Γ := rfl
def kEv : R LD → List EF → R (List LD)
  | .ok x Γ, fs => kHd x (evE fs Γ)
  | .exc c Γ, _ => .exc c Γ
  | .bad, _ => .bad
@[simp] theorem evE_nil : evE [] Γ = .ok [] Γ := rfl
@[simp] theorem evE_k (f : EF) (fs : List EF) : evE (f :: fs) Γ = kEv (f Γ) fs := by
  rw [evE]
  unfold kEv
  cases f Γ with
  | ok x Γ1 => dsimp only; cases evE fs Γ1 <;> rfl
  | exc c Γ1 => rfl
  | bad => rfl
@[simp] theorem kEv_ok (fs : List EF) : kEv (.ok x Γ) fs = kHd x (evE fs Γ) := rfl
@[simp] theorem kEv_exc (fs : List EF) : kEv (.exc c Γ) fs = .exc c Γ := rfl
def kGetE (Γ : Env) : Option LD → R LD
  | some x => .ok x Γ
  | none => .bad
@[simp] theorem kGetE_some : kGetE Γ (some x) = .ok x Γ := rfl
def kApE : R (List LD) → (List LD → Option LD) → R LD
  | .ok xs Γ, g => kGetE Γ (g xs)
  | .exc c Γ, _ => .exc c Γ
  | .bad, _ => .bad
@[simp] theorem eApp_k (g : List LD → Option LD) (fs : List EF) : eApp g fs Γ = kApE (evE fs Γ) g := by
  unfold eApp kApE kGetE
  cases evE fs Γ <;> rfl
@[simp] theorem kApE_ok (g : List LD → Option LD) : kApE (.ok xs Γ) g = kGetE Γ (g xs) := rfl
@[simp] theorem kApE_exc (g : List LD → Option LD) : kApE (.exc c Γ) g = .exc c Γ := rfl
def kEvA : R LD → List AE → R (List LD)
  | .ok x Γ, as => kHd x (evA as Γ)
  | .exc c Γ, _ => .exc c Γ
  | .bad, _ => .bad
@[simp] theorem evA_nil : evA [] Γ = .ok [] Γ := rfl
@[simp] theorem evA_r (f : EF) (as : List AE) : evA (.inr f :: as) Γ = kEvA (f Γ) as := by
  rw [evA]
  unfold kEvA
  cases f Γ with
  | ok x Γ1 => dsimp only; cases evA as Γ1 <;> rfl
  | exc c Γ1 => rfl
  | bad => rfl
@[simp] theorem kEvA_ok (as : List AE) : kEvA (.ok x Γ) as = kHd x (evA as Γ) := rfl
@[simp] theorem kEvA_exc (as : List AE) : kEvA (.exc c Γ) as = .exc c Γ := rfl
def kEvL (as : List AE) (Γ : Env) : Option (Option LD) → R (List LD)
  | some (some _) => evA as Γ
  | _ => .bad
@[simp] theorem evA_l (as : List AE) : evA (.inl i :: as) Γ = kEvL as Γ Γ[i]? := by rw [evA]; unfold kEvL; rfl
@[simp] theorem kEvL_some (as : List AE) : kEvL as Γ (some (some x)) = evA as Γ := rfl
def kFin (ps : List (Nat × Nat)) (Γ : Env) : FR → R LD
  | .ret x fin => if fin.length = ps.length then .ok x (ptA ps fin Γ) else .bad
  | .exc c fin => if fin.length = ps.length then .exc c (ptA ps fin Γ) else .bad
  | .bad => .bad
@[simp] theorem kFin_ret (ps : List (Nat × Nat)) (fin : List LD) : kFin ps Γ (.ret x fin) = if fin.length = ps.length then .ok x (ptA ps fin Γ) else .bad := rfl
@[simp] theorem kFin_exc (ps : List (Nat × Nat)) (fin : List LD) : kFin ps Γ (.exc c fin) = if fin.length = ps.length then .exc c (ptA ps fin Γ) else .bad := rfl
def kTk (F : List LD → FR) : Option (List LD × List (Nat × Nat) × Env) → R LD
  | some (ys, ps, Γ1) => kFin ps Γ1 (F ys)
  | none => .bad
@[simp] theorem kTk_some (F : List LD → FR) (ps : List (Nat × Nat)) : kTk F (some (xs, ps, Γ)) = kFin ps Γ (F xs) := rfl
@[simp] theorem eCallR_k (F : List LD → FR) (as : List AE) : eCallR F as xs Γ = kTk F (tkA as xs Γ) := by
  unfold eCallR kTk kFin
  rfl
def kCallE : R (List LD) → (List LD → FR) → List AE → R LD
  | .ok xs Γ, F, as => eCallR F as xs Γ
  | .exc c Γ, _, _ => .exc c Γ
  | .bad, _, _ => .bad
@[simp] theorem eCall_k (F : List LD → FR) (as : List AE) : eCall F as Γ = kCallE (evA as Γ) F as := by
  unfold eCall kCallE
  cases evA as Γ <;> rfl
@[simp] theorem kCallE_ok (F : List LD → FR) (as : List AE) : kCallE (.ok xs Γ) F as = eCallR F as xs Γ := rfl
@[simp] theorem kCallE_exc (F : List LD → FR) (as : List AE) : kCallE (.exc c Γ) F as = .exc c Γ := rfl
def kMeth (T : String) (G : List LD → FR) (i : Nat) (as : List AE) (Γ : Env) : Option (Option LD) → R LD
  | some (some (_, d)) => if d.ty == T then eCall G (.inl i :: as) Γ else .bad
  | _ => .bad
@[simp] theorem eMeth_k (T : String) (G : List LD → FR) (as : List AE) : eMeth T G i as Γ = kMeth T G i as Γ Γ[i]? := by unfold eMeth kMeth; rfl
@[simp] theorem kMeth_some (T : String) (G : List LD → FR) (as : List AE) : kMeth T G i as Γ (some (some (l, d))) = if d.ty == T then eCall G (.inl i :: as) Γ else .bad := rfl
def kPB : P LD → P Bool
  | .ok (_, .bl b) => .ok b
  | .exc c => .exc c
  | _ => .bad
@[simp] theorem pB_k (f : PF) : pB f Γ = kPB (f Γ) := by unfold pB kPB; rfl
@[simp] theorem kPB_ok : kPB (.ok (l, .bl b)) = .ok b := rfl
@[simp] theorem kPB_exc : kPB (.exc c) = .exc c := rfl
def kEB : R LD → R Bool
  | .ok (_, .bl b) Γ => .ok b Γ
  | .exc c Γ => .exc c Γ
  | _ => .bad
@[simp] theorem eB_k (f : EF) : eB f Γ = kEB (f Γ) := by unfold eB kEB; rfl
@[simp] theorem kEB_ok : kEB (.ok (l, .bl b) Γ) = .ok b Γ := rfl
@[simp] theorem kEB_exc : kEB (.exc c Γ) = .exc c Γ := rfl
def kTB (Γ : Env) : P Bool → R Bool
  | .ok b => .ok b Γ
  | .exc c => .exc c Γ
  | .bad => .bad
@[simp] theorem toEB_k (f : PB) : toEB f Γ = kTB Γ (f Γ) := by unfold toEB kTB; rfl
@[simp] theorem kTB_ok : kTB Γ (.ok b) = .ok b Γ := rfl
@[simp] theorem kTB_exc : kTB Γ (.exc c) = .exc c Γ := rfl
def kAnd (g : PB) (Γ : Env) : P Bool → P Bool
  | .ok b => if b = true then g Γ else .ok false
  | .exc c => .exc c
  | .bad => .bad
@[simp] theorem bAndP_k (f g : PB) : bAndP f g Γ = kAnd g Γ (f Γ) := by
  unfold bAndP kAnd
  rcases f Γ with ⟨_ | _⟩ | c | _ <;> rfl
@[simp] theorem kAnd_ok (g : PB) : kAnd g Γ (.ok b) = if b = true then g Γ else .ok false := rfl
def kOr (g : PB) (Γ : Env) : P Bool → P Bool
  | .ok b => if b = true then .ok true else g Γ
  | .exc c => .exc c
  | .bad => .bad
@[simp] theorem bOrP_k (f g : PB) : bOrP f g Γ = kOr g Γ (f Γ) := by
  unfold bOrP kOr
  rcases f Γ with ⟨_ | _⟩ | c | _ <;> rfl
@[simp] theorem kOr_ok (g : PB) : kOr g Γ (.ok b) = if b = true then .ok true else g Γ := rfl
def kNot : P Bool → P Bool
  | .ok b => .ok (!b)
  | x => x
@[simp] theorem bNotP_k (f : PB) : bNotP f Γ = kNot (f Γ) := by unfold bNotP kNot; rfl
@[simp] theorem kNot_ok : kNot (.ok b) = .ok (!b) := rfl
def kAndE (g : EB) : R Bool → R Bool
  | .ok b Γ => if b = true then g Γ else .ok false Γ
  | .exc c Γ => .exc c Γ
  | .bad => .bad
@[simp] theorem bAndE_k (f g : EB) : bAndE f g Γ = kAndE g (f Γ) := by
  unfold bAndE kAndE
  rcases f Γ with ⟨_ | _, Γ'⟩ | ⟨c, Γ'⟩ | _ <;> rfl
@[simp] theorem kAndE_ok (g : EB) : kAndE g (.ok b Γ) = if b = true then g Γ else .ok false Γ := rfl
def kOrE (g : EB) : R Bool → R Bool
  | .ok b Γ => if b = true then .ok true Γ else g Γ
  | .exc c Γ => .exc c Γ
  | .bad => .bad
@[simp] theorem bOrE_k (f g : EB) : bOrE f g Γ = kOrE g (f Γ) := by
  unfold bOrE kOrE
  rcases f Γ with ⟨_ | _, Γ'⟩ | ⟨c, Γ'⟩ | _ <;> rfl
@[simp] theorem kOrE_ok (g : EB) : kOrE g (.ok b Γ) = if b = true then .ok true Γ else g Γ := rfl
def kNotE : R Bool → R Bool
  | .ok b Γ => .ok (!b) Γ
  | x => x
@[simp] theorem bNotE_k (f : EB) : bNotE f Γ = kNotE (f Γ) := by unfold bNotE kNotE; rfl
@[simp] theorem kNotE_ok : kNotE (.ok b Γ) = .ok (!b) Γ := rfl
def kAndV (g : PF) (Γ : Env) : P LD → P LD
  | .ok (_, .bl b) => if b = true then g Γ else .ok (2, .bl false)
  | .exc c => .exc c
  | _ => .bad
@[simp] theorem pAnd_k (f g : PF) : pAnd f g Γ = kAndV g Γ (f Γ) := by
  unfold pAnd kAndV
  rcases f Γ with ⟨l, _ | ⟨_ | _⟩ | _ | _ | _ | _ | _ | _⟩ | c | _ <;> rfl
@[simp] theorem kAndV_ok (g : PF) : kAndV g Γ (.ok (l, .bl b)) = if b = true then g Γ else .ok (2, .bl false) := rfl
def kOrV (g : PF) (Γ : Env) : P LD → P LD
  | .ok (_, .bl b) => if b = true then .ok (2, .bl true) else g Γ
  | .exc c => .exc c
  | _ => .bad
@[simp] theorem pOr_k (f g : PF) : pOr f g Γ = kOrV g Γ (f Γ) := by
  unfold pOr kOrV
  rcases f Γ with ⟨l, _ | ⟨_ | _⟩ | _ | _ | _ | _ | _ | _⟩ | c | _ <;> rfl
@[simp] theorem kOrV_ok (g : PF) : kOrV g Γ (.ok (l, .bl b)) = if b = true then .ok (2, .bl true) else g Γ := rfl
def kNotV : P LD → P LD
  | .ok (_, .bl b) => .ok (2, .bl (!b))
  | .exc c => .exc c
  | _ => .bad
@[simp] theorem pNot_k (f : PF) : pNot f Γ = kNotV (f Γ) := by unfold pNot kNotV; rfl
@[simp] theorem kNotV_ok : kNotV (.ok (l, .bl b)) = .ok (2, .bl (!b)) := rfl
def kNotW : R LD → R LD
  | .ok (_, .bl b) Γ => .ok (2, .bl (!b)) Γ
  | .exc c Γ => .exc c Γ
  | _ => .bad
@[simp] theorem eNot_k (f : EF) : eNot f Γ = kNotW (f Γ) := by unfold eNot kNotW; rfl
@[simp] theorem kNotW_ok : kNotW (.ok (l, .bl b) Γ) = .ok (2, .bl (!b)) Γ := rfl
def kIfV (f g : PF) (Γ : Env) : P Bool → P LD
  | .ok b => if b = true then f Γ else g Γ
  | .exc c => .exc c
  | .bad => .bad
@[simp] theorem pIf_k (t : PB) (f g : PF) : pIf t f g Γ = kIfV f g Γ (t Γ) := by
  unfold pIf kIfV
  rcases t Γ with ⟨_ | _⟩ | c | _ <;> rfl
@[simp] theorem kIfV_ok (f g : PF) : kIfV f g Γ (.ok b) = if b = true then f Γ else g Γ := rfl
def kAndW (g : EF) : R LD → R LD
  | .ok (_, .bl b) Γ => if b = true then g Γ else .ok (2, .bl false) Γ
  | .exc c Γ => .exc c Γ
  | _ => .bad
@[simp] theorem eAnd_k (f g : EF) : eAnd f g Γ = kAndW g (f Γ) := by
  unfold eAnd kAndW
  rcases f Γ with ⟨⟨l, _ | ⟨_ | _⟩ | _ | _ | _ | _ | _ | _⟩, Γ'⟩ | ⟨c, Γ'⟩ | _ <;> rfl
@[simp] theorem kAndW_ok (g : EF) : kAndW g (.ok (l, .bl b) Γ) = if b = true then g Γ else .ok (2, .bl false) Γ := rfl
def kOrW (g : EF) : R LD → R LD
  | .ok (_, .bl b) Γ => if b = true then .ok (2, .bl true) Γ else g Γ
  | .exc c Γ => .exc c Γ
  | _ => .bad
@[simp] theorem eOr_k (f g : EF) : eOr f g Γ = kOrW g (f Γ) := by
  unfold eOr kOrW
  rcases f Γ with ⟨⟨l, _ | ⟨_ | _⟩ | _ | _ | _ | _ | _ | _⟩, Γ'⟩ | ⟨c, Γ'⟩ | _ <;> rfl
@[simp] theorem kOrW_ok (g : EF) : kOrW g (.ok (l, .bl b) Γ) = if b = true then .ok (2, .bl true) Γ else g Γ := rfl
def kIfW (f g : EF) : R Bool → R LD
  | .ok b Γ => if b = true then f Γ else g Γ
  | .exc c Γ => .exc c Γ
  | .bad => .bad
@[simp] theorem eIf_k (t : EB) (f g : EF) : eIf t f g Γ = kIfW f g (t Γ) := by
  unfold eIf kIfW
  rcases t Γ with ⟨_ | _, Γ'⟩ | ⟨c, Γ'⟩ | _ <;> rfl
@[simp] theorem kIfW_ok (f g : EF) : kIfW f g (.ok b Γ) = if b = true then f Γ else g Γ := rfl
def kCh (k k' : Int → Int → Bool) (g h : PF) (Γ : Env) : P LD → P LD
  | .ok (_, .int i) => (match g Γ with
    | .ok (_, .int j) => if k i j then (match h Γ with
      | .ok (_, .int m) => .ok (2, .bl (k' j m))
      | .exc c => .exc c
      | _ => .bad) else .ok (2, .bl false)
    | .exc c => .exc c
    | _ => .bad)
  | .exc c => .exc c
  | _ => .bad
@[simp] theorem pChain_k (k k' : Int → Int → Bool) (f g h : PF) : pChain k k' f g h Γ = kCh k k' g h Γ (f Γ) := by unfold pChain kCh; rfl
@[simp] theorem kCh_ok (k k' : Int → Int → Bool) (g h : PF) (i : Int) : kCh k k' g h Γ (.ok (l, .int i)) = (match g Γ with
    | .ok (_, .int j) => if k i j then (match h Γ with
      | .ok (_, .int m) => .ok (2, .bl (k' j m))
      | .exc c => .exc c
      | _ => .bad) else .ok (2, .bl false)
    | .exc c => .exc c
    | _ => .bad) := rfl
@[simp] theorem ebT_k : ebT Γ = .ok true Γ := rfl
@[simp] theorem pbT_k : pbT Γ = .ok true := rfl
def kSrcG (Γ : Env) : Option (List D) → R (List LD)
  | some ds => .ok (ds.map fun d => (0, d)) Γ
  | none => .bad
@[simp] theorem kSrcG_some (ds : List D) : kSrcG Γ (some ds) = .ok (ds.map fun d => (0, d)) Γ := rfl
def kSrc : R (List LD) → (List LD → Option (List D)) → R (List LD)
  | .ok xs Γ, g => kSrcG Γ (g xs)
  | .exc c Γ, _ => .exc c Γ
  | .bad, _ => .bad
@[simp] theorem srcE_k (g : List LD → Option (List D)) (fs : List EF) : srcE g fs Γ = kSrc (evE fs Γ) g := by
  unfold srcE kSrc kSrcG
  cases evE fs Γ <;> rfl
@[simp] theorem kSrc_ok (g : List LD → Option (List D)) : kSrc (.ok xs Γ) g = kSrcG Γ (g xs) := rfl
def kKeep : P LD → Option (Option D)
  | .ok (l, d) => if 2 ≤ l % 10 ∨ d.imm = true then some (some d) else none
  | _ => none
@[simp] theorem keepD_k (p : P LD) : keepD p = kKeep p := by unfold keepD kKeep; rfl
@[simp] theorem kKeep_ok : kKeep (.ok (l, d)) = if 2 ≤ l % 10 ∨ d.imm = true then some (some d) else none := rfl
def kT2 (f : PF) (Γ : Env) : P Bool → Option (Option D)
  | .ok b => if b = true then keepD (f Γ) else some none
  | _ => none
@[simp] theorem kT2_ok (f : PF) : kT2 f Γ (.ok b) = if b = true then keepD (f Γ) else some none := rfl
def kT (t : PB) (f : PF) : Option Env → Option (Option D)
  | some Γ => kT2 f Γ (t Γ)
  | none => none
@[simp] theorem kT_some (t : PB) (f : PF) : kT t f (some Γ) = kT2 f Γ (t Γ) := rfl
@[simp] theorem turnP_k (bd : BF) (t : PB) (f : PF) : turnP bd t f Γ x = kT t f (bd x Γ) := by
  unfold turnP kT
  cases bd x Γ with
  | none => rfl
  | some Γ1 => dsimp only; unfold kT2; cases t Γ1 <;> rfl
def kLcP (bd : BF) (t : PB) (f : PF) (vs : List Nat) : R (List LD) → R LD
  | .ok xs Γ1 => if szOk xs.length then lcEnd Γ1 (clr Γ1 vs) vs (colM (turnP bd t f (clr Γ1 vs)) xs) else .bad
  | .exc c Γ1 => .exc c Γ1
  | .bad => .bad
@[simp] theorem eLcP_k (src : IF') (bd : BF) (t : PB) (f : PF) (vs : List Nat) : eLcP src bd t f vs Γ = kLcP bd t f vs (src Γ) := by unfold eLcP kLcP; rfl
@[simp] theorem kLcP_ok (bd : BF) (t : PB) (f : PF) (vs : List Nat) : kLcP bd t f vs (.ok xs Γ) = if szOk xs.length then lcEnd Γ (clr Γ vs) vs (colM (turnP bd t f (clr Γ vs)) xs) else .bad := rfl
@[simp] theorem kLcP_exc (bd : BF) (t : PB) (f : PF) (vs : List Nat) : kLcP bd t f vs (.exc c Γ) = .exc c Γ := rfl
@[simp] theorem lcEnd_some (vs : List Nat) (ds : List D) : lcEnd Γ Γ1 vs (some ds) = .ok (2, .lst ds) (bakE Γ Γ1 vs) := rfl
open Classical in
noncomputable def kE2 (f : EF) (vs : List Nat) (Γ : Env) : R Bool → Option (Option D)
  | .ok b Γ2 => if b = true then keepE vs Γ (f Γ2) else (if clr Γ2 vs = Γ then some none else none)
  | _ => none
open Classical in
@[simp] theorem kE2_ok (f : EF) (vs : List Nat) : kE2 f vs Γ (.ok b Γ1) = if b = true then keepE vs Γ (f Γ1) else (if clr Γ1 vs = Γ then some none else none) := rfl
noncomputable def kE1 (t : EB) (f : EF) (vs : List Nat) (Γ : Env) : Option Env → Option (Option D)
  | some Γ1 => kE2 f vs Γ (t Γ1)
  | none => none
@[simp] theorem kE1_some (t : EB) (f : EF) (vs : List Nat) : kE1 t f vs Γ (some Γ1) = kE2 f vs Γ (t Γ1) := rfl
@[simp] theorem turnE_k (bd : BF) (t : EB) (f : EF) (vs : List Nat) : turnE bd t f vs Γ x = kE1 t f vs Γ (bd x Γ) := by
  unfold turnE kE1
  cases bd x Γ with
  | none => rfl
  | some Γ1 => dsimp only; unfold kE2; cases t Γ1 <;> rfl
open Classical in
@[simp] theorem keepE_ok (vs : List Nat) : keepE vs Γ (.ok (l, d) Γ1) = if 2 ≤ l % 10 ∨ d.imm = true then (if clr Γ1 vs = Γ then some (some d) else none) else none := rfl
noncomputable def kLcE (bd : BF) (t : EB) (f : EF) (vs : List Nat) : R (List LD) → R LD
  | .ok xs Γ1 => if szOk xs.length then lcEnd Γ1 (clr Γ1 vs) vs (colM (turnE bd t f vs (clr Γ1 vs)) xs) else .bad
  | .exc c Γ1 => .exc c Γ1
  | .bad => .bad
@[simp] theorem eLcE_k (src : IF') (bd : BF) (t : EB) (f : EF) (vs : List Nat) : eLcE src bd t f vs Γ = kLcE bd t f vs (src Γ) := by unfold eLcE kLcE; rfl
@[simp] theorem kLcE_ok (bd : BF) (t : EB) (f : EF) (vs : List Nat) : kLcE bd t f vs (.ok xs Γ) = if szOk xs.length then lcEnd Γ (clr Γ vs) vs (colM (turnE bd t f vs (clr Γ vs)) xs) else .bad := rfl
def kLe (Γ : Env) (vs : List Nat) : R LD → R LD
  | .ok x Γ2 => .ok x (bakE Γ Γ2 vs)
  | _ => .bad
@[simp] theorem kLe_ok (vs : List Nat) : kLe Γ vs (.ok x Γ1) = .ok x (bakE Γ Γ1 vs) := rfl
def kLc (bd : BF) (t : EB) (f : EF) (vs : List Nat) : R (List LD) → R LD
  | .ok xs Γ1 => if szOk xs.length then kLe Γ1 vs (lcL bd t f vs xs true [] (clr Γ1 vs)) else .bad
  | .exc c Γ1 => .exc c Γ1
  | .bad => .bad
@[simp] theorem eLc_k (src : IF') (bd : BF) (t : EB) (f : EF) (vs : List Nat) : eLc src bd t f vs Γ = kLc bd t f vs (src Γ) := by
  unfold eLc kLc
  cases src Γ with
  | ok xs Γ1 => dsimp only; unfold kLe; cases lcL bd t f vs xs true [] (clr Γ1 vs) <;> rfl
  | exc c Γ1 => rfl
  | bad => rfl
@[simp] theorem kLc_ok (bd : BF) (t : EB) (f : EF) (vs : List Nat) : kLc bd t f vs (.ok xs Γ) = if szOk xs.length then kLe Γ vs (lcL bd t f vs xs true [] (clr Γ vs)) else .bad := rfl
def kFor (bd : BF) (f : SF) : R (List LD) → O
  | .ok xs Γ => forL bd f xs Γ
  | .exc c Γ => .exc c Γ
  | .bad => .bad
@[simp] theorem sFor_k (src : IF') (bd : BF) (f : SF) : sFor src bd f Γ = kFor bd f (src Γ) := by unfold sFor kFor; rfl
@[simp] theorem kFor_ok (bd : BF) (f : SF) : kFor bd f (.ok xs Γ) = forL bd f xs Γ := rfl
@[simp] theorem kFor_exc (bd : BF) (f : SF) : kFor bd f (.exc c Γ) = .exc c Γ := rfl
def kOutN : Option (List LD) → FR
  | some fs => .ret (2, .non) fs
  | none => .bad
def kOutR (x : LD) : Option (List LD) → FR
  | some fs => .ret x fs
  | none => .bad
def kOutX (c : String) : Option (List LD) → FR
  | some fs => .exc c fs
  | none => .bad
@[simp] theorem kOutN_s (fs : List LD) : kOutN (some fs) = .ret (2, .non) fs := rfl
@[simp] theorem kOutR_s (fs : List LD) : kOutR x (some fs) = .ret x fs := rfl
@[simp] theorem kOutX_s (fs : List LD) : kOutX c (some fs) = .exc c fs := rfl
@[simp] theorem out_nx : outF io (.nx Γ) = kOutN (finS io Γ) := rfl
@[simp] theorem out_rt : outF io (.rt x Γ) = kOutR x (finS io Γ) := rfl
@[simp] theorem out_exc : outF io (.exc c Γ) = kOutX c (finS io Γ) := rfl
theorem sAug_k (k : Int → Int → Bool) (f : Int → Int → Int) (h : EF) : sAug i k f h Γ = (match Γ[i]? with
  | some (some (_, .int a)) => (match h Γ with
    | .ok (_, .int b) Γ' => if k a b && decide (i < Γ'.length) then .nx (Γ'.set i (some (2, .int (f a b)))) else .bad
    | .exc x Γ' => .exc x Γ'
    | _ => .bad)
  | _ => .bad) := rfl
end
section
variable {α β : Type}
@[simp] theorem atI_map (f : α → β) (xs : List α) (i : Int) : atI (xs.map f) i = (atI xs i).map f := by
  unfold atI
  rw [List.length_map]
  cases h : ixN xs.length i with
  | none => rfl
  | some j => simp [mkS, finS, bNs, gL1, gL2, gLL2, fI2, tkA, ptA, GS, GL, fPut, ful, l12, l02, DL.D.mut, DL.D.top, DL.D.imm, DL.D.imm.immAll, fdOk, fIx, fMul, fAdd, powOk, gLstL, gTupL, DL.D.ty, lvN, szOk, fLen, fListOf, fTupOf, fSl, gSlN, gSlH, gSlL, gSlB, fIsi, fIsiT, isT, DL.D.tyN, DL.D.isX, fInts, DL.D.seqI, fLenSet, fLR, fLR1, gLR2, rgOk, fDict, fAbs, fInt1, gMax2, gMin2, g1S, g2S, fItems, fR1, fR2, bd62, lowE, clr, bakE, kpE, fApp, fIns, fPop, fPopA, fPopI, fClr, fRev, fExt, allTop, fEq, fNe, fNeg, fIsN, DL.D.isNon, DL.D.key, dGet, canE, nrm, cT, sAug_k]
@[simp] theorem atI_cast (xs : List α) (k : Nat) : atI xs (k : Int) = xs[k]? := by
  unfold atI ixN
  by_cases h : k < xs.length
  · simp [mkS, finS, bNs, gL1, gL2, gLL2, fI2, tkA, ptA, GS, GL, fPut, ful, l12, l02, DL.D.mut, DL.D.top, DL.D.imm, DL.D.imm.immAll, fdOk, fIx, fMul, fAdd, powOk, gLstL, gTupL, DL.D.ty, lvN, szOk, fLen, fListOf, fTupOf, fSl, gSlN, gSlH, gSlL, gSlB, fIsi, fIsiT, isT, DL.D.tyN, DL.D.isX, fInts, DL.D.seqI, fLenSet, fLR, fLR1, gLR2, rgOk, fDict, fAbs, fInt1, gMax2, gMin2, g1S, g2S, fItems, fR1, fR2, bd62, lowE, clr, bakE, kpE, fApp, fIns, fPop, fPopA, fPopI, fClr, fRev, fExt, allTop, fEq, fNe, fNeg, fIsN, DL.D.isNon, DL.D.key, dGet, canE, nrm, cT, sAug_k, h]
  · simp [mkS, finS, bNs, gL1, gL2, gLL2, fI2, tkA, ptA, GS, GL, fPut, ful, l12, l02, DL.D.mut, DL.D.top, DL.D.imm, DL.D.imm.immAll, fdOk, fIx, fMul, fAdd, powOk, gLstL, gTupL, DL.D.ty, lvN, szOk, fLen, fListOf, fTupOf, fSl, gSlN, gSlH, gSlL, gSlB, fIsi, fIsiT, isT, DL.D.tyN, DL.D.isX, fInts, DL.D.seqI, fLenSet, fLR, fLR1, gLR2, rgOk, fDict, fAbs, fInt1, gMax2, gMin2, g1S, g2S, fItems, fR1, fR2, bd62, lowE, clr, bakE, kpE, fApp, fIns, fPop, fPopA, fPopI, fClr, fRev, fExt, allTop, fEq, fNe, fNeg, fIsN, DL.D.isNon, DL.D.key, dGet, canE, nrm, cT, sAug_k, h]
@[simp] theorem atI_cons (x : α) (xs : List α) (i : Int) : atI (x :: xs) i = (ixN (x :: xs).length i).bind fun j => (x :: xs)[j]? := rfl
end
/-- .. with what is known of each thing: that it is one of them -/
def colMA {α β : Type} : (xs : List α) → ((x : α) → x ∈ xs → Option (Option β)) → Option (List β)
  | [], _ => some []
  | x :: xs, φ => match φ x (List.mem_cons_self ..) with
    | none => none
    | some none => colMA xs fun y hy => φ y (List.mem_cons_of_mem _ hy)
    | some (some y) => match colMA xs fun y hy => φ y (List.mem_cons_of_mem _ hy) with
      | none => none
      | some ys => some (y :: ys)
section
variable {α β γ : Type}
theorem colM_A (φ : α → Option (Option β)) : ∀ xs : List α, colM φ xs = colMA xs fun x _ => φ x
  | [] => rfl
  | x :: xs => by
    rw [colM, colMA, colM_A φ xs]
    all_goals (rcases φ x with _ | _ | y <;> rfl)
@[simp] theorem colMA_nil (φ : (x : α) → x ∈ [] → Option (Option β)) : colMA [] φ = some [] := rfl
@[simp] theorem colMA_map (φ : α → Option (Option β)) (g : γ → α) (xs : List γ) : colMA (xs.map g) (fun x _ => φ x) = colMA xs fun x _ => φ (g x) := by
  rw [← colM_A, ← colM_A, colM_map]
@[simp] theorem colMA_some (h : α → β) (xs : List α) : colMA xs (fun x _ => some (some (h x))) = some (xs.map h) := by
  rw [← colM_A, colM_some]
@[simp] theorem colMA_no (xs : List α) : colMA (β := β) xs (fun x _ => some none) = some [] := by
  rw [← colM_A, colM_no]
@[simp] theorem colMA_if (p : α → Prop) [DecidablePred p] (h : α → β) (xs : List α) : colMA xs (fun x _ => if p x then some (some (h x)) else some none) = some ((xs.filter fun x => decide (p x)).map h) := by
  rw [← colM_A, colM_if]
end
@[simp] theorem mem_sortI {r : List Int} {x : Int} : x ∈ sortI r ↔ x ∈ r := (sortI_perm r).mem_iff
@[simp] theorem sortI_len (r : List Int) : (sortI r).length = r.length := (sortI_perm r).length_eq
/-- how many are less -/
def rk (r : List Int) (x : Int) : Int := ((r.filter fun y => decide (y < x)).length : Nat)
/-- a loop over a range -/
theorem forL_rng {S : Type} {bd : BF} {f : SF} (mk : S → Env) (I : Nat → S → Prop) {lo : Int} {n : Nat} {s : S} (h0 : I 0 s) (hs : ∀ (i : Nat) s, i < n → I i s → ∃ Γ1, bd (0, .int (lo + i)) (mk s) = some Γ1 ∧ ∃ s', (f Γ1 = .nx (mk s') ∨ f Γ1 = .ct (mk s')) ∧ I (i + 1) s') :
    ∃ s', forL bd f ((rngD lo n).map fun d => (0, d)) (mk s) = .nx (mk s') ∧ I n s' := by
  obtain ⟨s', h1, h2⟩ := forL_st (bd := bd) (f := f) mk I (xs := (rngD lo n).map fun d => (0, d)) (k := 0) h0 fun i x s hx hi => by
    rw [Nat.zero_add] at hi ⊢
    obtain ⟨h, rfl⟩ := List.getElem?_eq_some_iff.mp hx
    have hl : i < n := by simpa [mkS, finS, bNs, gL1, gL2, gLL2, fI2, tkA, ptA, GS, GL, fPut, ful, l12, l02, DL.D.mut, DL.D.top, DL.D.imm, DL.D.imm.immAll, fdOk, fIx, fMul, fAdd, powOk, gLstL, gTupL, DL.D.ty, lvN, szOk, fLen, fListOf, fTupOf, fSl, gSlN, gSlH, gSlL, gSlB, fIsi, fIsiT, isT, DL.D.tyN, DL.D.isX, fInts, DL.D.seqI, fLenSet, fLR, fLR1, gLR2, rgOk, fDict, fAbs, fInt1, gMax2, gMin2, g1S, g2S, fItems, fR1, fR2, bd62, lowE, clr, bakE, kpE, fApp, fIns, fPop, fPopA, fPopI, fClr, fRev, fExt, allTop, fEq, fNe, fNeg, fIsN, DL.D.isNon, DL.D.key, dGet, canE, nrm, cT, sAug_k, ixN, rngD] using h
    have := hs i s hl hi
    simpa [mkS, finS, bNs, gL1, gL2, gLL2, fI2, tkA, ptA, GS, GL, fPut, ful, l12, l02, DL.D.mut, DL.D.top, DL.D.imm, DL.D.imm.immAll, fdOk, fIx, fMul, fAdd, powOk, gLstL, gTupL, DL.D.ty, lvN, szOk, fLen, fListOf, fTupOf, fSl, gSlN, gSlH, gSlL, gSlB, fIsi, fIsiT, isT, DL.D.tyN, DL.D.isX, fInts, DL.D.seqI, fLenSet, fLR, fLR1, gLR2, rgOk, fDict, fAbs, fInt1, gMax2, gMin2, g1S, g2S, fItems, fR1, fR2, bd62, lowE, clr, bakE, kpE, fApp, fIns, fPop, fPopA, fPopI, fClr, fRev, fExt, allTop, fEq, fNe, fNeg, fIsN, DL.D.isNon, DL.D.key, dGet, canE, nrm, cT, sAug_k, ixN, rngD] using this
  refine ⟨s', h1, ?_⟩
  have e : 0 + ((rngD lo n).map fun d => ((0 : Nat), d)).length = n := by simp [mkS, finS, bNs, gL1, gL2, gLL2, fI2, tkA, ptA, GS, GL, fPut, ful, l12, l02, DL.D.mut, DL.D.top, DL.D.imm, DL.D.imm.immAll, fdOk, fIx, fMul, fAdd, powOk, gLstL, gTupL, DL.D.ty, lvN, szOk, fLen, fListOf, fTupOf, fSl, gSlN, gSlH, gSlL, gSlB, fIsi, fIsiT, isT, DL.D.tyN, DL.D.isX, fInts, DL.D.seqI, fLenSet, fLR, fLR1, gLR2, rgOk, fDict, fAbs, fInt1, gMax2, gMin2, g1S, g2S, fItems, fR1, fR2, bd62, lowE, clr, bakE, kpE, fApp, fIns, fPop, fPopA, fPopI, fClr, fRev, fExt, allTop, fEq, fNe, fNeg, fIsN, DL.D.isNon, DL.D.key, dGet, canE, nrm, cT, sAug_k, ixN, rngD]
  rw [e] at h2
  exact h2
end DL
namespace DL
open L2 PySem PySem.Spec PyProof.Rows
def fRvS : LD → Option LD
  | (_, .lst xs) => some (lvN xs.reverse, .lst xs.reverse)
  | (_, .frz xs) => some (2, .lst (xs.reverse.map .int))
  | _ => none
def dBls : List D → Option (List Bool)
  | [] => some []
  | .bl b :: xs => (dBls xs).map (b :: ·)
  | _ => none
theorem dBls_map : ∀ bs : List Bool, dBls (bs.map .bl) = some bs
  | [] => rfl
  | b :: bs => by simp [mkS, finS, bNs, gL1, gL2, gLL2, fI2, tkA, ptA, GS, GL, fPut, ful, l12, l02, DL.D.mut, DL.D.top, DL.D.imm, DL.D.imm.immAll, fdOk, fIx, fMul, fAdd, powOk, gLstL, gTupL, DL.D.ty, lvN, szOk, fLen, fListOf, fTupOf, fSl, gSlN, gSlH, gSlL, gSlB, fIsi, fIsiT, isT, DL.D.tyN, DL.D.isX, fInts, DL.D.seqI, fLenSet, fLR, fLR1, gLR2, rgOk, fDict, fAbs, fInt1, gMax2, gMin2, g1S, g2S, fItems, fR1, fR2, bd62, lowE, clr, bakE, kpE, fApp, fIns, fPop, fPopA, fPopI, fClr, fRev, fExt, allTop, fEq, fNe, fNeg, fIsN, DL.D.isNon, DL.D.key, dGet, canE, nrm, cT, sAug_k, ixN, dBls, dBls_map bs]
def fAll : LD → Option LD
  | (_, .lst xs) => (dBls xs).map fun bs => (2, .bl (bs.all id))
  | _ => none
def fIsB (p : Bool) : D → D → Option LD
  | .bl a, .bl b => some (2, .bl (if p then decide (a = b) else !decide (a = b)))
  | _, _ => none
def fIdx : LD → LD → Option LD := fun x y => match x.2.seqI, y.2 with
  | some is, .int n => (is.findIdx? fun i => i == n).map fun (j : Nat) => ((2, .int (j : Int)) : LD)
  | _, _ => none
def selF (ks : List Bool) (F : List LD → FR) : List LD → FR := fun xs => match F xs with
  | .ret x fin => .ret x (msk ks fin)
  | .exc c fin => .exc c (msk ks fin)
  | .bad => .bad
@[simp] theorem selF_ret {ks : List Bool} {F : List LD → FR} {xs : List LD} {x : LD} {fin : List LD} (h : F xs = .ret x fin) : selF ks F xs = .ret x (msk ks fin) := by unfold selF; rw [h]
@[simp] theorem fEnum_map {α : Type} (g : α → D) (xs : List α) (l : Nat) : fEnum (l, .lst (xs.map g)) = some (xs.zipIdx.map fun p => .tup [.int p.2, g p.1]) := by
  unfold fEnum
  dsimp only
  rw [List.zipIdx_map, List.map_map]
  rfl
@[simp] theorem fEnum_frz (xs : List Int) (l : Nat) : fEnum (l, .frz xs) = some (xs.zipIdx.map fun p => .tup [.int p.2, .int p.1]) := rfl
theorem immAll_all : ∀ xs : List D, D.imm.immAll xs = xs.all D.imm
  | [] => rfl
  | x :: xs => by simp [mkS, finS, bNs, gL1, gL2, gLL2, fI2, tkA, ptA, GS, GL, fPut, ful, l12, l02, DL.D.mut, DL.D.top, DL.D.imm, DL.D.imm.immAll, fdOk, fIx, fMul, fAdd, powOk, gLstL, gTupL, DL.D.ty, lvN, szOk, fLen, fListOf, fTupOf, fSl, gSlN, gSlH, gSlL, gSlB, fIsi, fIsiT, isT, DL.D.tyN, DL.D.isX, fInts, DL.D.seqI, fLenSet, fLR, fLR1, gLR2, rgOk, fDict, fAbs, fInt1, gMax2, gMin2, g1S, g2S, fItems, fR1, fR2, bd62, lowE, clr, bakE, kpE, fApp, fIns, fPop, fPopA, fPopI, fClr, fRev, fExt, allTop, fEq, fNe, fNeg, fIsN, DL.D.isNon, DL.D.key, dGet, canE, nrm, cT, sAug_k, ixN, fRvS, fAll, dBls_map, fIsB, fIdx, msk, Function.comp_def, D.imm.immAll, immAll_all xs]
@[simp] theorem imm_rev (xs : List D) : D.imm.immAll xs.reverse = D.imm.immAll xs := by simp [mkS, finS, bNs, gL1, gL2, gLL2, fI2, tkA, ptA, GS, GL, fPut, ful, l12, l02, DL.D.mut, DL.D.top, DL.D.imm, DL.D.imm.immAll, fdOk, fIx, fMul, fAdd, powOk, gLstL, gTupL, DL.D.ty, lvN, szOk, fLen, fListOf, fTupOf, fSl, gSlN, gSlH, gSlL, gSlB, fIsi, fIsiT, isT, DL.D.tyN, DL.D.isX, fInts, DL.D.seqI, fLenSet, fLR, fLR1, gLR2, rgOk, fDict, fAbs, fInt1, gMax2, gMin2, g1S, g2S, fItems, fR1, fR2, bd62, lowE, clr, bakE, kpE, fApp, fIns, fPop, fPopA, fPopI, fClr, fRev, fExt, allTop, fEq, fNe, fNeg, fIsN, DL.D.isNon, DL.D.key, dGet, canE, nrm, cT, sAug_k, ixN, fRvS, fAll, dBls_map, fIsB, fIdx, msk, Function.comp_def, immAll_all]
@[simp] theorem imm_cat (xs ys : List D) : D.imm.immAll (xs ++ ys) = (D.imm.immAll xs && D.imm.immAll ys) := by simp [mkS, finS, bNs, gL1, gL2, gLL2, fI2, tkA, ptA, GS, GL, fPut, ful, l12, l02, DL.D.mut, DL.D.top, DL.D.imm, DL.D.imm.immAll, fdOk, fIx, fMul, fAdd, powOk, gLstL, gTupL, DL.D.ty, lvN, szOk, fLen, fListOf, fTupOf, fSl, gSlN, gSlH, gSlL, gSlB, fIsi, fIsiT, isT, DL.D.tyN, DL.D.isX, fInts, DL.D.seqI, fLenSet, fLR, fLR1, gLR2, rgOk, fDict, fAbs, fInt1, gMax2, gMin2, g1S, g2S, fItems, fR1, fR2, bd62, lowE, clr, bakE, kpE, fApp, fIns, fPop, fPopA, fPopI, fClr, fRev, fExt, allTop, fEq, fNe, fNeg, fIsN, DL.D.isNon, DL.D.key, dGet, canE, nrm, cT, sAug_k, ixN, fRvS, fAll, dBls_map, fIsB, fIdx, msk, Function.comp_def, immAll_all]
@[simp] theorem imm_rep (n : Nat) (i : Int) : D.imm.immAll (List.replicate n (D.int i)) = true := by simp [mkS, finS, bNs, gL1, gL2, gLL2, fI2, tkA, ptA, GS, GL, fPut, ful, l12, l02, DL.D.mut, DL.D.top, DL.D.imm, DL.D.imm.immAll, fdOk, fIx, fMul, fAdd, powOk, gLstL, gTupL, DL.D.ty, lvN, szOk, fLen, fListOf, fTupOf, fSl, gSlN, gSlH, gSlL, gSlB, fIsi, fIsiT, isT, DL.D.tyN, DL.D.isX, fInts, DL.D.seqI, fLenSet, fLR, fLR1, gLR2, rgOk, fDict, fAbs, fInt1, gMax2, gMin2, g1S, g2S, fItems, fR1, fR2, bd62, lowE, clr, bakE, kpE, fApp, fIns, fPop, fPopA, fPopI, fClr, fRev, fExt, allTop, fEq, fNe, fNeg, fIsN, DL.D.isNon, DL.D.key, dGet, canE, nrm, cT, sAug_k, ixN, fRvS, fAll, dBls_map, fIsB, fIdx, msk, Function.comp_def, immAll_all, D.imm]
def cutG {α : Type} (xs : List α) (lo hi : Option Int) : List α := (xs.drop (HT.sIx xs.length 0 lo)).take (HT.sIx xs.length xs.length hi - HT.sIx xs.length 0 lo)
@[simp] theorem cut_map {α : Type} (f : α → D) (xs : List α) (lo hi : Option Int) : cutD (xs.map f) lo hi = (cutG xs lo hi).map f := by
  unfold cutD cutG
  rw [List.length_map, List.map_take, List.map_drop]
theorem sIx_nat (n d : Nat) {i : Int} (h : 0 ≤ i) : HT.sIx n d (some i) = min i.toNat n := by
  unfold HT.sIx
  simp [mkS, finS, bNs, gL1, gL2, gLL2, fI2, tkA, ptA, GS, GL, fPut, ful, l12, l02, DL.D.mut, DL.D.top, DL.D.imm, DL.D.imm.immAll, fdOk, fIx, fMul, fAdd, powOk, gLstL, gTupL, DL.D.ty, lvN, szOk, fLen, fListOf, fTupOf, fSl, gSlN, gSlH, gSlL, gSlB, fIsi, fIsiT, isT, DL.D.tyN, DL.D.isX, fInts, DL.D.seqI, fLenSet, fLR, fLR1, gLR2, rgOk, fDict, fAbs, fInt1, gMax2, gMin2, g1S, g2S, fItems, fR1, fR2, bd62, lowE, clr, bakE, kpE, fApp, fIns, fPop, fPopA, fPopI, fClr, fRev, fExt, allTop, fEq, fNe, fNeg, fIsN, DL.D.isNon, DL.D.key, dGet, canE, nrm, cT, sAug_k, ixN, fRvS, fAll, dBls_map, fIsB, fIdx, msk, Function.comp_def]
  omega
theorem cut_hi {α : Type} (xs : List α) {i : Int} (h : 0 ≤ i) : cutG xs none (some i) = xs.take i.toNat := by
  unfold cutG
  rw [sIx_nat _ _ h]
  have e : HT.sIx xs.length 0 none = 0 := rfl
  rw [e, List.drop_zero, Nat.sub_zero]
  by_cases c : i.toNat ≤ xs.length
  · rw [Nat.min_eq_left c]
  · rw [Nat.min_eq_right (by omega), List.take_length, List.take_of_length_le (by omega)]
theorem cut_lo {α : Type} (xs : List α) {i : Int} (h : 0 ≤ i) : cutG xs (some i) none = xs.drop i.toNat := by
  unfold cutG
  rw [sIx_nat _ _ h]
  have e : HT.sIx xs.length xs.length none = xs.length := rfl
  rw [e]
  by_cases c : i.toNat ≤ xs.length
  · rw [Nat.min_eq_left c, List.take_of_length_le (by rw [List.length_drop]; omega)]
  · rw [Nat.min_eq_right (by omega), List.drop_of_length_le (l := xs) (i := i.toNat) (by omega), List.drop_of_length_le (by omega)]
    simp [mkS, finS, bNs, gL1, gL2, gLL2, fI2, tkA, ptA, GS, GL, fPut, ful, l12, l02, DL.D.mut, DL.D.top, DL.D.imm, DL.D.imm.immAll, fdOk, fIx, fMul, fAdd, powOk, gLstL, gTupL, DL.D.ty, lvN, szOk, fLen, fListOf, fTupOf, fSl, gSlN, gSlH, gSlL, gSlB, fIsi, fIsiT, isT, DL.D.tyN, DL.D.isX, fInts, DL.D.seqI, fLenSet, fLR, fLR1, gLR2, rgOk, fDict, fAbs, fInt1, gMax2, gMin2, g1S, g2S, fItems, fR1, fR2, bd62, lowE, clr, bakE, kpE, fApp, fIns, fPop, fPopA, fPopI, fClr, fRev, fExt, allTop, fEq, fNe, fNeg, fIsN, DL.D.isNon, DL.D.key, dGet, canE, nrm, cT, sAug_k, ixN, fRvS, fAll, dBls_map, fIsB, fIdx, msk, Function.comp_def]
theorem cut_both {α : Type} (xs : List α) {i j : Int} (h : 0 ≤ i) (h2 : 0 ≤ j) : cutG xs (some i) (some j) = (xs.drop i.toNat).take (j.toNat - i.toNat) := by
  unfold cutG
  rw [sIx_nat _ _ h, sIx_nat _ _ h2]
  by_cases c : i.toNat ≤ xs.length
  · rw [Nat.min_eq_left c]
    by_cases c2 : j.toNat ≤ xs.length
    · rw [Nat.min_eq_left c2]
    · rw [Nat.min_eq_right (by omega), List.take_of_length_le (by rw [List.length_drop]; omega), List.take_of_length_le (by rw [List.length_drop]; omega)]
  · rw [Nat.min_eq_right (a := i.toNat) (by omega), List.drop_of_length_le (l := xs) (i := i.toNat) (by omega), List.drop_of_length_le (by omega)]
    simp [mkS, finS, bNs, gL1, gL2, gLL2, fI2, tkA, ptA, GS, GL, fPut, ful, l12, l02, DL.D.mut, DL.D.top, DL.D.imm, DL.D.imm.immAll, fdOk, fIx, fMul, fAdd, powOk, gLstL, gTupL, DL.D.ty, lvN, szOk, fLen, fListOf, fTupOf, fSl, gSlN, gSlH, gSlL, gSlB, fIsi, fIsiT, isT, DL.D.tyN, DL.D.isX, fInts, DL.D.seqI, fLenSet, fLR, fLR1, gLR2, rgOk, fDict, fAbs, fInt1, gMax2, gMin2, g1S, g2S, fItems, fR1, fR2, bd62, lowE, clr, bakE, kpE, fApp, fIns, fPop, fPopA, fPopI, fClr, fRev, fExt, allTop, fEq, fNe, fNeg, fIsN, DL.D.isNon, DL.D.key, dGet, canE, nrm, cT, sAug_k, ixN, fRvS, fAll, dBls_map, fIsB, fIdx, msk, Function.comp_def]
@[simp] theorem cut_none {α : Type} (xs : List α) : cutG xs none none = xs := by
  unfold cutG
  have e : HT.sIx xs.length xs.length none = xs.length := rfl
  have e2 : HT.sIx xs.length 0 none = 0 := rfl
  rw [e, e2]
  simp [mkS, finS, bNs, gL1, gL2, gLL2, fI2, tkA, ptA, GS, GL, fPut, ful, l12, l02, DL.D.mut, DL.D.top, DL.D.imm, DL.D.imm.immAll, fdOk, fIx, fMul, fAdd, powOk, gLstL, gTupL, DL.D.ty, lvN, szOk, fLen, fListOf, fTupOf, fSl, gSlN, gSlH, gSlL, gSlB, fIsi, fIsiT, isT, DL.D.tyN, DL.D.isX, fInts, DL.D.seqI, fLenSet, fLR, fLR1, gLR2, rgOk, fDict, fAbs, fInt1, gMax2, gMin2, g1S, g2S, fItems, fR1, fR2, bd62, lowE, clr, bakE, kpE, fApp, fIns, fPop, fPopA, fPopI, fClr, fRev, fExt, allTop, fEq, fNe, fNeg, fIsN, DL.D.isNon, DL.D.key, dGet, canE, nrm, cT, sAug_k, ixN, fRvS, fAll, dBls_map, fIsB, fIdx, msk, Function.comp_def]
end DL
namespace DL
open L2 PySem PySem.Spec PyProof.Rows
section
variable {X : Cx} {W : WW} {A : List Nat} {T id : String} {name : Str} {r : V → List V → Hp → VK → Prop} {o : Expr} {es : List Expr} {apos cpos : Pos}
theorem p_methA {g : List LD → Option LD} {f0 : PF} {fs : List PF} {A0 : List Nat} {e : Expr} (pa : PlainAttrs T) (slot : Slot T name id) (hty : typeOf (.builtin id) = pure (.type "method_descriptor")) (hm : MtR X id r) (hv : VOk X.K (r1a r) g) (ho : DP X W A0 o f0) (h : PArgL X W A (e :: es) fs)
    (hT : (T == "") = false := by decide) (hbase : attributeBase o name X.env (eval o X.env) = eval o X.env := by rfl)
    (hfew : ((backTo cpos (starEach (e :: es) X.env)).all (fun x => !x.1) && (backToKw cpos (keywordEach [] X.env)).all (fun x => x.1.isSome)
      && decide ((e :: es).length + ([] : List Keyword).length + (if ([] : List Keyword).isEmpty then 0 else 1) < 30)) = true := by rfl)
    (hline : (apos.endLine == cpos.line) = true := by rfl) (hs : starEach (e :: es) X.env = (false, eval e X.env) :: starEach es X.env := by rfl) (hplain : (backTo cpos (starEach es X.env)).any (·.1) = false := by rfl) :
    DP X W (A0 ++ A) (.Call (.Attribute o name apos) (e :: es) [] cpos) (pApp g (pTy T f0 :: fs)) := by
  obtain ⟨gs, rfl, e2, e3⟩ := h.pa
  exact p_app (fs := (A0, pTy T f0) :: gs) (fun p hp => by
    rcases List.mem_cons.mp hp with rfl | hp
    · exact fun i hi => List.mem_append_left _ hi
    · exact fun i hi => List.mem_append_right _ (e2 p hp i hi)) hv (pe_bm pa slot hty hm ho e3 hbase hfew hline hs hplain) fun σ H Q q => by
      have q1 : tDP X.K W A0 (pTy T f0) σ H fun x H1 => tArgs (gs.map fun p => tDP X.K W p.1 p.2) (fun xs => r1a r (x :: xs)) σ H1 Q := q
      exact tyMono (t := tDP X.K W A0 f0) (σ := σ) (H := H) (fun _ _ _ _ i h => tDP_mono h i) (fun x H1 g => tAl_args (r := fun xs => r1a r (x :: xs)) _ _ (fun _ _ h => h) (monoP gs) g) (pTy_ok hT q1)
end
def kTy (T : String) : P LD → P LD
  | .ok x => if x.2.ty == T then .ok x else .bad
  | o => o
@[simp] theorem pTy_k (T : String) (f : PF) (Γ : Env) : pTy T f Γ = kTy T (f Γ) := by unfold pTy kTy; rfl
@[simp] theorem kTy_ok (T : String) (x : LD) : kTy T (.ok x) = if x.2.ty == T then .ok x else .bad := rfl
@[simp] theorem deq_nil_r (xs : List D) : deq (.lst xs) (.lst []) = decide (xs = []) := by
  cases xs with
  | nil => simp [mkS, finS, bNs, gL1, gL2, gLL2, fI2, tkA, ptA, GS, GL, fPut, ful, l12, l02, DL.D.mut, DL.D.top, DL.D.imm, DL.D.imm.immAll, fdOk, fIx, fMul, fAdd, powOk, gLstL, gTupL, DL.D.ty, lvN, szOk, fLen, fListOf, fTupOf, fSl, gSlN, gSlH, gSlL, gSlB, fIsi, fIsiT, isT, DL.D.tyN, DL.D.isX, fInts, DL.D.seqI, fLenSet, fLR, fLR1, gLR2, rgOk, fDict, fAbs, fInt1, gMax2, gMin2, g1S, g2S, fItems, fR1, fR2, bd62, lowE, clr, bakE, kpE, fApp, fIns, fPop, fPopA, fPopI, fClr, fRev, fExt, allTop, fEq, fNe, fNeg, fIsN, DL.D.isNon, DL.D.key, dGet, canE, nrm, cT, sAug_k, ixN, fRvS, fAll, dBls_map, fIsB, fIdx, msk, Function.comp_def, cut_hi, cut_lo, cut_both]
  | cons x xs => rw [deq, deqAll]; simp [mkS, finS, bNs, gL1, gL2, gLL2, fI2, tkA, ptA, GS, GL, fPut, ful, l12, l02, DL.D.mut, DL.D.top, DL.D.imm, DL.D.imm.immAll, fdOk, fIx, fMul, fAdd, powOk, gLstL, gTupL, DL.D.ty, lvN, szOk, fLen, fListOf, fTupOf, fSl, gSlN, gSlH, gSlL, gSlB, fIsi, fIsiT, isT, DL.D.tyN, DL.D.isX, fInts, DL.D.seqI, fLenSet, fLR, fLR1, gLR2, rgOk, fDict, fAbs, fInt1, gMax2, gMin2, g1S, g2S, fItems, fR1, fR2, bd62, lowE, clr, bakE, kpE, fApp, fIns, fPop, fPopA, fPopI, fClr, fRev, fExt, allTop, fEq, fNe, fNeg, fIsN, DL.D.isNon, DL.D.key, dGet, canE, nrm, cT, sAug_k, ixN, fRvS, fAll, dBls_map, fIsB, fIdx, msk, Function.comp_def, cut_hi, cut_lo, cut_both]
@[simp] theorem deq_nil_l (xs : List D) : deq (.lst []) (.lst xs) = decide (xs = []) := by
  cases xs with
  | nil => simp [mkS, finS, bNs, gL1, gL2, gLL2, fI2, tkA, ptA, GS, GL, fPut, ful, l12, l02, DL.D.mut, DL.D.top, DL.D.imm, DL.D.imm.immAll, fdOk, fIx, fMul, fAdd, powOk, gLstL, gTupL, DL.D.ty, lvN, szOk, fLen, fListOf, fTupOf, fSl, gSlN, gSlH, gSlL, gSlB, fIsi, fIsiT, isT, DL.D.tyN, DL.D.isX, fInts, DL.D.seqI, fLenSet, fLR, fLR1, gLR2, rgOk, fDict, fAbs, fInt1, gMax2, gMin2, g1S, g2S, fItems, fR1, fR2, bd62, lowE, clr, bakE, kpE, fApp, fIns, fPop, fPopA, fPopI, fClr, fRev, fExt, allTop, fEq, fNe, fNeg, fIsN, DL.D.isNon, DL.D.key, dGet, canE, nrm, cT, sAug_k, ixN, fRvS, fAll, dBls_map, fIsB, fIdx, msk, Function.comp_def, cut_hi, cut_lo, cut_both]
  | cons x xs => rw [deq, deqAll]; simp [mkS, finS, bNs, gL1, gL2, gLL2, fI2, tkA, ptA, GS, GL, fPut, ful, l12, l02, DL.D.mut, DL.D.top, DL.D.imm, DL.D.imm.immAll, fdOk, fIx, fMul, fAdd, powOk, gLstL, gTupL, DL.D.ty, lvN, szOk, fLen, fListOf, fTupOf, fSl, gSlN, gSlH, gSlL, gSlB, fIsi, fIsiT, isT, DL.D.tyN, DL.D.isX, fInts, DL.D.seqI, fLenSet, fLR, fLR1, gLR2, rgOk, fDict, fAbs, fInt1, gMax2, gMin2, g1S, g2S, fItems, fR1, fR2, bd62, lowE, clr, bakE, kpE, fApp, fIns, fPop, fPopA, fPopI, fClr, fRev, fExt, allTop, fEq, fNe, fNeg, fIsN, DL.D.isNon, DL.D.key, dGet, canE, nrm, cT, sAug_k, ixN, fRvS, fAll, dBls_map, fIsB, fIdx, msk, Function.comp_def, cut_hi, cut_lo, cut_both]
@[simp] theorem dInts_fn' {α : Type} (h : α → Int) (xs : List α) : dInts (xs.map fun x => D.int (h x)) = some (xs.map h) := by
  have := dInts_map (xs.map h)
  rwa [List.map_map] at this
end DL
namespace DL
open L2 PySem PySem.Spec PyProof.Rows
def srcP (g : List LD → Option (List D)) (fs : List PF) : Env → P (List LD) := fun Γ => match evP fs Γ with
  | .ok xs => (match g xs with
    | some ds => .ok (ds.map fun d => (0, d))
    | none => .bad)
  | .exc c => .exc c
  | .bad => .bad
/-- an iterable that a pure reckoning gives -/
def DIP (X : Cx) (W : WW) (A : List Nat) (tg iter : Expr) (src : Env → P (List LD)) : Prop := ∃ wi, PI X tg iter wi ∧ ∀ σ H R', (∃ Z L M, Rel X.K Z σ H L M ∧ match src (er L) with
    | .ok xs => ∀ (Bs : List Sl) H' J (ds : List D), xs = ds.map (fun d => (0, d)) → PArgs X.K Z A H L M H' Bs → WalkV X.K Bs J ds → R' J H'
    | .exc c => ∀ H', Same H H' → W c σ H'
    | .bad => False) → wi σ H R'
theorem dip_gen {X : Cx} {W : WW} {A : List Nat} {tg iter : Expr} {w : WR} {g : List LD → Option (List D)} {fs : List (List Nat × PF)} {wi : TI} (hv : SV X.K w g) (hA : ∀ p ∈ fs, ∀ i ∈ p.1, i ∈ A) (hi : PI X tg iter wi)
    (ht : ∀ σ H R, tArgs (fs.map fun p => tDP X.K W p.1 p.2) (fun vs H _ => w vs H R) σ H (fun _ _ => True) → wi σ H R) : DIP X W A tg iter (srcP g (fs.map (·.2))) := by
  refine ⟨wi, hi, fun σ H R' ⟨Z, L, M, R, q⟩ => ht σ H R' ?_⟩
  refine parts (A := A) (W := W) (r := fun vs H _ => w vs H R') (Q := fun _ _ => True) (fun _ _ _ z => z) fs [] H hA R (PArgs.nil R) ?_
  unfold srcP at q
  cases ev : evP (fs.map (·.2)) (er L) with
  | bad => rw [ev] at q; exact q
  | exc c => rw [ev] at q; exact q
  | ok xs =>
    rw [ev] at q
    intro Bs H1 eB p1
    simp only [List.nil_append] at p1 ⊢
    dsimp only at q
    cases eg : g xs with
    | none => rw [eg] at q; exact q.elim
    | some ds =>
      rw [eg] at q
      exact hv Bs H1 R' ds p1.ok (by rw [eB]; exact eg) fun J wk => q Bs H1 J ds rfl p1 wk
section
variable {X : Cx} {W : WW} {A B : List Nat} {tg l a b c : Expr} {f g h : PF} {p pos : Pos}
theorem dip_seq (ha : DP X W A l f) : DIP X W A tg l (srcP (g1S fItems) [f]) := dip_gen (fs := [(A, f)]) sv_seq mem1l (pi_seq ha) fun σ H R q => q
end
def lcEndP : Option (List D) → P LD
  | some ds => .ok (2, .lst ds)
  | none => .bad
def pLc (A : List Nat) (src : Env → P (List LD)) (bd : BF) (t : PB) (f : PF) (vs : List Nat) : PF := fun Γ => match src Γ with
  | .ok xs => if szOk xs.length then lcEndP (colM (turnP bd t f (clr (lowE A Γ) vs)) xs) else .bad
  | .exc c => .exc c
  | .bad => .bad
theorem imm_own {K : PySem.W.Frag} {H : Hp} {l : Nat} {d : D} {v : V} {ns : List Addr} (r : Rd K H v d ns) (h : 2 ≤ l % 10 ∨ d.imm = true) (a : Addr) : (Sl.mk l d v ns).own a = ns.count a := by
  refine full_own (s := ⟨l, d, v, ns⟩) ?_ a
  rcases h with h | h
  · exact .inl h
  · exact .inr (r.imm _ _ _ h)
theorem plc_ok {K : PySem.W.Frag} {W : WW} {A A2 : List Nat} {src : Env → P (List LD)} {js vs : List Nat} {bd : BF} {g : TG} {t : PB} {f : PF} {wi : TI} {σ : L2.St} {H : Hp} {Q : VK} (hj : ∀ j ∈ js, j ∈ vs) (hg : TgOk K js g bd)
    (hw : ∀ σ H R', (∃ Z L M, Rel K Z σ H L M ∧ match src (er L) with
    | .ok xs => ∀ (Bs : List Sl) H' J (ds : List D), xs = ds.map (fun d => (0, d)) → PArgs K Z A H L M H' Bs → WalkV K Bs J ds → R' J H'
    | .exc c => ∀ H', Same H H' → W c σ H'
    | .bad => False) → wi σ H R') (h : tDP K W A (pLc A src bd t f vs) σ H Q) : tLc wi g (tDTP K W0 t) (tDP K W0 A2 f) vs σ H Q := by
  obtain ⟨Z, L, M, R, q⟩ := h
  refine hw σ H _ ⟨Z, L, M, R, ?_⟩
  unfold pLc at q
  cases es : src (er L) with
  | bad => rw [es] at q; exact q
  | exc c => rw [es] at q; exact q
  | ok xs =>
    rw [es] at q
    dsimp only at q ⊢
    intro Bs H1 J ds hx p1 wk D hD
    by_cases hz : szOk xs.length = true
    rotate_left
    · rw [if_neg hz] at q; exact q.elim
    rw [if_pos hz] at q
    have hsz := szOk_ok hz
    cases ec : colM (turnP bd t f (clr (lowE A (er L)) vs)) xs with
    | none => rw [ec] at q; exact q.elim
    | some fin =>
    rw [ec] at q
    have hlen : xs.length = ds.length := by rw [hx, List.length_map]
    have sm1 := p1.same
    have DH : H D = none := sm1.free hD
    have start : Same H1 (upd H1 D (.lst [])) := same_upd hD
    refine ⟨fun i n Hh => n = xs.length - i ∧ i ≤ xs.length ∧ ∃ (es : List DL.D) (acc : List V) (ns : List Addr), Same H1 Hh ∧ Hh D = some (.lst acc) ∧ Rds K Hh acc es ns ∧ es.length ≤ i ∧
      (∀ a, ns.count a ≤ 1 ∧ (a ∈ ns → H a = none ∧ a ≠ D ∧ Mut (Hh a))) ∧ ∃ rest, colM (turnP bd t f (clr (lowE A (er L)) vs)) (xs.drop i) = some rest ∧ es ++ rest = fin,
      ⟨xs.length, by simp, Nat.zero_le _, [], [], [], start, upd_same, .nil, Nat.le_refl _, fun a => ⟨Nat.zero_le _, fun h => nomatch h⟩, fin, by rw [List.drop_zero]; exact ec, rfl⟩, ?_⟩
    rintro i n Hh ⟨rfl, hil, es, acc, ns, smh, hDa, rds, hes, hns, rest, hc, hfin⟩
    have rdB : ∀ s ∈ Bs, Rd K Hh s.v s.d s.ns := fun s hs => (p1.ok.rd s hs).same smh
    by_cases hlt : i < xs.length
    · refine .inr ⟨wk.goes i Hh (by omega) rdB, fun H' => i + 1 ≤ xs.length ∧ ∃ (es : List DL.D) (acc : List V) (ns : List Addr), Same H1 H' ∧ H' D = some (.lst acc) ∧ Rds K H' acc es ns ∧ es.length ≤ i + 1 ∧
        (∀ a, ns.count a ≤ 1 ∧ (a ∈ ns → H a = none ∧ a ≠ D ∧ Mut (H' a))) ∧ ∃ rest, colM (turnP bd t f (clr (lowE A (er L)) vs)) (xs.drop (i + 1)) = some rest ∧ es ++ rest = fin, fun H' h => ⟨xs.length - (i + 1), by omega, rfl, h.1, h.2⟩, fun v H3 y => ?_⟩
      have hdi : ds[i]? = some ds[i] := List.getElem?_eq_getElem (by omega)
      obtain ⟨sm2, nx, rd, hnx⟩ := wk.step i ds[i] Hh v H3 hdi rdB y
      have hxi : xs[i] = (0, ds[i]) := by subst hx; simp [mkS, finS, bNs, gL1, gL2, gLL2, fI2, tkA, ptA, GS, GL, fPut, ful, l12, l02, DL.D.mut, DL.D.top, DL.D.imm, DL.D.imm.immAll, fdOk, fIx, fMul, fAdd, powOk, gLstL, gTupL, DL.D.ty, lvN, szOk, fLen, fListOf, fTupOf, fSl, gSlN, gSlH, gSlL, gSlB, fIsi, fIsiT, isT, DL.D.tyN, DL.D.isX, fInts, DL.D.seqI, fLenSet, fLR, fLR1, gLR2, rgOk, fDict, fAbs, fInt1, gMax2, gMin2, g1S, g2S, fItems, fR1, fR2, bd62, lowE, clr, bakE, kpE, fApp, fIns, fPop, fPopA, fPopI, fClr, fRev, fExt, allTop, fEq, fNe, fNeg, fIsN, DL.D.isNon, DL.D.key, dGet, canE, nrm, cT, sAug_k, ixN, fRvS, fAll, dBls_map, fIsB, fIdx, msk, Function.comp_def, cut_hi, cut_lo, cut_both]
      have ed : xs.drop i = xs[i] :: xs.drop (i + 1) := by simp [mkS, finS, bNs, gL1, gL2, gLL2, fI2, tkA, ptA, GS, GL, fPut, ful, l12, l02, DL.D.mut, DL.D.top, DL.D.imm, DL.D.imm.immAll, fdOk, fIx, fMul, fAdd, powOk, gLstL, gTupL, DL.D.ty, lvN, szOk, fLen, fListOf, fTupOf, fSl, gSlN, gSlH, gSlL, gSlB, fIsi, fIsiT, isT, DL.D.tyN, DL.D.isX, fInts, DL.D.seqI, fLenSet, fLR, fLR1, gLR2, rgOk, fDict, fAbs, fInt1, gMax2, gMin2, g1S, g2S, fItems, fR1, fR2, bd62, lowE, clr, bakE, kpE, fApp, fIns, fPop, fPopA, fPopI, fClr, fRev, fExt, allTop, fEq, fNe, fNeg, fIsN, DL.D.isNon, DL.D.key, dGet, canE, nrm, cT, sAug_k, ixN, fRvS, fAll, dBls_map, fIsB, fIdx, msk, Function.comp_def, cut_hi, cut_lo, cut_both]
      rw [ed, colM] at hc
      have hT : turnP bd t f (clr (lowE A (er L)) vs) xs[i] = match bd xs[i] (clr (lowE A (er L)) vs) with
        | none => none
        | some Γ2 => match t Γ2 with
          | .ok b => if b = true then keepD (f Γ2) else some none
          | _ => none := rfl
      rw [hT] at hc
      -- the slots
      have sm3 : Same H H3 := (sm1.trans smh).trans sm2
      have R3 : Rel K Z (L2.wipe σ vs) H3 (clr (low A L) vs) M := ((R.same sm3).low A).wipe vs
      have cz : ∀ a, a ∈ nx → oS (clr (low A L) vs) a = 0 ∧ oM M a = 0 := fun a ha => by
        have h1 := hnx a ha
        have h2 := cnt_clr (low A L) a vs
        by_cases c : 0 < oL Bs a
        · have h3 := R.free (p1.own a c)
          have := low_counts A a L
          omega
        · have h3 := p1.rst a (by omega)
          omega
      have nz : ∀ a ∈ nx, Z a := fun a ha => by
        obtain ⟨s, g1, g2⟩ := oL_pos (hnx a ha)
        exact p1.z s g1 a g2
      have e0 : ∀ a, (Sl.mk 0 ds[i] v nx).own a = 0 := fun a => by simp [mkS, finS, bNs, gL1, gL2, gLL2, fI2, tkA, ptA, GS, GL, fPut, ful, l12, l02, DL.D.mut, DL.D.top, DL.D.imm, DL.D.imm.immAll, fdOk, fIx, fMul, fAdd, powOk, gLstL, gTupL, DL.D.ty, lvN, szOk, fLen, fListOf, fTupOf, fSl, gSlN, gSlH, gSlL, gSlB, fIsi, fIsiT, isT, DL.D.tyN, DL.D.isX, fInts, DL.D.seqI, fLenSet, fLR, fLR1, gLR2, rgOk, fDict, fAbs, fInt1, gMax2, gMin2, g1S, g2S, fItems, fR1, fR2, bd62, lowE, clr, bakE, kpE, fApp, fIns, fPop, fPopA, fPopI, fClr, fRev, fExt, allTop, fEq, fNe, fNeg, fIsN, DL.D.isNon, DL.D.key, dGet, canE, nrm, cT, sAug_k, ixN, fRvS, fAll, dBls_map, fIsB, fIdx, msk, Function.comp_def, cut_hi, cut_lo, cut_both, Sl.own, ownL]
      have e1 : ∀ a, (Sl.mk 0 ds[i] v nx).rst a = nx.count a := fun a => by simp [mkS, finS, bNs, gL1, gL2, gLL2, fI2, tkA, ptA, GS, GL, fPut, ful, l12, l02, DL.D.mut, DL.D.top, DL.D.imm, DL.D.imm.immAll, fdOk, fIx, fMul, fAdd, powOk, gLstL, gTupL, DL.D.ty, lvN, szOk, fLen, fListOf, fTupOf, fSl, gSlN, gSlH, gSlL, gSlB, fIsi, fIsiT, isT, DL.D.tyN, DL.D.isX, fInts, DL.D.seqI, fLenSet, fLR, fLR1, gLR2, rgOk, fDict, fAbs, fInt1, gMax2, gMin2, g1S, g2S, fItems, fR1, fR2, bd62, lowE, clr, bakE, kpE, fApp, fIns, fPop, fPopA, fPopI, fClr, fRev, fExt, allTop, fEq, fNe, fNeg, fIsN, DL.D.isNon, DL.D.key, dGet, canE, nrm, cT, sAug_k, ixN, fRvS, fAll, dBls_map, fIsB, fIdx, msk, Function.comp_def, cut_hi, cut_lo, cut_both, Sl.rst, rstL]
      have R4 : Rel K Z (L2.wipe σ vs) H3 (clr (low A L) vs) ((Sl.mk 0 ds[i] v nx).tm K :: M) := by
        refine R3.push (m := (Sl.mk 0 ds[i] v nx).tm K) rd (Sl.stab _ _) (fun a ha => rd.dom _ _ _ a (((Sl.mk 0 ds[i] v nx).mem a).mp ha)) (fun a => ⟨by show (Sl.mk 0 ds[i] v nx).own a ≤ 1; rw [e0]; omega, fun h => by have h : 0 < (Sl.mk 0 ds[i] v nx).own a := h; rw [e0] at h; omega⟩) (fun a ha => ?_) fun a ha => ?_
        · have ha : 0 < (Sl.mk 0 ds[i] v nx).own a := ha
          rw [e0] at ha
          omega
        · have ha : 0 < (Sl.mk 0 ds[i] v nx).rst a := ha
          rw [e1] at ha
          exact cz a (List.count_pos_iff.mp ha)
      have ee : er (clr (low A L) vs) = clr (lowE A (er L)) vs := by rw [er_clr, er_low]
      rw [hxi] at hc
      cases eb : bd (0, ds[i]) (clr (lowE A (er L)) vs) with
      | none => rw [eb] at hc; cases hc
      | some Γ2 =>
        rw [eb] at hc
        dsimp only at hc
        refine hg Z ⟨0, ds[i], v, nx⟩ _ H3 (clr (low A L) vs) M Γ2 _ R4 nz (by rw [ee]; exact eb) fun σ4 L4 e4 R5 bt => ⟨wipe_but hj bt, Z, L4, M, R5, ?_⟩
        rw [e4]
        cases et : t Γ2 with
        | bad => rw [et] at hc; cases hc
        | exc c => rw [et] at hc; cases hc
        | ok k =>
          rw [et] at hc
          dsimp only at hc ⊢
          intro H4 sm4
          have s14 : Same H1 H4 := (smh.trans sm2).trans sm4
          have sh4 : Same Hh H4 := sm2.trans sm4
          cases k with
          | false =>
            simp only [Bool.false_eq_true, if_false] at hc
            rw [if_neg (by decide)]
            refine ⟨by omega, es, acc, ns, s14, sh4 _ _ hDa, rds.same sh4, by omega, fun a => ⟨(hns a).1, fun ha => ⟨((hns a).2 ha).1, ((hns a).2 ha).2.1, ?_⟩⟩, rest, hc, hfin⟩
            have mm := ((hns a).2 ha).2.2
            cases eo : Hh a with
            | none => rw [eo] at mm; exact mm.elim
            | some o => rw [eo] at mm; rw [sh4 a o eo]; exact mm
          | true =>
            simp only [if_true] at hc
            rw [if_pos rfl]
            refine ⟨Z, L4, M, R5.same sm4, ?_⟩
            rw [e4]
            unfold keepD at hc
            cases ey : f Γ2 with
            | bad => rw [ey] at hc; cases hc
            | exc c => rw [ey] at hc; cases hc
            | ok y =>
              obtain ⟨ly, dy⟩ := y
              rw [ey] at hc
              dsimp only at hc ⊢
              intro vy ny H5 B5
              by_cases cl : 2 ≤ ly % 10 ∨ dy.imm = true
              rotate_left
              · rw [if_neg cl] at hc; cases hc
              rw [if_pos cl] at hc
              dsimp only at hc
              cases er' : colM (turnP bd t f (clr (lowE A (er L)) vs)) (xs.drop (i + 1)) with
              | none => rw [er'] at hc; cases hc
              | some rest' =>
              rw [er'] at hc
              simp only [Option.some.injEq] at hc
              have sh5 : Same Hh H5 := sh4.trans B5.same
              have s15 : Same H1 H5 := s14.trans B5.same
              have hD5 : H5 D = some (.lst acc) := sh5 _ _ hDa
              have newn : ∀ a ∈ ny, H4 a = none ∧ Mut (H5 a) := fun a ha => by
                have := (B5.own a).2 (by rw [imm_own B5.rd cl]; exact List.count_pos_iff.mpr ha)
                exact this.2
              have hDny : D ∉ ny := fun z => by
                have := (newn D z).1
                rw [sh4 _ _ hDa] at this
                cases this
              have hDns : D ∉ ns := fun z => ((hns D).2 z).2.1 rfl
              have rds5 := rds.same sh5
              have rl := rds5.length
              refine ⟨acc, hD5, by omega, by omega, es ++ [dy], acc ++ [vy], ns ++ (ny ++ []), fun a o ho => ?_, upd_same, ?_, by simp [mkS, finS, bNs, gL1, gL2, gLL2, fI2, tkA, ptA, GS, GL, fPut, ful, l12, l02, DL.D.mut, DL.D.top, DL.D.imm, DL.D.imm.immAll, fdOk, fIx, fMul, fAdd, powOk, gLstL, gTupL, DL.D.ty, lvN, szOk, fLen, fListOf, fTupOf, fSl, gSlN, gSlH, gSlL, gSlB, fIsi, fIsiT, isT, DL.D.tyN, DL.D.isX, fInts, DL.D.seqI, fLenSet, fLR, fLR1, gLR2, rgOk, fDict, fAbs, fInt1, gMax2, gMin2, g1S, g2S, fItems, fR1, fR2, bd62, lowE, clr, bakE, kpE, fApp, fIns, fPop, fPopA, fPopI, fClr, fRev, fExt, allTop, fEq, fNe, fNeg, fIsN, DL.D.isNon, DL.D.key, dGet, canE, nrm, cT, sAug_k, ixN, fRvS, fAll, dBls_map, fIsB, fIdx, msk, Function.comp_def, cut_hi, cut_lo, cut_both]; omega, fun a => ?_, rest', by first | rfl | exact er', by rw [← hfin, ← hc]; simp [mkS, finS, bNs, gL1, gL2, gLL2, fI2, tkA, ptA, GS, GL, fPut, ful, l12, l02, DL.D.mut, DL.D.top, DL.D.imm, DL.D.imm.immAll, fdOk, fIx, fMul, fAdd, powOk, gLstL, gTupL, DL.D.ty, lvN, szOk, fLen, fListOf, fTupOf, fSl, gSlN, gSlH, gSlL, gSlB, fIsi, fIsiT, isT, DL.D.tyN, DL.D.isX, fInts, DL.D.seqI, fLenSet, fLR, fLR1, gLR2, rgOk, fDict, fAbs, fInt1, gMax2, gMin2, g1S, g2S, fItems, fR1, fR2, bd62, lowE, clr, bakE, kpE, fApp, fIns, fPop, fPopA, fPopI, fClr, fRev, fExt, allTop, fEq, fNe, fNeg, fIsN, DL.D.isNon, DL.D.key, dGet, canE, nrm, cT, sAug_k, ixN, fRvS, fAll, dBls_map, fIsB, fIdx, msk, Function.comp_def, cut_hi, cut_lo, cut_both]⟩
              · have : a ≠ D := fun z => by rw [z, hD] at ho; cases ho
                rw [upd_ne this]
                exact s15 a o ho
              · exact (rds5.append (.cons B5.rd .nil)).upd hD5 trivial (by simp [mkS, finS, bNs, gL1, gL2, gLL2, fI2, tkA, ptA, GS, GL, fPut, ful, l12, l02, DL.D.mut, DL.D.top, DL.D.imm, DL.D.imm.immAll, fdOk, fIx, fMul, fAdd, powOk, gLstL, gTupL, DL.D.ty, lvN, szOk, fLen, fListOf, fTupOf, fSl, gSlN, gSlH, gSlL, gSlB, fIsi, fIsiT, isT, DL.D.tyN, DL.D.isX, fInts, DL.D.seqI, fLenSet, fLR, fLR1, gLR2, rgOk, fDict, fAbs, fInt1, gMax2, gMin2, g1S, g2S, fItems, fR1, fR2, bd62, lowE, clr, bakE, kpE, fApp, fIns, fPop, fPopA, fPopI, fClr, fRev, fExt, allTop, fEq, fNe, fNeg, fIsN, DL.D.isNon, DL.D.key, dGet, canE, nrm, cT, sAug_k, ixN, fRvS, fAll, dBls_map, fIsB, fIdx, msk, Function.comp_def, cut_hi, cut_lo, cut_both, hDns, hDny])
              · rw [List.append_nil, List.count_append]
                have c1 := (hns a).1
                have c2 := (B5.own a).1
                rw [imm_own B5.rd cl] at c2
                have c2 : ny.count a ≤ 1 := c2
                have dj : a ∈ ns → a ∉ ny := fun h1 h2 => by
                  have k3 := ((hns a).2 h1).2.2
                  have n5 := sh4.free (newn a h2).1
                  rw [n5] at k3
                  exact k3.elim
                refine ⟨?_, fun ha => ?_⟩
                · by_cases d1 : a ∈ ns
                  · have := List.count_eq_zero.mpr (dj d1)
                    omega
                  · have := List.count_eq_zero.mpr d1
                    omega
                · rcases List.mem_append.mp ha with ha | ha
                  · obtain ⟨k1, k2, k3⟩ := (hns a).2 ha
                    refine ⟨k1, k2, ?_⟩
                    rw [upd_ne k2]
                    cases eo : Hh a with
                    | none => rw [eo] at k3; exact k3.elim
                    | some o => rw [eo] at k3; rw [sh5 a o eo]; exact k3
                  · obtain ⟨k1, k2⟩ := newn a ha
                    have k3 : a ≠ D := fun z => hDny (z ▸ ha)
                    refine ⟨(sm3.trans sm4).free k1, k3, ?_⟩
                    rw [upd_ne k3]
                    exact k2
    · have e : i = xs.length := by omega
      subst e
      refine .inl ⟨by rw [hlen]; exact wk.stops Hh rdB, ?_⟩
      rw [List.drop_length, colM] at hc
      cases hc
      rw [List.append_nil] at hfin
      subst hfin
      have cn : ∀ a, (Sl.mk 2 (.lst es) (.ref D) (D :: ns)).own a = (D :: ns).count a := fun a => by simp [mkS, finS, bNs, gL1, gL2, gLL2, fI2, tkA, ptA, GS, GL, fPut, ful, l12, l02, DL.D.mut, DL.D.top, DL.D.imm, DL.D.imm.immAll, fdOk, fIx, fMul, fAdd, powOk, gLstL, gTupL, DL.D.ty, lvN, szOk, fLen, fListOf, fTupOf, fSl, gSlN, gSlH, gSlL, gSlB, fIsi, fIsiT, isT, DL.D.tyN, DL.D.isX, fInts, DL.D.seqI, fLenSet, fLR, fLR1, gLR2, rgOk, fDict, fAbs, fInt1, gMax2, gMin2, g1S, g2S, fItems, fR1, fR2, bd62, lowE, clr, bakE, kpE, fApp, fIns, fPop, fPopA, fPopI, fClr, fRev, fExt, allTop, fEq, fNe, fNeg, fIsN, DL.D.isNon, DL.D.key, dGet, canE, nrm, cT, sAug_k, ixN, fRvS, fAll, dBls_map, fIsB, fIdx, msk, Function.comp_def, cut_hi, cut_lo, cut_both, Sl.own, ownL]
      have cr : ∀ a, (Sl.mk 2 (.lst es) (.ref D) (D :: ns)).rst a = 0 := fun a => by simp [mkS, finS, bNs, gL1, gL2, gLL2, fI2, tkA, ptA, GS, GL, fPut, ful, l12, l02, DL.D.mut, DL.D.top, DL.D.imm, DL.D.imm.immAll, fdOk, fIx, fMul, fAdd, powOk, gLstL, gTupL, DL.D.ty, lvN, szOk, fLen, fListOf, fTupOf, fSl, gSlN, gSlH, gSlL, gSlB, fIsi, fIsiT, isT, DL.D.tyN, DL.D.isX, fInts, DL.D.seqI, fLenSet, fLR, fLR1, gLR2, rgOk, fDict, fAbs, fInt1, gMax2, gMin2, g1S, g2S, fItems, fR1, fR2, bd62, lowE, clr, bakE, kpE, fApp, fIns, fPop, fPopA, fPopI, fClr, fRev, fExt, allTop, fEq, fNe, fNeg, fIsN, DL.D.isNon, DL.D.key, dGet, canE, nrm, cT, sAug_k, ixN, fRvS, fAll, dBls_map, fIsB, fIdx, msk, Function.comp_def, cut_hi, cut_lo, cut_both, Sl.rst, rstL]
      have hDns : D ∉ ns := fun z => ((hns D).2 z).2.1 rfl
      refine q (.ref D) (D :: ns) Hh ⟨sm1.trans smh, .lst hDa rds, fun a ha => ?_, fun a => ⟨?_, fun ha => ⟨cr a, ?_⟩⟩, fun a ha => ?_⟩
      · rcases List.mem_cons.mp ha with ha | ha
        · rw [ha]; exact Z.sub _ (R.zf D DH)
        · exact Z.sub _ (R.zf a ((hns a).2 ha).1)
      · rw [cn, List.count_cons]
        by_cases d : D = a
        · subst d
          have := List.count_eq_zero.mpr hDns
          simp [mkS, finS, bNs, gL1, gL2, gLL2, fI2, tkA, ptA, GS, GL, fPut, ful, l12, l02, DL.D.mut, DL.D.top, DL.D.imm, DL.D.imm.immAll, fdOk, fIx, fMul, fAdd, powOk, gLstL, gTupL, DL.D.ty, lvN, szOk, fLen, fListOf, fTupOf, fSl, gSlN, gSlH, gSlL, gSlB, fIsi, fIsiT, isT, DL.D.tyN, DL.D.isX, fInts, DL.D.seqI, fLenSet, fLR, fLR1, gLR2, rgOk, fDict, fAbs, fInt1, gMax2, gMin2, g1S, g2S, fItems, fR1, fR2, bd62, lowE, clr, bakE, kpE, fApp, fIns, fPop, fPopA, fPopI, fClr, fRev, fExt, allTop, fEq, fNe, fNeg, fIsN, DL.D.isNon, DL.D.key, dGet, canE, nrm, cT, sAug_k, ixN, fRvS, fAll, dBls_map, fIsB, fIdx, msk, Function.comp_def, cut_hi, cut_lo, cut_both]
          omega
        · have := (hns a).1
          simp [mkS, finS, bNs, gL1, gL2, gLL2, fI2, tkA, ptA, GS, GL, fPut, ful, l12, l02, DL.D.mut, DL.D.top, DL.D.imm, DL.D.imm.immAll, fdOk, fIx, fMul, fAdd, powOk, gLstL, gTupL, DL.D.ty, lvN, szOk, fLen, fListOf, fTupOf, fSl, gSlN, gSlH, gSlL, gSlB, fIsi, fIsiT, isT, DL.D.tyN, DL.D.isX, fInts, DL.D.seqI, fLenSet, fLR, fLR1, gLR2, rgOk, fDict, fAbs, fInt1, gMax2, gMin2, g1S, g2S, fItems, fR1, fR2, bd62, lowE, clr, bakE, kpE, fApp, fIns, fPop, fPopA, fPopI, fClr, fRev, fExt, allTop, fEq, fNe, fNeg, fIsN, DL.D.isNon, DL.D.key, dGet, canE, nrm, cT, sAug_k, ixN, fRvS, fAll, dBls_map, fIsB, fIdx, msk, Function.comp_def, cut_hi, cut_lo, cut_both, d]
          exact this
      · rw [cn] at ha
        have ha := List.count_pos_iff.mp ha
        rcases List.mem_cons.mp ha with ha | ha
        · rw [ha]; exact ⟨DH, by rw [hDa]; trivial⟩
        · exact ⟨((hns a).2 ha).1, ((hns a).2 ha).2.2⟩
      · rw [cr] at ha
        exact absurd ha (Nat.lt_irrefl 0)
theorem tdp_toE {K : PySem.W.Frag} {W : WW} {A : List Nat} {f : PF} {σ : L2.St} {H : Hp} {Q : VK} (h : tDE K W (toE A f) σ H Q) : tDP K W A f σ H Q := by
  obtain ⟨Z, L, M, R, q⟩ := h
  refine ⟨Z, L, M, R, ?_⟩
  unfold DL.toE at q
  cases ef : f (er L) with
  | bad => rw [ef] at q; exact q
  | exc c =>
    rw [ef] at q
    exact fun H' s => q H' L rfl (R.same s)
  | ok x =>
    obtain ⟨l, d⟩ := x
    rw [ef] at q
    intro v ns H' B
    by_cases c : 2 ≤ l % 10 ∨ d.imm = true
    · exact q v ns H' L (by simp only [if_pos c]) (B.push0 R c) B.z
    · exact q v ns H' (low A L) (by simp only [if_neg c]; exact er_low A L) (B.push R) B.z
section
variable {X : Cx} {W : WW} {A A2 : List Nat} {elt tg iter : Expr} {ifs : List Expr} {scope : Scope} {own : List (Str × Nat)} {pos : Pos} {src : Env → P (List LD)} {js : List Nat} {bd : BF} {g : TG} {t : PB} {f : PF}
theorem ptsP0 {X : Cx} : PTs X [] (tDTP X.K W0 pbT) := by
  have := pts_nil (X := X)
  exact ⟨fun pins s σ H Q I h => this.run pins s σ H Q I (by
    obtain ⟨Z, L, M, R, q⟩ := h
    exact q H (Same.refl H))⟩
theorem ptsP1 {X : Cx} {c : Expr} {t : PB} (h : DTP X W0 c t) : PTs X [c] (tDTP X.K W0 t) := pts_one h
theorem p_lc (hc : X.calm = true) (hN : X.N.Nodup) (hi : DIP X W A tg iter src) (ok : BlkOk X.N X.env.scope scope own) (hj : ∀ j ∈ js, j ∈ own.map (·.2)) (htg : TgOk X.K js g bd)
    (hg : ∀ (s : Shared) (H : Hp) (C : Addr) (cl : List (Str × Addr)) (fp : List Addr), PG (X.blk s H scope (compEnvC scope cl C X.env) fp) tg g) (ht : ∀ (s : Shared) (H : Hp) (C : Addr) (cl : List (Str × Addr)) (fp : List Addr), PTs (X.blk s H scope (compEnvC scope cl C X.env) fp) ifs (tDTP X.K W0 t))
    (he : ∀ (s : Shared) (H : Hp) (C : Addr) (cl : List (Str × Addr)) (fp : List Addr), DP (X.blk s H scope (compEnvC scope cl C X.env) fp) W0 A2 elt f) (hs : ∀ x, foldedSetIterable iter X.env x = pure x := by intro _; rfl) :
    DP X W A (.ListComp elt [⟨tg, iter, ifs, 0⟩] scope pos) (pLc A src bd t f (own.map (·.2))) := by
  obtain ⟨wi, hi, hw⟩ := hi
  exact PE.imp (pe_lc (te := tDP X.K W0 A2 f) hc hN hi ok hg ht he hs) fun σ H Q q => plc_ok hj htg hw q
end
def kSrcP1 : Option (List D) → P (List LD)
  | some ds => .ok (ds.map fun d => (0, d))
  | none => .bad
def kSrcP (g : List LD → Option (List D)) : P (List LD) → P (List LD)
  | .ok xs => kSrcP1 (g xs)
  | .exc c => .exc c
  | .bad => .bad
@[simp] theorem srcP_k (g : List LD → Option (List D)) (fs : List PF) : srcP g fs Γ = kSrcP g (evP fs Γ) := by 
  unfold srcP
  cases evP fs Γ with
  | ok xs =>
    show (match g xs with | some ds => P.ok (ds.map fun d => ((0 : Nat), d)) | none => P.bad) = kSrcP1 (g xs)
    cases g xs <;> rfl
  | exc c => rfl
  | bad => rfl
@[simp] theorem kSrcP_ok (g : List LD → Option (List D)) : kSrcP g (.ok xs) = kSrcP1 (g xs) := rfl
@[simp] theorem kSrcP1_some (ds : List D) : kSrcP1 (some ds) = .ok (ds.map fun d => (0, d)) := rfl
def kPLc (bd : BF) (t : PB) (f : PF) (vs : List Nat) (Γ : Env) : P (List LD) → P LD
  | .ok xs => if szOk xs.length then lcEndP (colM (turnP bd t f (clr Γ vs)) xs) else .bad
  | .exc c => .exc c
  | .bad => .bad
@[simp] theorem pLc_k (A : List Nat) (src : Env → P (List LD)) (bd : BF) (t : PB) (f : PF) (vs : List Nat) : pLc A src bd t f vs Γ = kPLc bd t f vs (lowE A Γ) (src Γ) := by unfold pLc kPLc; cases src Γ <;> rfl
@[simp] theorem kPLc_ok (bd : BF) (t : PB) (f : PF) (vs : List Nat) : kPLc bd t f vs Γ (.ok xs) = if szOk xs.length then lcEndP (colM (turnP bd t f (clr Γ vs)) xs) else .bad := rfl
@[simp] theorem lcEndP_some (ds : List D) : lcEndP (some ds) = .ok (2, .lst ds) := rfl
end DL
namespace DL
open L2 PySem PySem.Spec PyProof.Rows
theorem Rds.cutAt {K : PySem.W.Frag} {H : Hp} : ∀ {ds : List D} {vs : List V} {ns : List Addr} (j : Nat) (d : D), Rds K H vs ds ns → ds[j]? = some d → ∃ v n n1 n2, vs[j]? = some v ∧ Rd K H v d n ∧ ns = n1 ++ (n ++ n2) ∧
    ∀ (H' : Hp) (d' : D) (n' : List Addr), TupK H H' → (∀ a, a ∈ n1 ∨ a ∈ n2 → H' a = H a) → Rd K H' v d' n' → Rds K H' vs (ds.set j d') (n1 ++ (n' ++ n2))
  | [], _, _, j, d, _, h => by simp [mkS, finS, bNs, gL1, gL2, gLL2, fI2, tkA, ptA, GS, GL, fPut, ful, l12, l02, DL.D.mut, DL.D.top, DL.D.imm, DL.D.imm.immAll, fdOk, fIx, fMul, fAdd, powOk, gLstL, gTupL, DL.D.ty, lvN, szOk, fLen, fListOf, fTupOf, fSl, gSlN, gSlH, gSlL, gSlB, fIsi, fIsiT, isT, DL.D.tyN, DL.D.isX, fInts, DL.D.seqI, fLenSet, fLR, fLR1, gLR2, rgOk, fDict, fAbs, fInt1, gMax2, gMin2, g1S, g2S, fItems, fR1, fR2, bd62, lowE, clr, bakE, kpE, fApp, fIns, fPop, fPopA, fPopI, fClr, fRev, fExt, allTop, fEq, fNe, fNeg, fIsN, DL.D.isNon, DL.D.key, dGet, canE, nrm, cT, sAug_k, ixN, fRvS, fAll, dBls_map, fIsB, fIdx, msk, Function.comp_def, cut_hi, cut_lo, cut_both] at h
  | d0 :: ds, _, _, 0, d, .cons (n := n0) (ns := ns0) h0 hs, h => by
    simp [mkS, finS, bNs, gL1, gL2, gLL2, fI2, tkA, ptA, GS, GL, fPut, ful, l12, l02, DL.D.mut, DL.D.top, DL.D.imm, DL.D.imm.immAll, fdOk, fIx, fMul, fAdd, powOk, gLstL, gTupL, DL.D.ty, lvN, szOk, fLen, fListOf, fTupOf, fSl, gSlN, gSlH, gSlL, gSlB, fIsi, fIsiT, isT, DL.D.tyN, DL.D.isX, fInts, DL.D.seqI, fLenSet, fLR, fLR1, gLR2, rgOk, fDict, fAbs, fInt1, gMax2, gMin2, g1S, g2S, fItems, fR1, fR2, bd62, lowE, clr, bakE, kpE, fApp, fIns, fPop, fPopA, fPopI, fClr, fRev, fExt, allTop, fEq, fNe, fNeg, fIsN, DL.D.isNon, DL.D.key, dGet, canE, nrm, cT, sAug_k, ixN, fRvS, fAll, dBls_map, fIsB, fIdx, msk, Function.comp_def, cut_hi, cut_lo, cut_both] at h
    subst h
    exact ⟨_, n0, [], ns0, rfl, h0, rfl, fun H' d' n' tk e hn => (show Rds K H' _ (d' :: ds) (n' ++ ns0) from .cons hn (Rds.at tk _ _ _ hs fun a ha => e a (.inr ha)))⟩
  | d0 :: ds, _, _, j + 1, d, .cons (n := n0) (ns := ns0) h0 hs, h => by
    obtain ⟨v, n, n1, n2, g1, g2, g3, g4⟩ := Rds.cutAt j d hs (by simpa [mkS, finS, bNs, gL1, gL2, gLL2, fI2, tkA, ptA, GS, GL, fPut, ful, l12, l02, DL.D.mut, DL.D.top, DL.D.imm, DL.D.imm.immAll, fdOk, fIx, fMul, fAdd, powOk, gLstL, gTupL, DL.D.ty, lvN, szOk, fLen, fListOf, fTupOf, fSl, gSlN, gSlH, gSlL, gSlB, fIsi, fIsiT, isT, DL.D.tyN, DL.D.isX, fInts, DL.D.seqI, fLenSet, fLR, fLR1, gLR2, rgOk, fDict, fAbs, fInt1, gMax2, gMin2, g1S, g2S, fItems, fR1, fR2, bd62, lowE, clr, bakE, kpE, fApp, fIns, fPop, fPopA, fPopI, fClr, fRev, fExt, allTop, fEq, fNe, fNeg, fIsN, DL.D.isNon, DL.D.key, dGet, canE, nrm, cT, sAug_k, ixN, fRvS, fAll, dBls_map, fIsB, fIdx, msk, Function.comp_def, cut_hi, cut_lo, cut_both] using h)
    refine ⟨v, n, n0 ++ n1, n2, by simpa [mkS, finS, bNs, gL1, gL2, gLL2, fI2, tkA, ptA, GS, GL, fPut, ful, l12, l02, DL.D.mut, DL.D.top, DL.D.imm, DL.D.imm.immAll, fdOk, fIx, fMul, fAdd, powOk, gLstL, gTupL, DL.D.ty, lvN, szOk, fLen, fListOf, fTupOf, fSl, gSlN, gSlH, gSlL, gSlB, fIsi, fIsiT, isT, DL.D.tyN, DL.D.isX, fInts, DL.D.seqI, fLenSet, fLR, fLR1, gLR2, rgOk, fDict, fAbs, fInt1, gMax2, gMin2, g1S, g2S, fItems, fR1, fR2, bd62, lowE, clr, bakE, kpE, fApp, fIns, fPop, fPopA, fPopI, fClr, fRev, fExt, allTop, fEq, fNe, fNeg, fIsN, DL.D.isNon, DL.D.key, dGet, canE, nrm, cT, sAug_k, ixN, fRvS, fAll, dBls_map, fIsB, fIdx, msk, Function.comp_def, cut_hi, cut_lo, cut_both] using g1, g2, by rw [g3]; simp, fun H' d' n' tk e hn => ?_⟩
    have := Rds.cons (Rd.at tk _ _ _ h0 fun a ha => e a (.inl (List.mem_append_left _ ha))) (g4 H' d' n' tk (fun a ha => e a (by
      rcases ha with ha | ha
      · exact .inl (List.mem_append_right _ ha)
      · exact .inr ha)) hn)
    rw [List.append_assoc]
    exact this
/-- the k-th of a list (b), of a tuple -/
def At (K : PySem.W.Frag) (b : Bool) (x : V) (k : Int) (w : V) (H : Hp) : Prop := ∃ p xs, x = .ref p ∧ (if b = true then H p = some (.lst xs) else SqT K H p xs) ∧ atI xs k = some w
def rAt (K : PySem.W.Frag) (b : Bool) (k : Int) (r : V → List V → Hp → VK → Prop) : V → List V → Hp → VK → Prop := fun x ys H Q => ∃ w, At K b x k w H ∧ r w ys H Q
def inD : Bool → D → Option (List D)
  | true, .lst ds => some ds
  | false, .tup ds => some ds
  | _, _ => none
def outD (b : Bool) (ds : List D) : D := if b then .lst ds else .tup ds
def nestL (f : D → List LD → Option (Option D × D)) (b : Bool) (k : Int) (ds : List D) (as : List LD) : FR := match ixN ds.length k with
  | some j => (match ds[j]? with
    | some di => if di.mut then (match f di as with
      | some (od, d') => .ret (2, od.getD .non) [(2, outD b (ds.set j d'))]
      | none => .bad) else .bad
    | none => .bad)
  | none => .bad
def nestG (b : Bool) (f : D → List LD → Option (Option D × D)) (k : Int) : List LD → FR
  | (l, d) :: as => if (decide (2 ≤ l % 10) && as.all ful) = true then (match inD b d with
    | some ds => nestL f b k ds as
    | none => .bad) else .bad
  | _ => .bad
theorem nest_core {K : PySem.W.Frag} {mg : Str → Option Value} {H : Hp} {r : V → List V → Hp → VK → Prop} {f : D → List LD → Option (Option D × D)} {l : Nat} {d : D} {v w : V} {ns n n1 n2 : List Addr} {Xs : List Sl} {Q : VK} {di d' : D} {od : Option D} {out : D → D} (h : LOk K r f)
    (ok : ArgsOk K H (⟨l, d, v, ns⟩ :: Xs)) (hl : 2 ≤ l % 10) (hX : ∀ x ∈ Xs, fullS x) (hm : di.mut = true) (hw : Rd K H w di n) (hn : ns = n1 ++ (n ++ n2))
    (kk : ∀ (H' : Hp) (d' : D) (n' : List Addr), TupK H H' → (∀ a, a ∈ n1 ∨ a ∈ n2 → H' a = H a) → Rd K H' w d' n' → Rd K H' v (out d') (n1 ++ (n' ++ n2))) (ef : f di (Xs.map Sl.ld) = some (od, d'))
    (q : ∀ v' nv (Fs : List Sl) H', Fs.map Sl.ld = [(2, out d')] → Fs.map Sl.v = [v] → Fram (⟨l, d, v, ns⟩ :: Xs) H H' → ArgsOk K H' (⟨2, od.getD .non, v', nv⟩ :: Fs) → From (⟨l, d, v, ns⟩ :: Xs) H (⟨2, od.getD .non, v', nv⟩ :: Fs) → Q v' H') : r w (Xs.map Sl.v) H Q := by
  have rX : ∀ s ∈ Xs, Rd K H s.v s.d s.ns := fun s hs => ok.rd s (List.mem_cons_of_mem _ hs)
  obtain ⟨p, o, nsi, rfl, rfl, hp, hmo⟩ := rd_mut hw hm
  have oA : ∀ a, oL (⟨l, d, v, ns⟩ :: Xs) a = ns.count a + (Xs.flatMap Sl.ns).count a := fun a => by
    show (Sl.mk l d v ns).own a + oL Xs a = _
    rw [full_own (s := ⟨l, d, v, ns⟩) (.inl hl), fulls_own hX]
  have cN : ∀ a, ns.count a = n1.count a + ((p :: nsi).count a + n2.count a) := fun a => by rw [hn, List.count_append, List.count_append]
  have cP : ∀ (ms : List Addr) a, (p :: ms).count a = (if p = a then 1 else 0) + ms.count a := fun ms a => by
    rw [List.count_cons]
    by_cases c : p = a
    · simp [mkS, finS, bNs, gL1, gL2, gLL2, fI2, tkA, ptA, GS, GL, fPut, ful, l12, l02, DL.D.mut, DL.D.top, DL.D.imm, DL.D.imm.immAll, fdOk, fIx, fMul, fAdd, powOk, gLstL, gTupL, DL.D.ty, lvN, szOk, fLen, fListOf, fTupOf, fSl, gSlN, gSlH, gSlL, gSlB, fIsi, fIsiT, isT, DL.D.tyN, DL.D.isX, fInts, DL.D.seqI, fLenSet, fLR, fLR1, gLR2, rgOk, fDict, fAbs, fInt1, gMax2, gMin2, g1S, g2S, fItems, fR1, fR2, bd62, lowE, clr, bakE, kpE, fApp, fIns, fPop, fPopA, fPopI, fClr, fRev, fExt, allTop, fEq, fNe, fNeg, fIsN, DL.D.isNon, DL.D.key, dGet, canE, nrm, cT, sAug_k, ixN, fRvS, fAll, dBls_map, fIsB, fIdx, msk, Function.comp_def, cut_hi, cut_lo, cut_both, c]; omega
    · simp [mkS, finS, bNs, gL1, gL2, gLL2, fI2, tkA, ptA, GS, GL, fPut, ful, l12, l02, DL.D.mut, DL.D.top, DL.D.imm, DL.D.imm.immAll, fdOk, fIx, fMul, fAdd, powOk, gLstL, gTupL, DL.D.ty, lvN, szOk, fLen, fListOf, fTupOf, fSl, gSlN, gSlH, gSlL, gSlB, fIsi, fIsiT, isT, DL.D.tyN, DL.D.isX, fInts, DL.D.seqI, fLenSet, fLR, fLR1, gLR2, rgOk, fDict, fAbs, fInt1, gMax2, gMin2, g1S, g2S, fItems, fR1, fR2, bd62, lowE, clr, bakE, kpE, fApp, fIns, fPop, fPopA, fPopI, fClr, fRev, fExt, allTop, fEq, fNe, fNeg, fIsN, DL.D.isNon, DL.D.key, dGet, canE, nrm, cT, sAug_k, ixN, fRvS, fAll, dBls_map, fIsB, fIdx, msk, Function.comp_def, cut_hi, cut_lo, cut_both, c]
  have one : ∀ a, n1.count a + ((p :: nsi).count a + n2.count a) + (Xs.flatMap Sl.ns).count a ≤ 1 := fun a => by
    have := (ok.sep a).1
    rw [oA, cN] at this
    exact this
  refine h di p nsi Xs H Q od d' hm hw rX ef fun v' nv o' ms hd' hm' r1 r2 cn => ?_
  have op := one p
  rw [cP, if_pos rfl] at op
  have cp := cn p
  have z1 : p ∉ ms := fun z => by have := List.count_pos_iff.mpr z; omega
  have z2 : p ∉ nv := fun z => by have := List.count_pos_iff.mpr z; omega
  have z3 : p ∉ n1 := fun z => by have := List.count_pos_iff.mpr z; omega
  have z4 : p ∉ n2 := fun z => by have := List.count_pos_iff.mpr z; omega
  have hOp : 0 < oL (⟨l, d, v, ns⟩ :: Xs) p := by rw [oA, cN, cP, if_pos rfl]; omega
  have rs' : Rd K (upd H p o') v (out d') (n1 ++ ((p :: ms) ++ n2)) := kk _ d' _ (tupk_upd hp hmo) (fun a ha => upd_ne fun e => by
    subst e
    rcases ha with ha | ha
    · exact z3 ha
    · exact z4 ha) (r1 o hp hmo z1)
  have B : ∀ a, oL [⟨2, od.getD .non, v', nv⟩, ⟨2, out d', v, n1 ++ ((p :: ms) ++ n2)⟩] a = nv.count a + (n1.count a + ((if p = a then 1 else 0) + ms.count a + n2.count a)) := fun a => by
    show (Sl.mk 2 (od.getD .non) v' nv).own a + ((Sl.mk 2 (out d') v (n1 ++ ((p :: ms) ++ n2))).own a + 0) = _
    rw [full_own (s := ⟨2, od.getD .non, v', nv⟩) (.inl (Nat.le_refl 2)), full_own (s := ⟨2, out d', v, n1 ++ ((p :: ms) ++ n2)⟩) (.inl (Nat.le_refl 2)), ← cP]
    simp only [List.count_append]
    omega
  have C : ∀ a, rL [⟨2, od.getD .non, v', nv⟩, ⟨2, out d', v, n1 ++ ((p :: ms) ++ n2)⟩] a = 0 := fun a => by
    show (Sl.mk 2 (od.getD .non) v' nv).rst a + ((Sl.mk 2 (out d') v (n1 ++ ((p :: ms) ++ n2))).rst a + 0) = _
    rw [rst_top (by decide), rst_top (by decide)]
  have le : ∀ a, oL [⟨2, od.getD .non, v', nv⟩, ⟨2, out d', v, n1 ++ ((p :: ms) ++ n2)⟩] a ≤ oL (⟨l, d, v, ns⟩ :: Xs) a := fun a => by
    rw [B, oA, cN, cP]
    have := cn a
    omega
  refine q v' nv [⟨2, out d', v, n1 ++ ((p :: ms) ++ n2)⟩] (upd H p o') rfl rfl (Fram.upd hOp) ⟨fun s hs => ?_, fun a => ⟨?_, fun _ => C a⟩, fun a ha => ?_⟩ fun a => ⟨fun ha => .inr (by have := le a; omega), fun ha => .inr (by have := le a; rw [C] at ha; omega)⟩
  · rcases List.mem_cons.mp hs with rfl | hs
    · exact r2.upd hp hmo z2
    · rw [List.mem_singleton.mp hs]; exact rs'
  · have := le a
    have := (ok.sep a).1
    omega
  · by_cases e : p = a
    · subst e; rw [upd_same]; exact hm'
    · rw [upd_ne fun z => e z.symm]; exact ok.wr a (by have := le a; omega)
theorem nest_ok {K : PySem.W.Frag} {mg : Str → Option Value} {r : V → List V → Hp → VK → Prop} {f : D → List LD → Option (Option D × D)} {n : Nat} (h : LOk K r f) (b : Bool) (k : Int) : MOk K mg (n + 1) (true :: List.replicate n false) (r1a (rAt K b k r)) (nestG b f k) := by
  rintro _ H Q E ⟨As, rfl, hn, ok, q⟩
  rcases As with _ | ⟨⟨l, d, v, ns⟩, Xs⟩
  · cases hn
  · have rs := ok.rd ⟨l, d, v, ns⟩ (List.mem_cons_self ..)
    have rX : ∀ s ∈ Xs, Rd K H s.v s.d s.ns := fun s hs => ok.rd s (List.mem_cons_of_mem _ hs)
    have mk : msk (true :: List.replicate n false) (v :: Xs.map Sl.v) = [v] := by
      have : ∀ (n : Nat) (vs : List V), msk (List.replicate n false) vs = [] := fun n => by
        induction n with
        | zero => intro vs; rfl
        | succ n ih =>
          intro vs
          cases vs with
          | nil => rfl
          | cons v vs => exact ih vs
      show v :: msk (List.replicate n false) _ = _
      rw [this]
    simp only [List.map_cons, Sl.ld] at q
    unfold nestG at q
    dsimp only at rs q
    show ∃ w, At K b v k w H ∧ r w (Xs.map Sl.v) H Q
    by_cases c : (decide (2 ≤ l % 10) && (Xs.map Sl.ld).all ful) = true
    rotate_left
    · rw [if_neg c] at q
      exact q.elim
    have c2 := c
    rw [Bool.and_eq_true, decide_eq_true_eq, List.all_eq_true] at c2
    have hX : ∀ x ∈ Xs, fullS x := fun x hx => ful_ok (c2.2 _ (List.mem_map.mpr ⟨x, hx, rfl⟩)) (rX x hx)
    rw [if_pos c] at q
    cases ei : inD b d with
    | none =>
      rw [ei] at q
      exact q.elim
    | some ds =>
      rw [ei] at q
      dsimp only at q
      unfold nestL at q
      cases ej : ixN ds.length k with
      | none => rw [ej] at q; exact q.elim
      | some j =>
        rw [ej] at q
        dsimp only at q
        cases ed : ds[j]? with
        | none => rw [ed] at q; exact q.elim
        | some di =>
          rw [ed] at q
          dsimp only at q
          by_cases hm : di.mut = true
          rotate_left
          · rw [if_neg hm] at q
            exact q.elim
          rw [if_pos hm] at q
          cases ef : f di (Xs.map Sl.ld) with
          | none =>
            rw [ef] at q
            exact q.elim
          | some z =>
            obtain ⟨od, d'⟩ := z
            rw [ef] at q
            dsimp only at q
            have at_ : ∀ {vs : List V} {w : V}, vs.length = ds.length → vs[j]? = some w → atI vs k = some w := fun hl e => by
              unfold atI
              rw [hl, ej]
              exact e
            cases b with
            | true =>
              cases d with
              | lst ds0 =>
                cases ei
                cases rs with
                | @lst a vs _ ns0 ha hr =>
                  obtain ⟨w, n0, n1, n2, g1, g2, g3, g4⟩ := Rds.cutAt j di hr ed
                  refine ⟨w, ⟨a, vs, rfl, by simpa [mkS, finS, bNs, gL1, gL2, gLL2, fI2, tkA, ptA, GS, GL, fPut, ful, l12, l02, DL.D.mut, DL.D.top, DL.D.imm, DL.D.imm.immAll, fdOk, fIx, fMul, fAdd, powOk, gLstL, gTupL, DL.D.ty, lvN, szOk, fLen, fListOf, fTupOf, fSl, gSlN, gSlH, gSlL, gSlB, fIsi, fIsiT, isT, DL.D.tyN, DL.D.isX, fInts, DL.D.seqI, fLenSet, fLR, fLR1, gLR2, rgOk, fDict, fAbs, fInt1, gMax2, gMin2, g1S, g2S, fItems, fR1, fR2, bd62, lowE, clr, bakE, kpE, fApp, fIns, fPop, fPopA, fPopI, fClr, fRev, fExt, allTop, fEq, fNe, fNeg, fIsN, DL.D.isNon, DL.D.key, dGet, canE, nrm, cT, sAug_k, ixN, fRvS, fAll, dBls_map, fIsB, fIdx, msk, Function.comp_def, cut_hi, cut_lo, cut_both] using ha, at_ hr.length g1⟩, nest_core (mg := mg) (n1 := a :: n1) (n2 := n2) (out := fun d' => .lst (ds.set j d')) h ok c2.1 hX hm g2 (by rw [g3]; rfl) (fun H' d' n' tk e hn => ?_) ef fun v' nv Fs H' e1 e2 f1 f2 f3 => q v' nv Fs H' e1 (by rw [e2]; exact mk.symm) f1 f2 f3⟩
                  refine .lst (by rw [e a (.inl (List.mem_cons_self ..))]; exact ha) (g4 H' d' n' tk (fun a ha => e a (by
                    rcases ha with ha | ha
                    · exact .inl (List.mem_cons_of_mem _ ha)
                    · exact .inr ha)) hn)
              | _ => cases ei
            | false =>
              cases d with
              | tup ds0 =>
                cases ei
                cases rs with
                | @tup a vs _ ns0 ha hr =>
                  obtain ⟨w, n0, n1, n2, g1, g2, g3, g4⟩ := Rds.cutAt j di hr ed
                  refine ⟨w, ⟨a, vs, rfl, by simpa [mkS, finS, bNs, gL1, gL2, gLL2, fI2, tkA, ptA, GS, GL, fPut, ful, l12, l02, DL.D.mut, DL.D.top, DL.D.imm, DL.D.imm.immAll, fdOk, fIx, fMul, fAdd, powOk, gLstL, gTupL, DL.D.ty, lvN, szOk, fLen, fListOf, fTupOf, fSl, gSlN, gSlH, gSlL, gSlB, fIsi, fIsiT, isT, DL.D.tyN, DL.D.isX, fInts, DL.D.seqI, fLenSet, fLR, fLR1, gLR2, rgOk, fDict, fAbs, fInt1, gMax2, gMin2, g1S, g2S, fItems, fR1, fR2, bd62, lowE, clr, bakE, kpE, fApp, fIns, fPop, fPopA, fPopI, fClr, fRev, fExt, allTop, fEq, fNe, fNeg, fIsN, DL.D.isNon, DL.D.key, dGet, canE, nrm, cT, sAug_k, ixN, fRvS, fAll, dBls_map, fIsB, fIdx, msk, Function.comp_def, cut_hi, cut_lo, cut_both] using ha, at_ hr.length g1⟩, nest_core (mg := mg) (n1 := n1) (n2 := n2) (out := fun d' => .tup (ds.set j d')) h ok c2.1 hX hm g2 g3 (fun H' d' n' tk e hn => ?_) ef fun v' nv Fs H' e1 e2 f1 f2 f3 => q v' nv Fs H' e1 (by rw [e2]; exact mk.symm) f1 f2 f3⟩
                  exact .tup (tk.tup ha) (g4 H' d' n' tk e hn)
              | _ => cases ei
theorem At.same {K : PySem.W.Frag} {b : Bool} {x w : V} {k : Int} {H H' : Hp} (h : At K b x k w H) (s : Same H H') : At K b x k w H' := by
  obtain ⟨p, xs, e, h1, h2⟩ := h
  refine ⟨p, xs, e, ?_, h2⟩
  cases b with
  | true => simpa [mkS, finS, bNs, gL1, gL2, gLL2, fI2, tkA, ptA, GS, GL, fPut, ful, l12, l02, DL.D.mut, DL.D.top, DL.D.imm, DL.D.imm.immAll, fdOk, fIx, fMul, fAdd, powOk, gLstL, gTupL, DL.D.ty, lvN, szOk, fLen, fListOf, fTupOf, fSl, gSlN, gSlH, gSlL, gSlB, fIsi, fIsiT, isT, DL.D.tyN, DL.D.isX, fInts, DL.D.seqI, fLenSet, fLR, fLR1, gLR2, rgOk, fDict, fAbs, fInt1, gMax2, gMin2, g1S, g2S, fItems, fR1, fR2, bd62, lowE, clr, bakE, kpE, fApp, fIns, fPop, fPopA, fPopI, fClr, fRev, fExt, allTop, fEq, fNe, fNeg, fIsN, DL.D.isNon, DL.D.key, dGet, canE, nrm, cT, sAug_k, ixN, fRvS, fAll, dBls_map, fIsB, fIdx, msk, Function.comp_def, cut_hi, cut_lo, cut_both] using s p _ (by simpa [mkS, finS, bNs, gL1, gL2, gLL2, fI2, tkA, ptA, GS, GL, fPut, ful, l12, l02, DL.D.mut, DL.D.top, DL.D.imm, DL.D.imm.immAll, fdOk, fIx, fMul, fAdd, powOk, gLstL, gTupL, DL.D.ty, lvN, szOk, fLen, fListOf, fTupOf, fSl, gSlN, gSlH, gSlL, gSlB, fIsi, fIsiT, isT, DL.D.tyN, DL.D.isX, fInts, DL.D.seqI, fLenSet, fLR, fLR1, gLR2, rgOk, fDict, fAbs, fInt1, gMax2, gMin2, g1S, g2S, fItems, fR1, fR2, bd62, lowE, clr, bakE, kpE, fApp, fIns, fPop, fPopA, fPopI, fClr, fRev, fExt, allTop, fEq, fNe, fNeg, fIsN, DL.D.isNon, DL.D.key, dGet, canE, nrm, cT, sAug_k, ixN, fRvS, fAll, dBls_map, fIsB, fIdx, msk, Function.comp_def, cut_hi, cut_lo, cut_both] using h1)
  | false =>
    have h1 : SqT K H p xs := by simpa [mkS, finS, bNs, gL1, gL2, gLL2, fI2, tkA, ptA, GS, GL, fPut, ful, l12, l02, DL.D.mut, DL.D.top, DL.D.imm, DL.D.imm.immAll, fdOk, fIx, fMul, fAdd, powOk, gLstL, gTupL, DL.D.ty, lvN, szOk, fLen, fListOf, fTupOf, fSl, gSlN, gSlH, gSlL, gSlB, fIsi, fIsiT, isT, DL.D.tyN, DL.D.isX, fInts, DL.D.seqI, fLenSet, fLR, fLR1, gLR2, rgOk, fDict, fAbs, fInt1, gMax2, gMin2, g1S, g2S, fItems, fR1, fR2, bd62, lowE, clr, bakE, kpE, fApp, fIns, fPop, fPopA, fPopI, fClr, fRev, fExt, allTop, fEq, fNe, fNeg, fIsN, DL.D.isNon, DL.D.key, dGet, canE, nrm, cT, sAug_k, ixN, fRvS, fAll, dBls_map, fIsB, fIdx, msk, Function.comp_def, cut_hi, cut_lo, cut_both] using h1
    simpa [mkS, finS, bNs, gL1, gL2, gLL2, fI2, tkA, ptA, GS, GL, fPut, ful, l12, l02, DL.D.mut, DL.D.top, DL.D.imm, DL.D.imm.immAll, fdOk, fIx, fMul, fAdd, powOk, gLstL, gTupL, DL.D.ty, lvN, szOk, fLen, fListOf, fTupOf, fSl, gSlN, gSlH, gSlL, gSlB, fIsi, fIsiT, isT, DL.D.tyN, DL.D.isX, fInts, DL.D.seqI, fLenSet, fLR, fLR1, gLR2, rgOk, fDict, fAbs, fInt1, gMax2, gMin2, g1S, g2S, fItems, fR1, fR2, bd62, lowE, clr, bakE, kpE, fApp, fIns, fPop, fPopA, fPopI, fClr, fRev, fExt, allTop, fEq, fNe, fNeg, fIsN, DL.D.isNon, DL.D.key, dGet, canE, nrm, cT, sAug_k, ixN, fRvS, fAll, dBls_map, fIsB, fIdx, msk, Function.comp_def, cut_hi, cut_lo, cut_both] using (TupK.same s).tup h1
theorem At.uniq {X : Cx} {pins : List (Addr × Obj)} {s : Shared} {σ : L2.St} {b : Bool} {x w w' : V} {k : Int} {H : Hp} (I : Inv X pins σ H s) (h : At X.K b x k w H) (h' : At X.K b x k w' H) : w = w' := by
  obtain ⟨p, xs, e, h1, h2⟩ := h
  obtain ⟨p', xs', e', h1', h2'⟩ := h'
  rw [e] at e'
  cases e'
  have : xs = xs' := by
    cases b with
    | true =>
      have h1 : H p = some (.lst xs) := by simpa [mkS, finS, bNs, gL1, gL2, gLL2, fI2, tkA, ptA, GS, GL, fPut, ful, l12, l02, DL.D.mut, DL.D.top, DL.D.imm, DL.D.imm.immAll, fdOk, fIx, fMul, fAdd, powOk, gLstL, gTupL, DL.D.ty, lvN, szOk, fLen, fListOf, fTupOf, fSl, gSlN, gSlH, gSlL, gSlB, fIsi, fIsiT, isT, DL.D.tyN, DL.D.isX, fInts, DL.D.seqI, fLenSet, fLR, fLR1, gLR2, rgOk, fDict, fAbs, fInt1, gMax2, gMin2, g1S, g2S, fItems, fR1, fR2, bd62, lowE, clr, bakE, kpE, fApp, fIns, fPop, fPopA, fPopI, fClr, fRev, fExt, allTop, fEq, fNe, fNeg, fIsN, DL.D.isNon, DL.D.key, dGet, canE, nrm, cT, sAug_k, ixN, fRvS, fAll, dBls_map, fIsB, fIdx, msk, Function.comp_def, cut_hi, cut_lo, cut_both] using h1
      have h1' : H p = some (.lst xs') := by simpa [mkS, finS, bNs, gL1, gL2, gLL2, fI2, tkA, ptA, GS, GL, fPut, ful, l12, l02, DL.D.mut, DL.D.top, DL.D.imm, DL.D.imm.immAll, fdOk, fIx, fMul, fAdd, powOk, gLstL, gTupL, DL.D.ty, lvN, szOk, fLen, fListOf, fTupOf, fSl, gSlN, gSlH, gSlL, gSlB, fIsi, fIsiT, isT, DL.D.tyN, DL.D.isX, fInts, DL.D.seqI, fLenSet, fLR, fLR1, gLR2, rgOk, fDict, fAbs, fInt1, gMax2, gMin2, g1S, g2S, fItems, fR1, fR2, bd62, lowE, clr, bakE, kpE, fApp, fIns, fPop, fPopA, fPopI, fClr, fRev, fExt, allTop, fEq, fNe, fNeg, fIsN, DL.D.isNon, DL.D.key, dGet, canE, nrm, cT, sAug_k, ixN, fRvS, fAll, dBls_map, fIsB, fIdx, msk, Function.comp_def, cut_hi, cut_lo, cut_both] using h1'
      rw [h1] at h1'
      cases h1'
      rfl
    | false => exact I.tuple_inj (by simpa [mkS, finS, bNs, gL1, gL2, gLL2, fI2, tkA, ptA, GS, GL, fPut, ful, l12, l02, DL.D.mut, DL.D.top, DL.D.imm, DL.D.imm.immAll, fdOk, fIx, fMul, fAdd, powOk, gLstL, gTupL, DL.D.ty, lvN, szOk, fLen, fListOf, fTupOf, fSl, gSlN, gSlH, gSlL, gSlB, fIsi, fIsiT, isT, DL.D.tyN, DL.D.isX, fInts, DL.D.seqI, fLenSet, fLR, fLR1, gLR2, rgOk, fDict, fAbs, fInt1, gMax2, gMin2, g1S, g2S, fItems, fR1, fR2, bd62, lowE, clr, bakE, kpE, fApp, fIns, fPop, fPopA, fPopI, fClr, fRev, fExt, allTop, fEq, fNe, fNeg, fIsN, DL.D.isNon, DL.D.key, dGet, canE, nrm, cT, sAug_k, ixN, fRvS, fAll, dBls_map, fIsB, fIdx, msk, Function.comp_def, cut_hi, cut_lo, cut_both] using h1) (by simpa [mkS, finS, bNs, gL1, gL2, gLL2, fI2, tkA, ptA, GS, GL, fPut, ful, l12, l02, DL.D.mut, DL.D.top, DL.D.imm, DL.D.imm.immAll, fdOk, fIx, fMul, fAdd, powOk, gLstL, gTupL, DL.D.ty, lvN, szOk, fLen, fListOf, fTupOf, fSl, gSlN, gSlH, gSlL, gSlB, fIsi, fIsiT, isT, DL.D.tyN, DL.D.isX, fInts, DL.D.seqI, fLenSet, fLR, fLR1, gLR2, rgOk, fDict, fAbs, fInt1, gMax2, gMin2, g1S, g2S, fItems, fR1, fR2, bd62, lowE, clr, bakE, kpE, fApp, fIns, fPop, fPopA, fPopI, fClr, fRev, fExt, allTop, fEq, fNe, fNeg, fIsN, DL.D.isNon, DL.D.key, dGet, canE, nrm, cT, sAug_k, ixN, fRvS, fAll, dBls_map, fIsB, fIdx, msk, Function.comp_def, cut_hi, cut_lo, cut_both] using h1')
  subst this
  rw [h2] at h2'
  cases h2'
  rfl
/-- the receiver w is what stands at k of v0, and a thing that stands there keeps what is asked -/
def rU (K : PySem.W.Frag) (r : V → List V → Hp → VK → Prop) : V → List V → Hp → VK → Prop := fun x ys H Q => ∃ b v0 k, At K b v0 k x H ∧ rAt K b k r v0 ys H Q
theorem mtr_u {X : Cx} {id : String} {r : V → List V → Hp → VK → Prop} (hm : MtR X id r) : MtR X id (rU X.K r) := fun pins s σ H x xs v us Q I r1 r2 ⟨b, v0, k, a1, w, a2, q⟩ => by
  have e := At.uniq I a1 a2
  subst e
  exact hm pins s σ H x xs v us Q I r1 r2 q
theorem tdp_same {K : PySem.W.Frag} {W : WW} {A : List Nat} {f : PF} {σ : L2.St} {H : Hp} {Q : VK} (h : tDP K W A f σ H Q) : tDP K W A f σ H fun v H' => Same H H' ∧ Q v H' := by
  obtain ⟨Z, L, M, R, q⟩ := h
  refine ⟨Z, L, M, R, ?_⟩
  cases ef : f (er L) with
  | bad => rw [ef] at q; exact q
  | exc c => rw [ef] at q; exact q
  | ok x =>
    obtain ⟨l, d⟩ := x
    rw [ef] at q
    exact fun v ns H' B => ⟨B.same, q v ns H' B⟩
def kNest (T : String) (f : D → List LD → Option (Option D × D)) (i : Nat) (as : List AE) (Γ : Env) (k : Int) : D → R LD
  | .lst ds => (match atI ds k with
    | some di => if di.ty == T then eCall (nestG true f k) (.inl i :: as) Γ else .bad
    | none => .bad)
  | .tup ds => (match atI ds k with
    | some di => if di.ty == T then eCall (nestG false f k) (.inl i :: as) Γ else .bad
    | none => .bad)
  | _ => .bad
def eNest (T : String) (f : D → List LD → Option (Option D × D)) (i : Nat) (fk : PF) (as : List AE) : EF := fun Γ => match Γ[i]? with
  | some (some (_, d)) => (match fk Γ with
    | .ok (_, .int k) => kNest T f i as Γ k d
    | .ok _ => .bad
    | .exc c => .exc c Γ
    | .bad => .bad)
  | _ => .bad
theorem atI_some {α : Type} {xs : List α} {k : Int} {x : α} (h : atI xs k = some x) : ∃ j, ixN xs.length k = some j ∧ xs[j]? = some x := by
  unfold atI at h
  cases e : ixN xs.length k with
  | none => rw [e] at h; cases h
  | some j => rw [e] at h; exact ⟨j, rfl, h⟩
theorem nest_walk {K : PySem.W.Frag} {mg : Str → Option Value} {W : WW} {T : String} {r : V → List V → Hp → VK → Prop} {f : D → List LD → Option (Option D × D)} {i n : Nat} {fk : PF} {Ak : List Nat} {as : List AE} {σ : L2.St} {H : Hp} {Q : VK} (hM : LOk K r f) (hio : true :: List.replicate n false = true :: mkA as) (hn : as.length = n) (hT : (T == "") = false) (h : tDE K W (eNest T f i fk as) σ H Q) :
    ∃ v, σ[i]? = some (some v) ∧ tDP K W Ak fk σ H fun y H1 => ∃ b k w, y = .int k ∧ At K b v k w H1 ∧ tyV K T w H1 ∧ tArgs (as.map (teA K W)) (fun xs => rAt K b k r v xs) σ H1 Q := by
  obtain ⟨Z, L, M, R, q⟩ := h
  unfold eNest at q
  cases el : (er L)[i]? with
  | none => simp only [el] at q
  | some ox =>
    cases ox with
    | none => simp only [el] at q
    | some ld =>
      obtain ⟨l, d⟩ := ld
      simp only [el] at q
      obtain ⟨⟨sl, sd, sv, sn⟩, hs, e1, e2⟩ := er_some el
      obtain ⟨g1, g2, _⟩ := R.slot i _ hs
      dsimp only at e1 e2 g1 g2
      subst e2
      refine ⟨sv, g1, Z, L, M, R, ?_⟩
      cases ek : fk (er L) with
      | bad => rw [ek] at q; exact q
      | exc c => rw [ek] at q; exact fun H' sm => q H' L rfl (R.same sm)
      | ok x =>
        obtain ⟨lk, dk⟩ := x
        rw [ek] at q
        cases dk with
        | int k =>
          dsimp only at q ⊢
          intro y ny H1 B
          have ey : y = .int k := by have := B.rd; cases this; rfl
          have R1 := R.same B.same
          have rd := g2.same B.same
          have fin : ∀ (b : Bool), tDE K W (eCall (nestG b f k) (.inl i :: as)) σ H1 Q → tArgs (as.map (teA K W)) (fun xs => rAt K b k r sv xs) σ H1 Q := fun b hb => by
            have q2 : tArgs (((.inl i : AE) :: as).map (teA K W)) (r1a (rAt K b k r)) σ H1 Q := call_core (W := W) (mg := mg) (n := n + 1) (io := true :: List.replicate n false) (F := nestG b f k) (E := fun c _ H' => ∃ d, c = xc mg d ∧ W d σ H') (fun vs H Q p => nest_ok hM b k vs H Q _ p) (fun c H' w => ⟨c, rfl, w⟩) hio (by rw [List.length_cons, hn]) hb
            obtain ⟨v, g3, g4⟩ := (show tVar i σ H1 fun x H2 => tArgs (as.map (teA K W)) (fun xs => rAt K b k r x xs) σ H2 Q from q2)
            rw [g1] at g3
            simp only [Option.some.injEq] at g3
            rw [g3]
            exact g4
          cases sd with
          | lst ds =>
            dsimp only [kNest] at q
            cases ea : atI ds k with
            | none => rw [ea] at q; exact q.elim
            | some di =>
              rw [ea] at q
              dsimp only at q
              by_cases c : (di.ty == T) = true
              · rw [if_pos c] at q
                cases rd with
                | @lst a vs _ ns0 ha hr =>
                  obtain ⟨j, j1, j2⟩ := atI_some ea
                  obtain ⟨w, n0, n1, n2, k1, k2, k3, k4⟩ := Rds.cutAt j di hr j2
                  refine ⟨true, k, w, ey, ⟨a, vs, rfl, by simpa [mkS, finS, bNs, gL1, gL2, gLL2, fI2, tkA, ptA, GS, GL, fPut, ful, l12, l02, DL.D.mut, DL.D.top, DL.D.imm, DL.D.imm.immAll, fdOk, fIx, fMul, fAdd, powOk, gLstL, gTupL, DL.D.ty, lvN, szOk, fLen, fListOf, fTupOf, fSl, gSlN, gSlH, gSlL, gSlB, fIsi, fIsiT, isT, DL.D.tyN, DL.D.isX, fInts, DL.D.seqI, fLenSet, fLR, fLR1, gLR2, rgOk, fDict, fAbs, fInt1, gMax2, gMin2, g1S, g2S, fItems, fR1, fR2, bd62, lowE, clr, bakE, kpE, fApp, fIns, fPop, fPopA, fPopI, fClr, fRev, fExt, allTop, fEq, fNe, fNeg, fIsN, DL.D.isNon, DL.D.key, dGet, canE, nrm, cT, sAug_k, ixN, fRvS, fAll, dBls_map, fIsB, fIdx, msk, Function.comp_def, cut_hi, cut_lo, cut_both] using ha, ?_⟩, ty_of k2 (beq_iff_eq.mp c) hT, fin true ⟨Z, L, M, R1, q⟩⟩
                  unfold atI
                  rw [hr.length, j1]
                  exact k1
              · rw [if_neg c] at q; exact q.elim
          | tup ds =>
            dsimp only [kNest] at q
            cases ea : atI ds k with
            | none => rw [ea] at q; exact q.elim
            | some di =>
              rw [ea] at q
              dsimp only at q
              by_cases c : (di.ty == T) = true
              · rw [if_pos c] at q
                cases rd with
                | @tup a vs _ ns0 ha hr =>
                  obtain ⟨j, j1, j2⟩ := atI_some ea
                  obtain ⟨w, n0, n1, n2, k1, k2, k3, k4⟩ := Rds.cutAt j di hr j2
                  refine ⟨false, k, w, ey, ⟨a, vs, rfl, by simpa [mkS, finS, bNs, gL1, gL2, gLL2, fI2, tkA, ptA, GS, GL, fPut, ful, l12, l02, DL.D.mut, DL.D.top, DL.D.imm, DL.D.imm.immAll, fdOk, fIx, fMul, fAdd, powOk, gLstL, gTupL, DL.D.ty, lvN, szOk, fLen, fListOf, fTupOf, fSl, gSlN, gSlH, gSlL, gSlB, fIsi, fIsiT, isT, DL.D.tyN, DL.D.isX, fInts, DL.D.seqI, fLenSet, fLR, fLR1, gLR2, rgOk, fDict, fAbs, fInt1, gMax2, gMin2, g1S, g2S, fItems, fR1, fR2, bd62, lowE, clr, bakE, kpE, fApp, fIns, fPop, fPopA, fPopI, fClr, fRev, fExt, allTop, fEq, fNe, fNeg, fIsN, DL.D.isNon, DL.D.key, dGet, canE, nrm, cT, sAug_k, ixN, fRvS, fAll, dBls_map, fIsB, fIdx, msk, Function.comp_def, cut_hi, cut_lo, cut_both] using ha, ?_⟩, ty_of k2 (beq_iff_eq.mp c) hT, fin false ⟨Z, L, M, R1, q⟩⟩
                  unfold atI
                  rw [hr.length, j1]
                  exact k1
              · rw [if_neg c] at q; exact q.elim
          | _ => exact q.elim
        | _ => exact q.elim
section
variable {X : Cx} {W : WW} {T id : String} {name : Str} {r : V → List V → Hp → VK → Prop} {ob ix e : Expr} {ip apos cpos : Pos} {f : D → List LD → Option (Option D × D)} {i : Nat} {fk fa : PF} {Ak A : List Nat}
theorem at_ix {K : PySem.W.Frag} {b : Bool} {v w : V} {k : Int} {H : Hp} {Q : VK} (h : At K b v k w H) (q : Q w H) : rIx K v (.int k) H Q := by
  obtain ⟨p, xs, e, h1, h2⟩ := h
  cases b with
  | true => exact .inl ⟨p, xs, k, w, e, rfl, .of (by simpa [mkS, finS, bNs, gL1, gL2, gLL2, fI2, tkA, ptA, GS, GL, fPut, ful, l12, l02, DL.D.mut, DL.D.top, DL.D.imm, DL.D.imm.immAll, fdOk, fIx, fMul, fAdd, powOk, gLstL, gTupL, DL.D.ty, lvN, szOk, fLen, fListOf, fTupOf, fSl, gSlN, gSlH, gSlL, gSlB, fIsi, fIsiT, isT, DL.D.tyN, DL.D.isX, fInts, DL.D.seqI, fLenSet, fLR, fLR1, gLR2, rgOk, fDict, fAbs, fInt1, gMax2, gMin2, g1S, g2S, fItems, fR1, fR2, bd62, lowE, clr, bakE, kpE, fApp, fIns, fPop, fPopA, fPopI, fClr, fRev, fExt, allTop, fEq, fNe, fNeg, fIsN, DL.D.isNon, DL.D.key, dGet, canE, nrm, cT, sAug_k, ixN, fRvS, fAll, dBls_map, fIsB, fIdx, msk, Function.comp_def, cut_hi, cut_lo, cut_both] using h1), h2, q⟩
  | false => exact .inr (.inl ⟨p, xs, k, w, e, rfl, by simpa [mkS, finS, bNs, gL1, gL2, gLL2, fI2, tkA, ptA, GS, GL, fPut, ful, l12, l02, DL.D.mut, DL.D.top, DL.D.imm, DL.D.imm.immAll, fdOk, fIx, fMul, fAdd, powOk, gLstL, gTupL, DL.D.ty, lvN, szOk, fLen, fListOf, fTupOf, fSl, gSlN, gSlH, gSlL, gSlB, fIsi, fIsiT, isT, DL.D.tyN, DL.D.isX, fInts, DL.D.seqI, fLenSet, fLR, fLR1, gLR2, rgOk, fDict, fAbs, fInt1, gMax2, gMin2, g1S, g2S, fItems, fR1, fR2, bd62, lowE, clr, bakE, kpE, fApp, fIns, fPop, fPopA, fPopI, fClr, fRev, fExt, allTop, fEq, fNe, fNeg, fIsN, DL.D.isNon, DL.D.key, dGet, canE, nrm, cT, sAug_k, ixN, fRvS, fAll, dBls_map, fIsB, fIdx, msk, Function.comp_def, cut_hi, cut_lo, cut_both] using h1, h2, q⟩)
theorem e_nest1 (pa : PlainAttrs T) (slot : Slot T name id) (hty : typeOf (.builtin id) = pure (.type "method_descriptor")) (hm : MtR X id r) (hM : LOk X.K r f) (ho : PE X ob (tVar i)) (hk : DP X W Ak ix fk) (hx : PlainIx ix) (ha : DP X W A e fa)
    (hT : (T == "") = false := by decide) (hbase : attributeBase (.Subscript ob ix ip) name X.env (eval (.Subscript ob ix ip) X.env) = eval (.Subscript ob ix ip) X.env := by rfl)
    (hfew : ((backTo cpos (starEach [e] X.env)).all (fun x => !x.1) && (backToKw cpos (keywordEach [] X.env)).all (fun x => x.1.isSome)
      && decide (([e] : List Expr).length + ([] : List Keyword).length + (if ([] : List Keyword).isEmpty then 0 else 1) < 30)) = true := by rfl)
    (hline : (apos.endLine == cpos.line) = true := by rfl) (hs : starEach [e] X.env = (false, eval e X.env) :: starEach [] X.env := by rfl) (hplain : (backTo cpos (starEach [] X.env)).any (·.1) = false := by rfl) :
    DE X W (.Call (.Attribute (.Subscript ob ix ip) name apos) [e] [] cpos) (eNest T f i fk [.inr (toE A fa)]) :=
  PE.imp (pe_bm pa slot hty (mtr_u hm) (pe_ix ix_seq ho hk hx) (pa_cons ha pa_nil hs) hbase hfew hline hs hplain) fun σ H Q q => by
    obtain ⟨v, g1, g2⟩ := nest_walk (mg := X.mg) (n := 1) (Ak := Ak) hM rfl rfl hT q
    refine ⟨v, g1, tDP_mono g2 fun y H1 ⟨b, k, w, ey, a1, ty, ta⟩ => ?_⟩
    subst ey
    refine at_ix a1 ⟨ty, ?_⟩
    have t1 : tDP X.K W A fa σ H1 fun x H2 => rAt X.K b k r v [x] H2 Q := tdp_toE ta
    exact tDP_mono (tdp_same t1) fun x H2 ⟨sm, q2⟩ => ⟨b, v, k, a1.same sm, q2⟩
end
def kNst (T : String) (f : D → List LD → Option (Option D × D)) (i : Nat) (as : List AE) (Γ : Env) (d : D) : P LD → R LD
  | .ok (_, .int k) => kNest T f i as Γ k d
  | .ok _ => .bad
  | .exc c => .exc c Γ
  | .bad => .bad
def kNs (T : String) (f : D → List LD → Option (Option D × D)) (i : Nat) (fk : PF) (as : List AE) (Γ : Env) : Option (Option LD) → R LD
  | some (some (_, d)) => kNst T f i as Γ d (fk Γ)
  | _ => .bad
@[simp] theorem eNest_k {Γ : Env} (T : String) (f : D → List LD → Option (Option D × D)) (i : Nat) (fk : PF) (as : List AE) : eNest T f i fk as Γ = kNs T f i fk as Γ Γ[i]? := by
  unfold eNest kNs
  rcases Γ[i]? with _ | _ | ⟨l, d⟩
  · rfl
  · rfl
  · show (match fk Γ with | .ok (_, .int k) => kNest T f i as Γ k d | .ok _ => .bad | .exc c => .exc c Γ | .bad => .bad) = kNst T f i as Γ d (fk Γ)
    unfold kNst
    rfl
@[simp] theorem kNs_some {Γ : Env} (T : String) (f : D → List LD → Option (Option D × D)) (i : Nat) (fk : PF) (as : List AE) (l : Nat) (d : D) : kNs T f i fk as Γ (some (some (l, d))) = kNst T f i as Γ d (fk Γ) := rfl
@[simp] theorem kNst_ok {Γ : Env} (T : String) (f : D → List LD → Option (Option D × D)) (i : Nat) (as : List AE) (d : D) (l : Nat) (k : Int) : kNst T f i as Γ d (.ok (l, .int k)) = kNest T f i as Γ k d := rfl
def kNe (b : Bool) (T : String) (f : D → List LD → Option (Option D × D)) (i : Nat) (as : List AE) (Γ : Env) (k : Int) : Option D → R LD
  | some di => if di.ty == T then eCall (nestG b f k) (.inl i :: as) Γ else .bad
  | none => .bad
@[simp] theorem kNest_l {Γ : Env} (T : String) (f : D → List LD → Option (Option D × D)) (i : Nat) (as : List AE) (k : Int) (ds : List D) : kNest T f i as Γ k (.lst ds) = kNe true T f i as Γ k (atI ds k) := by unfold kNest kNe; rfl
@[simp] theorem kNest_t {Γ : Env} (T : String) (f : D → List LD → Option (Option D × D)) (i : Nat) (as : List AE) (k : Int) (ds : List D) : kNest T f i as Γ k (.tup ds) = kNe false T f i as Γ k (atI ds k) := by unfold kNest kNe; rfl
@[simp] theorem kNe_some {Γ : Env} (b : Bool) (T : String) (f : D → List LD → Option (Option D × D)) (i : Nat) (as : List AE) (k : Int) (di : D) : kNe b T f i as Γ k (some di) = if di.ty == T then eCall (nestG b f k) (.inl i :: as) Γ else .bad := rfl
@[simp] theorem nestG_l (f : D → List LD → Option (Option D × D)) (k : Int) (l : Nat) (ds : List D) (as : List LD) : nestG true f k ((l, .lst ds) :: as) = if (decide (2 ≤ l % 10) && as.all ful) = true then nestL f true k ds as else .bad := rfl
@[simp] theorem nestG_t (f : D → List LD → Option (Option D × D)) (k : Int) (l : Nat) (ds : List D) (as : List LD) : nestG false f k ((l, .tup ds) :: as) = if (decide (2 ≤ l % 10) && as.all ful) = true then nestL f false k ds as else .bad := rfl
def kNf (b : Bool) (j : Nat) (ds : List D) : Option (Option D × D) → FR
  | some (od, d') => .ret (2, od.getD .non) [(2, outD b (ds.set j d'))]
  | none => .bad
@[simp] theorem kNf_some (b : Bool) (j : Nat) (ds : List D) (od : Option D) (d' : D) : kNf b j ds (some (od, d')) = .ret (2, od.getD .non) [(2, outD b (ds.set j d'))] := rfl
@[simp] theorem outD_t (ds : List D) : outD true ds = .lst ds := rfl
@[simp] theorem outD_f (ds : List D) : outD false ds = .tup ds := rfl
end DL
namespace DL
open L2 PySem PySem.Spec PyProof.Rows
def prD (q : Int × Int) : D := .tup [.int q.1, .int q.2]
def dPrs : List D → Option (List (Int × Int))
  | [] => some []
  | .tup [.int a, .int b] :: xs => (dPrs xs).map ((a, b) :: ·)
  | _ => none
theorem dPrs_map : ∀ qs : List (Int × Int), dPrs (qs.map prD) = some qs
  | [] => rfl
  | q :: qs => by
    show (dPrs (qs.map prD)).map _ = _
    rw [dPrs_map qs]
    rfl
def leP (p q : Int × Int) : Bool := !SrtO.lexB q p
def sortP (ps : List (Int × Int)) : List (Int × Int) := ps.mergeSort leP
/-- sorted of ints, of pairs of ints -/
def fSortA : LD → Option LD := fun x => match x.2.seqI with
  | some is => some (2, .lst ((sortI is).map .int))
  | none => match x.2 with
    | .lst ds => (dPrs ds).map fun ps => (2, .lst ((sortP ps).map prD))
    | _ => none
theorem prD_imm (qs : List (Int × Int)) : D.imm.immAll (qs.map prD) = true := by
  induction qs with
  | nil => rfl
  | cons q qs ih => simp only [List.map_cons, D.imm.immAll, ih, prD, D.imm, Bool.and_self]
@[simp] theorem fSortA_ints (l : Nat) (ns : List Int) : fSortA (l, .lst (ns.map .int)) = some (2, .lst ((sortI ns).map .int)) := by
  unfold fSortA
  have : (D.lst (ns.map .int)).seqI = some ns := dInts_map ns
  rw [show ((l, D.lst (ns.map .int)) : LD).2.seqI = some ns from this]
@[simp] theorem fSortA_frz (l : Nat) (ns : List Int) : fSortA (l, .frz ns) = some (2, .lst ((sortI ns).map .int)) := rfl
@[simp] theorem fSortA_prs (l : Nat) (qs : List (Int × Int)) : fSortA (l, .lst (qs.map prD)) = some (2, .lst ((sortP qs).map prD)) := by
  cases qs with
  | nil =>
    have e1 : sortP [] = [] := List.mergeSort_nil
    have e2 : sortI [] = [] := List.mergeSort_nil
    rw [e1]
    show some ((2 : Nat), D.lst ((sortI []).map .int)) = _
    rw [e2]
    rfl
  | cons q qs =>
    unfold fSortA
    have : (D.lst ((q :: qs).map prD)).seqI = none := rfl
    rw [show ((l, D.lst ((q :: qs).map prD)) : LD).2.seqI = none from this]
    show (dPrs ((q :: qs).map prD)).map _ = _
    rw [dPrs_map]
    rfl
end DL
namespace DL
open L2 PySem PySem.Spec PyProof.Rows
end DL
namespace DL
open L2 PySem PySem.Spec PyProof.Rows
end DL
namespace DL
open L2 PySem PySem.Spec PyProof.Rows
theorem tupMulSame (l : Addr) (items : Array Value) (n : Nat) (dd : Option Addr) (sl : Array (Option Value)) (x : Int) (u : Tok) (c0 : (decide (x < -(2 ^ 63)) || decide (x ≥ 2 ^ 63)) = false) (c1 : (items.isEmpty || x == 1) = true) :
    Meets (Builtin.«tuple.__mul__» ⟨[.ref l, .int x u], []⟩) (fun _ R s => s.heap.get? l = some { cls := .type "tuple", dict := dd, data := .seq items n, slots := sl } ∧ R (.ok (.ret (Value.ref l))) s) :=
  .of_wp fun prog w A R s h => by
    obtain ⟨hp, g, d, tk, os⟩ := s
    obtain ⟨hl, h⟩ := h
    have f1 := AutoSeq1.idx_int
    wp_walk using wpAny_loadPart' hl
    repeat (first
      | (refine wpAny_ite_false (decide_eq_false (by rw [c0]; exact Bool.false_ne_true)) ?_; wp_walk using wpAny_loadPart' hl)
      | (refine wpAny_ite_true (decide_eq_true (by rw [c1])) ?_; wp_walk using wpAny_loadPart' hl))
    exact ⟨_, rfl, h⟩
theorem tupMulNone (l : Addr) (items : Array Value) (n : Nat) (dd : Option Addr) (sl : Array (Option Value)) (x : Int) (u : Tok) (c0 : (decide (x < -(2 ^ 63)) || decide (x ≥ 2 ^ 63)) = false) (c1 : (items.isEmpty || x == 1) = false) (c2 : (decide (x ≤ 0) || items.isEmpty) = true) :
    Meets (Builtin.«tuple.__mul__» ⟨[.ref l, .int x u], []⟩) (fun _ R s => s.heap.get? l = some { cls := .type "tuple", dict := dd, data := .seq items n, slots := sl } ∧
      R (.ok (.ret (Value.ref s.heap.objs.size))) { s with heap := s.heap.push { cls := Value.type "tuple", data := Data.seq #[] }, toks := s.toks }) :=
  .of_wp fun prog w A R s h => by
    obtain ⟨hp, g, d, tk, os⟩ := s
    obtain ⟨hl, h⟩ := h
    have f1 := AutoSeq1.idx_int
    wp_walk using wpAny_loadPart' hl
    repeat (first
      | (refine wpAny_ite_false (decide_eq_false (by rw [c0]; exact Bool.false_ne_true)) ?_; wp_walk using wpAny_loadPart' hl)
      | (refine wpAny_ite_false (decide_eq_false (by rw [c1]; exact Bool.false_ne_true)) ?_; wp_walk using wpAny_loadPart' hl)
      | (refine wpAny_ite_true (decide_eq_true (by rw [c2])) ?_; wp_walk using wpAny_loadPart' hl))
    exact ⟨_, rfl, h⟩
def rRepA (K : PySem.W.Frag) : R2 := fun x y H Q => ∃ l k xs, x = .ref l ∧ y = .int k ∧ SqT K H l xs ∧ k.natAbs ≤ 1000 ∧ xs.length ≤ 1000 ∧ ((xs = [] ∨ k = 1) → Q (.ref l) H) ∧ (¬(xs = [] ∨ k = 1) → ∀ p, H p = none → Q (.ref p) (upd H p (.tup (List.replicate k.toNat xs).flatten)))
theorem op_repA {X : Cx} : OpR X (binaryOp .Mult) (rRepA X.K) := by
  intro pins s σ H x y v u Q I rx ry h
  obtain ⟨l, k, xs, rfl, rfl, hT, h2, hz, q1, q2⟩ := h
  by_cases hk : xs ≠ [] ∧ 2 ≤ k
  · exact op_repT pins s σ H _ _ v u Q I rx ry ⟨l, k, xs, rfl, rfl, hT, hk.1, hk.2, by omega, hz, q2 (fun e => e.elim hk.1 (by omega))⟩
  · cases rx
    obtain ⟨t, rfl⟩ := ry
    obtain ⟨its, r, ⟨⟨cls, dd, data, sl⟩, ho, hc, n, hd⟩, hs⟩ := I.tuple hT
    simp only at hc hd
    subst hc hd
    have hle : its.length = xs.length := r.length.symm
    have c0 : (decide (k < -(2 ^ 63)) || decide (k ≥ 2 ^ 63)) = false := by
      rw [decide_eq_false (by omega), decide_eq_false (by omega)] <;> rfl
    refine wpAny_binaryOp_repeat_ref (T := "tuple") (U := "int") (by decide) ⟨_, ho, rfl⟩ (fun s' => typeIs_int s' k t) noFill_tuple_mul F.fills_int_mul F.slot_int_rmul repeat_tuple F.slot_int_index.lookup
      (call_meets F.slot_int_rmul (typeIs_int s k t) F.entry_int_rmul (F.args_int_rmul_2 _ _) (int_rmul_tuple k t l its.toArray n dd sl) ⟨ho, rfl, ⟨_, ho, rfl⟩, ?_⟩)
    by_cases e : xs = [] ∨ k = 1
    · have c1 : (its.toArray.isEmpty || k == 1) = true := by
        rcases e with e | e
        · rw [e] at hle
          rw [List.eq_nil_of_length_eq_zero hle]; rfl
        · rw [e]; simp [mkS, finS, bNs, gL1, gL2, gLL2, fI2, tkA, ptA, GS, GL, fPut, ful, l12, l02, DL.D.mut, DL.D.top, DL.D.imm, DL.D.imm.immAll, fdOk, fIx, fMul, fAdd, powOk, gLstL, gTupL, DL.D.ty, lvN, szOk, fLen, fListOf, fTupOf, fSl, gSlN, gSlH, gSlL, gSlB, fIsi, fIsiT, isT, DL.D.tyN, DL.D.isX, fInts, DL.D.seqI, fLenSet, fLR, fLR1, gLR2, rgOk, fDict, fAbs, fInt1, gMax2, gMin2, g1S, g2S, fItems, fR1, fR2, bd62, lowE, clr, bakE, kpE, fApp, fIns, fPop, fPopA, fPopI, fClr, fRev, fExt, allTop, fEq, fNe, fNeg, fIsN, DL.D.isNon, DL.D.key, dGet, canE, nrm, cT, sAug_k, ixN, fRvS, fAll, dBls_map, fIsB, fIdx, msk, Function.comp_def, cut_hi, cut_lo, cut_both]
      refine call_meets F.slot_tuple_mul ⟨_, ho, rfl⟩ F.entry_tuple_mul (F.args_tuple_mul_2 _ _) (tupMulSame l its.toArray n dd sl k t c0 c1) ⟨ho, ?_⟩
      exact ⟨.ref l, _, I, rfl, q1 e⟩
    · have hn : its ≠ [] := fun e2 => e (.inl (by rw [e2] at hle; exact List.eq_nil_of_length_eq_zero hle.symm))
      have hi : its.toArray.isEmpty = false := by
        cases its with
        | nil => exact absurd rfl hn
        | cons a b => rfl
      have hk0 : k ≤ 0 := by
        have e1 : xs ≠ [] := fun c => e (.inl c)
        have e2 : k ≠ 1 := fun c => e (.inr c)
        have : ¬ 2 ≤ k := fun c => hk ⟨e1, c⟩
        omega
      have c1 : (its.toArray.isEmpty || k == 1) = false := by
        rw [hi, Bool.false_or]
        exact beq_eq_false_iff_ne.mpr (by omega)
      have c2 : (decide (k ≤ 0) || its.toArray.isEmpty) = true := by
        rw [decide_eq_true hk0]; rfl
      refine call_meets F.slot_tuple_mul ⟨_, ho, rfl⟩ F.entry_tuple_mul (F.args_tuple_mul_2 _ _) (tupMulNone l its.toArray n dd sl k t c0 c1 c2) ⟨ho, ?_⟩
      have hr : (List.replicate k.toNat xs).flatten = [] := by
        rw [show k.toNat = 0 by omega]; rfl
      have qq := q2 e
      rw [hr] at qq
      refine ⟨.ref s.heap.objs.size, _, I.laid (t' := s.toks) (o := .tup []) (fun b ob q => Heap.get?_push_of_some _ q) (Nat.le_refl _) ?_, rfl, qq _ (I.hok.fresh (Nat.le_refl _))⟩
      exact ⟨by rw [sizeLine_eq]; exact Nat.zero_le _, [], .nil, IsTup.new _ _⟩
def fMulA : D → D → Option LD
  | .tup xs, .int n => if decide (n.natAbs ≤ 1000) && decide (xs.length ≤ 1000) then some (if D.imm.immAll (List.replicate n.toNat xs).flatten then 2 else 0, .tup (List.replicate n.toNat xs).flatten) else none
  | a, b => fMul a b
@[simp] theorem fMulA_int (a b : Int) : fMulA (.int a) (.int b) = if mulOk a b then some (2, .int (a * b)) else none := rfl
@[simp] theorem fMulA_lst (xs : List D) (n : Int) : fMulA (.lst xs) (.int n) = fMul (.lst xs) (.int n) := rfl
theorem fMulA_tup (xs : List D) (n : Int) : fMulA (.tup xs) (.int n) = if decide (n.natAbs ≤ 1000) && decide (xs.length ≤ 1000) then some (if D.imm.immAll (List.replicate n.toNat xs).flatten then 2 else 0, .tup (List.replicate n.toNat xs).flatten) else none := rfl
abbrev gMulA := gL2 fMulA
def rMulB (K : PySem.W.Frag) : R2 := fun x y H Q => rMulAny x y H Q ∨ rRepA K x y H Q
theorem op_mulB {X : Cx} : OpR X (binaryOp .Mult) (rMulB X.K) := op_mulAny.or op_repA
theorem vMulB {K : PySem.W.Frag} : VOk K (r2l (rMulB K)) gMulA := vL2 fun s t H Q ok h1 h2 l d hg k => by
  have vm := (vMul (K := K))
  by_cases c : ∃ xs n, s.d = .tup xs ∧ t.d = .int n
  · obtain ⟨xs, n, e1, e2⟩ := c
    obtain ⟨l1, d1, v1, n1⟩ := s
    obtain ⟨l2, d2, v2, n2⟩ := t
    dsimp only at *
    subst e1 e2
    rw [fMulA_tup] at hg
    split at hg
    · rename_i hz
      obtain ⟨rfl, rfl⟩ := rd_int h2
      cases hg
      simp only [Bool.and_eq_true, decide_eq_true_eq] at hz
      cases h1 with
      | @tup a vs ds ns e1 r1 =>
        obtain ⟨m, r, hm⟩ : ∃ m, Rds K H (List.replicate n.toNat vs).flatten (List.replicate n.toNat xs).flatten m ∧ ∀ b ∈ m, b ∈ n1 := by
          generalize n.toNat = j
          induction j with
          | zero => exact ⟨[], .nil, fun _ h => nomatch h⟩
          | succ j ih =>
            obtain ⟨m, r, hm⟩ := ih
            refine ⟨n1 ++ m, by rw [List.replicate_succ, List.replicate_succ, List.flatten_cons, List.flatten_cons]; exact r1.append r, fun b hb => ?_⟩
            rcases List.mem_append.mp hb with hb | hb
            · exact hb
            · exact hm b hb
        refine .inr ⟨_, n, _, rfl, rfl, e1, hz.1, by rw [r1.length]; exact hz.2, fun e => ?_, fun _ p hp => k _ _ _ (same_upd hp) (rd_newT hp r) (res_tup r (fun b hb => arg_ns (List.mem_cons_self ..) b (hm b hb)))⟩
        have ee : (List.replicate n.toNat xs).flatten = xs := by
          rcases e with e | e
          · subst e
            cases r1
            simp [mkS, finS, bNs, gL1, gL2, gLL2, fI2, tkA, ptA, GS, GL, fPut, ful, l12, l02, DL.D.mut, DL.D.top, DL.D.imm, DL.D.imm.immAll, fdOk, fIx, fMul, fAdd, powOk, gLstL, gTupL, DL.D.ty, lvN, szOk, fLen, fListOf, fTupOf, fSl, gSlN, gSlH, gSlL, gSlB, fIsi, fIsiT, isT, DL.D.tyN, DL.D.isX, fInts, DL.D.seqI, fLenSet, fLR, fLR1, gLR2, rgOk, fDict, fAbs, fInt1, gMax2, gMin2, g1S, g2S, fItems, fR1, fR2, bd62, lowE, clr, bakE, kpE, fApp, fIns, fPop, fPopA, fPopI, fClr, fRev, fExt, allTop, fEq, fNe, fNeg, fIsN, DL.D.isNon, DL.D.key, dGet, canE, nrm, cT, sAug_k, ixN, fRvS, fAll, dBls_map, fIsB, fIdx, msk, Function.comp_def, cut_hi, cut_lo, cut_both]
          · rw [e]; simp [mkS, finS, bNs, gL1, gL2, gLL2, fI2, tkA, ptA, GS, GL, fPut, ful, l12, l02, DL.D.mut, DL.D.top, DL.D.imm, DL.D.imm.immAll, fdOk, fIx, fMul, fAdd, powOk, gLstL, gTupL, DL.D.ty, lvN, szOk, fLen, fListOf, fTupOf, fSl, gSlN, gSlH, gSlL, gSlB, fIsi, fIsiT, isT, DL.D.tyN, DL.D.isX, fInts, DL.D.seqI, fLenSet, fLR, fLR1, gLR2, rgOk, fDict, fAbs, fInt1, gMax2, gMin2, g1S, g2S, fItems, fR1, fR2, bd62, lowE, clr, bakE, kpE, fApp, fIns, fPop, fPopA, fPopI, fClr, fRev, fExt, allTop, fEq, fNe, fNeg, fIsN, DL.D.isNon, DL.D.key, dGet, canE, nrm, cT, sAug_k, ixN, fRvS, fAll, dBls_map, fIsB, fIdx, msk, Function.comp_def, cut_hi, cut_lo, cut_both]
        rw [ee] at k
        exact k _ _ _ (Same.refl H) (.tup e1 r1) (res_tup r1 (fun a ha => arg_ns (List.mem_cons_self ..) a ha))
    · cases hg
  · have hf : fMulA s.d t.d = fMul s.d t.d := by
      obtain ⟨l1, d1, v1, n1⟩ := s
      obtain ⟨l2, d2, v2, n2⟩ := t
      dsimp only at *
      cases d1 <;> first | rfl | (cases d2 <;> first | rfl | exact absurd ⟨_, _, rfl, rfl⟩ c)
    exact .inl (vm [s, t] H Q ok l d (by show fMul s.d t.d = _; rw [← hf]; exact hg) k)
end DL
namespace DL
open L2 PySem PySem.Spec PyProof.Rows
/-- each int once -/
def ddI : List Int → List Int
  | [] => []
  | x :: xs => if x ∈ ddI xs then ddI xs else x :: ddI xs
/-- sorted(set(xs)) -/
def sdI (xs : List Int) : List Int := sortI (ddI xs)
section
variable {X : Cx} {W : WW} {A : List Nat} {f : PF} {f' : EF} {pos : Pos} {a : Expr}
def fSortSet : LD → Option LD := fun x => match x.2.seqI with
  | some is => if is.length < 64 then some (2, .lst ((sdI is).map .int)) else none
  | none => none
end
@[simp] theorem fSortSet_ints (l : Nat) (ns : List Int) : fSortSet (l, .lst (ns.map .int)) = if ns.length < 64 then some (2, .lst ((sdI ns).map .int)) else none := by
  unfold fSortSet
  have e : (D.lst (ns.map .int)).seqI = some ns := dInts_map ns
  rw [show ((l, D.lst (ns.map .int)) : LD).2.seqI = some ns from e]
end DL
namespace DL
open L2 PySem PySem.Spec PyProof.Rows
def cE (x : D) : EF := fun Γ => .ok (2, x) Γ
/-- x[i], x[j] = e, e a pair of things that may not be changed -/
def sPar2 (fv : EF) (i : Nat) (fa fb : EF) : SF := fun Γ => match fv Γ with
  | .ok (_, .tup [x, y]) Γ' => if x.imm && y.imm then sSeq (sPut (GS fPut) (cE x) i fa) (sPut (GS fPut) (cE y) i fb) Γ' else .bad
  | .exc c Γ' => .exc c Γ'
  | _ => .bad
def kPar2 (r : R LD) (i : Nat) (fa fb : EF) : O := match r with
  | .ok (_, .tup [x, y]) Γ' => if x.imm && y.imm then sSeq (sPut (GS fPut) (cE x) i fa) (sPut (GS fPut) (cE y) i fb) Γ' else .bad
  | .exc c Γ' => .exc c Γ'
  | _ => .bad
@[simp] theorem sPar2_k (fv : EF) (i : Nat) (fa fb : EF) (Γ : Env) : sPar2 fv i fa fb Γ = kPar2 (fv Γ) i fa fb := rfl
@[simp] theorem kPar2_ok (l : Nat) (x y : D) (Γ : Env) (i : Nat) (fa fb : EF) : kPar2 (.ok (l, .tup [x, y]) Γ) i fa fb = if x.imm && y.imm then sSeq (sPut (GS fPut) (cE x) i fa) (sPut (GS fPut) (cE y) i fb) Γ else .bad := rfl
@[simp] theorem cE_k (x : D) (Γ : Env) : cE x Γ = .ok (2, x) Γ := rfl
end DL
namespace DL
open L2 PySem PySem.Spec PyProof.Rows
/-- a def's promise where no text is under way -/
def FnG (P : Program) (w : World) (K : PySem.W.Frag) (mg : Str → Option Value) (base : Heap) (CX : CXT) (k : Nat) (f : Addr) (fd : FuncData) (ps : List Str) (sp : Sp) : Prop :=
  ∀ (A : Around) (outer : List PySem.Env) (s : Shared) (H : Hp) (args : Args) (us : List Value) (vs : List V) (Q : VK) (E : XK), A.guards = some [] → Room k A → Env0 P w K mg base A outer s H → BindsTo s fd args (ps.zip us) → Vals vs us → sp vs H Q E →
    codeAny (model P w) A (.call (.ref f) args) (CR CX outer P w H s Q E) s
theorem FnG.imp {P : Program} {w : World} {K : PySem.W.Frag} {mg : Str → Option Value} {base : Heap} {CX : CXT} {k : Nat} {f : Addr} {fd : FuncData} {ps : List Str} {sp sp' : Sp} (F : FnG P w K mg base CX k f fd ps sp)
    (h : ∀ vs H Q E, sp' vs H Q E → sp vs H Q E) : FnG P w K mg base CX k f fd ps sp' :=
  fun A outer s H args us vs Q E hg hr he hb hv hs => F A outer s H args us vs Q E hg hr he hb hv (h _ _ _ _ hs)
end DL
namespace DL
open L2 PySem PySem.Spec PyProof.Rows
/-- hl: the exceptions that the clause takes -/
def sTry (hl : List String) (f g : SF) : SF := fun Γ => match f Γ with
  | .exc c Γ' => if c ∈ hl then g Γ' else .bad
  | o => o
def kTry (hl : List String) (o : O) (g : SF) : O := match o with
  | .exc c Γ' => if c ∈ hl then g Γ' else .bad
  | o => o
@[simp] theorem sTry_k (hl : List String) (f g : SF) (Γ : Env) : sTry hl f g Γ = kTry hl (f Γ) g := rfl
@[simp] theorem kTry_nx (hl : List String) (g : SF) (Γ : Env) : kTry hl (.nx Γ) g = .nx Γ := rfl
@[simp] theorem kTry_rt (hl : List String) (g : SF) (x : LD) (Γ : Env) : kTry hl (.rt x Γ) g = .rt x Γ := rfl
@[simp] theorem kTry_exc (hl : List String) (g : SF) (c : String) (Γ : Env) : kTry hl (.exc c Γ) g = if c ∈ hl then g Γ else .bad := rfl
end DL
namespace DL
open L2 PySem PySem.Spec PyProof.Rows
/-- the variable's thing, as if it were new -/
def pV2 (i : Nat) : PF := fun Γ => match Γ[i]? with
  | some (some (_, d)) => .ok (2, d)
  | _ => .bad
def fre (Γ : Env) (vs : List Nat) : Bool := vs.all fun i => match Γ[i]? with
  | some (some _) => false
  | _ => true
def kLow0 : P LD → P LD
  | .ok x => .ok (0, x.2)
  | .exc c => .exc c
  | .bad => .bad
def pLc0 (A : List Nat) (src : Env → P (List LD)) (bd : BF) (t : PB) (j : Nat) (vs : List Nat) : PF := fun Γ => if fre Γ vs then kLow0 (pLc A src bd t (pV2 j) vs Γ) else .bad
section
variable {Γ : Env}
@[simp] theorem pLc0_k (A : List Nat) (src : Env → P (List LD)) (bd : BF) (t : PB) (j : Nat) (vs : List Nat) : pLc0 A src bd t j vs Γ = if fre Γ vs then kLow0 (pLc A src bd t (pV2 j) vs Γ) else .bad := rfl
@[simp] theorem kLow0_ok (x : LD) : kLow0 (.ok x) = .ok (0, x.2) := rfl
@[simp] theorem fre_nil : fre Γ [] = true := rfl
@[simp] theorem fre_cons (i : Nat) (vs : List Nat) : fre Γ (i :: vs) = ((match Γ[i]? with
  | some (some _) => false
  | _ => true) && fre Γ vs) := rfl
@[simp] theorem pV2_k (i : Nat) : pV2 i Γ = match Γ[i]? with
  | some (some (_, d)) => .ok (2, d)
  | _ => .bad := rfl
end
end DL
namespace DL
open L2 PySem PySem.Spec PyProof.Rows
end DL
namespace DL
open L2 PySem PySem.Spec PyProof.Rows
theorem cls_is {K : PySem.W.Frag} {n : String} {C D : Addr} (h : PySem.W.nsIn K mainGlobals (Str.ofString n) = some (some (.ref D))) (q : clsN K n C) : C = D := by
  unfold clsN at q
  rw [h] at q
  cases q
  rfl
theorem all_cons {P : String → Addr → Prop} {K : PySem.W.Frag} {n : String} {D : Addr} {l : List String} (h : PySem.W.nsIn K mainGlobals (Str.ofString n) = some (some (.ref D))) (hp : P n D) (t : ∀ n ∈ l, ∀ C, clsN K n C → P n C) : ∀ m ∈ n :: l, ∀ C, clsN K m C → P m C := fun m hm C hC => by
  rcases List.mem_cons.mp hm with rfl | hm
  · rw [cls_is h hC]; exact hp
  · exact t m hm C hC
end DL
namespace DL
open L2 PySem PySem.Spec PyProof.Rows
/-- a slot's name goes -/
def offO (i : Nat) : O → O
  | .nx Γ => .nx (Γ.set i none)
  | .bk Γ => .bk (Γ.set i none)
  | .ct Γ => .ct (Γ.set i none)
  | .exc _ _ => .bad
  | o => o
/-- hl: the exceptions that the clause takes; i: the slot of its name -/
def sTryE (hl : List String) (i : Nat) (f g : SF) : SF := fun Γ => match f Γ with
  | .exc c Γ' => if c ∈ hl then (match bName i (2, .exn c) Γ' with
    | some Γ1 => offO i (g Γ1)
    | none => .bad) else .bad
  | o => o
def kTryE (hl : List String) (i : Nat) (o : O) (g : SF) : O := match o with
  | .exc c Γ' => if c ∈ hl then (match bName i (2, .exn c) Γ' with
    | some Γ1 => offO i (g Γ1)
    | none => .bad) else .bad
  | o => o
@[simp] theorem sTryE_k (hl : List String) (i : Nat) (f g : SF) (Γ : Env) : sTryE hl i f g Γ = kTryE hl i (f Γ) g := rfl
@[simp] theorem kTryE_nx (hl : List String) (i : Nat) (g : SF) (Γ : Env) : kTryE hl i (.nx Γ) g = .nx Γ := rfl
@[simp] theorem kTryE_rt (hl : List String) (i : Nat) (g : SF) (x : LD) (Γ : Env) : kTryE hl i (.rt x Γ) g = .rt x Γ := rfl
@[simp] theorem kTryE_exc (hl : List String) (i : Nat) (g : SF) (c : String) (Γ : Env) : kTryE hl i (.exc c Γ) g = if c ∈ hl then (if i < Γ.length then offO i (g (Γ.set i (some (2, .exn c)))) else .bad) else .bad := by
  by_cases h : c ∈ hl <;> by_cases h2 : i < Γ.length <;> simp [mkS, finS, bNs, gL1, gL2, gLL2, fI2, tkA, ptA, GS, GL, fPut, ful, l12, l02, DL.D.mut, DL.D.top, DL.D.imm, DL.D.imm.immAll, fdOk, fIx, fMul, fAdd, powOk, gLstL, gTupL, DL.D.ty, lvN, szOk, fLen, fListOf, fTupOf, fSl, gSlN, gSlH, gSlL, gSlB, fIsi, fIsiT, isT, DL.D.tyN, DL.D.isX, fInts, DL.D.seqI, fLenSet, fLR, fLR1, gLR2, rgOk, fDict, fAbs, fInt1, gMax2, gMin2, g1S, g2S, fItems, fR1, fR2, bd62, lowE, clr, bakE, kpE, fApp, fIns, fPop, fPopA, fPopI, fClr, fRev, fExt, allTop, fEq, fNe, fNeg, fIsN, DL.D.isNon, DL.D.key, dGet, canE, nrm, cT, sAug_k, ixN, fRvS, fAll, dBls_map, fIsB, fIdx, msk, Function.comp_def, cut_hi, cut_lo, cut_both, kTryE, bName, h, h2]
@[simp] theorem offO_nx (i : Nat) (Γ : Env) : offO i (.nx Γ) = .nx (Γ.set i none) := rfl
@[simp] theorem offO_rt (i : Nat) (x : LD) (Γ : Env) : offO i (.rt x Γ) = .rt x Γ := rfl
@[simp] theorem imm_exn (c : String) : (D.exn c).imm = true := rfl
end DL
namespace DL
open L2 PySem PySem.Spec PyProof.Rows
def ixV (i : Nat) (x : LD) (Γ : Env) : R LD := match Γ[i]? with
  | some (some (_, d)) => (if x.2.imm then (match gIx [(0, d), (0, x.2)] with
    | some (_, y) => if y.imm then .ok (2, y) Γ else .bad
    | none => .bad) else .bad)
  | _ => .bad
def eIxV (i : Nat) (f : EF) : EF := fun Γ => match Γ[i]? with
  | some (some _) => (match f Γ with
    | .ok x Γ' => ixV i x Γ'
    | .exc c Γ' => .exc c Γ'
    | .bad => .bad)
  | _ => .bad
section
variable {Γ : Env}
def kIxV (i : Nat) : R LD → R LD
  | .ok x Γ' => ixV i x Γ'
  | .exc c Γ' => .exc c Γ'
  | .bad => .bad
@[simp] theorem eIxV_k (i : Nat) (f : EF) : eIxV i f Γ = match Γ[i]? with
  | some (some _) => kIxV i (f Γ)
  | _ => .bad := rfl
@[simp] theorem kIxV_ok (i : Nat) (x : LD) (Γ' : Env) : kIxV i (.ok x Γ') = ixV i x Γ' := rfl
@[simp] theorem ixV_k (i : Nat) (x : LD) : ixV i x Γ = match Γ[i]? with
  | some (some (_, d)) => (if x.2.imm then (match gIx [(0, d), (0, x.2)] with
    | some (_, y) => if y.imm then .ok (2, y) Γ else .bad
    | none => .bad) else .bad)
  | _ => .bad := rfl
end
end DL
namespace DL
open L2 PySem PySem.Spec PyProof.Rows
structure RoomN (k : Nat) (A : Around) : Prop where
  dp : A.depth + 3 * k + 5 < recursionLimit
  un : A.units + 16 * k + 200 < cLine
theorem RoomN.mono {j k : Nat} {A : Around} (r : RoomN k A) (h : j ≤ k) : RoomN j A := ⟨by have := r.dp; omega, by have := r.un; omega⟩
theorem RoomN.deeper {k : Nat} {A : Around} (r : RoomN (k + 1) A) (env : PySem.Env) : RoomN k (A.deeper env) :=
  ⟨by have := r.dp; show A.depth + 1 + 3 * k + 5 < _; omega, by have := r.un; show A.units + 3 + 16 * k + 200 < _; omega⟩
theorem RoomN.depth {k : Nat} {A : Around} (r : RoomN k A) : A.depth < recursionLimit := by have := r.dp; omega
end DL
namespace DL
open L2 PySem PySem.Spec PyProof.Rows
def srcO (f : EF) : IF' := fun Γ => match f Γ with
  | .ok (l, .lst ds) Γ' => if 2 ≤ l % 10 then .ok (ds.map fun d => (2, d)) Γ' else .bad
  | .ok _ _ => .bad
  | .exc c Γ' => .exc c Γ'
  | .bad => .bad
def kSrcO : R LD → R (List LD)
  | .ok (l, .lst ds) Γ' => if 2 ≤ l % 10 then .ok (ds.map fun d => (2, d)) Γ' else .bad
  | .ok _ _ => .bad
  | .exc c Γ' => .exc c Γ'
  | .bad => .bad
section
variable {Γ : Env}
@[simp] theorem srcO_k (f : EF) : srcO f Γ = kSrcO (f Γ) := by unfold srcO kSrcO; rfl
@[simp] theorem kSrcO_ok (l : Nat) (ds : List D) (Γ' : Env) : kSrcO (.ok (l, .lst ds) Γ') = if 2 ≤ l % 10 then .ok (ds.map fun d => (2, d)) Γ' else .bad := rfl
end
end DL
namespace DL
open L2 PySem PySem.Spec PyProof.Rows
end DL
namespace DL
open L2 PySem PySem.Spec PyProof.Rows
def gLLL3 (f : LD → LD → LD → Option LD) : List LD → Option LD
  | [a, b, c] => f a b c
  | _ => none
def fGet2 : LD → LD → LD → Option LD
  | (l, .dk kds), (_, k), (l3, x) => match k.key with
    | some k => (match dGet kds k with
      | some d => some (if 2 ≤ l % 10 then 2 else 0, d)
      | none => some (if 2 ≤ l3 % 10 then 2 else 0, x))
    | none => none
  | _, _, _ => none
def kIx : List (Key × D) → Key → Option Nat
  | [], _ => none
  | (k1, _) :: r, k => if k1 = k then some 0 else (kIx r k).map (· + 1)
def AtD (x : V) (k : Key) (w : V) (H : Hp) : Prop := ∃ a kvs, x = .ref a ∧ H a = some (.dK kvs) ∧ valV kvs k = some w
def nestD (f : D → List LD → Option (Option D × D)) (k : Key) (kds : List (Key × D)) (as : List LD) : FR := match kIx kds k with
  | some j => (match (kds.map (·.2))[j]? with
    | some di => if di.mut then (match f di as with
      | some (od, d') => .ret (2, od.getD .non) [(2, .dk (kds.set j (k, d')))]
      | none => .bad) else .bad
    | none => .bad)
  | none => .bad
def nestGD (f : D → List LD → Option (Option D × D)) (k : Key) : List LD → FR
  | (l, .dk kds) :: as => if (decide (2 ≤ l % 10) && as.all ful) = true then nestD f k kds as else .bad
  | _ => .bad
theorem AtD.same {x w : V} {k : Key} {H H' : Hp} (h : AtD x k w H) (s : Same H H') : AtD x k w H' := by
  obtain ⟨p, xs, e, h1, h2⟩ := h
  exact ⟨p, xs, e, s p _ h1, h2⟩
def kNesD (T : String) (f : D → List LD → Option (Option D × D)) (i : Nat) (as : List AE) (Γ : Env) (kds : List (Key × D)) (k : Key) : R LD := match dGet kds k with
  | some di => if di.ty == T then eCall (nestGD f k) (.inl i :: as) Γ else .bad
  | none => .bad
def kNeD (T : String) (f : D → List LD → Option (Option D × D)) (i : Nat) (as : List AE) (Γ : Env) (kds : List (Key × D)) : P LD → R LD
  | .ok (_, dk) => (match dk.key with
    | some k => kNesD T f i as Γ kds k
    | none => .bad)
  | .exc c => .exc c Γ
  | .bad => .bad
def eNestD (T : String) (f : D → List LD → Option (Option D × D)) (i : Nat) (fk : PF) (as : List AE) : EF := fun Γ => match Γ[i]? with
  | some (some (_, .dk kds)) => kNeD T f i as Γ kds (fk Γ)
  | _ => .bad
def kNsD (T : String) (f : D → List LD → Option (Option D × D)) (i : Nat) (fk : PF) (as : List AE) (Γ : Env) : Option (Option LD) → R LD
  | some (some (_, .dk kds)) => kNeD T f i as Γ kds (fk Γ)
  | _ => .bad
@[simp] theorem eNestD_k {Γ : Env} (T : String) (f : D → List LD → Option (Option D × D)) (i : Nat) (fk : PF) (as : List AE) : eNestD T f i fk as Γ = kNsD T f i fk as Γ Γ[i]? := by
  unfold eNestD kNsD
  rfl
@[simp] theorem kNsD_some {Γ : Env} (T : String) (f : D → List LD → Option (Option D × D)) (i : Nat) (fk : PF) (as : List AE) (l : Nat) (kds : List (Key × D)) : kNsD T f i fk as Γ (some (some (l, .dk kds))) = kNeD T f i as Γ kds (fk Γ) := rfl
@[simp] theorem kNeD_ok {Γ : Env} (T : String) (f : D → List LD → Option (Option D × D)) (i : Nat) (as : List AE) (kds : List (Key × D)) (l : Nat) (k : Int) : kNeD T f i as Γ kds (.ok (l, .int k)) = kNesD T f i as Γ kds (.inl k) := rfl
@[simp] theorem nestGD_d (f : D → List LD → Option (Option D × D)) (k : Key) (l : Nat) (kds : List (Key × D)) (as : List LD) : nestGD f k ((l, .dk kds) :: as) = if (decide (2 ≤ l % 10) && as.all ful) = true then nestD f k kds as else .bad := rfl
@[simp] theorem fGet2_d (l l2 l3 : Nat) (kds : List (Key × D)) (k : Int) (x : D) : fGet2 (l, .dk kds) (l2, .int k) (l3, x) = match dGet kds (.inl k) with
  | some d => some (if 2 ≤ l % 10 then 2 else 0, d)
  | none => some (if 2 ≤ l3 % 10 then 2 else 0, x) := rfl
end DL
namespace DL
open L2 PySem PySem.Spec PyProof.Rows
def fCntB : LD → LD → Option LD := fun x y => match x.2, y.2 with
  | .lst xs, .bl b => (dBls xs).map fun bs => ((2, .int ((bs.countP fun c => c == b : Nat) : Int)) : LD)
  | _, _ => none
def fIdxB : LD → LD → Option LD := fun x y => match x.2, y.2 with
  | .lst xs, .bl b => (dBls xs).bind fun bs => (bs.findIdx? fun i => i == b).map fun (j : Nat) => ((2, .int (j : Int)) : LD)
  | _, _ => none
end DL
namespace DL
open L2 PySem PySem.Spec PyProof.Rows
mutual
/-- the value is the key; no texts in it -/
inductive NkV (K : PySem.W.Frag) (H : Hp) : V → NestedKey → Prop
  | non : NkV K H .non .none
  | bl (b : Bool) : NkV K H (.bl b) (.num (if b = true then 1 else 0))
  | int (i : Int) : NkV K H (.int i) (.num i)
  | tup {a : Addr} {vs : List V} {ks : List NestedKey} : SqT K H a vs → NkVs K H vs ks → NkV K H (.ref a) (.tup ks)
inductive NkVs (K : PySem.W.Frag) (H : Hp) : List V → List NestedKey → Prop
  | nil : NkVs K H [] []
  | cons {v : V} {k : NestedKey} {vs : List V} {ks : List NestedKey} : NkV K H v k → NkVs K H vs ks → NkVs K H (v :: vs) (k :: ks)
end
section
variable {X : Cx} {pins : List (Addr × Obj)} {σ : L2.St} {H : Hp} {s : Shared}
mutual
theorem NkV.is (I : Inv X pins σ H s) : ∀ (k : NestedKey) (v : V) (u : Value), NkV X.K H v k → RelV v u → NestedIs s.heap k u
  | .none, _, u, .non, r => by
    cases (show u = Value.none from r)
    exact .none
  | .num _, _, u, .bl b, r => by
    cases (show u = Value.bool b from r)
    exact .bool rfl
  | .num _, _, u, .int i, r => by
    obtain ⟨t, rfl⟩ := (show ∃ t, u = Value.int i t from r)
    exact .int _ _
  | .tup ks, _, u, .tup (a := a) h hs, r => by
    cases (show u = Value.ref a from r)
    obtain ⟨its, rv, ⟨o, e, c, n, d⟩, _⟩ := I.tuple h
    exact .tup e c d (NkVs.is I ks _ _ hs rv)
theorem NkVs.is (I : Inv X pins σ H s) : ∀ (ks : List NestedKey) (vs : List V) (us : List Value), NkVs X.K H vs ks → Vals vs us → NestedAll s.heap ks us
  | [], _, _, .nil, .nil => .nil
  | k :: ks, _, _, .cons h hs, .cons r t => .cons (NkV.is I k _ _ h r) (NkVs.is I ks _ _ hs t)
end
mutual
theorem NkV.hash {K : PySem.W.Frag} : ∀ (k : NestedKey) (v : V), NkV K H v k → ∀ w w', k.hash w = k.hash w'
  | .none, _, .non => fun _ _ => rfl
  | .num _, _, .bl _ => fun _ _ => rfl
  | .num _, _, .int _ => fun _ _ => rfl
  | .tup ks, _, .tup h hs => fun w w' => by rw [NestedKey.hash, NestedKey.hash, NkVs.hash ks _ hs w w']
theorem NkVs.hash {K : PySem.W.Frag} : ∀ (ks : List NestedKey) (vs : List V), NkVs K H vs ks → ∀ w w', NestedKey.hashes w ks = NestedKey.hashes w' ks
  | [], _, .nil => fun _ _ => rfl
  | k :: ks, _, .cons h hs => fun w w' => by rw [NestedKey.hashes, NestedKey.hashes, NkV.hash k _ h w w', NkVs.hash ks _ hs w w']
end
mutual
theorem Rd.nk {K : PySem.W.Frag} : ∀ (d : D) (v : V) (ns : List Addr) (k : NestedKey), Rd K H v d ns → d.nk = some k → NkV K H v k
  | .non, _, _, _, .non, e => by cases e; exact .non
  | .bl _, _, _, _, .bl b, e => by cases e; exact .bl b
  | .int _, _, _, _, .int i, e => by cases e; exact .int i
  | .tup ds, _, _, _, .tup h r, e => by
    rw [D.nk] at e
    obtain ⟨ks, h1, rfl⟩ := Option.map_eq_some_iff.mp e
    exact .tup h (Rds.nk ds _ _ _ r h1)
theorem Rds.nk {K : PySem.W.Frag} : ∀ (ds : List D) (vs : List V) (ns : List Addr) (ks : List NestedKey), Rds K H vs ds ns → nkL ds = some ks → NkVs K H vs ks
  | [], _, _, _, .nil, e => by cases e; exact .nil
  | d :: ds, _, _, _, .cons h r, e => by
    rw [nkL] at e
    cases e1 : d.nk with
    | none => rw [e1] at e; cases e
    | some k =>
      cases e2 : nkL ds with
      | none => rw [e1, e2] at e; cases e
      | some ks =>
        rw [e1, e2] at e
        cases e
        exact .cons (Rd.nk d _ _ _ h e1) (Rds.nk ds _ _ _ r e2)
end
end
theorem Rd.nkey {K : PySem.W.Frag} {H : Hp} {d : D} {v : V} {ns : List Addr} {k : NestedKey} (h : Rd K H v d ns) (e : d.nkey = some k) : NkV K H v k ∧ k.depth ≤ 8 ∧ ∃ b, v = .ref b := by
  cases h with
  | @tup a vs ds ns h r =>
    simp only [D.nkey] at e
    cases e1 : nkL ds with
    | none => rw [e1] at e; cases e
    | some ks =>
      rw [e1] at e
      dsimp only at e
      split at e
      · rename_i hd
        cases e
        exact ⟨.tup h (Rds.nk ds _ _ _ r e1), hd, _, rfl⟩
      · cases e
  | _ => cases e
abbrev NKvs := List (NestedKey × Addr × V)
def atN (kvs : NKvs) (k : NestedKey) : Option V := (kvs.find? fun x => decide (x.1 = k)).map (·.2.2)
def putN (kvs : NKvs) (k : NestedKey) (b : Addr) (v : V) : NKvs := if (atN kvs k).isSome = true then kvs.map (fun x => if x.1 = k then (x.1, x.2.1, v) else x) else kvs ++ [(k, b, v)]
abbrev NKv : NKvs → List (NestedKey × Addr × Value) → Prop := Paired fun (p : NestedKey × Addr × V) (q : NestedKey × Addr × Value) => p.1 = q.1 ∧ p.2.1 = q.2.1 ∧ RelV p.2.2 q.2.2
theorem NKv.at {kvs : NKvs} {xs : List (NestedKey × Addr × Value)} (k : NestedKey) (r : NKv kvs xs) : RelO (atN kvs k) ((atKey xs k).map (·.2)) := by
  induction r with
  | nil => exact True.intro
  | @cons p q ps qs h t ih =>
    by_cases c : p.1 = k
    · have c' : q.1 = k := by rw [← h.1]; exact c
      simp only [atN, atKey, List.find?_cons, c, c', decide_true, Option.map_some]
      exact h.2.2
    · have c' : ¬ q.1 = k := by rw [← h.1]; exact c
      simpa [mkS, finS, bNs, gL1, gL2, gLL2, fI2, tkA, ptA, GS, GL, fPut, ful, l12, l02, DL.D.mut, DL.D.top, DL.D.imm, DL.D.imm.immAll, fdOk, fIx, fMul, fAdd, powOk, gLstL, gTupL, DL.D.ty, lvN, szOk, fLen, fListOf, fTupOf, fSl, gSlN, gSlH, gSlL, gSlB, fIsi, fIsiT, isT, DL.D.tyN, DL.D.isX, fInts, DL.D.seqI, fLenSet, fLR, fLR1, gLR2, rgOk, fDict, fAbs, fInt1, gMax2, gMin2, g1S, g2S, fItems, fR1, fR2, bd62, lowE, clr, bakE, kpE, fApp, fIns, fPop, fPopA, fPopI, fClr, fRev, fExt, allTop, fEq, fNe, fNeg, fIsN, DL.D.isNon, DL.D.key, dGet, canE, nrm, cT, sAug_k, ixN, fRvS, fAll, dBls_map, fIsB, fIdx, msk, Function.comp_def, cut_hi, cut_lo, cut_both, gLLL3, fCntB, fIdxB, atN, atKey, List.find?_cons, c, c'] using ih
theorem NKv.put {kvs : NKvs} {xs : List (NestedKey × Addr × Value)} (k : NestedKey) (b : Addr) {v : V} {u : Value} (r : NKv kvs xs) (ru : RelV v u) : NKv (putN kvs k b v) (storedH xs k b u) := by
  have e := (r.at k).isSome_eq
  rw [Option.isSome_map] at e
  unfold putN storedH
  rw [e]
  by_cases c : (atKey xs k).isSome = true
  · rw [if_pos c, if_pos c]
    clear e c
    induction r with
    | nil => exact .nil
    | @cons p q ps qs h t ih =>
      refine .cons ?_ ih
      by_cases d : p.1 = k
      · have d' : q.1 = k := by rw [← h.1]; exact d
        simp only [putAt, d, d', if_true]
        exact ⟨trivial, h.2.1, ru⟩
      · have d' : ¬ q.1 = k := by rw [← h.1]; exact d
        simp only [putAt, d, d', if_false]
        exact h
  · rw [if_neg c, if_neg c]
    clear e c
    induction r with
    | nil => exact .cons ⟨rfl, rfl, ru⟩ .nil
    | cons h t ih => exact .cons h ih
/-- the keys are there -/
def KeysN (K : PySem.W.Frag) (H : Hp) (kvs : NKvs) : Prop := ∀ x ∈ kvs, NkV K H (.ref x.2.1) x.1 ∧ x.1.depth ≤ 8
theorem KeysN.put {K : PySem.W.Frag} {H : Hp} {kvs : NKvs} {k : NestedKey} {b : Addr} {v : V} (h : KeysN K H kvs) (h1 : NkV K H (.ref b) k) (h2 : k.depth ≤ 8) : KeysN K H (putN kvs k b v) := by
  unfold putN
  split
  · intro x hx
    obtain ⟨y, hy, rfl⟩ := List.mem_map.mp hx
    have := h y hy
    by_cases c : y.1 = k
    · rw [if_pos c]; exact this
    · rw [if_neg c]; exact this
  · intro x hx
    rcases List.mem_append.mp hx with hx | hx
    · exact h x hx
    · rw [List.mem_singleton.mp hx]; exact ⟨h1, h2⟩
def NdAt (K : PySem.W.Frag) (H : Hp) (a : Addr) (kvs : NKvs) : Prop := (∃ ep, L2.Rd H a (NdO a ep kvs)) ∧ KeysN K H kvs
section
variable {X : Cx} {pins : List (Addr × Obj)} {σ : L2.St} {H : Hp} {s : Shared} {a b : Addr} {kvs : NKvs} {k : NestedKey} {ep : Nat}
theorem nd_phi {h : Heap} (hz : ObjOk X.prog X.w H h a (NdO a ep kvs)) : kvs.length ≤ sizeLine ∧ (a == sysModules) = false ∧ ∃ xs : List (NestedKey × Addr × Value), NKv kvs xs ∧
  ∃ o es, h.get? a = some o ∧ o.ExactDict ∧ o.data = .dict es ep ∧ (∀ w : World, es.toList = xs.map fun x => (⟨x.1.hash w, .ref x.2.1, x.2.2⟩ : DictEntry)) ∧ (xs.map (·.1)).Nodup := hz.1
theorem keys_is (I : Inv X pins σ H s) (h : KeysN X.K H kvs) {xs : List (NestedKey × Addr × Value)} (r : NKv kvs xs) : ∀ x ∈ xs, (nestedKind X.prog X.w).is s.heap x.1 x.2.1 ∧ ∀ w w', x.1.hash w = x.1.hash w' := by
  induction r with
  | nil => intro x hx; exact nomatch hx
  | @cons p q ps qs hq t ih =>
    intro x hx
    rcases List.mem_cons.mp hx with rfl | hx
    · have := h p (List.mem_cons_self ..)
      rw [hq.1, hq.2.1] at this
      exact ⟨⟨NkV.is I _ _ _ this.1 rfl, this.2⟩, NkV.hash _ _ this.1⟩
    · exact ih (fun y hy => h y (List.mem_cons_of_mem _ hy)) x hx
theorem nd_of (I : Inv X pins σ H s) (g : NdAt X.K H a kvs) : kvs.length ≤ sizeLine ∧ (a == sysModules) = false ∧ ∃ xs, NKv kvs xs ∧ s.heap.DictOfH (nestedKind X.prog X.w) a xs := by
  obtain ⟨⟨ep, g1⟩, g2⟩ := g
  have hz : ObjOk X.prog X.w H s.heap a (NdO a ep kvs) := by
    rcases g1 with e | ⟨o, e⟩
    · exact I.hok a _ e
    · obtain ⟨_, q⟩ := I.hok a _ e
      exact q
  obtain ⟨z, hd, xs, r, o, es, h1, h2, h3, h4, h5⟩ := nd_phi hz
  exact ⟨z, hd, xs, r, o, es, ep, h1, h2, h3, h4 X.w, fun x hx => (keys_is I g2 r x hx).1, h5⟩
theorem room_in1 {A : Around} (hu : A.units + 9 < cLine) : (nestedKind X.prog X.w).room A.in1 := by
  show A.units + 1 + 8 < cLine
  omega
def rInN (K : PySem.W.Frag) (p : Bool) : R2 := fun y x H Q => ∃ a b kvs k, x = .ref a ∧ y = .ref b ∧ NdAt K H a kvs ∧ NkV K H y k ∧ k.depth ≤ 8 ∧ Q (.bl ((atN kvs k).isSome == p)) H
theorem op_notInN (hu : X.A.units + 9 < cLine) : OpR X (compareOp .NotIn) (rInN X.K false) := by
  intro pins s σ H x y v u Q I rx ry h
  obtain ⟨a, b, kvs, k, rfl, rfl, g, hk, hd, q⟩ := h
  obtain rfl : v = Value.ref b := rx
  obtain rfl : u = Value.ref a := ry
  obtain ⟨_, hs, xs, r, dd⟩ := nd_of I g
  refine wpAny_notIn_heap (room_in1 hu) ⟨NkV.is I _ _ _ hk rfl, hd⟩ hs dd ?_
  have e := (r.at k).isSome_eq
  rw [Option.isSome_map] at e
  rw [← e]
  rw [beq_false] at q
  exact ⟨.bl _, H, I.tok _, rfl, q⟩
end
end DL
namespace DL
open L2 PySem PySem.Spec PyProof.Rows
def nGet : List D → List D → NestedKey → Option D
  | k1 :: ks, d :: ds, k => if k1.nkey = some k then some d else nGet ks ds k
  | _, _, _ => none
def nSet : List D → List D → NestedKey → D → List D
  | k1 :: ks, d :: ds, k, x => if k1.nkey = some k then x :: ds else d :: nSet ks ds k x
  | _, ds, _, _ => ds
section
variable {K : PySem.W.Frag} {H : Hp}
theorem nGet_rd {k : NestedKey} : ∀ {kvs : NKvs} {ks ds : List D} {ns : List Addr}, ks.map D.nkey = kvs.map (fun x => some x.1) → Rds K H (kvs.map (·.2.2)) ds ns →
    (nGet ks ds k = none → atN kvs k = none) ∧ ∀ d, nGet ks ds k = some d → ∃ v n n1 n2, atN kvs k = some v ∧ Rd K H v d n ∧ ns = n1 ++ (n ++ n2)
  | [], [], [], _, _, .nil => ⟨fun _ => rfl, fun d h => nomatch h⟩
  | [], _ :: _, _, _, e, _ => by simp [mkS, finS, bNs, gL1, gL2, gLL2, fI2, tkA, ptA, GS, GL, fPut, ful, l12, l02, DL.D.mut, DL.D.top, DL.D.imm, DL.D.imm.immAll, fdOk, fIx, fMul, fAdd, powOk, gLstL, gTupL, DL.D.ty, lvN, szOk, fLen, fListOf, fTupOf, fSl, gSlN, gSlH, gSlL, gSlB, fIsi, fIsiT, isT, DL.D.tyN, DL.D.isX, fInts, DL.D.seqI, fLenSet, fLR, fLR1, gLR2, rgOk, fDict, fAbs, fInt1, gMax2, gMin2, g1S, g2S, fItems, fR1, fR2, bd62, lowE, clr, bakE, kpE, fApp, fIns, fPop, fPopA, fPopI, fClr, fRev, fExt, allTop, fEq, fNe, fNeg, fIsN, DL.D.isNon, DL.D.key, dGet, canE, nrm, cT, sAug_k, ixN, fRvS, fAll, dBls_map, fIsB, fIdx, msk, Function.comp_def, cut_hi, cut_lo, cut_both, gLLL3, fCntB, fIdxB] at e
  | _ :: _, [], _, _, e, _ => by simp [mkS, finS, bNs, gL1, gL2, gLL2, fI2, tkA, ptA, GS, GL, fPut, ful, l12, l02, DL.D.mut, DL.D.top, DL.D.imm, DL.D.imm.immAll, fdOk, fIx, fMul, fAdd, powOk, gLstL, gTupL, DL.D.ty, lvN, szOk, fLen, fListOf, fTupOf, fSl, gSlN, gSlH, gSlL, gSlB, fIsi, fIsiT, isT, DL.D.tyN, DL.D.isX, fInts, DL.D.seqI, fLenSet, fLR, fLR1, gLR2, rgOk, fDict, fAbs, fInt1, gMax2, gMin2, g1S, g2S, fItems, fR1, fR2, bd62, lowE, clr, bakE, kpE, fApp, fIns, fPop, fPopA, fPopI, fClr, fRev, fExt, allTop, fEq, fNe, fNeg, fIsN, DL.D.isNon, DL.D.key, dGet, canE, nrm, cT, sAug_k, ixN, fRvS, fAll, dBls_map, fIsB, fIdx, msk, Function.comp_def, cut_hi, cut_lo, cut_both, gLLL3, fCntB, fIdxB] at e
  | (k1, b, v) :: kvs, k2 :: ks, d :: ds, _, e, .cons (n := n) (ns := ns) h r => by
    simp only [List.map_cons, List.cons.injEq] at e
    obtain ⟨e1, e2⟩ := e
    obtain ⟨i1, i2⟩ := nGet_rd (k := k) e2 r
    by_cases c : k1 = k
    · have a1 : nGet (k2 :: ks) (d :: ds) k = some d := by rw [nGet, e1, c, if_pos rfl]
      have a2 : atN ((k1, b, v) :: kvs) k = some v := by simp [mkS, finS, bNs, gL1, gL2, gLL2, fI2, tkA, ptA, GS, GL, fPut, ful, l12, l02, DL.D.mut, DL.D.top, DL.D.imm, DL.D.imm.immAll, fdOk, fIx, fMul, fAdd, powOk, gLstL, gTupL, DL.D.ty, lvN, szOk, fLen, fListOf, fTupOf, fSl, gSlN, gSlH, gSlL, gSlB, fIsi, fIsiT, isT, DL.D.tyN, DL.D.isX, fInts, DL.D.seqI, fLenSet, fLR, fLR1, gLR2, rgOk, fDict, fAbs, fInt1, gMax2, gMin2, g1S, g2S, fItems, fR1, fR2, bd62, lowE, clr, bakE, kpE, fApp, fIns, fPop, fPopA, fPopI, fClr, fRev, fExt, allTop, fEq, fNe, fNeg, fIsN, DL.D.isNon, DL.D.key, dGet, canE, nrm, cT, sAug_k, ixN, fRvS, fAll, dBls_map, fIsB, fIdx, msk, Function.comp_def, cut_hi, cut_lo, cut_both, gLLL3, fCntB, fIdxB, atN, List.find?_cons, c]
      rw [a1, a2]
      exact ⟨(fun q => nomatch q), fun d' hd => by cases hd; exact ⟨v, n, [], ns, rfl, h, rfl⟩⟩
    · have a1 : nGet (k2 :: ks) (d :: ds) k = nGet ks ds k := by rw [nGet, e1, if_neg (fun z => c (Option.some.inj z))]
      have a2 : atN ((k1, b, v) :: kvs) k = atN kvs k := by simp [mkS, finS, bNs, gL1, gL2, gLL2, fI2, tkA, ptA, GS, GL, fPut, ful, l12, l02, DL.D.mut, DL.D.top, DL.D.imm, DL.D.imm.immAll, fdOk, fIx, fMul, fAdd, powOk, gLstL, gTupL, DL.D.ty, lvN, szOk, fLen, fListOf, fTupOf, fSl, gSlN, gSlH, gSlL, gSlB, fIsi, fIsiT, isT, DL.D.tyN, DL.D.isX, fInts, DL.D.seqI, fLenSet, fLR, fLR1, gLR2, rgOk, fDict, fAbs, fInt1, gMax2, gMin2, g1S, g2S, fItems, fR1, fR2, bd62, lowE, clr, bakE, kpE, fApp, fIns, fPop, fPopA, fPopI, fClr, fRev, fExt, allTop, fEq, fNe, fNeg, fIsN, DL.D.isNon, DL.D.key, dGet, canE, nrm, cT, sAug_k, ixN, fRvS, fAll, dBls_map, fIsB, fIdx, msk, Function.comp_def, cut_hi, cut_lo, cut_both, gLLL3, fCntB, fIdxB, atN, List.find?_cons, c]
      rw [a1, a2]
      refine ⟨i1, fun d' hd => ?_⟩
      obtain ⟨v', m, m1, m2, h1, h2, h3⟩ := i2 d' hd
      exact ⟨v', m, n ++ m1, m2, h1, h2, by rw [h3, List.append_assoc]⟩
theorem rd_keys : ∀ {kvs : NKvs} {ks : List D} {ns : List Addr}, ks.map D.nkey = kvs.map (fun x => some x.1) → Rds K H (kvs.map fun x => V.ref x.2.1) ks ns → KeysN K H kvs
  | [], [], _, _, .nil => fun x hx => nomatch hx
  | [], _ :: _, _, e, _ => by simp [mkS, finS, bNs, gL1, gL2, gLL2, fI2, tkA, ptA, GS, GL, fPut, ful, l12, l02, DL.D.mut, DL.D.top, DL.D.imm, DL.D.imm.immAll, fdOk, fIx, fMul, fAdd, powOk, gLstL, gTupL, DL.D.ty, lvN, szOk, fLen, fListOf, fTupOf, fSl, gSlN, gSlH, gSlL, gSlB, fIsi, fIsiT, isT, DL.D.tyN, DL.D.isX, fInts, DL.D.seqI, fLenSet, fLR, fLR1, gLR2, rgOk, fDict, fAbs, fInt1, gMax2, gMin2, g1S, g2S, fItems, fR1, fR2, bd62, lowE, clr, bakE, kpE, fApp, fIns, fPop, fPopA, fPopI, fClr, fRev, fExt, allTop, fEq, fNe, fNeg, fIsN, DL.D.isNon, DL.D.key, dGet, canE, nrm, cT, sAug_k, ixN, fRvS, fAll, dBls_map, fIsB, fIdx, msk, Function.comp_def, cut_hi, cut_lo, cut_both, gLLL3, fCntB, fIdxB] at e
  | _ :: _, [], _, e, _ => by simp [mkS, finS, bNs, gL1, gL2, gLL2, fI2, tkA, ptA, GS, GL, fPut, ful, l12, l02, DL.D.mut, DL.D.top, DL.D.imm, DL.D.imm.immAll, fdOk, fIx, fMul, fAdd, powOk, gLstL, gTupL, DL.D.ty, lvN, szOk, fLen, fListOf, fTupOf, fSl, gSlN, gSlH, gSlL, gSlB, fIsi, fIsiT, isT, DL.D.tyN, DL.D.isX, fInts, DL.D.seqI, fLenSet, fLR, fLR1, gLR2, rgOk, fDict, fAbs, fInt1, gMax2, gMin2, g1S, g2S, fItems, fR1, fR2, bd62, lowE, clr, bakE, kpE, fApp, fIns, fPop, fPopA, fPopI, fClr, fRev, fExt, allTop, fEq, fNe, fNeg, fIsN, DL.D.isNon, DL.D.key, dGet, canE, nrm, cT, sAug_k, ixN, fRvS, fAll, dBls_map, fIsB, fIdx, msk, Function.comp_def, cut_hi, cut_lo, cut_both, gLLL3, fCntB, fIdxB] at e
  | (k1, b, v) :: kvs, k2 :: ks, _, e, .cons h r => by
    simp only [List.map_cons, List.cons.injEq] at e
    obtain ⟨e1, e2⟩ := e
    intro x hx
    rcases List.mem_cons.mp hx with rfl | hx
    · obtain ⟨h1, h2, _⟩ := h.nkey e1
      exact ⟨h1, h2⟩
    · exact rd_keys e2 r x hx
end
def fIxN : LD → LD → Option LD
  | (l, .nd ks ds), (_, k) => match k.nkey with
    | some k => (nGet ks ds k).map fun d => (if 2 ≤ l % 10 then 2 else 0, d)
    | none => none
  | x, y => fIx x y
def fInN (p : Bool) : D → D → Option LD
  | a, .nd ks ds => match a.nkey with
    | some k => some (2, .bl ((nGet ks ds k).isSome == p))
    | none => none
  | a, b => fIn p a b
def rNotInAnyN (K : PySem.W.Frag) : R2 := fun x y H Q => rNotInAny K x y H Q ∨ rInN K false x y H Q
theorem op_notInAnyN {X : Cx} (hu : X.A.units + 65 < cLine) : OpR X (compareOp .NotIn) (rNotInAnyN X.K) := (op_notInAny hu).or (op_notInN (by omega))
theorem vInGenN {K : PySem.W.Frag} {r r' : R2} (p : Bool) (hv : VOk K (r2l r) (gL2 (fIn p))) (hr : ∀ x y H Q, (r x y H Q ∨ rInN K p x y H Q) → r' x y H Q) : VOk K (r2l r') (gL2 (fInN p)) := vL2 (fun s t H Q ok h1 h2 l d hg k => by
  obtain ⟨l1, d1, v1, n1⟩ := s
  obtain ⟨l2, d2, v2, n2⟩ := t
  refine hr _ _ _ _ ?_
  by_cases c : ∃ ks ds, d2 = .nd ks ds
  · obtain ⟨ks, ds, rfl⟩ := c
    dsimp only at *
    simp only [fInN] at hg
    split at hg
    · rename_i k0 hk
      cases hg
      obtain ⟨hk1, hk2, b, rfl⟩ := h1.nkey hk
      cases h2 with
      | @nd a _ kvs _ _ ns e1 en ek r1 r2 =>
        obtain ⟨q1, q2⟩ := nGet_rd (k := k0) ek r2
        refine .inr ⟨a, b, kvs, k0, rfl, rfl, ⟨⟨_, .inl e1⟩, rd_keys ek r1⟩, hk1, hk2, ?_⟩
        have e : (atN kvs k0).isSome = (nGet ks ds k0).isSome := by
          cases c : nGet ks ds k0 with
          | none => rw [q1 c]; rfl
          | some d =>
            obtain ⟨v, n, m1, m2, c1, _, _⟩ := q2 d c
            rw [c1]; rfl
        rw [e]
        exact k _ [] H (Same.refl H) (.bl _) (res_imm rfl)
    · cases hg
  · refine .inl (hv [⟨l1, d1, v1, n1⟩, ⟨l2, d2, v2, n2⟩] H Q ok l d ?_ k)
    have : fInN p d1 d2 = fIn p d1 d2 := by
      unfold fInN
      split
      · rename_i ks ds
        exact absurd ⟨ks, ds, rfl⟩ c
      · rfl
    rw [← hg]
    show fIn p d1 d2 = fInN p d1 d2
    rw [this])
theorem vNotInN {K : PySem.W.Frag} : VOk K (r2l (rNotInAnyN K)) (gL2 (fInN false)) := vInGenN false vNotIn fun _ _ _ _ h => h
def fPutN : D → List LD → Option (Option D × D)
  | .nd ks ds, [x, (_, d)] => (match d.nkey with
    | some k => if szOk (ks.length + 1) then (match nGet ks ds k with
      | some _ => some (none, .nd ks (nSet ks ds k x.2))
      | none => some (none, .nd (ks ++ [d]) (ds ++ [x.2]))) else none
    | none => none)
  | d, as => fPut d as
section
variable {K : PySem.W.Frag} {H : Hp}
theorem replN_no {k : NestedKey} {x : V} : ∀ {l : NKvs}, k ∉ l.map (·.1) → (l.map fun kv => if kv.1 = k then (kv.1, kv.2.1, x) else kv) = l
  | [], _ => rfl
  | (j, y) :: l, h => by
    simp only [List.map_cons, List.mem_cons, not_or] at h ⊢
    rw [if_neg (fun e => h.1 e.symm), replN_no h.2]
theorem Rds.replN {k : NestedKey} {d1 : D} {v1 : V} {n1 : List Addr} (r1 : Rd K H v1 d1 n1) : ∀ {kvs : NKvs} {ks ds : List D} {ns : List Addr}, ks.map D.nkey = kvs.map (fun x => some x.1) → (kvs.map (·.1)).Nodup → Rds K H (kvs.map (·.2.2)) ds ns →
    ∃ m, Rds K H ((kvs.map fun kv => if kv.1 = k then (kv.1, kv.2.1, v1) else kv).map (·.2.2)) (nSet ks ds k d1) m ∧ ∀ a, m.count a ≤ ns.count a + n1.count a
  | [], [], [], _, _, _, .nil => ⟨[], .nil, fun a => by simp [mkS, finS, bNs, gL1, gL2, gLL2, fI2, tkA, ptA, GS, GL, fPut, ful, l12, l02, DL.D.mut, DL.D.top, DL.D.imm, DL.D.imm.immAll, fdOk, fIx, fMul, fAdd, powOk, gLstL, gTupL, DL.D.ty, lvN, szOk, fLen, fListOf, fTupOf, fSl, gSlN, gSlH, gSlL, gSlB, fIsi, fIsiT, isT, DL.D.tyN, DL.D.isX, fInts, DL.D.seqI, fLenSet, fLR, fLR1, gLR2, rgOk, fDict, fAbs, fInt1, gMax2, gMin2, g1S, g2S, fItems, fR1, fR2, bd62, lowE, clr, bakE, kpE, fApp, fIns, fPop, fPopA, fPopI, fClr, fRev, fExt, allTop, fEq, fNe, fNeg, fIsN, DL.D.isNon, DL.D.key, dGet, canE, nrm, cT, sAug_k, ixN, fRvS, fAll, dBls_map, fIsB, fIdx, msk, Function.comp_def, cut_hi, cut_lo, cut_both, gLLL3, fCntB, fIdxB]⟩
  | [], _ :: _, _, _, e, _, _ => by simp [mkS, finS, bNs, gL1, gL2, gLL2, fI2, tkA, ptA, GS, GL, fPut, ful, l12, l02, DL.D.mut, DL.D.top, DL.D.imm, DL.D.imm.immAll, fdOk, fIx, fMul, fAdd, powOk, gLstL, gTupL, DL.D.ty, lvN, szOk, fLen, fListOf, fTupOf, fSl, gSlN, gSlH, gSlL, gSlB, fIsi, fIsiT, isT, DL.D.tyN, DL.D.isX, fInts, DL.D.seqI, fLenSet, fLR, fLR1, gLR2, rgOk, fDict, fAbs, fInt1, gMax2, gMin2, g1S, g2S, fItems, fR1, fR2, bd62, lowE, clr, bakE, kpE, fApp, fIns, fPop, fPopA, fPopI, fClr, fRev, fExt, allTop, fEq, fNe, fNeg, fIsN, DL.D.isNon, DL.D.key, dGet, canE, nrm, cT, sAug_k, ixN, fRvS, fAll, dBls_map, fIsB, fIdx, msk, Function.comp_def, cut_hi, cut_lo, cut_both, gLLL3, fCntB, fIdxB] at e
  | _ :: _, [], _, _, e, _, _ => by simp [mkS, finS, bNs, gL1, gL2, gLL2, fI2, tkA, ptA, GS, GL, fPut, ful, l12, l02, DL.D.mut, DL.D.top, DL.D.imm, DL.D.imm.immAll, fdOk, fIx, fMul, fAdd, powOk, gLstL, gTupL, DL.D.ty, lvN, szOk, fLen, fListOf, fTupOf, fSl, gSlN, gSlH, gSlL, gSlB, fIsi, fIsiT, isT, DL.D.tyN, DL.D.isX, fInts, DL.D.seqI, fLenSet, fLR, fLR1, gLR2, rgOk, fDict, fAbs, fInt1, gMax2, gMin2, g1S, g2S, fItems, fR1, fR2, bd62, lowE, clr, bakE, kpE, fApp, fIns, fPop, fPopA, fPopI, fClr, fRev, fExt, allTop, fEq, fNe, fNeg, fIsN, DL.D.isNon, DL.D.key, dGet, canE, nrm, cT, sAug_k, ixN, fRvS, fAll, dBls_map, fIsB, fIdx, msk, Function.comp_def, cut_hi, cut_lo, cut_both, gLLL3, fCntB, fIdxB] at e
  | (k1, b, v) :: kvs, k2 :: ks, d :: ds, _, e, nd, .cons (n := n) (ns := ns) h r => by
    simp only [List.map_cons, List.cons.injEq] at e
    obtain ⟨e1, e2⟩ := e
    have nd1 := List.nodup_cons.mp nd
    by_cases c : k1 = k
    · subst c
      have a1 : nSet (k2 :: ks) (d :: ds) k1 d1 = d1 :: ds := by rw [nSet, e1, if_pos rfl]
      rw [a1, List.map_cons, if_pos rfl, replN_no nd1.1]
      exact ⟨_, .cons r1 r, fun a => by simp only [List.count_append]; omega⟩
    · have a1 : nSet (k2 :: ks) (d :: ds) k d1 = d :: nSet ks ds k d1 := by rw [nSet, e1, if_neg (fun z => c (Option.some.inj z))]
      obtain ⟨m, g, q⟩ := Rds.replN r1 e2 nd1.2 r
      rw [a1, List.map_cons, if_neg c]
      exact ⟨_, .cons h g, fun a => by have := q a; simp only [List.count_append]; omega⟩
theorem putN_keys {kvs : NKvs} {k : NestedKey} {b : Addr} {v : V} : (atN kvs k).isSome = true → (putN kvs k b v).map (·.1) = kvs.map (·.1) ∧ (putN kvs k b v).map (fun x => V.ref x.2.1) = kvs.map (fun x => V.ref x.2.1) := by
  intro h
  unfold putN
  rw [if_pos h, List.map_map, List.map_map]
  constructor <;>
  · refine List.map_congr_left fun x _ => ?_
    dsimp only [Function.comp]
    split <;> rfl
theorem atN_mem {k : NestedKey} : ∀ {kvs : NKvs}, atN kvs k = none → k ∉ kvs.map (·.1)
  | [], _ => by simp [mkS, finS, bNs, gL1, gL2, gLL2, fI2, tkA, ptA, GS, GL, fPut, ful, l12, l02, DL.D.mut, DL.D.top, DL.D.imm, DL.D.imm.immAll, fdOk, fIx, fMul, fAdd, powOk, gLstL, gTupL, DL.D.ty, lvN, szOk, fLen, fListOf, fTupOf, fSl, gSlN, gSlH, gSlL, gSlB, fIsi, fIsiT, isT, DL.D.tyN, DL.D.isX, fInts, DL.D.seqI, fLenSet, fLR, fLR1, gLR2, rgOk, fDict, fAbs, fInt1, gMax2, gMin2, g1S, g2S, fItems, fR1, fR2, bd62, lowE, clr, bakE, kpE, fApp, fIns, fPop, fPopA, fPopI, fClr, fRev, fExt, allTop, fEq, fNe, fNeg, fIsN, DL.D.isNon, DL.D.key, dGet, canE, nrm, cT, sAug_k, ixN, fRvS, fAll, dBls_map, fIsB, fIdx, msk, Function.comp_def, cut_hi, cut_lo, cut_both, gLLL3, fCntB, fIdxB]
  | (k1, b, v) :: kvs, h => by
    by_cases c : k1 = k
    · simp [mkS, finS, bNs, gL1, gL2, gLL2, fI2, tkA, ptA, GS, GL, fPut, ful, l12, l02, DL.D.mut, DL.D.top, DL.D.imm, DL.D.imm.immAll, fdOk, fIx, fMul, fAdd, powOk, gLstL, gTupL, DL.D.ty, lvN, szOk, fLen, fListOf, fTupOf, fSl, gSlN, gSlH, gSlL, gSlB, fIsi, fIsiT, isT, DL.D.tyN, DL.D.isX, fInts, DL.D.seqI, fLenSet, fLR, fLR1, gLR2, rgOk, fDict, fAbs, fInt1, gMax2, gMin2, g1S, g2S, fItems, fR1, fR2, bd62, lowE, clr, bakE, kpE, fApp, fIns, fPop, fPopA, fPopI, fClr, fRev, fExt, allTop, fEq, fNe, fNeg, fIsN, DL.D.isNon, DL.D.key, dGet, canE, nrm, cT, sAug_k, ixN, fRvS, fAll, dBls_map, fIsB, fIdx, msk, Function.comp_def, cut_hi, cut_lo, cut_both, gLLL3, fCntB, fIdxB, atN, List.find?_cons, c] at h
    · have h2 : atN kvs k = none := by simpa [mkS, finS, bNs, gL1, gL2, gLL2, fI2, tkA, ptA, GS, GL, fPut, ful, l12, l02, DL.D.mut, DL.D.top, DL.D.imm, DL.D.imm.immAll, fdOk, fIx, fMul, fAdd, powOk, gLstL, gTupL, DL.D.ty, lvN, szOk, fLen, fListOf, fTupOf, fSl, gSlN, gSlH, gSlL, gSlB, fIsi, fIsiT, isT, DL.D.tyN, DL.D.isX, fInts, DL.D.seqI, fLenSet, fLR, fLR1, gLR2, rgOk, fDict, fAbs, fInt1, gMax2, gMin2, g1S, g2S, fItems, fR1, fR2, bd62, lowE, clr, bakE, kpE, fApp, fIns, fPop, fPopA, fPopI, fClr, fRev, fExt, allTop, fEq, fNe, fNeg, fIsN, DL.D.isNon, DL.D.key, dGet, canE, nrm, cT, sAug_k, ixN, fRvS, fAll, dBls_map, fIsB, fIdx, msk, Function.comp_def, cut_hi, cut_lo, cut_both, gLLL3, fCntB, fIdxB, atN, List.find?_cons, c] using h
      simp only [List.map_cons, List.mem_cons, not_or]
      exact ⟨fun e => c e.symm, atN_mem h2⟩
end
end DL
namespace DL
open L2 PySem PySem.Spec PyProof.Rows
def gDispN : List LD → Option LD
  | [(_, kd), x] => (match kd.nkey with
    | some _ => some (l12 (ful x), .nd [kd] [x.2])
    | none => none)
  | _ => none
end DL
namespace DL
open L2 PySem PySem.Spec PyProof.Rows
def pUp (f : PF) : PF := fun Γ => match f Γ with
  | .ok (_, d) => .ok (2, d)
  | .exc c => .exc c
  | .bad => .bad
def kLow1 : P LD → P LD
  | .ok (_, d) => .ok (1, d)
  | .exc c => .exc c
  | .bad => .bad
def pLcL (A : List Nat) (src : Env → P (List LD)) (bd : BF) (t : PB) (f : PF) (vs : List Nat) : PF := fun Γ => if fre Γ vs then kLow1 (pLc A src bd t (pUp f) vs Γ) else .bad
section
variable {Γ : Env}
@[simp] theorem pLcL_k (A : List Nat) (src : Env → P (List LD)) (bd : BF) (t : PB) (f : PF) (vs : List Nat) : pLcL A src bd t f vs Γ = if fre Γ vs then kLow1 (pLc A src bd t (pUp f) vs Γ) else .bad := rfl
@[simp] theorem kLow1_ok (l : Nat) (d : D) : kLow1 (.ok (l, d)) = .ok (1, d) := rfl
def kUp : P LD → P LD
  | .ok (_, d) => .ok (2, d)
  | .exc c => .exc c
  | .bad => .bad
@[simp] theorem pUp_k (f : PF) : pUp f Γ = kUp (f Γ) := rfl
@[simp] theorem kUp_ok (l : Nat) (d : D) : kUp (.ok (l, d)) = .ok (2, d) := rfl
end
end DL
namespace DL
open L2 PySem PySem.Spec PyProof.Rows
def D.tyn : D → String
  | .nd _ _ => "dict"
  | d => d.ty
def pTyN (T : String) (f : PF) : PF := fun Γ => match f Γ with
  | .ok x => if x.2.tyn == T then .ok x else .bad
  | o => o
def fGet1N : LD → LD → Option LD
  | (l, .nd ks ds), (_, k) => match k.nkey with
    | some k => (match nGet ks ds k with
      | some d => some (if 2 ≤ l % 10 then 2 else 0, d)
      | none => some (2, .non))
    | none => none
  | _, _ => none
def remAt (xs : List D) (d : D) : Option Nat := match xs with
  | [] => none
  | x :: xs => if deq x d = true then some 0 else (remAt xs d).map (· + 1)
def fRem : D → List LD → Option (Option D × D)
  | .lst xs, [(_, d)] => if eqd 60 d && eqd 60 (.lst xs) then (match remAt xs d with
    | some j => some (none, .lst (xs.eraseIdx j))
    | none => none) else none
  | _, _ => none
end DL
namespace DL
open L2 PySem PySem.Spec PyProof.Rows
/-- where a key stands -/
def nIx : List D → NestedKey → Option Nat
  | [], _ => none
  | k1 :: ks, k => if k1.nkey = some k then some 0 else (nIx ks k).map (· + 1)
/-- v, x, k: behind x[k][c] = v -/
def gPut2 (c : Int) : List LD → FR
  | [v, (l, .nd ks ds), (_, kd)] => if (decide (2 ≤ l % 10) && ful v) = true then (match kd.nkey with
    | some k => (match nIx ks k with
      | some j => (match ds[j]? with
        | some di => if di.mut then (match fPut di [v, (2, .int c)] with
          | some (none, d') => .ret (2, .non) [(2, .nd ks (ds.set j d'))]
          | _ => .bad) else .bad
        | none => .bad)
      | none => .bad)
    | none => .bad) else .bad
  | _ => .bad
section
variable {X : Cx} {W : WW} {A : List Nat}
def sPut2 (c : Int) (fv : EF) (i : Nat) (fk : EF) : SF := sExpr (eCall (gPut2 c) [.inr fv, .inl i, .inr fk])
end
end DL
namespace DL
open L2 PySem PySem.Spec PyProof.Rows
def sIx : List Str → Str → Option Nat
  | [], _ => none
  | g :: gs, f => if g = f then some 0 else (sIx gs f).map (· + 1)
end DL
namespace DL
open L2 PySem PySem.Spec PyProof.Rows
end DL
namespace DL
open L2 PySem PySem.Spec PyProof.Rows
section
variable {X : Cx} {W : WW} {A A0 : List Nat}
/-- less of what is above -/
theorem Rel.sub {K : PySem.W.Frag} {Z : Zone} {σ : L2.St} {H : Hp} {L : List (Option Sl)} {M : List Tm} {s t : Sl} (R : Rel K Z σ H L (s.tm K :: M)) (h : Rd K H t.v t.d t.ns) (hc : ∀ a, t.own a ≤ s.own a ∧ t.rst a ≤ s.rst a) : Rel K Z σ H L (t.tm K :: M) := by
  have eO : ∀ a, oM (s.tm K :: M) a = s.own a + oM M a := fun _ => rfl
  have eR : ∀ a, rM (s.tm K :: M) a = s.rst a + rM M a := fun _ => rfl
  have fO : ∀ a, oM (t.tm K :: M) a = t.own a + oM M a := fun _ => rfl
  have fR : ∀ a, rM (t.tm K :: M) a = t.rst a + rM M a := fun _ => rfl
  refine ⟨R.len, R.slot, fun m hm => ?_, fun a => ?_, fun a ha => ?_, R.zf, R.pin⟩
  · rcases List.mem_cons.mp hm with rfl | hm
    · exact ⟨h, t.stab K, fun a ha => h.dom _ _ _ a ((t.mem a).mp ha)⟩
    · exact R.tms m (List.mem_cons_of_mem _ hm)
  · have := R.sep a
    have := hc a
    rw [eO, eR] at *
    rw [fO, fR]
    omega
  · have := hc a
    rw [fO] at ha
    exact R.wr a (by rw [eO]; omega)
end
end DL
namespace DL
open L2 PySem PySem.Spec PyProof.Rows
def sAugN (op : Int → Int → Int) (i : Nat) (fk fe : PF) : SF := fun Γ => match Γ[i]? with
  | some (some (l, .nd ks ds)) => if 1 ≤ l % 10 then (match fk Γ with
    | .ok (_, kd) => (match kd.nkey with
      | some k => (match nGet ks ds k with
        | some (.int a) => (match fe Γ with
          | .ok (_, .int b) => if szOk (ks.length + 1) then .nx (Γ.set i (some (l, .nd ks (nSet ks ds k (.int (op a b)))))) else .bad
          | _ => .bad)
        | _ => .bad)
      | none => .bad)
    | _ => .bad) else .bad
  | _ => .bad
def putAllN (kvs more : NKvs) : NKvs := more.foldl (fun acc x => putN acc x.1 x.2.1 x.2.2) kvs
theorem NKv.all : ∀ {more : NKvs} {rs : List (NestedKey × Addr × Value)} {kvs : NKvs} {xs : List (NestedKey × Addr × Value)}, NKv more rs → NKv kvs xs → NKv (putAllN kvs more) (storedAllH xs rs) := by
  intro more rs kvs xs r
  induction r generalizing kvs xs with
  | nil => intro q; exact q
  | @cons p q ps qs h t ih =>
    intro r0
    have e : NKv (putN kvs p.1 p.2.1 p.2.2) (storedH xs q.1 q.2.1 q.2.2) := by
      have := r0.put p.1 p.2.1 h.2.2
      rw [← h.1, ← h.2.1]; exact this
    exact ih e
theorem KeysN.all {K : PySem.W.Frag} {H : Hp} : ∀ {more kvs : NKvs}, KeysN K H kvs → KeysN K H more → KeysN K H (putAllN kvs more)
  | [], _, h, _ => h
  | p :: r, kvs, h, h2 => by
    have hp := h2 p (List.mem_cons_self ..)
    exact KeysN.all (more := r) (h.put hp.1 hp.2) fun x hx => h2 x (List.mem_cons_of_mem _ hx)
structure NdR (K : PySem.W.Frag) (H : Hp) (kvs : NKvs) (ks ds : List D) : Prop where
  nd : (kvs.map (·.1)).Nodup
  keys : ks.map D.nkey = kvs.map (fun x => some x.1)
  rk : Rds K H (kvs.map fun x => V.ref x.2.1) ks []
  rv : Rds K H (kvs.map (·.2.2)) ds []
def nStP (r : List D × List D) (p : D × NestedKey × D) : List D × List D := match nGet r.1 r.2 p.2.1 with
  | some _ => (r.1, nSet r.1 r.2 p.2.1 p.2.2)
  | none => (r.1 ++ [p.1], r.2 ++ [p.2.2])
section
variable {K : PySem.W.Frag} {H : Hp}
theorem Rds.nil_of {vs : List V} {ds : List D} {m : List Addr} (h : Rds K H vs ds m) (e : ∀ a, m.count a ≤ 0) : Rds K H vs ds [] := by
  have : m = [] := by
    cases m with
    | nil => rfl
    | cons a m => have := e a; simp [mkS, finS, bNs, gL1, gL2, gLL2, fI2, tkA, ptA, GS, GL, fPut, ful, l12, l02, DL.D.mut, DL.D.top, DL.D.imm, DL.D.imm.immAll, fdOk, fIx, fMul, fAdd, powOk, gLstL, gTupL, DL.D.ty, lvN, szOk, fLen, fListOf, fTupOf, fSl, gSlN, gSlH, gSlL, gSlB, fIsi, fIsiT, isT, DL.D.tyN, DL.D.isX, fInts, DL.D.seqI, fLenSet, fLR, fLR1, gLR2, rgOk, fDict, fAbs, fInt1, gMax2, gMin2, g1S, g2S, fItems, fR1, fR2, bd62, lowE, clr, bakE, kpE, fApp, fIns, fPop, fPopA, fPopI, fClr, fRev, fExt, allTop, fEq, fNe, fNeg, fIsN, DL.D.isNon, DL.D.key, dGet, canE, nrm, cT, sAug_k, ixN, fRvS, fAll, dBls_map, fIsB, fIdx, msk, Function.comp_def, cut_hi, cut_lo, cut_both, gLLL3, fCntB, fIdxB] at this
  exact this ▸ h
theorem NdR.put {kvs : NKvs} {ks ds : List D} {kd d : D} {k : NestedKey} {b : Addr} {v : V} (h : NdR K H kvs ks ds) (hk : Rd K H (.ref b) kd []) (ek : kd.nkey = some k) (hv : Rd K H v d []) : NdR K H (putN kvs k b v) (nStP (ks, ds) (kd, k, d)).1 (nStP (ks, ds) (kd, k, d)).2 := by
  obtain ⟨q1, q2⟩ := nGet_rd (k := k) h.keys h.rv
  unfold nStP
  dsimp only
  cases eg : nGet ks ds k with
  | some d0 =>
    obtain ⟨v0, _, _, _, g1, _, _⟩ := q2 d0 eg
    have his : (atN kvs k).isSome = true := by rw [g1]; rfl
    obtain ⟨p1, p2⟩ := putN_keys (b := b) (v := v) his
    obtain ⟨m, g, cc⟩ := Rds.replN (k := k) hv h.keys h.nd h.rv
    have pe : putN kvs k b v = kvs.map fun kv => if kv.1 = k then (kv.1, kv.2.1, v) else kv := by unfold putN; rw [if_pos his]
    refine ⟨by rw [p1]; exact h.nd, ?_, by rw [p2]; exact h.rk, by rw [pe]; exact g.nil_of fun a => by have := cc a; simpa [mkS, finS, bNs, gL1, gL2, gLL2, fI2, tkA, ptA, GS, GL, fPut, ful, l12, l02, DL.D.mut, DL.D.top, DL.D.imm, DL.D.imm.immAll, fdOk, fIx, fMul, fAdd, powOk, gLstL, gTupL, DL.D.ty, lvN, szOk, fLen, fListOf, fTupOf, fSl, gSlN, gSlH, gSlL, gSlB, fIsi, fIsiT, isT, DL.D.tyN, DL.D.isX, fInts, DL.D.seqI, fLenSet, fLR, fLR1, gLR2, rgOk, fDict, fAbs, fInt1, gMax2, gMin2, g1S, g2S, fItems, fR1, fR2, bd62, lowE, clr, bakE, kpE, fApp, fIns, fPop, fPopA, fPopI, fClr, fRev, fExt, allTop, fEq, fNe, fNeg, fIsN, DL.D.isNon, DL.D.key, dGet, canE, nrm, cT, sAug_k, ixN, fRvS, fAll, dBls_map, fIsB, fIdx, msk, Function.comp_def, cut_hi, cut_lo, cut_both, gLLL3, fCntB, fIdxB] using this⟩
    rw [h.keys]
    have e3 := congrArg (List.map (some : NestedKey → Option NestedKey)) p1
    rw [List.map_map, List.map_map] at e3
    exact e3.symm
  | none =>
    have hno := q1 eg
    have pe : putN kvs k b v = kvs ++ [(k, b, v)] := by unfold putN; rw [hno]; rfl
    rw [pe]
    refine ⟨?_, by rw [List.map_append, List.map_append, h.keys]; simp [mkS, finS, bNs, gL1, gL2, gLL2, fI2, tkA, ptA, GS, GL, fPut, ful, l12, l02, DL.D.mut, DL.D.top, DL.D.imm, DL.D.imm.immAll, fdOk, fIx, fMul, fAdd, powOk, gLstL, gTupL, DL.D.ty, lvN, szOk, fLen, fListOf, fTupOf, fSl, gSlN, gSlH, gSlL, gSlB, fIsi, fIsiT, isT, DL.D.tyN, DL.D.isX, fInts, DL.D.seqI, fLenSet, fLR, fLR1, gLR2, rgOk, fDict, fAbs, fInt1, gMax2, gMin2, g1S, g2S, fItems, fR1, fR2, bd62, lowE, clr, bakE, kpE, fApp, fIns, fPop, fPopA, fPopI, fClr, fRev, fExt, allTop, fEq, fNe, fNeg, fIsN, DL.D.isNon, DL.D.key, dGet, canE, nrm, cT, sAug_k, ixN, fRvS, fAll, dBls_map, fIsB, fIdx, msk, Function.comp_def, cut_hi, cut_lo, cut_both, gLLL3, fCntB, fIdxB, ek], ?_, ?_⟩
    · rw [List.map_append, List.nodup_append]
      refine ⟨h.nd, by simp, fun a ha b hb e => ?_⟩
      simp only [List.map_cons, List.map_nil, List.mem_singleton] at hb
      subst hb
      exact atN_mem hno (e ▸ ha)
    · have := h.rk.append (.cons hk .nil)
      simpa [mkS, finS, bNs, gL1, gL2, gLL2, fI2, tkA, ptA, GS, GL, fPut, ful, l12, l02, DL.D.mut, DL.D.top, DL.D.imm, DL.D.imm.immAll, fdOk, fIx, fMul, fAdd, powOk, gLstL, gTupL, DL.D.ty, lvN, szOk, fLen, fListOf, fTupOf, fSl, gSlN, gSlH, gSlL, gSlB, fIsi, fIsiT, isT, DL.D.tyN, DL.D.isX, fInts, DL.D.seqI, fLenSet, fLR, fLR1, gLR2, rgOk, fDict, fAbs, fInt1, gMax2, gMin2, g1S, g2S, fItems, fR1, fR2, bd62, lowE, clr, bakE, kpE, fApp, fIns, fPop, fPopA, fPopI, fClr, fRev, fExt, allTop, fEq, fNe, fNeg, fIsN, DL.D.isNon, DL.D.key, dGet, canE, nrm, cT, sAug_k, ixN, fRvS, fAll, dBls_map, fIsB, fIdx, msk, Function.comp_def, cut_hi, cut_lo, cut_both, gLLL3, fCntB, fIdxB] using this
    · have := h.rv.append (.cons hv .nil)
      simpa [mkS, finS, bNs, gL1, gL2, gLL2, fI2, tkA, ptA, GS, GL, fPut, ful, l12, l02, DL.D.mut, DL.D.top, DL.D.imm, DL.D.imm.immAll, fdOk, fIx, fMul, fAdd, powOk, gLstL, gTupL, DL.D.ty, lvN, szOk, fLen, fListOf, fTupOf, fSl, gSlN, gSlH, gSlL, gSlB, fIsi, fIsiT, isT, DL.D.tyN, DL.D.isX, fInts, DL.D.seqI, fLenSet, fLR, fLR1, gLR2, rgOk, fDict, fAbs, fInt1, gMax2, gMin2, g1S, g2S, fItems, fR1, fR2, bd62, lowE, clr, bakE, kpE, fApp, fIns, fPop, fPopA, fPopI, fClr, fRev, fExt, allTop, fEq, fNe, fNeg, fIsN, DL.D.isNon, DL.D.key, dGet, canE, nrm, cT, sAug_k, ixN, fRvS, fAll, dBls_map, fIsB, fIdx, msk, Function.comp_def, cut_hi, cut_lo, cut_both, gLLL3, fCntB, fIdxB] using this
def nPairs : List D → Option (List (D × NestedKey × D))
  | [] => some []
  | .tup [k, v] :: r => (match k.nkey with
    | some nk => if v.imm = true then (nPairs r).map ((k, nk, v) :: ·) else none
    | none => none)
  | _ :: _ => none
def fDictN : LD → Option LD
  | (_, .lst xs) => (nPairs xs).map fun ps => (2, .nd (ps.foldl nStP ([], [])).1 (ps.foldl nStP ([], [])).2)
  | _ => none
end
end DL
namespace DL
open L2 PySem PySem.Spec PyProof.Rows
section
variable {l l2 : Nat} {xs ds ks own gl : List D} {ns : List Int} {z : Str} {kds : List (Key × D)} {y : LD} {a d x : D} {p : Bool} {as : List LD} {Γ : Env}
@[simp] theorem fIxN_lst : fIxN (l, .lst xs) y = fIx (l, .lst xs) y := rfl
@[simp] theorem fIxN_tup : fIxN (l, .tup xs) y = fIx (l, .tup xs) y := rfl
@[simp] theorem fIxN_frz : fIxN (l, .frz ns) y = fIx (l, .frz ns) y := rfl
@[simp] theorem fIxN_str : fIxN (l, .str z) y = fIx (l, .str z) y := rfl
@[simp] theorem fIxN_dk : fIxN (l, .dk kds) y = fIx (l, .dk kds) y := rfl
@[simp] theorem fIxN_nd : fIxN (l, .nd ks ds) (l2, d) = match d.nkey with
    | some k => (nGet ks ds k).map fun d => (if 2 ≤ l % 10 then 2 else 0, d)
    | none => none := rfl
@[simp] theorem fInN_lst : fInN p a (.lst xs) = fIn p a (.lst xs) := rfl
@[simp] theorem fInN_tup : fInN p a (.tup xs) = fIn p a (.tup xs) := rfl
@[simp] theorem fInN_frz : fInN p a (.frz ns) = fIn p a (.frz ns) := rfl
@[simp] theorem fInN_dk : fInN p a (.dk kds) = fIn p a (.dk kds) := rfl
@[simp] theorem fInN_nd : fInN p a (.nd ks ds) = match a.nkey with
    | some k => some (2, .bl ((nGet ks ds k).isSome == p))
    | none => none := rfl
@[simp] theorem fPutN_lst : fPutN (.lst xs) as = fPut (.lst xs) as := rfl
@[simp] theorem fPutN_dk : fPutN (.dk kds) as = fPut (.dk kds) as := rfl
@[simp] theorem fPutN_nd : fPutN (.nd ks ds) [y, (l2, d)] = (match d.nkey with
    | some k => if szOk (ks.length + 1) then (match nGet ks ds k with
      | some _ => some (none, .nd ks (nSet ks ds k y.2))
      | none => some (none, .nd (ks ++ [d]) (ds ++ [y.2]))) else none
    | none => none) := rfl
@[simp] theorem gDispN_two : gDispN [(l, d), y] = (match d.nkey with
    | some _ => some (l12 (ful y), .nd [d] [y.2])
    | none => none) := rfl
@[simp] theorem fGet1N_nd : fGet1N (l, .nd ks ds) (l2, d) = (match d.nkey with
    | some k => (match nGet ks ds k with
      | some d => some (if 2 ≤ l % 10 then 2 else 0, d)
      | none => some (2, .non))
    | none => none) := rfl
def kTyN (T : String) : P LD → P LD
  | .ok x => if x.2.tyn == T then .ok x else .bad
  | o => o
@[simp] theorem pTyN_k (T : String) (f : PF) (Γ : Env) : pTyN T f Γ = kTyN T (f Γ) := by unfold pTyN kTyN; rfl
@[simp] theorem kTyN_ok (T : String) (x : LD) : kTyN T (.ok x) = if x.2.tyn == T then .ok x else .bad := rfl
@[simp] theorem tyn_nd : D.tyn (.nd ks ds) = "dict" := rfl
@[simp] theorem tyn_lst : D.tyn (.lst xs) = "list" := rfl
@[simp] theorem tyn_dk : D.tyn (.dk kds) = "dict" := rfl
@[simp] theorem fRem_lst : fRem (.lst xs) [(l, d)] = if eqd 60 d && eqd 60 (.lst xs) then (match remAt xs d with
    | some j => some (none, .lst (xs.eraseIdx j))
    | none => none) else none := rfl
@[simp] theorem fDictN_lst : fDictN (l, .lst xs) = (nPairs xs).map fun ps => (2, .nd (ps.foldl nStP ([], [])).1 (ps.foldl nStP ([], [])).2) := rfl
def kPut2 (c : Int) (v : LD) (l : Nat) (ks ds : List D) : Option NestedKey → FR
  | some k => (match nIx ks k with
    | some j => (match ds[j]? with
      | some di => if di.mut then (match fPut di [v, (2, .int c)] with
        | some (none, d') => .ret (2, .non) [(2, .nd ks (ds.set j d'))]
        | _ => .bad) else .bad
      | none => .bad)
    | none => .bad)
  | none => .bad
@[simp] theorem gPut2_nd (c : Int) (v : LD) : gPut2 c [v, (l, .nd ks ds), (l2, d)] = if (decide (2 ≤ l % 10) && ful v) = true then kPut2 c v l ks ds d.nkey else .bad := by
  unfold gPut2 kPut2
  rfl
@[simp] theorem sPut2_k (c : Int) (fv : EF) (i : Nat) (fk : EF) : sPut2 c fv i fk Γ = sExpr (eCall (gPut2 c) [.inr fv, .inl i, .inr fk]) Γ := rfl
def kAug3 (op : Int → Int → Int) (i l : Nat) (ks ds : List D) (k : NestedKey) (a : Int) (Γ : Env) : P LD → O
  | .ok (_, .int b) => if szOk (ks.length + 1) then .nx (Γ.set i (some (l, .nd ks (nSet ks ds k (.int (op a b)))))) else .bad
  | _ => .bad
def kAug2 (op : Int → Int → Int) (i l : Nat) (ks ds : List D) (fe : PF) (k : NestedKey) (Γ : Env) : Option D → O
  | some (.int a) => kAug3 op i l ks ds k a Γ (fe Γ)
  | _ => .bad
def kAug1 (op : Int → Int → Int) (i l : Nat) (ks ds : List D) (fe : PF) (Γ : Env) : P LD → O
  | .ok (_, kd) => (match kd.nkey with
    | some k => kAug2 op i l ks ds fe k Γ (nGet ks ds k)
    | none => .bad)
  | _ => .bad
def kAug0 (op : Int → Int → Int) (i : Nat) (fk fe : PF) (Γ : Env) : Option (Option LD) → O
  | some (some (l, .nd ks ds)) => if 1 ≤ l % 10 then kAug1 op i l ks ds fe Γ (fk Γ) else .bad
  | _ => .bad
@[simp] theorem sAugN_k (op : Int → Int → Int) (i : Nat) (fk fe : PF) : sAugN op i fk fe Γ = kAug0 op i fk fe Γ Γ[i]? := by
  unfold sAugN
  cases e : Γ[i]? with
  | none => rfl
  | some o =>
  cases o with
  | none => rfl
  | some ld =>
  obtain ⟨l, d⟩ := ld
  cases d with
  | nd ks ds =>
    show (if 1 ≤ l % 10 then _ else _) = (if 1 ≤ l % 10 then kAug1 op i l ks ds fe Γ (fk Γ) else .bad)
    refine congrArg (fun z => if 1 ≤ l % 10 then z else O.bad) ?_
    cases fk Γ with
    | bad => rfl
    | exc c => rfl
    | ok x =>
      obtain ⟨l2, kd⟩ := x
      show (match kd.nkey with
        | some k => _
        | none => _) = (match kd.nkey with
        | some k => kAug2 op i l ks ds fe k Γ (nGet ks ds k)
        | none => .bad)
      cases kd.nkey with
      | none => rfl
      | some k =>
        dsimp only
        cases nGet ks ds k with
        | none => rfl
        | some d0 =>
          cases d0 with
          | int a =>
            show _ = kAug3 op i l ks ds k a Γ (fe Γ)
            cases fe Γ with
            | bad => rfl
            | exc c => rfl
            | ok y =>
              obtain ⟨l3, d3⟩ := y
              cases d3 <;> rfl
          | _ => rfl
  | _ => rfl
@[simp] theorem kAug0_nd (op : Int → Int → Int) (i : Nat) (fk fe : PF) : kAug0 op i fk fe Γ (some (some (l, .nd ks ds))) = if 1 ≤ l % 10 then kAug1 op i l ks ds fe Γ (fk Γ) else .bad := rfl
@[simp] theorem kAug1_ok (op : Int → Int → Int) (i : Nat) (fe : PF) (x : LD) : kAug1 op i l ks ds fe Γ (.ok x) = (match x.2.nkey with
    | some k => kAug2 op i l ks ds fe k Γ (nGet ks ds k)
    | none => .bad) := rfl
@[simp] theorem kAug2_int (op : Int → Int → Int) (i : Nat) (fe : PF) (k : NestedKey) (b : Int) : kAug2 op i l ks ds fe k Γ (some (.int b)) = kAug3 op i l ks ds k b Γ (fe Γ) := rfl
@[simp] theorem kAug3_int (op : Int → Int → Int) (i : Nat) (k : NestedKey) (b c : Int) : kAug3 op i l ks ds k b Γ (.ok (l2, .int c)) = if szOk (ks.length + 1) then .nx (Γ.set i (some (l, .nd ks (nSet ks ds k (.int (op b c)))))) else .bad := rfl
end
end DL
namespace DL
open L2 PySem PySem.Spec PyProof.Rows
abbrev Wy := List (Int × Int)
def wyD (w : Wy) : D := .lst (w.map prD)
def dWys : List D → Option (List Wy)
  | [] => some []
  | .lst ps :: xs => (match dPrs ps, dWys xs with
    | some q, some qs => some (q :: qs)
    | _, _ => none)
  | _ => none
theorem dWys_map : ∀ ws : List Wy, dWys (ws.map wyD) = some ws
  | [] => rfl
  | w :: ws => by
    rw [List.map_cons, wyD, dWys, dPrs_map, dWys_map ws]
/-- the first of the least, as lists -/
def mnW : List Wy → Option Wy
  | [] => none
  | w :: ws => some (PySem.W.minOf w ws)
def fMinA : LD → Option LD := fun x => match x.2.seqI with
  | some is => (mnI is).map fun i => (2, .int i)
  | none => match x.2 with
    | .lst ds => (dWys ds).bind fun ws => (mnW ws).map fun w => (if 2 ≤ x.1 % 10 then 2 else 0, wyD w)
    | _ => none
@[simp] theorem fMinA_wys (l : Nat) (w : Wy) (ws : List Wy) : fMinA (l, .lst (D.lst (w.map prD) :: ws.map fun p => D.lst (p.map prD))) = some (if 2 ≤ l % 10 then 2 else 0, wyD (PySem.W.minOf w ws)) := by
  unfold fMinA
  have h1 : (D.lst (D.lst (w.map prD) :: ws.map fun p => D.lst (p.map prD))).seqI = none := rfl
  have h2 : dWys (D.lst (w.map prD) :: ws.map fun p => D.lst (p.map prD)) = some (w :: ws) := dWys_map (w :: ws)
  simp only [h1, h2]
  rfl
end DL
namespace DL
open L2 PySem PySem.Spec PyProof.Rows
def fMulS : D → D → Option LD
  | .str x, .int n => if n = 0 then some (2, .str Str.empty) else if n = 1 then some (2, .str x) else none
  | a, b => fMulA a b
@[simp] theorem fMulS_str (x : Str) (n : Int) : fMulS (.str x) (.int n) = if n = 0 then some (2, .str Str.empty) else if n = 1 then some (2, .str x) else none := rfl
@[simp] theorem fMulS_int (a b : Int) : fMulS (.int a) (.int b) = fMulA (.int a) (.int b) := rfl
@[simp] theorem fMulS_lst (xs : List D) (b : D) : fMulS (.lst xs) b = fMulA (.lst xs) b := rfl
@[simp] theorem fMulS_tup (xs : List D) (b : D) : fMulS (.tup xs) b = fMulA (.tup xs) b := rfl
end DL
namespace DL
open L2 PySem PySem.Spec PyProof.Rows
def fItemsN : LD → Option (List D)
  | (_, .nd ks _) => some ks
  | x => fItems x
@[simp] theorem fItemsN_nd (l : Nat) (ks ds : List D) : fItemsN (l, .nd ks ds) = some ks := rfl
@[simp] theorem fItemsN_lst (l : Nat) (xs : List D) : fItemsN (l, .lst xs) = some xs := rfl
@[simp] theorem fItemsN_tup (l : Nat) (xs : List D) : fItemsN (l, .tup xs) = some xs := rfl
@[simp] theorem fItemsN_frz (l : Nat) (xs : List Int) : fItemsN (l, .frz xs) = some (xs.map .int) := rfl
end DL
namespace DL
open L2 PySem PySem.Spec PyProof.Rows
def pBO (f : PF) : PB := fun Γ => match f Γ with
  | .ok (_, .bl b) => .ok b
  | .ok (_, .non) => .ok false
  | .exc c => .exc c
  | _ => .bad
def kPBO : P LD → P Bool
  | .ok (_, .bl b) => .ok b
  | .ok (_, .non) => .ok false
  | .exc c => .exc c
  | _ => .bad
@[simp] theorem pBO_k (f : PF) (Γ : Env) : pBO f Γ = kPBO (f Γ) := rfl
@[simp] theorem kPBO_ok (l : Nat) (b : Bool) : kPBO (.ok (l, .bl b)) = .ok b := rfl
@[simp] theorem kPBO_non (l : Nat) : kPBO (.ok (l, .non)) = .ok false := rfl
@[simp] theorem kPBO_exc (c : String) : kPBO (.exc c) = .exc c := rfl
end DL
namespace DL
open L2 PySem PySem.Spec PyProof.Rows
def gLR3 : List LD → Option LD
  | [x, y, z] => match x.2, y.2, z.2 with
    | .int i, .int j, .int k => if bd62 i && bd62 j && k == -1 && decide ((i - j).toNat ≤ 16777216) then some (2, .lst (((List.range (i - j).toNat).map fun (k : Nat) => i - (k : Int)).map .int)) else none
    | _, _, _ => none
  | _ => none
end DL
namespace DL
open L2 PySem PySem.Spec PyProof.Rows
def fSlM (x : LD) (lo hi : Option Int) : Option LD := match x with
  | (l, .lst xs) => if 2 ≤ l % 10 then some (2, .lst (cutD xs lo hi)) else none
  | _ => none
def gSlHM : List LD → Option LD
  | [x, (_, .int j)] => fSlM x none (some j)
  | _ => none
@[simp] theorem gSlHM_k (l l2 : Nat) (xs : List D) (j : Int) : gSlHM [(l, .lst xs), (l2, .int j)] = if 2 ≤ l % 10 then some (2, .lst (cutD xs none (some j))) else none := rfl
end DL
namespace DL
open L2 PySem PySem.Spec PyProof.Rows
def dStrs : List D → Option (List Str)
  | [] => some []
  | .str x :: ds => (dStrs ds).map fun xs => x :: xs
  | _ :: _ => none
@[simp] theorem dStrs_map : ∀ xs : List Str, dStrs (xs.map D.str) = some xs
  | [] => rfl
  | x :: xs => by rw [List.map_cons, dStrs, dStrs_map xs]; rfl
theorem dStrs_is : ∀ {ds : List D} {xs : List Str}, dStrs ds = some xs → ds = xs.map .str
  | [], xs, h => by cases h; rfl
  | d :: ds, xs, h => by
    cases d with
    | str x =>
      rw [dStrs] at h
      obtain ⟨ys, h1, rfl⟩ := Option.map_eq_some_iff.mp h
      rw [dStrs_is h1]
      rfl
    | _ => cases h
theorem rds_strs {K : PySem.W.Frag} {H : Hp} : ∀ xs : List Str, Rds K H (xs.map V.str) (xs.map D.str) []
  | [] => .nil
  | x :: xs => .cons (n := []) (.str x) (rds_strs xs)
theorem rds_strs_is {K : PySem.W.Frag} {H : Hp} : ∀ {xs : List Str} {vs : List V} {ns : List Addr}, Rds K H vs (xs.map D.str) ns → vs = xs.map V.str ∧ ns = []
  | [], _, _, .nil => ⟨rfl, rfl⟩
  | x :: xs, _, _, .cons h r => by
    cases h with
    | str =>
      obtain ⟨h1, h2⟩ := rds_strs_is r
      rw [h1, h2]
      exact ⟨rfl, rfl⟩
theorem strs_imm (xs : List Str) : D.imm.immAll (xs.map D.str) = true := by
  induction xs with
  | nil => rfl
  | cons x xs ih => rw [List.map_cons, D.imm.immAll, ih]; rfl
def fStr : LD → Option LD
  | (_, .int i) => if i.natAbs.log2 < 1920 then some (2, .str (Str.ofString (toString i))) else none
  | _ => none
@[simp] theorem fStr_int (l : Nat) (i : Int) : fStr (l, .int i) = if i.natAbs.log2 < 1920 then some (2, .str (Str.ofString (toString i))) else none := rfl
theorem vStr {K : PySem.W.Frag} : VOk K (fun xs H Q => ∃ i, xs = [.int i] ∧ i.natAbs.log2 < 1920 ∧ Q (.str (toString i)) H) (gL1 fStr) := vC1 fun s H Q ok h1 l d hg k => by
  obtain ⟨l1, d1, v1, n1⟩ := s
  dsimp only at *
  unfold fStr at hg
  split at hg
  · rename_i e
    cases e
    split at hg
    · rename_i hz
      cases hg
      obtain ⟨rfl, rfl⟩ := rd_int h1
      exact ⟨_, rfl, hz, k _ [] H (Same.refl H) (.str _) (res_imm rfl)⟩
    · cases hg
  · cases hg
def fIntS : LD → Option LD
  | (_, .str a) => (match PySem.intText? a with
    | some n => if a.length ≤ 640 then some (2, .int n) else none
    | none => none)
  | x => fInt1 x
@[simp] theorem fIntS_str (l : Nat) (a : Str) : fIntS (l, .str a) = (match PySem.intText? a with | some n => if a.length ≤ 640 then some (2, .int n) else none | none => none) := rfl
@[simp] theorem fIntS_bl (l : Nat) (b : Bool) : fIntS (l, .bl b) = fInt1 (l, .bl b) := rfl
@[simp] theorem fIntS_int (l : Nat) (b : Int) : fIntS (l, .int b) = fInt1 (l, .int b) := rfl
def rInt1S : List V → Hp → VK → Prop := fun xs H Q => ((∃ i, xs = [.int i] ∧ Q (.int i) H) ∨ ∃ k, xs = [.bl k] ∧ Q (.int (if k then 1 else 0)) H) ∨ ∃ a n, xs = [.str a] ∧ PySem.intText? a = some n ∧ a.length ≤ 640 ∧ Q (.int n) H
theorem call_int1S {X : Cx} : CallR X (.type "int") rInt1S := by
  intro pins s σ H xs us Q I r h
  rcases h with h | h
  · exact call_int1 pins s σ H xs us Q I r h
  · exact call_int_str pins s σ H xs us Q I r h
theorem vInt1S {K : PySem.W.Frag} : VOk K rInt1S (gL1 fIntS) := vC1 fun s H Q ok h1 l d hg k => by
  obtain ⟨l1, d1, v1, n1⟩ := s
  dsimp only at *
  unfold fIntS at hg
  split at hg
  · rename_i e
    cases e
    split at hg
    · rename_i n hn
      split at hg
      · rename_i hz
        cases hg
        obtain ⟨rfl, rfl⟩ := rd_str h1
        exact .inr ⟨_, _, rfl, hn, hz, k _ [] H (Same.refl H) (.int _) (res_imm rfl)⟩
      · cases hg
    · cases hg
  · exact .inl (vInt1 [⟨l1, d1, v1, n1⟩] H Q ok l d hg k)
def fJoin : LD → LD → Option LD := fun x y => match x.2, y.2 with
  | .str a, .lst ds => (match dStrs ds with
    | some ys => if (ys.map (·.length)).sum + ys.length * a.length ≤ 16777216 then some (2, .str (Txt.join a ys)) else none
    | none => none)
  | _, _ => none
def rJoinS (K : PySem.W.Frag) : V → List V → Hp → VK → Prop := fun x xs H Q => ∃ a p, ∃ ys : List Str, x = .str a ∧ xs = [.ref p] ∧ (SqL K H p (ys.map V.str) ∨ SqT K H p (ys.map V.str)) ∧
    (ys.map (·.length)).sum + ys.length * a.length ≤ 16777216 ∧ Q (.str (Txt.join a ys)) H
theorem mt_joinS {X : Cx} : MtR X "str.join" (rJoinS X.K) := mt_join
theorem vJoin {K : PySem.W.Frag} : VOk K (r1a (rJoinS K)) (gLL2 fJoin) := by
  intro As H Q ok l d hg k
  rcases As with _ | ⟨s, _ | ⟨t, _ | ⟨u, As⟩⟩⟩
  · cases hg
  · cases hg
  · have h1 := ok.rd s (List.mem_cons_self ..)
    have h2 := ok.rd t (List.mem_cons_of_mem _ (List.mem_cons_self ..))
    obtain ⟨l1, d1, v1, n1⟩ := s
    obtain ⟨l2, d2, v2, n2⟩ := t
    simp only [List.map_cons, List.map_nil, Sl.ld, gLL2, fJoin] at hg
    dsimp only at h1 h2
    split at hg
    · rename_i a ds
      split at hg
      · rename_i ys hy
        split at hg
        · rename_i hz
          cases hg
          obtain ⟨rfl, rfl⟩ := rd_str h1
          have := dStrs_is hy
          subst this
          cases h2 with
          | lst e r =>
            obtain ⟨rfl, _⟩ := rds_strs_is r
            exact ⟨a, _, ys, rfl, rfl, .inl (.of e), hz, k _ [] H (Same.refl H) (.str _) (res_imm rfl)⟩
        · cases hg
      · cases hg
    · cases hg
  · cases hg
def fSplit : LD → LD → Option LD := fun x y => match x.2, y.2 with
  | .str a, .str b => if (b.length == 0) = false ∧ a.length + 2 ≤ 16777216 then some (2, .lst ((Txt.split a b).map .str)) else none
  | _, _ => none
def rSplitS : V → List V → Hp → VK → Prop := fun x xs H Q => ∃ a b, x = .str a ∧ xs = [.str b] ∧ (b.length == 0) = false ∧ a.length + 2 ≤ sizeLine ∧ rNewStrs (Txt.split a b) H Q
theorem mt_splitS {X : Cx} : MtR X "str.split" rSplitS := mt_split
theorem vSplit {K : PySem.W.Frag} : VOk K (r1a rSplitS) (gLL2 fSplit) := by
  intro As H Q ok l d hg k
  rcases As with _ | ⟨s, _ | ⟨t, _ | ⟨u, As⟩⟩⟩
  · cases hg
  · cases hg
  · have h1 := ok.rd s (List.mem_cons_self ..)
    have h2 := ok.rd t (List.mem_cons_of_mem _ (List.mem_cons_self ..))
    obtain ⟨l1, d1, v1, n1⟩ := s
    obtain ⟨l2, d2, v2, n2⟩ := t
    simp only [List.map_cons, List.map_nil, Sl.ld, gLL2, fSplit] at hg
    dsimp only at h1 h2
    split at hg
    · rename_i a b
      split at hg
      · rename_i hz
        cases hg
        obtain ⟨rfl, rfl⟩ := rd_str h1
        obtain ⟨rfl, rfl⟩ := rd_str h2
        refine ⟨a, b, rfl, rfl, hz.1, hz.2, fun p hp => ?_⟩
        have rr := rds_strs (K := K) (H := H) (Txt.split a b)
        have e2 : (2 : Nat) = lvN ((Txt.split a b).map .str) := by rw [lvN, strs_imm]; rfl
        rw [e2] at k
        exact k _ _ _ (same_upd hp) (rd_new hp rr) (res_lst hp rr (fun a ha => nomatch ha) (mut_upd trivial))
      · cases hg
    · cases hg
  · cases hg
def fPart : LD → LD → Option LD := fun x y => match x.2, y.2 with
  | .str a, .str b => if (b.length == 0) = false ∧ a.length ≤ 16777216 then some (2, .tup [.str (Txt.partition a b).1, .str (Txt.partition a b).2.1, .str (Txt.partition a b).2.2]) else none
  | _, _ => none
@[simp] theorem fJoin_k (l l2 : Nat) (a : Str) (ys : List Str) : fJoin (l, .str a) (l2, .lst (ys.map .str)) = if (ys.map (·.length)).sum + ys.length * a.length ≤ 16777216 then some (2, .str (Txt.join a ys)) else none := by
  show (match dStrs (ys.map D.str) with | some ys => _ | none => none) = _
  rw [dStrs_map]
@[simp] theorem fJoin_nil (l l2 : Nat) (a : Str) : fJoin (l, .str a) (l2, .lst []) = some (2, .str Str.empty) := by
  have h := fJoin_k l l2 a []
  rw [TL.join_eq] at h
  exact h.trans (if_pos (by simp [mkS, finS, bNs, gL1, gL2, gLL2, fI2, tkA, ptA, GS, GL, fPut, ful, l12, l02, DL.D.mut, DL.D.top, DL.D.imm, DL.D.imm.immAll, fdOk, fIx, fMul, fAdd, powOk, gLstL, gTupL, DL.D.ty, lvN, szOk, fLen, fListOf, fTupOf, fSl, gSlN, gSlH, gSlL, gSlB, fIsi, fIsiT, isT, DL.D.tyN, DL.D.isX, fInts, DL.D.seqI, fLenSet, fLR, fLR1, gLR2, rgOk, fDict, fAbs, fInt1, gMax2, gMin2, g1S, g2S, fItems, fR1, fR2, bd62, lowE, clr, bakE, kpE, fApp, fIns, fPop, fPopA, fPopI, fClr, fRev, fExt, allTop, fEq, fNe, fNeg, fIsN, DL.D.isNon, DL.D.key, dGet, canE, nrm, cT, sAug_k, ixN, fRvS, fAll, dBls_map, fIsB, fIdx, msk, Function.comp_def, cut_hi, cut_lo, cut_both, gLLL3, fCntB, fIdxB, gLR3]))
@[simp] theorem fSplit_k (l l2 : Nat) (a b : Str) : fSplit (l, .str a) (l2, .str b) = if (b.length == 0) = false ∧ a.length + 2 ≤ 16777216 then some (2, .lst ((Txt.split a b).map .str)) else none := rfl
@[simp] theorem fPart_k (l l2 : Nat) (a b : Str) : fPart (l, .str a) (l2, .str b) = if (b.length == 0) = false ∧ a.length ≤ 16777216 then some (2, .tup [.str (Txt.partition a b).1, .str (Txt.partition a b).2.1, .str (Txt.partition a b).2.2]) else none := rfl
end DL
namespace DL
open L2 PySem PySem.Spec PyProof.Rows
def fSlT (x : LD) (lo hi : Option Int) : Option LD := match x with
  | (_, .str z) => if z.length ≤ 16777216 then some (2, .str (cutS z lo hi)) else none
  | x => fSl x lo hi
def rSlT (K : PySem.W.Frag) : V → Option Int → Option Int → Hp → VK → Prop := fun x lo hi H Q => rSl K x lo hi H Q ∨ rSlS x lo hi H Q
theorem sl_anyT {X : Cx} : SlR X (rSlT X.K) := sl_any.or sl_str
section
variable {K : PySem.W.Frag} {H : Hp} {Q : VK} {As : List Sl} {s : Sl} {l : Nat} {d : D}
theorem vSlT {lo hi : Option Int} (hm : s ∈ As) (h1 : Rd K H s.v s.d s.ns) (hg : fSlT (s.l, s.d) lo hi = some (l, d)) (k : ∀ v ns H', Same H H' → Rd K H' v d ns → Res As H H' ⟨l, d, v, ns⟩ → Q v H') : rSlT K s.v lo hi H Q := by
  by_cases c : ∃ z, s.d = .str z
  · obtain ⟨z, e⟩ := c
    obtain ⟨l1, d1, v1, n1⟩ := s
    dsimp only at *
    subst e
    simp only [fSlT] at hg
    split at hg
    · rename_i hz
      cases hg
      obtain ⟨rfl, rfl⟩ := rd_str h1
      exact .inr ⟨z, rfl, hz, k _ [] H (Same.refl H) (.str _) (res_imm rfl)⟩
    · cases hg
  · refine .inl (vSl hm h1 ?_ k)
    obtain ⟨l1, d1, v1, n1⟩ := s
    cases d1 <;> first | exact hg | exact absurd ⟨_, rfl⟩ c
def gSlNT : List LD → Option LD
  | [x] => fSlT x none none
  | _ => none
def gSlHT : List LD → Option LD
  | [x, (_, .int j)] => fSlT x none (some j)
  | _ => none
def gSlLT : List LD → Option LD
  | [x, (_, .int i)] => fSlT x (some i) none
  | _ => none
def gSlBT : List LD → Option LD
  | [x, (_, .int i), (_, .int j)] => fSlT x (some i) (some j)
  | _ => none
def rSlHT (K : PySem.W.Frag) : List V → Hp → VK → Prop := fun xs H Q => match xs with
  | [x, y] => ∃ j, y = .int j ∧ rSlT K x none (some j) H Q
  | _ => False
def rSloT (K : PySem.W.Frag) : List V → Hp → VK → Prop := fun xs H Q => match xs with
  | [x, y] => ∃ i, y = .int i ∧ rSlT K x (some i) none H Q
  | _ => False
theorem vSlHT : VOk K (rSlHT K) gSlHT := by
  intro As H Q ok l d hg k
  rcases As with _ | ⟨s, _ | ⟨⟨l2, d2, v2, n2⟩, _ | ⟨u, As⟩⟩⟩
  · cases hg
  · cases hg
  · have h2 := ok.rd ⟨l2, d2, v2, n2⟩ (List.mem_cons_of_mem _ (List.mem_cons_self ..))
    dsimp only at h2
    cases h2 with
    | int j => exact ⟨j, rfl, vSlT (List.mem_cons_self ..) (ok.rd s (List.mem_cons_self ..)) hg k⟩
    | _ => cases hg
  · cases d2 <;> cases hg
theorem vSlLT : VOk K (rSloT K) gSlLT := by
  intro As H Q ok l d hg k
  rcases As with _ | ⟨s, _ | ⟨⟨l2, d2, v2, n2⟩, _ | ⟨u, As⟩⟩⟩
  · cases hg
  · cases hg
  · have h2 := ok.rd ⟨l2, d2, v2, n2⟩ (List.mem_cons_of_mem _ (List.mem_cons_self ..))
    dsimp only at h2
    cases h2 with
    | int j => exact ⟨j, rfl, vSlT (List.mem_cons_self ..) (ok.rd s (List.mem_cons_self ..)) hg k⟩
    | _ => cases hg
  · cases d2 <;> cases hg
end
section
variable {X : Cx} {W : WW} {A B C : List Nat} {f g h : PF} {f' g' h' : EF} {pos p2 : Pos} {a b c e : Expr}
theorem p_slHT (ha : DP X W A a f) (hb : DP X W B b g) : DP X W (A ++ B) (.Subscript a (.Slice none (some b) none p2) pos) (pApp gSlHT [f, pI g]) :=
  p_app [(A, f), (B, pI g)] mem2l vSlHT (pe_slice sl_anyT ha po_none (po_some hb)) fun σ H Q q =>
    tDP_mono (show tDP X.K W A f σ H fun x H1 => tDP X.K W B (pI g) σ H1 fun y H2 => rSlHT X.K [x, y] H2 Q from q) fun x H1 q1 => tDP_mono (tI_P q1) fun y H2 ⟨i, e, q2⟩ => ⟨i, e, by
      obtain ⟨j, e2, q3⟩ := q2
      rw [e] at e2
      cases e2
      exact q3⟩
theorem p_slLT (ha : DP X W A a f) (hb : DP X W B b g) : DP X W (A ++ B) (.Subscript a (.Slice (some b) none none p2) pos) (pApp gSlLT [f, pI g]) :=
  p_app [(A, f), (B, pI g)] mem2l vSlLT (pe_slice sl_anyT ha (po_some hb) po_none) fun σ H Q q =>
    tDP_mono (show tDP X.K W A f σ H fun x H1 => tDP X.K W B (pI g) σ H1 fun y H2 => rSloT X.K [x, y] H2 Q from q) fun x H1 q1 => tDP_mono (tI_P q1) fun y H2 ⟨i, e, q2⟩ => ⟨i, e, by
      obtain ⟨j, e2, q3⟩ := q2
      rw [e] at e2
      cases e2
      exact q3⟩
end
@[simp] theorem gSlNT_str (l : Nat) (z : Str) : gSlNT [(l, .str z)] = if z.length ≤ 16777216 then some (2, .str (cutS z none none)) else none := rfl
@[simp] theorem gSlHT_str (l l2 : Nat) (z : Str) (j : Int) : gSlHT [(l, .str z), (l2, .int j)] = if z.length ≤ 16777216 then some (2, .str (cutS z none (some j))) else none := rfl
@[simp] theorem gSlLT_str (l l2 : Nat) (z : Str) (j : Int) : gSlLT [(l, .str z), (l2, .int j)] = if z.length ≤ 16777216 then some (2, .str (cutS z (some j) none)) else none := rfl
@[simp] theorem gSlBT_str (l l2 l3 : Nat) (z : Str) (i j : Int) : gSlBT [(l, .str z), (l2, .int i), (l3, .int j)] = if z.length ≤ 16777216 then some (2, .str (cutS z (some i) (some j))) else none := rfl
@[simp] theorem gSlNT_lst (l : Nat) (z : List D) : gSlNT [(l, .lst z)] = gSlN [(l, .lst z)] := rfl
@[simp] theorem gSlHT_lst (l l2 : Nat) (z : List D) (j : Int) : gSlHT [(l, .lst z), (l2, .int j)] = gSlH [(l, .lst z), (l2, .int j)] := rfl
@[simp] theorem gSlLT_lst (l l2 : Nat) (z : List D) (j : Int) : gSlLT [(l, .lst z), (l2, .int j)] = gSlL [(l, .lst z), (l2, .int j)] := rfl
@[simp] theorem gSlBT_lst (l l2 l3 : Nat) (z : List D) (i j : Int) : gSlBT [(l, .lst z), (l2, .int i), (l3, .int j)] = gSlB [(l, .lst z), (l2, .int i), (l3, .int j)] := rfl
@[simp] theorem gSlHT_frz (l l2 : Nat) (z : List Int) (j : Int) : gSlHT [(l, .frz z), (l2, .int j)] = gSlH [(l, .frz z), (l2, .int j)] := rfl
@[simp] theorem gSlHT_tup (l l2 : Nat) (z : List D) (j : Int) : gSlHT [(l, .tup z), (l2, .int j)] = gSlH [(l, .tup z), (l2, .int j)] := rfl
@[simp] theorem gSlLT_tup (l l2 : Nat) (z : List D) (j : Int) : gSlLT [(l, .tup z), (l2, .int j)] = gSlL [(l, .tup z), (l2, .int j)] := rfl
def fInS (p : Bool) : D → D → Option LD
  | .str c, .str z => (match c.cps.toList with
    | [a] => some (2, .bl (decide (a ∈ z.cps.toList) == p))
    | _ => none)
  | x, y => fInN p x y
@[simp] theorem fInS_lst (p : Bool) (x : D) (ys : List D) : fInS p x (.lst ys) = fInN p x (.lst ys) := by cases x <;> rfl
@[simp] theorem fInS_tup (p : Bool) (x : D) (ys : List D) : fInS p x (.tup ys) = fInN p x (.tup ys) := by cases x <;> rfl
@[simp] theorem fInS_nd (p : Bool) (x : D) (ks vs : List D) : fInS p x (.nd ks vs) = fInN p x (.nd ks vs) := by cases x <;> rfl
@[simp] theorem fInS_dk (p : Bool) (x : D) (kvs : List (Key × D)) : fInS p x (.dk kvs) = fInN p x (.dk kvs) := by cases x <;> rfl
@[simp] theorem fInS_sign (p : Bool) (a : Nat) (z : Str) : fInS p (.str ⟨#[a]⟩) (.str z) = some (2, .bl (decide (a ∈ z.cps.toList) == p)) := rfl
def rNotInSg : R2 := fun x y H Q => ∃ (c : Nat) (z : Str), x = .str ⟨#[c]⟩ ∧ y = .str z ∧ Q (.bl (!decide (c ∈ z.cps.toList))) H
def rNotInAnyS (K : PySem.W.Frag) : R2 := fun x y H Q => rNotInAnyN K x y H Q ∨ rNotInSg x y H Q
theorem op_notInAnyS {X : Cx} (hu : X.A.units + 65 < cLine) : OpR X (compareOp .NotIn) (rNotInAnyS X.K) := (op_notInAnyN hu).or op_notIn_sign
theorem vInGenS {K : PySem.W.Frag} {r r' : R2} (p : Bool) (hv : VOk K (r2l r) (gL2 (fInN p))) (hr : ∀ x y H Q, (r x y H Q ∨ ∃ (c : Nat) (z : Str), x = .str ⟨#[c]⟩ ∧ y = .str z ∧ Q (.bl (decide (c ∈ z.cps.toList) == p)) H) → r' x y H Q) : VOk K (r2l r') (gL2 (fInS p)) := vL2 (fun s t H Q ok h1 h2 l d hg k => by
  refine hr _ _ _ _ ?_
  by_cases c : ∃ a z, s.d = .str a ∧ t.d = .str z
  · obtain ⟨a, z, e1, e2⟩ := c
    obtain ⟨l1, d1, v1, n1⟩ := s
    obtain ⟨l2, d2, v2, n2⟩ := t
    dsimp only at *
    subst e1 e2
    simp only [fInS] at hg
    split at hg
    · rename_i b eb
      cases hg
      obtain ⟨rfl, rfl⟩ := rd_str h1
      obtain ⟨rfl, rfl⟩ := rd_str h2
      have ea : a = ⟨#[b]⟩ := Str.ext' (Array.toList_inj.mp (by rw [eb]))
      subst ea
      exact .inr ⟨b, z, rfl, rfl, k _ [] H (Same.refl H) (.bl _) (res_imm rfl)⟩
    · cases hg
  · refine .inl (hv [s, t] H Q ok l d ?_ k)
    obtain ⟨l1, d1, v1, n1⟩ := s
    obtain ⟨l2, d2, v2, n2⟩ := t
    dsimp only at *
    cases d1 <;> first | exact hg | (cases d2 <;> first | exact hg | exact absurd ⟨_, _, rfl, rfl⟩ c))
theorem vNotInS {K : PySem.W.Frag} : VOk K (r2l (rNotInAnyS K)) (gL2 (fInS false)) := vInGenS false vNotInN fun x y H Q h => by
  rcases h with h | ⟨c, z, h1, h2, q⟩
  · exact .inl h
  · exact .inr ⟨c, z, h1, h2, by rw [beq_false] at q; exact q⟩
def fEqT (p : Bool) : LD → LD → Option LD := fun x y => match x.2, y.2 with
  | .str a, .str b => some (2, .bl (decide (a = b) == p))
  | _, _ => if p then gEq [x, y] else gNe [x, y]
abbrev gEqT := gLL2 (fEqT true)
abbrev gNeT := gLL2 (fEqT false)
def rEqT (K : PySem.W.Frag) : R2 := fun x y H Q => rEqD K x y H Q ∨ rEq x y H Q
def rNeT (K : PySem.W.Frag) : R2 := fun x y H Q => rNeD K x y H Q ∨ rNe x y H Q
theorem op_eqT {X : Cx} (h64 : X.A.units + 64 < cLine) : OpR X (compareOp .Eq) (rEqT X.K) := (op_eqD h64).or op_eq
theorem op_neT {X : Cx} (h64 : X.A.units + 64 < cLine) : OpR X (compareOp .NotEq) (rNeT X.K) := (op_neD h64).or op_ne
theorem dec_str {a b : Str} : decide (V.str a = V.str b) = decide (a = b) := by
  by_cases c : a = b
  · simp [mkS, finS, bNs, gL1, gL2, gLL2, fI2, tkA, ptA, GS, GL, fPut, ful, l12, l02, DL.D.mut, DL.D.top, DL.D.imm, DL.D.imm.immAll, fdOk, fIx, fMul, fAdd, powOk, gLstL, gTupL, DL.D.ty, lvN, szOk, fLen, fListOf, fTupOf, fSl, gSlN, gSlH, gSlL, gSlB, fIsi, fIsiT, isT, DL.D.tyN, DL.D.isX, fInts, DL.D.seqI, fLenSet, fLR, fLR1, gLR2, rgOk, fDict, fAbs, fInt1, gMax2, gMin2, g1S, g2S, fItems, fR1, fR2, bd62, lowE, clr, bakE, kpE, fApp, fIns, fPop, fPopA, fPopI, fClr, fRev, fExt, allTop, fEq, fNe, fNeg, fIsN, DL.D.isNon, DL.D.key, dGet, canE, nrm, cT, sAug_k, ixN, fRvS, fAll, dBls_map, fIsB, fIdx, msk, Function.comp_def, cut_hi, cut_lo, cut_both, gLLL3, fCntB, fIdxB, gLR3, c]
  · simp [mkS, finS, bNs, gL1, gL2, gLL2, fI2, tkA, ptA, GS, GL, fPut, ful, l12, l02, DL.D.mut, DL.D.top, DL.D.imm, DL.D.imm.immAll, fdOk, fIx, fMul, fAdd, powOk, gLstL, gTupL, DL.D.ty, lvN, szOk, fLen, fListOf, fTupOf, fSl, gSlN, gSlH, gSlL, gSlB, fIsi, fIsiT, isT, DL.D.tyN, DL.D.isX, fInts, DL.D.seqI, fLenSet, fLR, fLR1, gLR2, rgOk, fDict, fAbs, fInt1, gMax2, gMin2, g1S, g2S, fItems, fR1, fR2, bd62, lowE, clr, bakE, kpE, fApp, fIns, fPop, fPopA, fPopI, fClr, fRev, fExt, allTop, fEq, fNe, fNeg, fIsN, DL.D.isNon, DL.D.key, dGet, canE, nrm, cT, sAug_k, ixN, fRvS, fAll, dBls_map, fIsB, fIdx, msk, Function.comp_def, cut_hi, cut_lo, cut_both, gLLL3, fCntB, fIdxB, gLR3, c]
theorem vEqT {K : PySem.W.Frag} : VOk K (r2l (rEqT K)) gEqT := vLL2 (fun s t H Q ok h1 h2 l d hg k => by
  by_cases c : ∃ a z, s.d = .str a ∧ t.d = .str z
  · obtain ⟨a, z, e1, e2⟩ := c
    obtain ⟨l1, d1, v1, n1⟩ := s
    obtain ⟨l2, d2, v2, n2⟩ := t
    dsimp only at *
    subst e1 e2
    cases hg
    obtain ⟨rfl, rfl⟩ := rd_str h1
    obtain ⟨rfl, rfl⟩ := rd_str h2
    refine .inr ⟨rfl, ?_⟩
    rw [dec_str]
    have := k (.bl (decide (a = z) == true)) [] H (Same.refl H) (.bl _) (res_imm rfl)
    rwa [beq_true] at this
  · refine .inl (vEq [s, t] H Q ok l d ?_ k)
    obtain ⟨l1, d1, v1, n1⟩ := s
    obtain ⟨l2, d2, v2, n2⟩ := t
    dsimp only at *
    cases d1 <;> first | exact hg | (cases d2 <;> first | exact hg | exact absurd ⟨_, _, rfl, rfl⟩ c))
theorem vNeT {K : PySem.W.Frag} : VOk K (r2l (rNeT K)) gNeT := vLL2 (fun s t H Q ok h1 h2 l d hg k => by
  by_cases c : ∃ a z, s.d = .str a ∧ t.d = .str z
  · obtain ⟨a, z, e1, e2⟩ := c
    obtain ⟨l1, d1, v1, n1⟩ := s
    obtain ⟨l2, d2, v2, n2⟩ := t
    dsimp only at *
    subst e1 e2
    cases hg
    obtain ⟨rfl, rfl⟩ := rd_str h1
    obtain ⟨rfl, rfl⟩ := rd_str h2
    refine .inr ⟨rfl, ?_⟩
    rw [dec_str]
    have := k (.bl (decide (a = z) == false)) [] H (Same.refl H) (.bl _) (res_imm rfl)
    rwa [beq_false] at this
  · refine .inl (vNe [s, t] H Q ok l d ?_ k)
    obtain ⟨l1, d1, v1, n1⟩ := s
    obtain ⟨l2, d2, v2, n2⟩ := t
    dsimp only at *
    cases d1 <;> first | exact hg | (cases d2 <;> first | exact hg | exact absurd ⟨_, _, rfl, rfl⟩ c))
@[simp] theorem fEqT_str (p : Bool) (l l2 : Nat) (a b : Str) : fEqT p (l, .str a) (l2, .str b) = some (2, .bl (decide (a = b) == p)) := rfl
@[simp] theorem fEqT_int (l : Nat) (i : Int) (y : LD) : fEqT true (l, .int i) y = gEq [(l, .int i), y] := rfl
@[simp] theorem fNeT_int (l : Nat) (i : Int) (y : LD) : fEqT false (l, .int i) y = gNe [(l, .int i), y] := rfl
@[simp] theorem fEqT_lst (l : Nat) (i : List D) (y : LD) : fEqT true (l, .lst i) y = gEq [(l, .lst i), y] := rfl
@[simp] theorem fNeT_lst (l : Nat) (i : List D) (y : LD) : fEqT false (l, .lst i) y = gNe [(l, .lst i), y] := rfl
@[simp] theorem fEqT_tup (l : Nat) (i : List D) (y : LD) : fEqT true (l, .tup i) y = gEq [(l, .tup i), y] := rfl
@[simp] theorem fNeT_tup (l : Nat) (i : List D) (y : LD) : fEqT false (l, .tup i) y = gNe [(l, .tup i), y] := rfl
@[simp] theorem fEqT_bl (l : Nat) (i : Bool) (y : LD) : fEqT true (l, .bl i) y = gEq [(l, .bl i), y] := rfl
@[simp] theorem fNeT_bl (l : Nat) (i : Bool) (y : LD) : fEqT false (l, .bl i) y = gNe [(l, .bl i), y] := rfl
@[simp] theorem fEqT_frz (l : Nat) (i : List Int) (y : LD) : fEqT true (l, .frz i) y = gEq [(l, .frz i), y] := rfl
@[simp] theorem fNeT_frz (l : Nat) (i : List Int) (y : LD) : fEqT false (l, .frz i) y = gNe [(l, .frz i), y] := rfl
@[simp] theorem fEqT_dk (l : Nat) (i : List (Key × D)) (y : LD) : fEqT true (l, .dk i) y = gEq [(l, .dk i), y] := rfl
@[simp] theorem fNeT_dk (l : Nat) (i : List (Key × D)) (y : LD) : fEqT false (l, .dk i) y = gNe [(l, .dk i), y] := rfl
@[simp] theorem fEqT_exn (l : Nat) (i : String) (y : LD) : fEqT true (l, .exn i) y = gEq [(l, .exn i), y] := rfl
@[simp] theorem fNeT_exn (l : Nat) (i : String) (y : LD) : fEqT false (l, .exn i) y = gNe [(l, .exn i), y] := rfl
@[simp] theorem fEqT_non (l : Nat) (y : LD) : fEqT true (l, .non) y = gEq [(l, .non), y] := rfl
@[simp] theorem fNeT_non (l : Nat) (y : LD) : fEqT false (l, .non) y = gNe [(l, .non), y] := rfl
def rMulN : R2 := fun x y H Q => ∃ i n, x = .str i ∧ y = .int n ∧ MulOk i n ∧ Q (.str (Txt.mul i n)) H
theorem op_mulN {X : Cx} : OpR X (binaryOp .Mult) rMulN := by
  intro pins s σ H x y v u Q I rx ry h
  obtain ⟨i, n, rfl, rfl, ok, q⟩ := h
  obtain ⟨t, rfl⟩ := rx
  obtain ⟨t', rfl⟩ := ry
  exact SB.mul ok fun t'' k => ⟨.str (Txt.mul i n), H, I.tok _, ⟨_, rfl⟩, q⟩
def okMul (x : Str) (n : Int) : Bool := decide (-1000 ≤ n) && decide (n ≤ 4000) && decide (x.length ≤ 4000)
theorem okMul_ok {x : Str} {n : Int} (h : okMul x n = true) : MulOk x n := by
  unfold okMul at h
  simp only [Bool.and_eq_true, decide_eq_true_eq] at h
  obtain ⟨⟨h1, h2⟩, h3⟩ := h
  refine ⟨?_, fun h4 h5 => ?_, fun h4 h5 => ?_⟩
  · rw [Bool.or_eq_false_iff, decide_eq_false_iff_not, decide_eq_false_iff_not]
    omega
  · have : (4000 : Int) ≤ (2 ^ 63 - 1) / n := by
      refine (Int.le_ediv_iff_mul_le (by omega)).mpr ?_
      omega
    omega
  · have : x.length * n.toNat ≤ 4000 * 4000 := Nat.mul_le_mul h3 (by omega)
    show decide _ = false
    rw [decide_eq_false_iff_not]
    unfold sizeLine
    omega
def fMulT : D → D → Option LD
  | .str x, .int n => if okMul x n then some (2, .str (Txt.mul x n)) else none
  | a, b => fMulA a b
abbrev gMulT := gL2 fMulT
def rMulD (K : PySem.W.Frag) : R2 := fun x y H Q => rMulB K x y H Q ∨ rMulN x y H Q
theorem op_mulD {X : Cx} : OpR X (binaryOp .Mult) (rMulD X.K) := op_mulB.or op_mulN
theorem vMulD {K : PySem.W.Frag} : VOk K (r2l (rMulD K)) gMulT := vL2 (fun s t H Q ok h1 h2 l d hg k => by
  by_cases c : ∃ x n, s.d = .str x ∧ t.d = .int n
  · obtain ⟨x, n, e1, e2⟩ := c
    obtain ⟨l1, d1, v1, n1⟩ := s
    obtain ⟨l2, d2, v2, n2⟩ := t
    dsimp only at *
    subst e1 e2
    simp only [fMulT] at hg
    split at hg
    · rename_i hz
      cases hg
      obtain ⟨rfl, rfl⟩ := rd_str h1
      obtain ⟨rfl, rfl⟩ := rd_int h2
      exact .inr ⟨_, _, rfl, rfl, okMul_ok hz, k _ [] H (Same.refl H) (.str _) (res_imm rfl)⟩
    · cases hg
  · refine .inl (vMulB [s, t] H Q ok l d ?_ k)
    obtain ⟨l1, d1, v1, n1⟩ := s
    obtain ⟨l2, d2, v2, n2⟩ := t
    dsimp only at *
    cases d1 <;> first | exact hg | (cases d2 <;> first | exact hg | exact absurd ⟨_, _, rfl, rfl⟩ c))
@[simp] theorem fMulT_str (x : Str) (n : Int) : fMulT (.str x) (.int n) = if okMul x n then some (2, .str (Txt.mul x n)) else none := rfl
@[simp] theorem fMulT_int (a b : Int) : fMulT (.int a) (.int b) = fMulA (.int a) (.int b) := rfl
@[simp] theorem fMulT_lst (xs : List D) (b : D) : fMulT (.lst xs) b = fMulA (.lst xs) b := rfl
@[simp] theorem fMulT_tup (xs : List D) (b : D) : fMulT (.tup xs) b = fMulA (.tup xs) b := rfl
def fSigns : LD → Option (List D)
  | (_, .str z) => if szOk z.length then some (z.cps.toList.map fun c => .str ⟨#[c]⟩) else none
  | _ => none
def wStr : WR := fun vs H R => ∃ x, vs = [.str x] ∧ R (Its x) H
theorem walk_str {K : PySem.W.Frag} {As : List Sl} (x : Str) : WalkV K As (Its x) (x.cps.toList.map fun c => .str ⟨#[c]⟩) where
  goes := fun i H hi _ => by
    show i < x.cps.size
    simpa [mkS, finS, bNs, gL1, gL2, gLL2, fI2, tkA, ptA, GS, GL, fPut, ful, l12, l02, DL.D.mut, DL.D.top, DL.D.imm, DL.D.imm.immAll, fdOk, fIx, fMul, fAdd, powOk, gLstL, gTupL, DL.D.ty, lvN, szOk, fLen, fListOf, fTupOf, fSl, gSlN, gSlH, gSlL, gSlB, fIsi, fIsiT, isT, DL.D.tyN, DL.D.isX, fInts, DL.D.seqI, fLenSet, fLR, fLR1, gLR2, rgOk, fDict, fAbs, fInt1, gMax2, gMin2, g1S, g2S, fItems, fR1, fR2, bd62, lowE, clr, bakE, kpE, fApp, fIns, fPop, fPopA, fPopI, fClr, fRev, fExt, allTop, fEq, fNe, fNeg, fIsN, DL.D.isNon, DL.D.key, dGet, canE, nrm, cT, sAug_k, ixN, fRvS, fAll, dBls_map, fIsB, fIdx, msk, Function.comp_def, cut_hi, cut_lo, cut_both, gLLL3, fCntB, fIdxB, gLR3] using hi
  stops := fun H _ => by
    show x.cps.size ≤ _
    simp [mkS, finS, bNs, gL1, gL2, gLL2, fI2, tkA, ptA, GS, GL, fPut, ful, l12, l02, DL.D.mut, DL.D.top, DL.D.imm, DL.D.imm.immAll, fdOk, fIx, fMul, fAdd, powOk, gLstL, gTupL, DL.D.ty, lvN, szOk, fLen, fListOf, fTupOf, fSl, gSlN, gSlH, gSlL, gSlB, fIsi, fIsiT, isT, DL.D.tyN, DL.D.isX, fInts, DL.D.seqI, fLenSet, fLR, fLR1, gLR2, rgOk, fDict, fAbs, fInt1, gMax2, gMin2, g1S, g2S, fItems, fR1, fR2, bd62, lowE, clr, bakE, kpE, fApp, fIns, fPop, fPopA, fPopI, fClr, fRev, fExt, allTop, fEq, fNe, fNeg, fIsN, DL.D.isNon, DL.D.key, dGet, canE, nrm, cT, sAug_k, ixN, fRvS, fAll, dBls_map, fIsB, fIdx, msk, Function.comp_def, cut_hi, cut_lo, cut_both, gLLL3, fCntB, fIdxB, gLR3]
  step := fun i d H v H' hd _ y => by
    obtain ⟨rfl, c, hc, rfl⟩ := y
    have : d = .str ⟨#[c]⟩ := by
      rw [List.getElem?_map] at hd
      rw [← Array.getElem?_toList] at hc
      rw [hc] at hd
      exact (Option.some.inj hd).symm
    subst this
    exact ⟨Same.refl _, [], .str _, fun b hb => nomatch hb⟩
theorem sv_str {K : PySem.W.Frag} : SV K wStr (g1S fSigns) := sv1 fun s H R ds ok h1 hg k => by
  obtain ⟨l1, d1, v1, n1⟩ := s
  dsimp only at *
  unfold fSigns at hg
  split at hg
  · rename_i z e
    cases e
    split at hg
    · cases hg
      obtain ⟨rfl, rfl⟩ := rd_str h1
      exact ⟨_, rfl, k _ (walk_str z)⟩
    · cases hg
  · cases hg
@[simp] theorem fSigns_k (l : Nat) (z : Str) : fSigns (l, .str z) = if szOk z.length then some (z.cps.toList.map fun c => .str ⟨#[c]⟩) else none := rfl
section
variable {X : Cx} {W : WW} {A : List Nat} {tg l : Expr} {f : PF}
theorem dip_str (ha : DP X W A l f) : DIP X W A tg l (srcP (g1S fSigns) [f]) := dip_gen (fs := [(A, f)]) sv_str mem1l (pi_str ha) fun σ H R q => tDP_mono q fun x H1 ⟨z, e, r⟩ => ⟨z, by cases e; rfl, r⟩
end
theorem p_glS {X : Cx} {W : WW} {x : Str} {z : Str} {pos : Pos} (hg : Gl X x) (hm : ∃ t, X.mg x = some (.str z t)) (hd : (x == ("__debug__" : Str)) = false := by decide) : DP X W [] (.Name x pos) (pC (.str z)) := by
  obtain ⟨t, hm⟩ := hm
  exact p_C (v := .str z) (pe_glob hg hm ⟨t, rfl⟩ hd) fun _ => .str z
end DL
namespace LW
open L2 DL PySem PySem.Spec PyProof.Rows
noncomputable section
def m__law_stir : SF := (sLow [0, 1] (sCan [true, true, true]
  (sSeq (sIf (toEB (pB (pApp gGe [(pVar 0), (pApp gPow [(pC (.int 10)), (pC (.int 18))])])))
  (sRet (toE [0, 1] (pApp gMod [(pApp gShr [(pApp gSub [(pVar 0), (pApp gPow [(pC (.int 10)), (pC (.int 18))])]), (pApp gMulT [(pC (.int 28)), (pVar 1)])]), (pApp gPow [(pC (.int 2)), (pC (.int 28))])])))
  sNil)
  (sSeq (sAsg (toE [0, 1] (pApp gMod [(pApp gMulT [(pApp gAdd [(pApp gAdd [(pVar 0), (pApp gMulT [(pC (.int 1013)), (pVar 1)])]), (pC (.int 1))]), (pC (.int 16807))]), (pC (.int 2147483647))])) (bName 2))
  (sSeq (sAsg (toE [2, 2] (pApp gMod [(pApp gMulT [(pVar 2), (pVar 2)]), (pC (.int 2147483629))])) (bName 2))
  (sRet (toE [2] (pApp gFdiv [(pApp gMod [(pApp gMulT [(pVar 2), (pC (.int 39373))]), (pC (.int 2147483587))]), (pC (.int 8))]))))))))
def F__law_stir : List LD → FR := runF 2 3 [] m__law_stir
theorem run__law_stir {l0 l1 : Nat} {d0 d1 : D} : F__law_stir [(l0, d0), (l1, d1)] = outF [] (m__law_stir [some (l0 % 10, d0), some (l1 % 10, d1), none]) := runF_out rfl rfl
def lb1__law_any_doing : SF := (sSeq (sAsg (toE [0, 1, 3] (pCall F__law_stir [(pVar 0), (pApp gAdd [(pApp gAdd [(pVar 1), (pC (.int 1))]), (pVar 3)])])) (bName 4))
  (sSeq (sAsg (toE [4, 4, 4, 4] (pApp gIx [(pApp gLstL [(pApp gNeg [(pC (.int 1))]), (pApp gMod [(pApp gFdiv [(pVar 4), (pC (.int 16))]), (pC (.int 6))]), (pApp gMod [(pApp gFdiv [(pVar 4), (pC (.int 16))]), (pC (.int 6))]), (pApp gMulT [(pVar 4), (pApp gPow [(pC (.int 10)), (pC (.int 21))])])]), (pApp gMod [(pVar 4), (pC (.int 4))])])) (bName 5))
  (sSeq (sExpr (eMeth "list" (GL fApp) 2 [.inr (toE [5, 4, 4, 4, 4] (pApp gTupL [(pVar 5), (pApp gIx [(pApp gLstL [(pApp gNeg [(pC (.int 2))]), (pApp gMod [(pApp gFdiv [(pVar 4), (pC (.int 128))]), (pC (.int 6))]), (pApp gMod [(pApp gFdiv [(pVar 4), (pC (.int 128))]), (pC (.int 6))]), (pVar 4)]), (pApp gMod [(pApp gFdiv [(pVar 4), (pC (.int 4))]), (pC (.int 4))])])]))]))
  (sCan [true, true, true, false, false, false] sNil))))
def m__law_any_doing : SF := (sLow [0, 1] (sCan [true, true, true, true, true, true]
  (sSeq (sAsg (toE [] (pApp gLstL [])) (bName 2))
  (sSeq (sCan [true, true, true, false, false, false] (sFor (srcE gR1 [(toE [0, 1] (pApp gMod [(pCall F__law_stir [(pVar 0), (pVar 1)]), (pC (.int 13))]))]) (bName 3) lb1__law_any_doing))
  (sRet (eMove 2))))))
def F__law_any_doing : List LD → FR := runF 2 6 [] m__law_any_doing
theorem run__law_any_doing {l0 l1 : Nat} {d0 d1 : D} : F__law_any_doing [(l0, d0), (l1, d1)] = outF [] (m__law_any_doing [some (l0 % 10, d0), some (l1 % 10, d1), none, none, none, none]) := runF_out rfl rfl
def lb1__law_any_row : SF := (sSeq (sAsg (toE [0, 1, 3] (pCall F__law_stir [(pVar 0), (pApp gAdd [(pApp gAdd [(pVar 1), (pC (.int 1))]), (pVar 3)])])) (bName 4))
  (sSeq (sAsg (toE [4, 4, 4, 4] (pApp gIx [(pApp gLstL [(pApp gMod [(pApp gFdiv [(pVar 4), (pC (.int 8))]), (pC (.int 10))]), (pApp gFdiv [(pVar 4), (pC (.int 8))]), (pApp gAdd [(pApp gMulT [(pVar 4), (pApp gPow [(pC (.int 10)), (pC (.int 21))])]), (pC (.int 7))])]), (pApp gMod [(pVar 4), (pC (.int 3))])])) (bName 5))
  (sSeq (sExpr (eMeth "list" (GL fApp) 2 [.inr (toE [5, 5, 4] (pApp gIx [(pApp gLstL [(pVar 5), (pApp gSub [(pC (.int 0)), (pVar 5)])]), (pApp gMod [(pApp gFdiv [(pVar 4), (pC (.int 4))]), (pC (.int 2))])]))]))
  (sCan [true, true, true, false, false, false] sNil))))
def m__law_any_row : SF := (sLow [0, 1] (sCan [true, true, true, true, true, true]
  (sSeq (sAsg (toE [] (pApp gLstL [])) (bName 2))
  (sSeq (sCan [true, true, true, false, false, false] (sFor (srcE gR1 [(toE [0, 1] (pApp gMod [(pCall F__law_stir [(pVar 0), (pVar 1)]), (pC (.int 13))]))]) (bName 3) lb1__law_any_row))
  (sRet (eMove 2))))))
def F__law_any_row : List LD → FR := runF 2 6 [] m__law_any_row
theorem run__law_any_row {l0 l1 : Nat} {d0 d1 : D} : F__law_any_row [(l0, d0), (l1, d1)] = outF [] (m__law_any_row [some (l0 % 10, d0), some (l1 % 10, d1), none, none, none, none]) := runF_out rfl rfl
def lb1__law_long : SF := (sSeq (sAsg (toE [0, 2] (pCall F__law_stir [(pVar 0), (pApp gAdd [(pC (.int 401)), (pVar 2)])])) (bName 4))
  (sSeq (sExpr (eMeth "list" (GL fApp) 1 [.inr (toE [4, 4, 4, 4] (pApp gMulT [(pApp gIx [(pApp gLstL [(pApp gMod [(pApp gFdiv [(pVar 4), (pC (.int 8))]), (pC (.int 10))]), (pApp gFdiv [(pVar 4), (pC (.int 8))])]), (pApp gMod [(pVar 4), (pC (.int 2))])]), (pApp gIx [(pApp gLstL [(pC (.int 1)), (pApp gNeg [(pC (.int 1))])]), (pApp gMod [(pApp gFdiv [(pVar 4), (pC (.int 2))]), (pC (.int 2))])])]))]))
  (sCan [true, true, false, false, false] sNil)))
def lb2__law_long : SF := (sSeq (sAsg (toE [0, 2] (pCall F__law_stir [(pVar 0), (pApp gAdd [(pC (.int 701)), (pVar 2)])])) (bName 4))
  (sSeq (sExpr (eMeth "list" (GL fApp) 3 [.inr (toE [4, 4, 4, 4] (pApp gTupL [(pApp gIx [(pApp gLstL [(pApp gNeg [(pC (.int 1))]), (pApp gMod [(pApp gFdiv [(pVar 4), (pC (.int 16))]), (pC (.int 12))])]), (pApp gMod [(pVar 4), (pC (.int 2))])]), (pApp gIx [(pApp gLstL [(pApp gNeg [(pC (.int 2))]), (pApp gMod [(pApp gFdiv [(pVar 4), (pC (.int 256))]), (pC (.int 12))])]), (pApp gMod [(pApp gFdiv [(pVar 4), (pC (.int 2))]), (pC (.int 2))])])]))]))
  (sCan [true, true, false, true, false] sNil)))
def m__law_long : SF := (sLow [0] (sCan [true, true, true, true, true]
  (sSeq (sAsg (toE [] (pApp gLstL [])) (bName 1))
  (sSeq (sCan [true, true, false, false, false] (sFor (srcE gR1 [(toE [0] (pApp gAdd [(pC (.int 40)), (pApp gMod [(pCall F__law_stir [(pVar 0), (pC (.int 400))]), (pC (.int 261))])]))]) (bName 2) lb1__law_long))
  (sSeq (sAsg (toE [] (pApp gLstL [])) (bName 3))
  (sSeq (sCan [true, true, false, true, false] (sFor (srcE gR1 [(toE [0] (pApp gAdd [(pC (.int 60)), (pApp gMod [(pCall F__law_stir [(pVar 0), (pC (.int 399))]), (pC (.int 25))])]))]) (bName 2) lb2__law_long))
  (sRet (eApp gLstL [(eMove 1), (eMove 3)]))))))))
def F__law_long : List LD → FR := runF 1 5 [] m__law_long
theorem run__law_long {l0 : Nat} {d0 : D} : F__law_long [(l0, d0)] = outF [] (m__law_long [some (l0 % 10, d0), none, none, none, none]) := runF_out rfl rfl
def m__law_is_doing : SF := (sLow [0, 1] (sCan [true, true, true, true, true]
  (sSeq (sIf (toEB (bOrP (bNotP (pB (pApp (gL1 (fIsi "list")) [(pVar 0)]))) (bOrP (pB (pApp gNeT [(pVar 0), (pVar 1)])) (pB (pApp gNeT [(pLc [0] (srcP (g1S fItems) [(pVar 0)]) (bName 2) (bNotP (pB (pApp (gL1 (fIsi "tuple")) [(pVar 2)]))) (pVar 2) [2]), (pApp gLstL [])])))))
  (sRet (toE [] (pC (.bl false))))
  sNil)
  (sRet (toE [0] (pApp gEqT [(pLc [0] (srcP (g1S fItems) [(pVar 0)]) (bUn [3, 4]) (bOrP (pB (pApp (gL1 (fIsi "bool")) [(pVar 3)])) (pB (pApp (gL1 (fIsi "bool")) [(pVar 4)]))) (pC (.int 1)) [3, 4]), (pApp gLstL [])]))))))
def F__law_is_doing : List LD → FR := runF 2 5 [] m__law_is_doing
theorem run__law_is_doing {l0 l1 : Nat} {d0 d1 : D} : F__law_is_doing [(l0, d0), (l1, d1)] = outF [] (m__law_is_doing [some (l0 % 10, d0), some (l1 % 10, d1), none, none, none]) := runF_out rfl rfl
def m__law_is_row : SF := (sLow [0, 1] (sCan [true, true, true]
  (sRet (toE [0] (pAnd (pApp (gL1 (fIsi "list")) [(pVar 0)]) (pAnd (pApp gEqT [(pVar 0), (pVar 1)]) (pApp gEqT [(pLc [0] (srcP (g1S fItems) [(pVar 0)]) (bName 2) (pB (pApp (gL1 (fIsi "bool")) [(pVar 2)])) (pC (.int 1)) [2]), (pApp gLstL [])])))))))
def F__law_is_row : List LD → FR := runF 2 3 [] m__law_is_row
theorem run__law_is_row {l0 l1 : Nat} {d0 d1 : D} : F__law_is_row [(l0, d0), (l1, d1)] = outF [] (m__law_is_row [some (l0 % 10, d0), some (l1 % 10, d1), none]) := runF_out rfl rfl
def m__law_end : SF := (sLow [0] (sCan [true]
  (sRet (toE [0, 0] (pIf (pB (pApp gLt [(pVar 0), (pC (.int 0))])) (pApp gIx [(pApp gLstL [(pC (.str "out")), (pC (.str "in"))]), (pApp gAdd [(pVar 0), (pC (.int 2))])]) (pApp (gL1 fStr) [(pVar 0)]))))))
def F__law_end : List LD → FR := runF 1 1 [] m__law_end
theorem run__law_end {l0 : Nat} {d0 : D} : F__law_end [(l0, d0)] = outF [] (m__law_end [some (l0 % 10, d0)]) := runF_out rfl rfl
def m__law_way : SF := (sLow [0] (sCan [true]
  (sRet (toE [0, 0] (pApp gAdd [(pApp gAdd [(pCall F__law_end [(pApp gIx [(pVar 0), (pC (.int 0))])]), (pC (.str ">"))]), (pCall F__law_end [(pApp gIx [(pVar 0), (pC (.int 1))])])])))))
def F__law_way : List LD → FR := runF 1 1 [] m__law_way
theorem run__law_way {l0 : Nat} {d0 : D} : F__law_way [(l0, d0)] = outF [] (m__law_way [some (l0 % 10, d0)]) := runF_out rfl rfl
def m_listed : SF := (sLow [0, 1] (sCan [true, true]
  (sSeq (sIf (toEB (pB (pApp gEqT [(pVar 0), (pApp gLstL [])])))
  (sRet (toE [] (pC (.str "-"))))
  sNil)
  (sRet (toE [1, 0] (pApp (gLL2 fJoin) [pTy "str" (pVar 1), (pVar 0)]))))))
def F_listed : List LD → FR := runF 2 2 [] m_listed
theorem run_listed {l0 l1 : Nat} {d0 d1 : D} : F_listed [(l0, d0), (l1, d1)] = outF [] (m_listed [some (l0 % 10, d0), some (l1 % 10, d1)]) := runF_out rfl rfl
def m_end_text : SF := (sLow [0] (sCan [true]
  (sSeq (sIf (toEB (pB (pApp gEqT [(pVar 0), (pC (.int (-1)))])))
  (sRet (toE [] (pC (.str "in"))))
  sNil)
  (sSeq (sIf (toEB (pB (pApp gEqT [(pVar 0), (pC (.int (-2)))])))
  (sRet (toE [] (pC (.str "out"))))
  sNil)
  (sRet (toE [0] (pApp (gL1 fStr) [(pVar 0)])))))))
def F_end_text : List LD → FR := runF 1 1 [] m_end_text
theorem run_end_text {l0 : Nat} {d0 : D} : F_end_text [(l0, d0)] = outF [] (m_end_text [some (l0 % 10, d0)]) := runF_out rfl rfl
def m_way_text : SF := (sLow [0] (sCan [true]
  (sRet (toE [0, 0] (pApp gAdd [(pApp gAdd [(pCall F_end_text [(pApp gIx [(pVar 0), (pC (.int 0))])]), (pC (.str ">"))]), (pCall F_end_text [(pApp gIx [(pVar 0), (pC (.int 1))])])])))))
def F_way_text : List LD → FR := runF 1 1 [] m_way_text
theorem run_way_text {l0 : Nat} {d0 : D} : F_way_text [(l0, d0)] = outF [] (m_way_text [some (l0 % 10, d0)]) := runF_out rfl rfl
def m_doing_text : SF := (sLow [0] (sCan [true, true]
  (sRet (toE [0] (pCall F_listed [(pLc [0] (srcP (g1S fItems) [(pVar 0)]) (bName 1) pbT (pCall F_way_text [(pVar 1)]) [1]), (pC (.str " "))])))))
def F_doing_text : List LD → FR := runF 1 2 [] m_doing_text
theorem run_doing_text {l0 : Nat} {d0 : D} : F_doing_text [(l0, d0)] = outF [] (m_doing_text [some (l0 % 10, d0), none]) := runF_out rfl rfl
def m_parts_told : SF := (sLow [0, 1] (sCan [true, true]
  (sSeq (sIf (toEB (pB (pApp gEqT [(pVar 0), (pC (.str "-"))])))
  (sRet (eApp gLstL []))
  sNil)
  (sRet (toE [0, 1] (pApp (gLL2 fSplit) [pTy "str" (pVar 0), (pVar 1)]))))))
def F_parts_told : List LD → FR := runF 2 2 [] m_parts_told
theorem run_parts_told {l0 l1 : Nat} {d0 d1 : D} : F_parts_told [(l0, d0), (l1, d1)] = outF [] (m_parts_told [some (l0 % 10, d0), some (l1 % 10, d1)]) := runF_out rfl rfl
def m_figures_told : SF := (sLow [0] (sCan [true, true]
  (sSeq (sIf (toEB (bOrP (bNotP (pB (pChain (fun i j => decide (i ≤ j)) (fun i j => decide (i ≤ j)) (pC (.int 1)) (pApp gLen [(pVar 0)]) (pC (.int 30))))) (pB (pApp gNeT [(pLc [0] (srcP (g1S fSigns) [(pVar 0)]) (bName 1) (pB (pApp (gL2 (fInS false)) [(pVar 1), (pC (.str "0123456789"))])) (pVar 1) [1]), (pApp gLstL [])]))))
  (sRaise "NoText")
  sNil)
  (sSeq (sIf (toEB (bAndP (pB (pApp gEqT [(pApp gIx [(pVar 0), (pC (.int 0))]), (pC (.str "0"))])) (pB (pApp gNeT [(pVar 0), (pC (.str "0"))]))))
  (sRaise "NoText")
  sNil)
  (sRet (toE [0] (pApp (gL1 fIntS) [(pVar 0)])))))))
def F_figures_told : List LD → FR := runF 1 2 [] m_figures_told
theorem run_figures_told {l0 : Nat} {d0 : D} : F_figures_told [(l0, d0)] = outF [] (m_figures_told [some (l0 % 10, d0), none]) := runF_out rfl rfl
def m_way_told : SF := (sLow [0] (sCan [true, true, true, true]
  (sSeq (sAsg (toE [0] (pApp (gLL2 fSplit) [pTy "str" (pVar 0), (pC (.str ">"))])) (bName 1))
  (sSeq (sIf (toEB (pB (pApp gNeT [(pApp gLen [(pVar 1)]), (pC (.int 2))])))
  (sRaise "NoText")
  sNil)
  (sSeq (sAsg (toE [] (pC (.int (-1)))) (bName 2))
  (sSeq (sIf (toEB (pB (pApp gNeT [(pApp gIx [(pVar 1), (pC (.int 0))]), (pC (.str "in"))])))
  (sAsg (toE [1] (pCall F_figures_told [(pApp gIx [(pVar 1), (pC (.int 0))])])) (bName 2))
  sNil)
  (sSeq (sAsg (toE [] (pC (.int (-2)))) (bName 3))
  (sSeq (sIf (toEB (pB (pApp gNeT [(pApp gIx [(pVar 1), (pC (.int 1))]), (pC (.str "out"))])))
  (sAsg (toE [1] (pCall F_figures_told [(pApp gIx [(pVar 1), (pC (.int 1))])])) (bName 3))
  sNil)
  (sRet (eApp gTupL [(eMove 2), (eMove 3)]))))))))))
def F_way_told : List LD → FR := runF 1 4 [] m_way_told
theorem run_way_told {l0 : Nat} {d0 : D} : F_way_told [(l0, d0)] = outF [] (m_way_told [some (l0 % 10, d0), none, none, none]) := runF_out rfl rfl
def m_read_doing : SF := (sLow [0] (sCan [true, true]
  (sRet (eLcP (srcE (g1S fItems) [(toE [0] (pCall F_parts_told [(pVar 0), (pC (.str " "))]))]) (bName 1) pbT (pCall F_way_told [(pVar 1)]) [1]))))
def F_read_doing : List LD → FR := runF 1 2 [] m_read_doing
theorem run_read_doing {l0 : Nat} {d0 : D} : F_read_doing [(l0, d0)] = outF [] (m_read_doing [some (l0 % 10, d0), none]) := runF_out rfl rfl
def m_number_told : SF := (sLow [0] (sCan [true]
  (sSeq (sIf (toEB (bAndP (pB (pApp gEqT [(pApp gSlHT [(pVar 0), pI (pC (.int 1))]), (pC (.str "-"))])) (pB (pApp gNeT [(pVar 0), (pC (.str "-0"))]))))
  (sRet (toE [0] (pApp gNeg [(pCall F_figures_told [(pApp gSlLT [(pVar 0), pI (pC (.int 1))])])])))
  sNil)
  (sRet (toE [0] (pCall F_figures_told [(pVar 0)]))))))
def F_number_told : List LD → FR := runF 1 1 [] m_number_told
theorem run_number_told {l0 : Nat} {d0 : D} : F_number_told [(l0, d0)] = outF [] (m_number_told [some (l0 % 10, d0)]) := runF_out rfl rfl
def m_read_row : SF := (sLow [0] (sCan [true, true]
  (sRet (eLcP (srcE (g1S fItems) [(toE [0] (pCall F_parts_told [(pVar 0), (pC (.str " "))]))]) (bName 1) pbT (pCall F_number_told [(pVar 1)]) [1]))))
def F_read_row : List LD → FR := runF 1 2 [] m_read_row
theorem run_read_row {l0 : Nat} {d0 : D} : F_read_row [(l0, d0)] = outF [] (m_read_row [some (l0 % 10, d0), none]) := runF_out rfl rfl
def m_row_text : SF := (sLow [0] (sCan [true, true]
  (sRet (toE [0] (pCall F_listed [(pLc [0] (srcP (g1S fItems) [(pVar 0)]) (bName 1) pbT (pApp (gL1 fStr) [(pVar 1)]) [1]), (pC (.str " "))])))))
def F_row_text : List LD → FR := runF 1 2 [] m_row_text
theorem run_row_text {l0 : Nat} {d0 : D} : F_row_text [(l0, d0)] = outF [] (m_row_text [some (l0 % 10, d0), none]) := runF_out rfl rfl
def lb1__law_right : SF := (sSeq (sAsg (toE [3, 3] (pApp gLstL [(pCall F_row_text [(pApp gIx [(pVar 3), (pC (.int 0))])]), (pCall F_doing_text [(pApp gIx [(pVar 3), (pC (.int 1))])])])) (bName 5))
  (sSeq (sIf (toEB (bOrP (pB (pApp gNeT [(pVar 5), (pVar 2)])) (pB (pApp gNeT [(pVar 3), (pApp gLstL [(pVar 0), (pVar 1)])]))))
  (sRet (toE [] (pC (.bl false))))
  sNil)
  (sSeq (sAsg (toE [2, 2] (pApp gLstL [(pCall F_read_row [(pApp gIx [(pVar 2), (pC (.int 0))])]), (pCall F_read_doing [(pApp gIx [(pVar 2), (pC (.int 1))])])])) (bName 6))
  (sSeq (sIf (toEB (bOrP (bNotP (pB (pCall F__law_is_row [(pApp gIx [(pVar 6), (pC (.int 0))]), (pVar 0)]))) (bNotP (pB (pCall F__law_is_doing [(pApp gIx [(pVar 6), (pC (.int 1))]), (pVar 1)])))))
  (sRet (toE [] (pC (.bl false))))
  sNil)
  (sSeq (sExpr (eNest "list" fApp 6 (pC (.int 0)) [.inr (toE [] (pC (.int 5)))]))
  (sSeq (sExpr (eNest "list" fApp 6 (pC (.int 1)) [.inr (toE [] (pApp gTupL [(pApp gNeg [(pC (.int 1))]), (pApp gNeg [(pC (.int 2))])]))]))
  (sCan [true, true, true, true, false, false, false, false, false] sNil)))))))
def m__law_right : SF := (sLow [0, 1] (sCan [true, true, true, true, true, true, true, true, true]
  (sSeq (sAsg (toE [0, 0] (pApp gLstL [(pApp gAdd [(pApp (gLL2 fJoin) [pTy "str" (pC (.str " ")), (pLc [0] (srcP (g1S fItems) [(pVar 0)]) (bName 7) pbT (pApp (gL1 fStr) [(pVar 7)]) [7])]), (pApp gMulT [(pC (.str "-")), (pApp (gL1 fIntS) [(pApp gEqT [(pVar 0), (pApp gLstL [])])])])])])) (bName 2))
  (sSeq (sExpr (eMeth "list" (GL fApp) 2 [.inr (toE [1, 1] (pApp gAdd [(pApp (gLL2 fJoin) [pTy "str" (pC (.str " ")), (pLc [1] (srcP (g1S fItems) [(pVar 1)]) (bName 8) pbT (pCall F__law_way [(pVar 8)]) [8])]), (pApp gMulT [(pC (.str "-")), (pApp (gL1 fIntS) [(pApp gEqT [(pVar 1), (pApp gLstL [])])])])]))]))
  (sSeq (sAsg (toE [0, 1] (pApp gLstL [(pApp gListOf [(pVar 0)]), (pApp gListOf [(pVar 1)])])) (bName 3))
  (sSeq (sCan [true, true, true, true, false, false, false, false, false] (sFor (srcE gR1 [(toE [] (pC (.int 2)))]) (bName 4) lb1__law_right))
  (sRet (toE [] (pC (.bl true))))))))))
def F__law_right : List LD → FR := runF 2 9 [] m__law_right
theorem run__law_right {l0 l1 : Nat} {d0 d1 : D} : F__law_right [(l0, d0), (l1, d1)] = outF [] (m__law_right [some (l0 % 10, d0), some (l1 % 10, d1), none, none, none, none, none, none, none]) := runF_out rfl rfl
def lb1_law : SF := (sSeq (sIf (toEB (bNotP (pB (pCall F__law_right [(pCall F__law_any_row [(pVar 2), (pC (.int 0))]), (pCall F__law_any_doing [(pVar 2), (pC (.int 20))])]))))
  (sRet (toE [] (pC (.bl false))))
  sNil)
  (sCan [false, true, false, false, false] sNil))
def m_law : SF := (sLow [0] (sCan [true, true, true, true, true]
  (sSeq (sAsg (toE [0] (pApp gSlHT [(pVar 0), pI (pC (.int 12))])) (bName 1))
  (sSeq (sIf (toEB (pB (pApp gEqT [(pVar 1), (pApp gLstL [])])))
  (sAsg (toE [] (pApp gLstL [(pC (.int 0))])) (bName 1))
  sNil)
  (sSeq (sCan [false, true, false, false, false] (sFor (srcE (g1S fItems) [(toE [1] (pVar 1))]) (bName 2) lb1_law))
  (sSeq (sAsg (toE [1] (pCall F__law_long [(pApp gIx [(pVar 1), (pC (.int 0))])])) (bUn [3, 4]))
  (sSeq (sIf (toEB (bNotP (pB (pCall F__law_right [(pVar 3), (pVar 4)]))))
  (sRet (toE [] (pC (.bl false))))
  sNil)
  (sRet (toE [] (pAnd (pCall F__law_right [(pApp gLstL []), (pApp gLstL [])]) (pCall F__law_right [(pApp gLstL [(pC (.int 0))]), (pApp gLstL [(pApp gTupL [(pApp gNeg [(pC (.int 1))]), (pApp gNeg [(pC (.int 2))])])])])))))))))))
def F_law : List LD → FR := runF 1 5 [] m_law
theorem run_law {l0 : Nat} {d0 : D} : F_law [(l0, d0)] = outF [] (m_law [some (l0 % 10, d0), none, none, none, none]) := runF_out rfl rfl
end
end LW
namespace LW
open L2 DL PySem PySem.Spec PyProof.Rows
def stirN (cell k : Int) : Int := (cell + 1013 * k + 1) * 16807 % 2147483647
def stir (cell k : Int) : Int := if 1000000000000000000 ≤ cell then (cell - 1000000000000000000) / 2 ^ (28 * k).toNat % 268435456 else stirN cell k * stirN cell k % 2147483629 * 39373 % 2147483587 / 8
theorem stir_bd (cell k : Int) : 0 ≤ stir cell k ∧ stir cell k < 268435456 := by
  unfold stir
  split
  · exact ⟨Int.emod_nonneg _ (by decide), Int.emod_lt_of_pos _ (by decide)⟩
  · have a := Int.emod_nonneg (stirN cell k * stirN cell k % 2147483629 * 39373) (show (2147483587 : Int) ≠ 0 by decide)
    have b := Int.emod_lt_of_pos (stirN cell k * stirN cell k % 2147483629 * 39373) (show (0 : Int) < 2147483587 by decide)
    omega
theorem stir_ok (cell k : Int) (h0 : 0 ≤ k) (l0 l1 : Nat) : F__law_stir [(l0, .int cell), (l1, .int k)] = .ret (2, .int (stir cell k)) [] := by
  rw [run__law_stir]
  unfold stir
  by_cases h : (1000000000000000000 : Int) ≤ cell
  · have h2 : 0 ≤ 28 * k := by omega
    simp [mkS, finS, bNs, gL1, gL2, gLL2, fI2, tkA, ptA, GS, GL, fPut, ful, l12, l02, DL.D.mut, DL.D.top, DL.D.imm, DL.D.imm.immAll, fdOk, fIx, fMul, fAdd, powOk, gLstL, gTupL, DL.D.ty, lvN, szOk, fLen, fListOf, fTupOf, fSl, gSlN, gSlH, gSlL, gSlB, fIsi, fIsiT, isT, DL.D.tyN, DL.D.isX, fInts, DL.D.seqI, fLenSet, fLR, fLR1, gLR2, rgOk, fDict, fAbs, fInt1, gMax2, gMin2, g1S, g2S, fItems, fR1, fR2, bd62, lowE, clr, bakE, kpE, fApp, fIns, fPop, fPopA, fPopI, fClr, fRev, fExt, allTop, fEq, fNe, fNeg, fIsN, DL.D.isNon, DL.D.key, dGet, canE, nrm, cT, sAug_k, ixN, fRvS, fAll, dBls_map, fIsB, fIdx, msk, Function.comp_def, cut_hi, cut_lo, cut_both, gLLL3, fCntB, fIdxB, gLR3, m__law_stir, h, h2]
  · have m1 : mulOk (stirN cell k) (stirN cell k) = true := mulOk_l (by
      unfold stirN
      have a := Int.emod_nonneg ((cell + 1013 * k + 1) * 16807) (show (2147483647 : Int) ≠ 0 by decide)
      have b := Int.emod_lt_of_pos ((cell + 1013 * k + 1) * 16807) (show (0 : Int) < 2147483647 by decide)
      omega)
    have e : (cell + 1013 * k + 1) * 16807 % 2147483647 = stirN cell k := rfl
    simp [mkS, finS, bNs, gL1, gL2, gLL2, fI2, tkA, ptA, GS, GL, fPut, ful, l12, l02, DL.D.mut, DL.D.top, DL.D.imm, DL.D.imm.immAll, fdOk, fIx, fMul, fAdd, powOk, gLstL, gTupL, DL.D.ty, lvN, szOk, fLen, fListOf, fTupOf, fSl, gSlN, gSlH, gSlL, gSlB, fIsi, fIsiT, isT, DL.D.tyN, DL.D.isX, fInts, DL.D.seqI, fLenSet, fLR, fLR1, gLR2, rgOk, fDict, fAbs, fInt1, gMax2, gMin2, g1S, g2S, fItems, fR1, fR2, bd62, lowE, clr, bakE, kpE, fApp, fIns, fPop, fPopA, fPopI, fClr, fRev, fExt, allTop, fEq, fNe, fNeg, fIsN, DL.D.isNon, DL.D.key, dGet, canE, nrm, cT, sAug_k, ixN, fRvS, fAll, dBls_map, fIsB, fIdx, msk, Function.comp_def, cut_hi, cut_lo, cut_both, gLLL3, fCntB, fIdxB, gLR3, m__law_stir, h, e, m1]
end LW
namespace LW
open L2 DL PySem PySem.Spec PyProof.Rows
def tx (l : List Nat) : Str := ⟨l.toArray⟩
theorem tx_cat (a b : List Nat) : tx a ++ tx b = tx (a ++ b) := SX.S_cat a b
theorem tx_len (a : List Nat) : (tx a).length = a.length := SX.S_len a
theorem tx_inj {a b : List Nat} (h : tx a = tx b) : a = b := SX.S_inj h
theorem tx_eqP (a b : List Nat) : (tx a = tx b) = (a = b) := propext ⟨tx_inj, fun h => by rw [h]⟩
theorem tx_cps (a : List Nat) : (tx a).cps.toList = a := rfl
theorem tx_join (s : List Nat) (ys : List (List Nat)) : Txt.join (tx s) (ys.map tx) = tx (TL.joinL s ys) := SX.join_S s ys
theorem tx_split (a : List Nat) (c : Nat) (hc : c < 256) : Txt.split (tx a) (tx [c]) = (TL.spl [c] 0 [] a).map tx := SX.split_S (by simp [mkS, finS, bNs, gL1, gL2, gLL2, fI2, tkA, ptA, GS, GL, fPut, ful, l12, l02, DL.D.mut, DL.D.top, DL.D.imm, DL.D.imm.immAll, fdOk, fIx, fMul, fAdd, powOk, gLstL, gTupL, DL.D.ty, lvN, szOk, fLen, fListOf, fTupOf, fSl, gSlN, gSlH, gSlL, gSlB, fIsi, fIsiT, isT, DL.D.tyN, DL.D.isX, fInts, DL.D.seqI, fLenSet, fLR, fLR1, gLR2, rgOk, fDict, fAbs, fInt1, gMax2, gMin2, g1S, g2S, fItems, fR1, fR2, bd62, lowE, clr, bakE, kpE, fApp, fIns, fPop, fPopA, fPopI, fClr, fRev, fExt, allTop, fEq, fNe, fNeg, fIsN, DL.D.isNon, DL.D.key, dGet, canE, nrm, cT, sAug_k, ixN, fRvS, fAll, dBls_map, fIsB, fIdx, msk, Function.comp_def, cut_hi, cut_lo, cut_both, gLLL3, fCntB, fIdxB, gLR3]) (by simpa [mkS, finS, bNs, gL1, gL2, gLL2, fI2, tkA, ptA, GS, GL, fPut, ful, l12, l02, DL.D.mut, DL.D.top, DL.D.imm, DL.D.imm.immAll, fdOk, fIx, fMul, fAdd, powOk, gLstL, gTupL, DL.D.ty, lvN, szOk, fLen, fListOf, fTupOf, fSl, gSlN, gSlH, gSlL, gSlB, fIsi, fIsiT, isT, DL.D.tyN, DL.D.isX, fInts, DL.D.seqI, fLenSet, fLR, fLR1, gLR2, rgOk, fDict, fAbs, fInt1, gMax2, gMin2, g1S, g2S, fItems, fR1, fR2, bd62, lowE, clr, bakE, kpE, fApp, fIns, fPop, fPopA, fPopI, fClr, fRev, fExt, allTop, fEq, fNe, fNeg, fIsN, DL.D.isNon, DL.D.key, dGet, canE, nrm, cT, sAug_k, ixN, fRvS, fAll, dBls_map, fIsB, fIdx, msk, Function.comp_def, cut_hi, cut_lo, cut_both, gLLL3, fCntB, fIdxB, gLR3] using hc)
theorem fJoin_map {α : Type} (l l2 : Nat) (a : Str) (f : α → Str) (xs : List α) : fJoin (l, .str a) (l2, .lst (xs.map fun x => .str (f x))) = if ((xs.map f).map (·.length)).sum + (xs.map f).length * a.length ≤ 16777216 then some (2, .str (Txt.join a (xs.map f))) else none := by
  have e : (xs.map fun x => D.str (f x)) = (xs.map f).map .str := by rw [List.map_map]; rfl
  rw [e, fJoin_k]
theorem eqd_tx {n : Nat} {a : List Nat} (h : ∀ c ∈ a, c < 1114112) : eqd n (.str (tx a)) = true := by
  have : (tx a).cps.all (· < 0x110000) = true := by
    rw [Array.all_eq_true']
    intro x hx
    have : x ∈ a := by simpa [mkS, finS, bNs, gL1, gL2, gLL2, fI2, tkA, ptA, GS, GL, fPut, ful, l12, l02, DL.D.mut, DL.D.top, DL.D.imm, DL.D.imm.immAll, fdOk, fIx, fMul, fAdd, powOk, gLstL, gTupL, DL.D.ty, lvN, szOk, fLen, fListOf, fTupOf, fSl, gSlN, gSlH, gSlL, gSlB, fIsi, fIsiT, isT, DL.D.tyN, DL.D.isX, fInts, DL.D.seqI, fLenSet, fLR, fLR1, gLR2, rgOk, fDict, fAbs, fInt1, gMax2, gMin2, g1S, g2S, fItems, fR1, fR2, bd62, lowE, clr, bakE, kpE, fApp, fIns, fPop, fPopA, fPopI, fClr, fRev, fExt, allTop, fEq, fNe, fNeg, fIsN, DL.D.isNon, DL.D.key, dGet, canE, nrm, cT, sAug_k, ixN, fRvS, fAll, dBls_map, fIsB, fIdx, msk, Function.comp_def, cut_hi, cut_lo, cut_both, gLLL3, fCntB, fIdxB, gLR3, tx] using hx
    simpa [mkS, finS, bNs, gL1, gL2, gLL2, fI2, tkA, ptA, GS, GL, fPut, ful, l12, l02, DL.D.mut, DL.D.top, DL.D.imm, DL.D.imm.immAll, fdOk, fIx, fMul, fAdd, powOk, gLstL, gTupL, DL.D.ty, lvN, szOk, fLen, fListOf, fTupOf, fSl, gSlN, gSlH, gSlL, gSlB, fIsi, fIsiT, isT, DL.D.tyN, DL.D.isX, fInts, DL.D.seqI, fLenSet, fLR, fLR1, gLR2, rgOk, fDict, fAbs, fInt1, gMax2, gMin2, g1S, g2S, fItems, fR1, fR2, bd62, lowE, clr, bakE, kpE, fApp, fIns, fPop, fPopA, fPopI, fClr, fRev, fExt, allTop, fEq, fNe, fNeg, fIsN, DL.D.isNon, DL.D.key, dGet, canE, nrm, cT, sAug_k, ixN, fRvS, fAll, dBls_map, fIsB, fIdx, msk, Function.comp_def, cut_hi, cut_lo, cut_both, gLLL3, fCntB, fIdxB, gLR3] using h x this
  cases n <;> exact this
theorem deq_tx (a b : List Nat) : deq (.str (tx a)) (.str (tx b)) = decide (a = b) := by
  rw [deq]
  by_cases c : a = b
  · subst c; simp [mkS, finS, bNs, gL1, gL2, gLL2, fI2, tkA, ptA, GS, GL, fPut, ful, l12, l02, DL.D.mut, DL.D.top, DL.D.imm, DL.D.imm.immAll, fdOk, fIx, fMul, fAdd, powOk, gLstL, gTupL, DL.D.ty, lvN, szOk, fLen, fListOf, fTupOf, fSl, gSlN, gSlH, gSlL, gSlB, fIsi, fIsiT, isT, DL.D.tyN, DL.D.isX, fInts, DL.D.seqI, fLenSet, fLR, fLR1, gLR2, rgOk, fDict, fAbs, fInt1, gMax2, gMin2, g1S, g2S, fItems, fR1, fR2, bd62, lowE, clr, bakE, kpE, fApp, fIns, fPop, fPopA, fPopI, fClr, fRev, fExt, allTop, fEq, fNe, fNeg, fIsN, DL.D.isNon, DL.D.key, dGet, canE, nrm, cT, sAug_k, ixN, fRvS, fAll, dBls_map, fIsB, fIdx, msk, Function.comp_def, cut_hi, cut_lo, cut_both, gLLL3, fCntB, fIdxB, gLR3]
  · have : tx a ≠ tx b := fun h => c (tx_inj h)
    simp [mkS, finS, bNs, gL1, gL2, gLL2, fI2, tkA, ptA, GS, GL, fPut, ful, l12, l02, DL.D.mut, DL.D.top, DL.D.imm, DL.D.imm.immAll, fdOk, fIx, fMul, fAdd, powOk, gLstL, gTupL, DL.D.ty, lvN, szOk, fLen, fListOf, fTupOf, fSl, gSlN, gSlH, gSlL, gSlB, fIsi, fIsiT, isT, DL.D.tyN, DL.D.isX, fInts, DL.D.seqI, fLenSet, fLR, fLR1, gLR2, rgOk, fDict, fAbs, fInt1, gMax2, gMin2, g1S, g2S, fItems, fR1, fR2, bd62, lowE, clr, bakE, kpE, fApp, fIns, fPop, fPopA, fPopI, fClr, fRev, fExt, allTop, fEq, fNe, fNeg, fIsN, DL.D.isNon, DL.D.key, dGet, canE, nrm, cT, sAug_k, ixN, fRvS, fAll, dBls_map, fIsB, fIdx, msk, Function.comp_def, cut_hi, cut_lo, cut_both, gLLL3, fCntB, fIdxB, gLR3, c, this]
theorem k_dash : Str.ofString "-" = tx [45] := by decide +kernel
theorem k_blank : Str.ofString " " = tx [32] := by decide +kernel
theorem k_gt : Str.ofString ">" = tx [62] := by decide +kernel
theorem k_in : Str.ofString "in" = tx [105, 110] := by decide +kernel
theorem k_out : Str.ofString "out" = tx [111, 117, 116] := by decide +kernel
theorem k_0 : Str.ofString "0" = tx [48] := by decide +kernel
theorem k_figs : Str.ofString "0123456789" = tx [48, 49, 50, 51, 52, 53, 54, 55, 56, 57] := by decide +kernel
theorem k_num (n : Nat) : Str.ofString ((n : Int).repr) = tx (TL.numL n) := SX.num_S n
/-- an end of a way -/
def endL (p : Int) : List Nat := if p = -1 then [105, 110] else if p = -2 then [111, 117, 116] else TL.numL p.toNat
def wayL (q : Int × Int) : List Nat := endL q.1 ++ (62 :: endL q.2)
def joinE (s : List Nat) (ys : List (List Nat)) : List Nat := if ys = [] then [45] else TL.joinL s ys
theorem num_len {n : Nat} (h : n.log2 < 1920) : (TL.numL n).length ≤ 600 := by
  refine TL.numL_len (by decide) ?_
  by_cases c : n = 0
  · subst c; decide
  · have h1 := (Nat.log2_lt c).mp h
    exact Nat.lt_of_lt_of_le h1 (by decide)
theorem end_len {p : Int} (h : p.natAbs.log2 < 1920) : (endL p).length ≤ 600 := by
  unfold endL
  split
  · simp [mkS, finS, bNs, gL1, gL2, gLL2, fI2, tkA, ptA, GS, GL, fPut, ful, l12, l02, DL.D.mut, DL.D.top, DL.D.imm, DL.D.imm.immAll, fdOk, fIx, fMul, fAdd, powOk, gLstL, gTupL, DL.D.ty, lvN, szOk, fLen, fListOf, fTupOf, fSl, gSlN, gSlH, gSlL, gSlB, fIsi, fIsiT, isT, DL.D.tyN, DL.D.isX, fInts, DL.D.seqI, fLenSet, fLR, fLR1, gLR2, rgOk, fDict, fAbs, fInt1, gMax2, gMin2, g1S, g2S, fItems, fR1, fR2, bd62, lowE, clr, bakE, kpE, fApp, fIns, fPop, fPopA, fPopI, fClr, fRev, fExt, allTop, fEq, fNe, fNeg, fIsN, DL.D.isNon, DL.D.key, dGet, canE, nrm, cT, sAug_k, ixN, fRvS, fAll, dBls_map, fIsB, fIdx, msk, Function.comp_def, cut_hi, cut_lo, cut_both, gLLL3, fCntB, fIdxB, gLR3]
  · split
    · simp [mkS, finS, bNs, gL1, gL2, gLL2, fI2, tkA, ptA, GS, GL, fPut, ful, l12, l02, DL.D.mut, DL.D.top, DL.D.imm, DL.D.imm.immAll, fdOk, fIx, fMul, fAdd, powOk, gLstL, gTupL, DL.D.ty, lvN, szOk, fLen, fListOf, fTupOf, fSl, gSlN, gSlH, gSlL, gSlB, fIsi, fIsiT, isT, DL.D.tyN, DL.D.isX, fInts, DL.D.seqI, fLenSet, fLR, fLR1, gLR2, rgOk, fDict, fAbs, fInt1, gMax2, gMin2, g1S, g2S, fItems, fR1, fR2, bd62, lowE, clr, bakE, kpE, fApp, fIns, fPop, fPopA, fPopI, fClr, fRev, fExt, allTop, fEq, fNe, fNeg, fIsN, DL.D.isNon, DL.D.key, dGet, canE, nrm, cT, sAug_k, ixN, fRvS, fAll, dBls_map, fIsB, fIdx, msk, Function.comp_def, cut_hi, cut_lo, cut_both, gLLL3, fCntB, fIdxB, gLR3]
    · by_cases c : 0 ≤ p
      · refine num_len ?_
        have : p.toNat = p.natAbs := by omega
        rwa [this]
      · have : p.toNat = 0 := by omega
        rw [this]
        decide
theorem end_low {p : Int} : ∀ c ∈ endL p, c < 128 ∧ c ≠ 32 ∧ c ≠ 44 ∧ c ≠ 62 ∧ c ≠ 45 := fun c hc => by
  unfold endL at hc
  split at hc
  · simp [mkS, finS, bNs, gL1, gL2, gLL2, fI2, tkA, ptA, GS, GL, fPut, ful, l12, l02, DL.D.mut, DL.D.top, DL.D.imm, DL.D.imm.immAll, fdOk, fIx, fMul, fAdd, powOk, gLstL, gTupL, DL.D.ty, lvN, szOk, fLen, fListOf, fTupOf, fSl, gSlN, gSlH, gSlL, gSlB, fIsi, fIsiT, isT, DL.D.tyN, DL.D.isX, fInts, DL.D.seqI, fLenSet, fLR, fLR1, gLR2, rgOk, fDict, fAbs, fInt1, gMax2, gMin2, g1S, g2S, fItems, fR1, fR2, bd62, lowE, clr, bakE, kpE, fApp, fIns, fPop, fPopA, fPopI, fClr, fRev, fExt, allTop, fEq, fNe, fNeg, fIsN, DL.D.isNon, DL.D.key, dGet, canE, nrm, cT, sAug_k, ixN, fRvS, fAll, dBls_map, fIsB, fIdx, msk, Function.comp_def, cut_hi, cut_lo, cut_both, gLLL3, fCntB, fIdxB, gLR3] at hc
    omega
  · split at hc
    · simp [mkS, finS, bNs, gL1, gL2, gLL2, fI2, tkA, ptA, GS, GL, fPut, ful, l12, l02, DL.D.mut, DL.D.top, DL.D.imm, DL.D.imm.immAll, fdOk, fIx, fMul, fAdd, powOk, gLstL, gTupL, DL.D.ty, lvN, szOk, fLen, fListOf, fTupOf, fSl, gSlN, gSlH, gSlL, gSlB, fIsi, fIsiT, isT, DL.D.tyN, DL.D.isX, fInts, DL.D.seqI, fLenSet, fLR, fLR1, gLR2, rgOk, fDict, fAbs, fInt1, gMax2, gMin2, g1S, g2S, fItems, fR1, fR2, bd62, lowE, clr, bakE, kpE, fApp, fIns, fPop, fPopA, fPopI, fClr, fRev, fExt, allTop, fEq, fNe, fNeg, fIsN, DL.D.isNon, DL.D.key, dGet, canE, nrm, cT, sAug_k, ixN, fRvS, fAll, dBls_map, fIsB, fIdx, msk, Function.comp_def, cut_hi, cut_lo, cut_both, gLLL3, fCntB, fIdxB, gLR3] at hc
      omega
    · have := TL.numL_digits p.toNat c hc
      omega
theorem way_low {q : Int × Int} : ∀ c ∈ wayL q, c < 128 ∧ c ≠ 32 ∧ c ≠ 44 ∧ c ≠ 45 := fun c hc => by
  unfold wayL at hc
  rcases List.mem_append.mp hc with h | h
  · have := end_low c h
    omega
  · rcases List.mem_cons.mp h with rfl | h
    · omega
    · have := end_low c h
      omega
theorem end_text_ok {p : Int} (hp : -2 ≤ p) (hl : p.natAbs.log2 < 1920) (l : Nat) : F_end_text [(l, .int p)] = .ret (2, .str (tx (endL p))) [] := by
  rw [run_end_text]
  unfold endL
  by_cases c1 : p = -1
  · simp [mkS, finS, bNs, gL1, gL2, gLL2, fI2, tkA, ptA, GS, GL, fPut, ful, l12, l02, DL.D.mut, DL.D.top, DL.D.imm, DL.D.imm.immAll, fdOk, fIx, fMul, fAdd, powOk, gLstL, gTupL, DL.D.ty, lvN, szOk, fLen, fListOf, fTupOf, fSl, gSlN, gSlH, gSlL, gSlB, fIsi, fIsiT, isT, DL.D.tyN, DL.D.isX, fInts, DL.D.seqI, fLenSet, fLR, fLR1, gLR2, rgOk, fDict, fAbs, fInt1, gMax2, gMin2, g1S, g2S, fItems, fR1, fR2, bd62, lowE, clr, bakE, kpE, fApp, fIns, fPop, fPopA, fPopI, fClr, fRev, fExt, allTop, fEq, fNe, fNeg, fIsN, DL.D.isNon, DL.D.key, dGet, canE, nrm, cT, sAug_k, ixN, fRvS, fAll, dBls_map, fIsB, fIdx, msk, Function.comp_def, cut_hi, cut_lo, cut_both, gLLL3, fCntB, fIdxB, gLR3, m_end_text, c1, k_in]
  · by_cases c2 : p = -2
    · simp [mkS, finS, bNs, gL1, gL2, gLL2, fI2, tkA, ptA, GS, GL, fPut, ful, l12, l02, DL.D.mut, DL.D.top, DL.D.imm, DL.D.imm.immAll, fdOk, fIx, fMul, fAdd, powOk, gLstL, gTupL, DL.D.ty, lvN, szOk, fLen, fListOf, fTupOf, fSl, gSlN, gSlH, gSlL, gSlB, fIsi, fIsiT, isT, DL.D.tyN, DL.D.isX, fInts, DL.D.seqI, fLenSet, fLR, fLR1, gLR2, rgOk, fDict, fAbs, fInt1, gMax2, gMin2, g1S, g2S, fItems, fR1, fR2, bd62, lowE, clr, bakE, kpE, fApp, fIns, fPop, fPopA, fPopI, fClr, fRev, fExt, allTop, fEq, fNe, fNeg, fIsN, DL.D.isNon, DL.D.key, dGet, canE, nrm, cT, sAug_k, ixN, fRvS, fAll, dBls_map, fIsB, fIdx, msk, Function.comp_def, cut_hi, cut_lo, cut_both, gLLL3, fCntB, fIdxB, gLR3, m_end_text, c1, c2, k_out]
    · obtain ⟨n, rfl⟩ : ∃ n : Nat, p = n := ⟨p.toNat, by omega⟩
      have hl : n.log2 < 1920 := hl
      simp [mkS, finS, bNs, gL1, gL2, gLL2, fI2, tkA, ptA, GS, GL, fPut, ful, l12, l02, DL.D.mut, DL.D.top, DL.D.imm, DL.D.imm.immAll, fdOk, fIx, fMul, fAdd, powOk, gLstL, gTupL, DL.D.ty, lvN, szOk, fLen, fListOf, fTupOf, fSl, gSlN, gSlH, gSlL, gSlB, fIsi, fIsiT, isT, DL.D.tyN, DL.D.isX, fInts, DL.D.seqI, fLenSet, fLR, fLR1, gLR2, rgOk, fDict, fAbs, fInt1, gMax2, gMin2, g1S, g2S, fItems, fR1, fR2, bd62, lowE, clr, bakE, kpE, fApp, fIns, fPop, fPopA, fPopI, fClr, fRev, fExt, allTop, fEq, fNe, fNeg, fIsN, DL.D.isNon, DL.D.key, dGet, canE, nrm, cT, sAug_k, ixN, fRvS, fAll, dBls_map, fIsB, fIdx, msk, Function.comp_def, cut_hi, cut_lo, cut_both, gLLL3, fCntB, fIdxB, gLR3, m_end_text, c1, c2, hl, k_num]
theorem way_text_ok {q : Int × Int} (h1 : -2 ≤ q.1) (h2 : -2 ≤ q.2) (hl : q.1.natAbs.log2 < 1920 ∧ q.2.natAbs.log2 < 1920) (l : Nat) : F_way_text [(l, DL.prD q)] = .ret (2, .str (tx (wayL q))) [] := by
  have e1 := fun l => end_text_ok h1 hl.1 l
  have e2 := fun l => end_text_ok h2 hl.2 l
  have l1 := end_len hl.1
  have l2 := end_len hl.2
  have z1 : (endL q.1).length + 1 ≤ 16777216 := by omega
  have z2 : (endL q.1).length + (1 + (endL q.2).length) ≤ 16777216 := by omega
  have z3 : (endL q.1).length + 1 + (endL q.2).length ≤ 16777216 := by omega
  rw [run_way_text]
  unfold wayL DL.prD
  simp [mkS, finS, bNs, gL1, gL2, gLL2, fI2, tkA, ptA, GS, GL, fPut, ful, l12, l02, DL.D.mut, DL.D.top, DL.D.imm, DL.D.imm.immAll, fdOk, fIx, fMul, fAdd, powOk, gLstL, gTupL, DL.D.ty, lvN, szOk, fLen, fListOf, fTupOf, fSl, gSlN, gSlH, gSlL, gSlB, fIsi, fIsiT, isT, DL.D.tyN, DL.D.isX, fInts, DL.D.seqI, fLenSet, fLR, fLR1, gLR2, rgOk, fDict, fAbs, fInt1, gMax2, gMin2, g1S, g2S, fItems, fR1, fR2, bd62, lowE, clr, bakE, kpE, fApp, fIns, fPop, fPopA, fPopI, fClr, fRev, fExt, allTop, fEq, fNe, fNeg, fIsN, DL.D.isNon, DL.D.key, dGet, canE, nrm, cT, sAug_k, ixN, fRvS, fAll, dBls_map, fIsB, fIdx, msk, Function.comp_def, cut_hi, cut_lo, cut_both, gLLL3, fCntB, fIdxB, gLR3, m_way_text, e1, e2, k_gt, tx_cat, tx_len, z1, z2, z3]
theorem listed_ok (s : List Nat) (ys : List (List Nat)) (hy : ∀ y ∈ ys, ∀ c ∈ y, c < 1114112) (hz : (ys.map (·.length)).sum + ys.length * s.length ≤ 16777216) (l l2 : Nat) : F_listed [(l, .lst (ys.map fun y => .str (tx y))), (l2, .str (tx s))] = .ret (2, .str (tx (joinE s ys))) [] := by
  have e1 : eqd 60 (.lst (ys.map fun y => .str (tx y))) = true := by
    rw [eqd, List.all_eq_true]
    intro d hd
    obtain ⟨y, h, rfl⟩ := List.mem_map.mp hd
    exact eqd_tx (hy y h)
  have jn := fun l l2 => fJoin_map l l2 (tx s) tx ys
  have e2 : ((ys.map tx).map (·.length)).sum + (ys.map tx).length * (tx s).length ≤ 16777216 := by
    rw [List.map_map, List.length_map, tx_len]
    have : (fun x : Str => x.length) ∘ tx = List.length := by funext a; exact tx_len a
    rw [this]
    exact hz
  simp only [if_pos e2, tx_join] at jn
  rw [run_listed]
  unfold joinE
  by_cases c : ys = []
  · subst c
    simp [mkS, finS, bNs, gL1, gL2, gLL2, fI2, tkA, ptA, GS, GL, fPut, ful, l12, l02, DL.D.mut, DL.D.top, DL.D.imm, DL.D.imm.immAll, fdOk, fIx, fMul, fAdd, powOk, gLstL, gTupL, DL.D.ty, lvN, szOk, fLen, fListOf, fTupOf, fSl, gSlN, gSlH, gSlL, gSlB, fIsi, fIsiT, isT, DL.D.tyN, DL.D.isX, fInts, DL.D.seqI, fLenSet, fLR, fLR1, gLR2, rgOk, fDict, fAbs, fInt1, gMax2, gMin2, g1S, g2S, fItems, fR1, fR2, bd62, lowE, clr, bakE, kpE, fApp, fIns, fPop, fPopA, fPopI, fClr, fRev, fExt, allTop, fEq, fNe, fNeg, fIsN, DL.D.isNon, DL.D.key, dGet, canE, nrm, cT, sAug_k, ixN, fRvS, fAll, dBls_map, fIsB, fIdx, msk, Function.comp_def, cut_hi, cut_lo, cut_both, gLLL3, fCntB, fIdxB, gLR3, m_listed, k_dash]
  · have c2 : (ys.map fun y => D.str (tx y)) ≠ [] := fun h => c (List.map_eq_nil_iff.mp h)
    simp [mkS, finS, bNs, gL1, gL2, gLL2, fI2, tkA, ptA, GS, GL, fPut, ful, l12, l02, DL.D.mut, DL.D.top, DL.D.imm, DL.D.imm.immAll, fdOk, fIx, fMul, fAdd, powOk, gLstL, gTupL, DL.D.ty, lvN, szOk, fLen, fListOf, fTupOf, fSl, gSlN, gSlH, gSlL, gSlB, fIsi, fIsiT, isT, DL.D.tyN, DL.D.isX, fInts, DL.D.seqI, fLenSet, fLR, fLR1, gLR2, rgOk, fDict, fAbs, fInt1, gMax2, gMin2, g1S, g2S, fItems, fR1, fR2, bd62, lowE, clr, bakE, kpE, fApp, fIns, fPop, fPopA, fPopI, fClr, fRev, fExt, allTop, fEq, fNe, fNeg, fIsN, DL.D.isNon, DL.D.key, dGet, canE, nrm, cT, sAug_k, ixN, fRvS, fAll, dBls_map, fIsB, fIdx, msk, Function.comp_def, cut_hi, cut_lo, cut_both, gLLL3, fCntB, fIdxB, gLR3, m_listed, e1, c, c2, jn, -List.map_map]
end LW
namespace LW
open L2 DL PySem PySem.Spec PyProof.Rows
theorem num_head : ∀ (n : Nat), n ≠ 0 → (TL.numL n).head? ≠ some 48 := by
  intro n
  induction n using Nat.strongRecOn with
  | _ n ih =>
    intro h0
    by_cases c : n < 10
    · rw [TL.numL_lt c]
      simp [mkS, finS, bNs, gL1, gL2, gLL2, fI2, tkA, ptA, GS, GL, fPut, ful, l12, l02, DL.D.mut, DL.D.top, DL.D.imm, DL.D.imm.immAll, fdOk, fIx, fMul, fAdd, powOk, gLstL, gTupL, DL.D.ty, lvN, szOk, fLen, fListOf, fTupOf, fSl, gSlN, gSlH, gSlL, gSlB, fIsi, fIsiT, isT, DL.D.tyN, DL.D.isX, fInts, DL.D.seqI, fLenSet, fLR, fLR1, gLR2, rgOk, fDict, fAbs, fInt1, gMax2, gMin2, g1S, g2S, fItems, fR1, fR2, bd62, lowE, clr, bakE, kpE, fApp, fIns, fPop, fPopA, fPopI, fClr, fRev, fExt, allTop, fEq, fNe, fNeg, fIsN, DL.D.isNon, DL.D.key, dGet, canE, nrm, cT, sAug_k, ixN, fRvS, fAll, dBls_map, fIsB, fIdx, msk, Function.comp_def, cut_hi, cut_lo, cut_both, gLLL3, fCntB, fIdxB, gLR3]
      omega
    · rw [TL.numL_step (by omega)]
      have h1 := ih (n / 10) (by omega) (by omega)
      have h2 := TL.numL_ne (n / 10)
      cases e : TL.numL (n / 10) with
      | nil => exact absurd e h2
      | cons a as => rw [e] at h1; simpa [mkS, finS, bNs, gL1, gL2, gLL2, fI2, tkA, ptA, GS, GL, fPut, ful, l12, l02, DL.D.mut, DL.D.top, DL.D.imm, DL.D.imm.immAll, fdOk, fIx, fMul, fAdd, powOk, gLstL, gTupL, DL.D.ty, lvN, szOk, fLen, fListOf, fTupOf, fSl, gSlN, gSlH, gSlL, gSlB, fIsi, fIsiT, isT, DL.D.tyN, DL.D.isX, fInts, DL.D.seqI, fLenSet, fLR, fLR1, gLR2, rgOk, fDict, fAbs, fInt1, gMax2, gMin2, g1S, g2S, fItems, fR1, fR2, bd62, lowE, clr, bakE, kpE, fApp, fIns, fPop, fPopA, fPopI, fClr, fRev, fExt, allTop, fEq, fNe, fNeg, fIsN, DL.D.isNon, DL.D.key, dGet, canE, nrm, cT, sAug_k, ixN, fRvS, fAll, dBls_map, fIsB, fIdx, msk, Function.comp_def, cut_hi, cut_lo, cut_both, gLLL3, fCntB, fIdxB, gLR3] using h1
theorem num_zero {n : Nat} (h : TL.numL n = [48]) : n = 0 := TL.numL_inj (h.trans (TL.numL_lt (n := 0) (by decide)).symm)
theorem fig_in {c : Nat} (h : 48 ≤ c ∧ c ≤ 57) : c = 48 ∨ c = 49 ∨ c = 50 ∨ c = 51 ∨ c = 52 ∨ c = 53 ∨ c = 54 ∨ c = 55 ∨ c = 56 ∨ c = 57 := by omega
theorem num_int (n : Nat) (hl : (TL.numL n).length ≤ 640) : PySem.intText? (tx (TL.numL n)) = some (n : Int) := by
  have := TL.int_num (n := n) (by omega)
  rw [show Str.ofString (toString (n : Int)) = tx (TL.numL n) from k_num n] at this
  exact this
theorem figures_w (w : List Nat) (n : Int) (l0 : 0 < w.length) (hl : w.length ≤ 30) (fg : ∀ c ∈ w, c = 48 ∨ c = 49 ∨ c = 50 ∨ c = 51 ∨ c = 52 ∨ c = 53 ∨ c = 54 ∨ c = 55 ∨ c = 56 ∨ c = 57) (hd : w ≠ [48] → w[0]'l0 ≠ 48) (it : PySem.intText? (tx w) = some n) (l : Nat) :
    F_figures_told [(l, .str (tx w))] = .ret (2, .int n) [] := by
  have z0 : w.length ≤ 16777216 := by omega
  have z1 : (1 : Int) ≤ w.length := by omega
  have z2 : (w.length : Int) ≤ 30 := by omega
  have z3 : w.length ≤ 640 := by omega
  have a0 : atI w 0 = some w[0] := by
    have := atI_cast w 0
    rw [List.getElem?_eq_getElem l0] at this
    exact this
  have ea : (⟨#[w[0]]⟩ : Str) = tx [w[0]] := rfl
  have e9 : eqd 60 (.lst []) = true := rfl
  have d9 : deq (.lst []) (.lst []) = true := by decide +kernel
  rw [run_figures_told]
  by_cases c : w = [48]
  · subst c
    simp [mkS, finS, bNs, gL1, gL2, gLL2, fI2, tkA, ptA, GS, GL, fPut, ful, l12, l02, DL.D.mut, DL.D.top, DL.D.imm, DL.D.imm.immAll, fdOk, fIx, fMul, fAdd, powOk, gLstL, gTupL, DL.D.ty, lvN, szOk, fLen, fListOf, fTupOf, fSl, gSlN, gSlH, gSlL, gSlB, fIsi, fIsiT, isT, DL.D.tyN, DL.D.isX, fInts, DL.D.seqI, fLenSet, fLR, fLR1, gLR2, rgOk, fDict, fAbs, fInt1, gMax2, gMin2, g1S, g2S, fItems, fR1, fR2, bd62, lowE, clr, bakE, kpE, fApp, fIns, fPop, fPopA, fPopI, fClr, fRev, fExt, allTop, fEq, fNe, fNeg, fIsN, DL.D.isNon, DL.D.key, dGet, canE, nrm, cT, sAug_k, ixN, fRvS, fAll, dBls_map, fIsB, fIdx, msk, Function.comp_def, cut_hi, cut_lo, cut_both, gLLL3, fCntB, fIdxB, gLR3, m_figures_told, colM_A, colMA, tx_len, tx_cps, k_0, k_figs, it, tx_eqP, e9, d9] at it ⊢
  · have hd := hd c
    simp +contextual [mkS, finS, bNs, gL1, gL2, gLL2, fI2, tkA, ptA, GS, GL, fPut, ful, l12, l02, DL.D.mut, DL.D.top, DL.D.imm, DL.D.imm.immAll, fdOk, fIx, fMul, fAdd, powOk, gLstL, gTupL, DL.D.ty, lvN, szOk, fLen, fListOf, fTupOf, fSl, gSlN, gSlH, gSlL, gSlB, fIsi, fIsiT, isT, DL.D.tyN, DL.D.isX, fInts, DL.D.seqI, fLenSet, fLR, fLR1, gLR2, rgOk, fDict, fAbs, fInt1, gMax2, gMin2, g1S, g2S, fItems, fR1, fR2, bd62, lowE, clr, bakE, kpE, fApp, fIns, fPop, fPopA, fPopI, fClr, fRev, fExt, allTop, fEq, fNe, fNeg, fIsN, DL.D.isNon, DL.D.key, dGet, canE, nrm, cT, sAug_k, ixN, fRvS, fAll, dBls_map, fIsB, fIdx, msk, Function.comp_def, cut_hi, cut_lo, cut_both, gLLL3, fCntB, fIdxB, gLR3, m_figures_told, colM_A, tx_len, tx_cps, k_0, k_figs, fg, it, a0, ea, tx_eqP, z0, z1, z2, z3, c, hd, e9, d9]
theorem figures_ok (n : Nat) (hl : (TL.numL n).length ≤ 30) (l : Nat) : F_figures_told [(l, .str (tx (TL.numL n)))] = .ret (2, .int n) [] := by
  have ne := TL.numL_ne n
  have l0 : 0 < (TL.numL n).length := List.length_pos_iff.mpr ne
  refine figures_w _ n l0 hl (fun c hc => fig_in (TL.numL_digits n c hc)) (fun h e => ?_) (num_int n (by omega)) l
  have n0 : n ≠ 0 := fun h0 => h (by rw [h0]; exact TL.numL_lt (by decide))
  refine num_head n n0 ?_
  rw [List.head?_eq_getElem?, List.getElem?_eq_getElem l0, e]
/-- a way's text is read -/
def OkA (a : Int) : Prop := a = -1 ∨ (0 ≤ a ∧ (TL.numL a.toNat).length ≤ 30)
def OkB (b : Int) : Prop := b = -2 ∨ (0 ≤ b ∧ (TL.numL b.toNat).length ≤ 30)
theorem num_not {n : Nat} {c : Nat} {as : List Nat} (h : c < 48 ∨ 57 < c) : TL.numL n ≠ c :: as := fun e => TL.numL_free (n := n) h (by rw [e]; exact List.mem_cons_self ..)
theorem way_split (q : Int × Int) : TL.spl [62] 0 [] (wayL q) = [endL q.1, endL q.2] := by
  unfold wayL
  rw [show endL q.1 ++ 62 :: endL q.2 = endL q.1 ++ ([62] ++ endL q.2) from rfl, TL.spl_part1 (fun h => (end_low 62 h).2.2.2.1 rfl), TL.spl_last1 (fun h => (end_low 62 h).2.2.2.1 rfl)]
  rfl
theorem way_told_ok {q : Int × Int} (ha : OkA q.1) (hb : OkB q.2) (hz : (wayL q).length ≤ 10000) (l : Nat) : F_way_told [(l, .str (tx (wayL q)))] = .ret (2, DL.prD q) [] := by
  have sp := tx_split (wayL q) 62 (by decide)
  rw [way_split] at sp
  have z : (wayL q).length ≤ 16777214 := by omega
  obtain ⟨a, b⟩ := q
  have e1 : ∀ l, endL a ≠ [105, 110] → F_figures_told [(l, .str (tx (endL a)))] = .ret (2, .int a) [] := fun l h => by
    rcases ha with h1 | ⟨h1, h2⟩
    · have h1 : a = -1 := h1
      subst h1
      exact absurd rfl h
    · obtain ⟨n, rfl⟩ : ∃ n : Nat, a = n := ⟨a.toNat, by omega⟩
      have : endL (n : Int) = TL.numL n := by
        unfold endL
        rw [if_neg (by omega), if_neg (by omega)]
        rfl
      rw [this]
      exact figures_ok n h2 l
  have e2 : ∀ l, endL b ≠ [111, 117, 116] → F_figures_told [(l, .str (tx (endL b)))] = .ret (2, .int b) [] := fun l h => by
    rcases hb with h1 | ⟨h1, h2⟩
    · have h1 : b = -2 := h1
      subst h1
      exact absurd rfl h
    · obtain ⟨n, rfl⟩ : ∃ n : Nat, b = n := ⟨b.toNat, by omega⟩
      have : endL (n : Int) = TL.numL n := by
        unfold endL
        rw [if_neg (by omega), if_neg (by omega)]
        rfl
      rw [this]
      exact figures_ok n h2 l
  have i1 : endL a = [105, 110] → a = -1 := fun h => by
    unfold endL at h
    split at h
    · assumption
    · split at h
      · cases h
      · exact absurd h (num_not (by omega))
  have i2 : endL b = [111, 117, 116] → b = -2 := fun h => by
    unfold endL at h
    split at h
    · cases h
    · split at h
      · assumption
      · exact absurd h (num_not (by omega))
  rw [run_way_told]
  unfold DL.prD
  by_cases c1 : endL a = [105, 110]
  · have a1 := i1 c1
    by_cases c2 : endL b = [111, 117, 116]
    · have b1 := i2 c2
      subst a1 b1
      simp [mkS, finS, bNs, gL1, gL2, gLL2, fI2, tkA, ptA, GS, GL, fPut, ful, l12, l02, DL.D.mut, DL.D.top, DL.D.imm, DL.D.imm.immAll, fdOk, fIx, fMul, fAdd, powOk, gLstL, gTupL, DL.D.ty, lvN, szOk, fLen, fListOf, fTupOf, fSl, gSlN, gSlH, gSlL, gSlB, fIsi, fIsiT, isT, DL.D.tyN, DL.D.isX, fInts, DL.D.seqI, fLenSet, fLR, fLR1, gLR2, rgOk, fDict, fAbs, fInt1, gMax2, gMin2, g1S, g2S, fItems, fR1, fR2, bd62, lowE, clr, bakE, kpE, fApp, fIns, fPop, fPopA, fPopI, fClr, fRev, fExt, allTop, fEq, fNe, fNeg, fIsN, DL.D.isNon, DL.D.key, dGet, canE, nrm, cT, sAug_k, ixN, fRvS, fAll, dBls_map, fIsB, fIdx, msk, Function.comp_def, cut_hi, cut_lo, cut_both, gLLL3, fCntB, fIdxB, gLR3, m_way_told, k_gt, k_in, k_out, tx_len, sp, z, tx_eqP, c1, c2]
    · have e2 := fun l => e2 l c2
      subst a1
      simp [mkS, finS, bNs, gL1, gL2, gLL2, fI2, tkA, ptA, GS, GL, fPut, ful, l12, l02, DL.D.mut, DL.D.top, DL.D.imm, DL.D.imm.immAll, fdOk, fIx, fMul, fAdd, powOk, gLstL, gTupL, DL.D.ty, lvN, szOk, fLen, fListOf, fTupOf, fSl, gSlN, gSlH, gSlL, gSlB, fIsi, fIsiT, isT, DL.D.tyN, DL.D.isX, fInts, DL.D.seqI, fLenSet, fLR, fLR1, gLR2, rgOk, fDict, fAbs, fInt1, gMax2, gMin2, g1S, g2S, fItems, fR1, fR2, bd62, lowE, clr, bakE, kpE, fApp, fIns, fPop, fPopA, fPopI, fClr, fRev, fExt, allTop, fEq, fNe, fNeg, fIsN, DL.D.isNon, DL.D.key, dGet, canE, nrm, cT, sAug_k, ixN, fRvS, fAll, dBls_map, fIsB, fIdx, msk, Function.comp_def, cut_hi, cut_lo, cut_both, gLLL3, fCntB, fIdxB, gLR3, m_way_told, k_gt, k_in, k_out, tx_len, sp, z, tx_eqP, c1, c2, e2]
  · have e1 := fun l => e1 l c1
    by_cases c2 : endL b = [111, 117, 116]
    · have b1 := i2 c2
      subst b1
      simp [mkS, finS, bNs, gL1, gL2, gLL2, fI2, tkA, ptA, GS, GL, fPut, ful, l12, l02, DL.D.mut, DL.D.top, DL.D.imm, DL.D.imm.immAll, fdOk, fIx, fMul, fAdd, powOk, gLstL, gTupL, DL.D.ty, lvN, szOk, fLen, fListOf, fTupOf, fSl, gSlN, gSlH, gSlL, gSlB, fIsi, fIsiT, isT, DL.D.tyN, DL.D.isX, fInts, DL.D.seqI, fLenSet, fLR, fLR1, gLR2, rgOk, fDict, fAbs, fInt1, gMax2, gMin2, g1S, g2S, fItems, fR1, fR2, bd62, lowE, clr, bakE, kpE, fApp, fIns, fPop, fPopA, fPopI, fClr, fRev, fExt, allTop, fEq, fNe, fNeg, fIsN, DL.D.isNon, DL.D.key, dGet, canE, nrm, cT, sAug_k, ixN, fRvS, fAll, dBls_map, fIsB, fIdx, msk, Function.comp_def, cut_hi, cut_lo, cut_both, gLLL3, fCntB, fIdxB, gLR3, m_way_told, k_gt, k_in, k_out, tx_len, sp, z, tx_eqP, c1, c2, e1]
    · have e2 := fun l => e2 l c2
      simp [mkS, finS, bNs, gL1, gL2, gLL2, fI2, tkA, ptA, GS, GL, fPut, ful, l12, l02, DL.D.mut, DL.D.top, DL.D.imm, DL.D.imm.immAll, fdOk, fIx, fMul, fAdd, powOk, gLstL, gTupL, DL.D.ty, lvN, szOk, fLen, fListOf, fTupOf, fSl, gSlN, gSlH, gSlL, gSlB, fIsi, fIsiT, isT, DL.D.tyN, DL.D.isX, fInts, DL.D.seqI, fLenSet, fLR, fLR1, gLR2, rgOk, fDict, fAbs, fInt1, gMax2, gMin2, g1S, g2S, fItems, fR1, fR2, bd62, lowE, clr, bakE, kpE, fApp, fIns, fPop, fPopA, fPopI, fClr, fRev, fExt, allTop, fEq, fNe, fNeg, fIsN, DL.D.isNon, DL.D.key, dGet, canE, nrm, cT, sAug_k, ixN, fRvS, fAll, dBls_map, fIsB, fIdx, msk, Function.comp_def, cut_hi, cut_lo, cut_both, gLLL3, fCntB, fIdxB, gLR3, m_way_told, k_gt, k_in, k_out, tx_len, sp, z, tx_eqP, c1, c2, e1, e2]
theorem mem_join {c : Nat} {s : List Nat} : ∀ {ys : List (List Nat)}, c ∈ TL.joinL s ys → c ∈ s ∨ ∃ y ∈ ys, c ∈ y
  | [], h => by simp [mkS, finS, bNs, gL1, gL2, gLL2, fI2, tkA, ptA, GS, GL, fPut, ful, l12, l02, DL.D.mut, DL.D.top, DL.D.imm, DL.D.imm.immAll, fdOk, fIx, fMul, fAdd, powOk, gLstL, gTupL, DL.D.ty, lvN, szOk, fLen, fListOf, fTupOf, fSl, gSlN, gSlH, gSlL, gSlB, fIsi, fIsiT, isT, DL.D.tyN, DL.D.isX, fInts, DL.D.seqI, fLenSet, fLR, fLR1, gLR2, rgOk, fDict, fAbs, fInt1, gMax2, gMin2, g1S, g2S, fItems, fR1, fR2, bd62, lowE, clr, bakE, kpE, fApp, fIns, fPop, fPopA, fPopI, fClr, fRev, fExt, allTop, fEq, fNe, fNeg, fIsN, DL.D.isNon, DL.D.key, dGet, canE, nrm, cT, sAug_k, ixN, fRvS, fAll, dBls_map, fIsB, fIdx, msk, Function.comp_def, cut_hi, cut_lo, cut_both, gLLL3, fCntB, fIdxB, gLR3, TL.joinL] at h
  | [y], h => .inr ⟨y, by simp, by simpa [mkS, finS, bNs, gL1, gL2, gLL2, fI2, tkA, ptA, GS, GL, fPut, ful, l12, l02, DL.D.mut, DL.D.top, DL.D.imm, DL.D.imm.immAll, fdOk, fIx, fMul, fAdd, powOk, gLstL, gTupL, DL.D.ty, lvN, szOk, fLen, fListOf, fTupOf, fSl, gSlN, gSlH, gSlL, gSlB, fIsi, fIsiT, isT, DL.D.tyN, DL.D.isX, fInts, DL.D.seqI, fLenSet, fLR, fLR1, gLR2, rgOk, fDict, fAbs, fInt1, gMax2, gMin2, g1S, g2S, fItems, fR1, fR2, bd62, lowE, clr, bakE, kpE, fApp, fIns, fPop, fPopA, fPopI, fClr, fRev, fExt, allTop, fEq, fNe, fNeg, fIsN, DL.D.isNon, DL.D.key, dGet, canE, nrm, cT, sAug_k, ixN, fRvS, fAll, dBls_map, fIsB, fIdx, msk, Function.comp_def, cut_hi, cut_lo, cut_both, gLLL3, fCntB, fIdxB, gLR3, TL.joinL] using h⟩
  | y :: z :: ys, h => by
    rw [TL.joinL] at h
    rcases List.mem_append.mp h with h | h
    · exact .inr ⟨y, by simp, h⟩
    rcases List.mem_append.mp h with h | h
    · exact .inl h
    · rcases mem_join h with h | ⟨w, hw, h⟩
      · exact .inl h
      · exact .inr ⟨w, List.mem_cons_of_mem _ hw, h⟩
theorem join_not {s : Nat} {ys : List (List Nat)} (hs : s ≠ 45) (h : ∀ y ∈ ys, 45 ∉ y) : TL.joinL [s] ys ≠ [45] := fun e => by
  have : 45 ∈ TL.joinL [s] ys := by rw [e]; simp [mkS, finS, bNs, gL1, gL2, gLL2, fI2, tkA, ptA, GS, GL, fPut, ful, l12, l02, DL.D.mut, DL.D.top, DL.D.imm, DL.D.imm.immAll, fdOk, fIx, fMul, fAdd, powOk, gLstL, gTupL, DL.D.ty, lvN, szOk, fLen, fListOf, fTupOf, fSl, gSlN, gSlH, gSlL, gSlB, fIsi, fIsiT, isT, DL.D.tyN, DL.D.isX, fInts, DL.D.seqI, fLenSet, fLR, fLR1, gLR2, rgOk, fDict, fAbs, fInt1, gMax2, gMin2, g1S, g2S, fItems, fR1, fR2, bd62, lowE, clr, bakE, kpE, fApp, fIns, fPop, fPopA, fPopI, fClr, fRev, fExt, allTop, fEq, fNe, fNeg, fIsN, DL.D.isNon, DL.D.key, dGet, canE, nrm, cT, sAug_k, ixN, fRvS, fAll, dBls_map, fIsB, fIdx, msk, Function.comp_def, cut_hi, cut_lo, cut_both, gLLL3, fCntB, fIdxB, gLR3]
  rcases mem_join this with h1 | ⟨y, hy, h1⟩
  · exact hs (List.mem_singleton.mp h1).symm
  · exact h y hy h1
theorem parts_gen (s : Nat) (hs : s < 256) (ys : List (List Nat)) (hy : ∀ y ∈ ys, s ∉ y) (n45 : ys ≠ [] → TL.joinL [s] ys ≠ [45]) (hz : (joinE [s] ys).length ≤ 100000) (l l2 : Nat) : F_parts_told [(l, .str (tx (joinE [s] ys))), (l2, .str (tx [s]))] = .ret (2, .lst (ys.map fun y => .str (tx y))) [] := by
  have sp := tx_split (joinE [s] ys) s hs
  have z : (joinE [s] ys).length ≤ 16777214 := by omega
  rw [run_parts_told]
  by_cases c : ys = []
  · subst c
    have e : joinE [s] [] = [45] := rfl
    rw [e]
    simp [mkS, finS, bNs, gL1, gL2, gLL2, fI2, tkA, ptA, GS, GL, fPut, ful, l12, l02, DL.D.mut, DL.D.top, DL.D.imm, DL.D.imm.immAll, fdOk, fIx, fMul, fAdd, powOk, gLstL, gTupL, DL.D.ty, lvN, szOk, fLen, fListOf, fTupOf, fSl, gSlN, gSlH, gSlL, gSlB, fIsi, fIsiT, isT, DL.D.tyN, DL.D.isX, fInts, DL.D.seqI, fLenSet, fLR, fLR1, gLR2, rgOk, fDict, fAbs, fInt1, gMax2, gMin2, g1S, g2S, fItems, fR1, fR2, bd62, lowE, clr, bakE, kpE, fApp, fIns, fPop, fPopA, fPopI, fClr, fRev, fExt, allTop, fEq, fNe, fNeg, fIsN, DL.D.isNon, DL.D.key, dGet, canE, nrm, cT, sAug_k, ixN, fRvS, fAll, dBls_map, fIsB, fIdx, msk, Function.comp_def, cut_hi, cut_lo, cut_both, gLLL3, fCntB, fIdxB, gLR3, m_parts_told, k_dash, tx_eqP]
  · have e : joinE [s] ys = TL.joinL [s] ys := if_neg c
    rw [e] at sp z ⊢
    rw [TL.spl_join c hy] at sp
    have n45 := n45 c
    have e2 : (ys.map fun y => D.str (tx y)) = (ys.map tx).map .str := by rw [List.map_map]; rfl
    rw [e2]
    simp [mkS, finS, bNs, gL1, gL2, gLL2, fI2, tkA, ptA, GS, GL, fPut, ful, l12, l02, DL.D.mut, DL.D.top, DL.D.imm, DL.D.imm.immAll, fdOk, fIx, fMul, fAdd, powOk, gLstL, gTupL, DL.D.ty, lvN, szOk, fLen, fListOf, fTupOf, fSl, gSlN, gSlH, gSlL, gSlB, fIsi, fIsiT, isT, DL.D.tyN, DL.D.isX, fInts, DL.D.seqI, fLenSet, fLR, fLR1, gLR2, rgOk, fDict, fAbs, fInt1, gMax2, gMin2, g1S, g2S, fItems, fR1, fR2, bd62, lowE, clr, bakE, kpE, fApp, fIns, fPop, fPopA, fPopI, fClr, fRev, fExt, allTop, fEq, fNe, fNeg, fIsN, DL.D.isNon, DL.D.key, dGet, canE, nrm, cT, sAug_k, ixN, fRvS, fAll, dBls_map, fIsB, fIdx, msk, Function.comp_def, cut_hi, cut_lo, cut_both, gLLL3, fCntB, fIdxB, gLR3, m_parts_told, k_dash, tx_eqP, n45, sp, tx_len, z]
theorem parts_ok (s : Nat) (hs : s < 256 ∧ s ≠ 45) (ys : List (List Nat)) (hy : ∀ y ∈ ys, s ∉ y ∧ 45 ∉ y) (hz : (joinE [s] ys).length ≤ 100000) (l l2 : Nat) : F_parts_told [(l, .str (tx (joinE [s] ys))), (l2, .str (tx [s]))] = .ret (2, .lst (ys.map fun y => .str (tx y))) [] :=
  parts_gen s hs.1 ys (fun y h => (hy y h).1) (fun _ => join_not hs.2 fun y h => (hy y h).2) hz l l2
theorem join_len {s : Nat} {ys : List (List Nat)} {k : Nat} (h : ∀ y ∈ ys, y.length ≤ k) : (TL.joinL [s] ys).length ≤ ys.length * (k + 1) := by
  induction ys with
  | nil => simp [mkS, finS, bNs, gL1, gL2, gLL2, fI2, tkA, ptA, GS, GL, fPut, ful, l12, l02, DL.D.mut, DL.D.top, DL.D.imm, DL.D.imm.immAll, fdOk, fIx, fMul, fAdd, powOk, gLstL, gTupL, DL.D.ty, lvN, szOk, fLen, fListOf, fTupOf, fSl, gSlN, gSlH, gSlL, gSlB, fIsi, fIsiT, isT, DL.D.tyN, DL.D.isX, fInts, DL.D.seqI, fLenSet, fLR, fLR1, gLR2, rgOk, fDict, fAbs, fInt1, gMax2, gMin2, g1S, g2S, fItems, fR1, fR2, bd62, lowE, clr, bakE, kpE, fApp, fIns, fPop, fPopA, fPopI, fClr, fRev, fExt, allTop, fEq, fNe, fNeg, fIsN, DL.D.isNon, DL.D.key, dGet, canE, nrm, cT, sAug_k, ixN, fRvS, fAll, dBls_map, fIsB, fIdx, msk, Function.comp_def, cut_hi, cut_lo, cut_both, gLLL3, fCntB, fIdxB, gLR3, TL.joinL]
  | cons y ys ih =>
    cases ys with
    | nil =>
      have := h y (by simp [mkS, finS, bNs, gL1, gL2, gLL2, fI2, tkA, ptA, GS, GL, fPut, ful, l12, l02, DL.D.mut, DL.D.top, DL.D.imm, DL.D.imm.immAll, fdOk, fIx, fMul, fAdd, powOk, gLstL, gTupL, DL.D.ty, lvN, szOk, fLen, fListOf, fTupOf, fSl, gSlN, gSlH, gSlL, gSlB, fIsi, fIsiT, isT, DL.D.tyN, DL.D.isX, fInts, DL.D.seqI, fLenSet, fLR, fLR1, gLR2, rgOk, fDict, fAbs, fInt1, gMax2, gMin2, g1S, g2S, fItems, fR1, fR2, bd62, lowE, clr, bakE, kpE, fApp, fIns, fPop, fPopA, fPopI, fClr, fRev, fExt, allTop, fEq, fNe, fNeg, fIsN, DL.D.isNon, DL.D.key, dGet, canE, nrm, cT, sAug_k, ixN, fRvS, fAll, dBls_map, fIsB, fIdx, msk, Function.comp_def, cut_hi, cut_lo, cut_both, gLLL3, fCntB, fIdxB, gLR3])
      simp [mkS, finS, bNs, gL1, gL2, gLL2, fI2, tkA, ptA, GS, GL, fPut, ful, l12, l02, DL.D.mut, DL.D.top, DL.D.imm, DL.D.imm.immAll, fdOk, fIx, fMul, fAdd, powOk, gLstL, gTupL, DL.D.ty, lvN, szOk, fLen, fListOf, fTupOf, fSl, gSlN, gSlH, gSlL, gSlB, fIsi, fIsiT, isT, DL.D.tyN, DL.D.isX, fInts, DL.D.seqI, fLenSet, fLR, fLR1, gLR2, rgOk, fDict, fAbs, fInt1, gMax2, gMin2, g1S, g2S, fItems, fR1, fR2, bd62, lowE, clr, bakE, kpE, fApp, fIns, fPop, fPopA, fPopI, fClr, fRev, fExt, allTop, fEq, fNe, fNeg, fIsN, DL.D.isNon, DL.D.key, dGet, canE, nrm, cT, sAug_k, ixN, fRvS, fAll, dBls_map, fIsB, fIdx, msk, Function.comp_def, cut_hi, cut_lo, cut_both, gLLL3, fCntB, fIdxB, gLR3, TL.joinL]
      omega
    | cons z ys =>
      have h1 := h y (by simp [mkS, finS, bNs, gL1, gL2, gLL2, fI2, tkA, ptA, GS, GL, fPut, ful, l12, l02, DL.D.mut, DL.D.top, DL.D.imm, DL.D.imm.immAll, fdOk, fIx, fMul, fAdd, powOk, gLstL, gTupL, DL.D.ty, lvN, szOk, fLen, fListOf, fTupOf, fSl, gSlN, gSlH, gSlL, gSlB, fIsi, fIsiT, isT, DL.D.tyN, DL.D.isX, fInts, DL.D.seqI, fLenSet, fLR, fLR1, gLR2, rgOk, fDict, fAbs, fInt1, gMax2, gMin2, g1S, g2S, fItems, fR1, fR2, bd62, lowE, clr, bakE, kpE, fApp, fIns, fPop, fPopA, fPopI, fClr, fRev, fExt, allTop, fEq, fNe, fNeg, fIsN, DL.D.isNon, DL.D.key, dGet, canE, nrm, cT, sAug_k, ixN, fRvS, fAll, dBls_map, fIsB, fIdx, msk, Function.comp_def, cut_hi, cut_lo, cut_both, gLLL3, fCntB, fIdxB, gLR3])
      have h2 := ih fun w hw => h w (List.mem_cons_of_mem _ hw)
      have e : (y :: z :: ys).length * (k + 1) = (z :: ys).length * (k + 1) + (k + 1) := by rw [List.length_cons, Nat.succ_mul]
      rw [TL.joinL, e]
      simp only [List.length_append, List.length_cons, List.length_nil] at h2 ⊢
      omega
theorem joinE_len {s : Nat} {ys : List (List Nat)} {k : Nat} (h : ∀ y ∈ ys, y.length ≤ k) : (joinE [s] ys).length ≤ ys.length * (k + 1) + 1 := by
  unfold joinE
  split
  · simp [mkS, finS, bNs, gL1, gL2, gLL2, fI2, tkA, ptA, GS, GL, fPut, ful, l12, l02, DL.D.mut, DL.D.top, DL.D.imm, DL.D.imm.immAll, fdOk, fIx, fMul, fAdd, powOk, gLstL, gTupL, DL.D.ty, lvN, szOk, fLen, fListOf, fTupOf, fSl, gSlN, gSlH, gSlL, gSlB, fIsi, fIsiT, isT, DL.D.tyN, DL.D.isX, fInts, DL.D.seqI, fLenSet, fLR, fLR1, gLR2, rgOk, fDict, fAbs, fInt1, gMax2, gMin2, g1S, g2S, fItems, fR1, fR2, bd62, lowE, clr, bakE, kpE, fApp, fIns, fPop, fPopA, fPopI, fClr, fRev, fExt, allTop, fEq, fNe, fNeg, fIsN, DL.D.isNon, DL.D.key, dGet, canE, nrm, cT, sAug_k, ixN, fRvS, fAll, dBls_map, fIsB, fIdx, msk, Function.comp_def, cut_hi, cut_lo, cut_both, gLLL3, fCntB, fIdxB, gLR3]
  · have := join_len (s := s) h
    omega
end LW
namespace LW
open L2 DL PySem PySem.Spec PyProof.Rows
theorem mul_0 (x : Str) : Txt.mul x 0 = tx [] := rfl
theorem mul_1 (x : Str) : Txt.mul x 1 = x := rfl
theorem ok_mul0 : okMul (tx [45]) 0 = true := by decide +kernel
theorem ok_mul1 : okMul (tx [45]) 1 = true := by decide +kernel
theorem k_emp : Str.empty = tx [] := rfl
theorem law_end_ok {p : Int} (hp : -2 ≤ p) (hl : p.natAbs.log2 < 1920) (l : Nat) : F__law_end [(l, .int p)] = .ret (2, .str (tx (endL p))) [] := by
  rw [run__law_end]
  unfold endL
  by_cases c1 : p = -1
  · subst c1
    have a : atI [D.str (tx [111, 117, 116]), .str (tx [105, 110])] 1 = some (.str (tx [105, 110])) := rfl
    simp [mkS, finS, bNs, gL1, gL2, gLL2, fI2, tkA, ptA, GS, GL, fPut, ful, l12, l02, DL.D.mut, DL.D.top, DL.D.imm, DL.D.imm.immAll, fdOk, fIx, fMul, fAdd, powOk, gLstL, gTupL, DL.D.ty, lvN, szOk, fLen, fListOf, fTupOf, fSl, gSlN, gSlH, gSlL, gSlB, fIsi, fIsiT, isT, DL.D.tyN, DL.D.isX, fInts, DL.D.seqI, fLenSet, fLR, fLR1, gLR2, rgOk, fDict, fAbs, fInt1, gMax2, gMin2, g1S, g2S, fItems, fR1, fR2, bd62, lowE, clr, bakE, kpE, fApp, fIns, fPop, fPopA, fPopI, fClr, fRev, fExt, allTop, fEq, fNe, fNeg, fIsN, DL.D.isNon, DL.D.key, dGet, canE, nrm, cT, sAug_k, ixN, fRvS, fAll, dBls_map, fIsB, fIdx, msk, Function.comp_def, cut_hi, cut_lo, cut_both, gLLL3, fCntB, fIdxB, gLR3, m__law_end, k_in, k_out, a]
  · by_cases c2 : p = -2
    · subst c2
      have a : atI [D.str (tx [111, 117, 116]), .str (tx [105, 110])] 0 = some (.str (tx [111, 117, 116])) := rfl
      simp [mkS, finS, bNs, gL1, gL2, gLL2, fI2, tkA, ptA, GS, GL, fPut, ful, l12, l02, DL.D.mut, DL.D.top, DL.D.imm, DL.D.imm.immAll, fdOk, fIx, fMul, fAdd, powOk, gLstL, gTupL, DL.D.ty, lvN, szOk, fLen, fListOf, fTupOf, fSl, gSlN, gSlH, gSlL, gSlB, fIsi, fIsiT, isT, DL.D.tyN, DL.D.isX, fInts, DL.D.seqI, fLenSet, fLR, fLR1, gLR2, rgOk, fDict, fAbs, fInt1, gMax2, gMin2, g1S, g2S, fItems, fR1, fR2, bd62, lowE, clr, bakE, kpE, fApp, fIns, fPop, fPopA, fPopI, fClr, fRev, fExt, allTop, fEq, fNe, fNeg, fIsN, DL.D.isNon, DL.D.key, dGet, canE, nrm, cT, sAug_k, ixN, fRvS, fAll, dBls_map, fIsB, fIdx, msk, Function.comp_def, cut_hi, cut_lo, cut_both, gLLL3, fCntB, fIdxB, gLR3, m__law_end, k_in, k_out, a]
    · obtain ⟨n, rfl⟩ : ∃ n : Nat, p = n := ⟨p.toNat, by omega⟩
      have hl : n.log2 < 1920 := hl
      have c3 : ¬ (n : Int) < 0 := by omega
      simp [mkS, finS, bNs, gL1, gL2, gLL2, fI2, tkA, ptA, GS, GL, fPut, ful, l12, l02, DL.D.mut, DL.D.top, DL.D.imm, DL.D.imm.immAll, fdOk, fIx, fMul, fAdd, powOk, gLstL, gTupL, DL.D.ty, lvN, szOk, fLen, fListOf, fTupOf, fSl, gSlN, gSlH, gSlL, gSlB, fIsi, fIsiT, isT, DL.D.tyN, DL.D.isX, fInts, DL.D.seqI, fLenSet, fLR, fLR1, gLR2, rgOk, fDict, fAbs, fInt1, gMax2, gMin2, g1S, g2S, fItems, fR1, fR2, bd62, lowE, clr, bakE, kpE, fApp, fIns, fPop, fPopA, fPopI, fClr, fRev, fExt, allTop, fEq, fNe, fNeg, fIsN, DL.D.isNon, DL.D.key, dGet, canE, nrm, cT, sAug_k, ixN, fRvS, fAll, dBls_map, fIsB, fIdx, msk, Function.comp_def, cut_hi, cut_lo, cut_both, gLLL3, fCntB, fIdxB, gLR3, m__law_end, c1, c2, c3, hl, k_num]
theorem law_way_ok {q : Int × Int} (h1 : -2 ≤ q.1) (h2 : -2 ≤ q.2) (hl : q.1.natAbs.log2 < 1920 ∧ q.2.natAbs.log2 < 1920) (l : Nat) : F__law_way [(l, DL.prD q)] = .ret (2, .str (tx (wayL q))) [] := by
  have e1 := fun l => law_end_ok h1 hl.1 l
  have e2 := fun l => law_end_ok h2 hl.2 l
  have l1 := end_len hl.1
  have l2 := end_len hl.2
  have z1 : (endL q.1).length + 1 ≤ 16777216 := by omega
  have z2 : (endL q.1).length + (1 + (endL q.2).length) ≤ 16777216 := by omega
  have z3 : (endL q.1).length + 1 + (endL q.2).length ≤ 16777216 := by omega
  rw [run__law_way]
  unfold wayL DL.prD
  simp [mkS, finS, bNs, gL1, gL2, gLL2, fI2, tkA, ptA, GS, GL, fPut, ful, l12, l02, DL.D.mut, DL.D.top, DL.D.imm, DL.D.imm.immAll, fdOk, fIx, fMul, fAdd, powOk, gLstL, gTupL, DL.D.ty, lvN, szOk, fLen, fListOf, fTupOf, fSl, gSlN, gSlH, gSlL, gSlB, fIsi, fIsiT, isT, DL.D.tyN, DL.D.isX, fInts, DL.D.seqI, fLenSet, fLR, fLR1, gLR2, rgOk, fDict, fAbs, fInt1, gMax2, gMin2, g1S, g2S, fItems, fR1, fR2, bd62, lowE, clr, bakE, kpE, fApp, fIns, fPop, fPopA, fPopI, fClr, fRev, fExt, allTop, fEq, fNe, fNeg, fIsN, DL.D.isNon, DL.D.key, dGet, canE, nrm, cT, sAug_k, ixN, fRvS, fAll, dBls_map, fIsB, fIdx, msk, Function.comp_def, cut_hi, cut_lo, cut_both, gLLL3, fCntB, fIdxB, gLR3, m__law_way, e1, e2, k_gt, tx_cat, tx_len, z1, z2, z3]
end LW
namespace LW
open L2 DL PySem PySem.Spec PyProof.Rows
def intL (i : Int) : List Nat := if i < 0 then 45 :: TL.numL i.natAbs else TL.numL i.toNat
theorem k_int (i : Int) : Str.ofString i.repr = tx (intL i) := by
  unfold intL
  cases i with
  | ofNat n =>
    rw [if_neg (by simp [mkS, finS, bNs, gL1, gL2, gLL2, fI2, tkA, ptA, GS, GL, fPut, ful, l12, l02, DL.D.mut, DL.D.top, DL.D.imm, DL.D.imm.immAll, fdOk, fIx, fMul, fAdd, powOk, gLstL, gTupL, DL.D.ty, lvN, szOk, fLen, fListOf, fTupOf, fSl, gSlN, gSlH, gSlL, gSlB, fIsi, fIsiT, isT, DL.D.tyN, DL.D.isX, fInts, DL.D.seqI, fLenSet, fLR, fLR1, gLR2, rgOk, fDict, fAbs, fInt1, gMax2, gMin2, g1S, g2S, fItems, fR1, fR2, bd62, lowE, clr, bakE, kpE, fApp, fIns, fPop, fPopA, fPopI, fClr, fRev, fExt, allTop, fEq, fNe, fNeg, fIsN, DL.D.isNon, DL.D.key, dGet, canE, nrm, cT, sAug_k, ixN, fRvS, fAll, dBls_map, fIsB, fIdx, msk, Function.comp_def, cut_hi, cut_lo, cut_both, gLLL3, fCntB, fIdxB, gLR3])]
    exact k_num n
  | negSucc n =>
    rw [if_pos (Int.negSucc_lt_zero n)]
    have e : (Int.negSucc n).repr = "-" ++ ((n + 1 : Nat) : Int).repr := rfl
    have e2 : Str.ofString ("-" ++ ((n + 1 : Nat) : Int).repr) = Str.ofString "-" ++ Str.ofString ((n + 1 : Nat) : Int).repr := by
      refine TL.ext_tl ?_
      rw [TL.tl_append, TL.tl_ofString, TL.tl_ofString, TL.tl_ofString]
      simp [mkS, finS, bNs, gL1, gL2, gLL2, fI2, tkA, ptA, GS, GL, fPut, ful, l12, l02, DL.D.mut, DL.D.top, DL.D.imm, DL.D.imm.immAll, fdOk, fIx, fMul, fAdd, powOk, gLstL, gTupL, DL.D.ty, lvN, szOk, fLen, fListOf, fTupOf, fSl, gSlN, gSlH, gSlL, gSlB, fIsi, fIsiT, isT, DL.D.tyN, DL.D.isX, fInts, DL.D.seqI, fLenSet, fLR, fLR1, gLR2, rgOk, fDict, fAbs, fInt1, gMax2, gMin2, g1S, g2S, fItems, fR1, fR2, bd62, lowE, clr, bakE, kpE, fApp, fIns, fPop, fPopA, fPopI, fClr, fRev, fExt, allTop, fEq, fNe, fNeg, fIsN, DL.D.isNon, DL.D.key, dGet, canE, nrm, cT, sAug_k, ixN, fRvS, fAll, dBls_map, fIsB, fIdx, msk, Function.comp_def, cut_hi, cut_lo, cut_both, gLLL3, fCntB, fIdxB, gLR3]
    rw [e, e2, k_num, k_dash, tx_cat]
    rfl
theorem int_ne (i : Int) : intL i ≠ [] ∧ intL i ≠ [45] := by
  unfold intL
  split
  · exact ⟨by simp, fun h => TL.numL_ne _ (List.cons.inj h).2⟩
  · exact ⟨TL.numL_ne _, num_not (by omega)⟩
theorem int_low (i : Int) : ∀ c ∈ intL i, c < 128 ∧ c ≠ 32 := fun c hc => by
  unfold intL at hc
  split at hc
  · rcases List.mem_cons.mp hc with rfl | hc
    · omega
    · have := TL.numL_digits _ c hc
      omega
  · have := TL.numL_digits _ c hc
    omega
/-- numbers that are written and read -/
def OkI (i : Int) : Prop := (TL.numL i.natAbs).length ≤ 30 ∧ i.natAbs.log2 < 1920
theorem okI_of {i : Int} (h : i.natAbs < 10 ^ 30) : OkI i := ⟨TL.numL_len (by decide) h, by
  by_cases c : i.natAbs = 0
  · rw [c]; decide
  · exact (Nat.log2_lt c).mpr (Nat.lt_trans h (by decide))⟩
theorem int_len {i : Int} (h : OkI i) : (intL i).length ≤ 31 := by
  unfold intL
  split
  · have := h.1
    simp [mkS, finS, bNs, gL1, gL2, gLL2, fI2, tkA, ptA, GS, GL, fPut, ful, l12, l02, DL.D.mut, DL.D.top, DL.D.imm, DL.D.imm.immAll, fdOk, fIx, fMul, fAdd, powOk, gLstL, gTupL, DL.D.ty, lvN, szOk, fLen, fListOf, fTupOf, fSl, gSlN, gSlH, gSlL, gSlB, fIsi, fIsiT, isT, DL.D.tyN, DL.D.isX, fInts, DL.D.seqI, fLenSet, fLR, fLR1, gLR2, rgOk, fDict, fAbs, fInt1, gMax2, gMin2, g1S, g2S, fItems, fR1, fR2, bd62, lowE, clr, bakE, kpE, fApp, fIns, fPop, fPopA, fPopI, fClr, fRev, fExt, allTop, fEq, fNe, fNeg, fIsN, DL.D.isNon, DL.D.key, dGet, canE, nrm, cT, sAug_k, ixN, fRvS, fAll, dBls_map, fIsB, fIdx, msk, Function.comp_def, cut_hi, cut_lo, cut_both, gLLL3, fCntB, fIdxB, gLR3]
    omega
  · have e : i.toNat = i.natAbs := by omega
    rw [e]
    have := h.1
    omega
def rowL (r : List Int) : List Nat := joinE [32] (r.map intL)
def doingL (ds : List (Int × Int)) : List Nat := joinE [32] (ds.map wayL)
theorem row_not : ∀ {ys : List (List Nat)}, (∀ y ∈ ys, y ≠ [] ∧ y ≠ [45]) → ys ≠ [] → TL.joinL [32] ys ≠ [45]
  | [], _, h => absurd rfl h
  | [y], h, _ => by
    rw [TL.joinL]
    exact (h y (by simp [mkS, finS, bNs, gL1, gL2, gLL2, fI2, tkA, ptA, GS, GL, fPut, ful, l12, l02, DL.D.mut, DL.D.top, DL.D.imm, DL.D.imm.immAll, fdOk, fIx, fMul, fAdd, powOk, gLstL, gTupL, DL.D.ty, lvN, szOk, fLen, fListOf, fTupOf, fSl, gSlN, gSlH, gSlL, gSlB, fIsi, fIsiT, isT, DL.D.tyN, DL.D.isX, fInts, DL.D.seqI, fLenSet, fLR, fLR1, gLR2, rgOk, fDict, fAbs, fInt1, gMax2, gMin2, g1S, g2S, fItems, fR1, fR2, bd62, lowE, clr, bakE, kpE, fApp, fIns, fPop, fPopA, fPopI, fClr, fRev, fExt, allTop, fEq, fNe, fNeg, fIsN, DL.D.isNon, DL.D.key, dGet, canE, nrm, cT, sAug_k, ixN, fRvS, fAll, dBls_map, fIsB, fIdx, msk, Function.comp_def, cut_hi, cut_lo, cut_both, gLLL3, fCntB, fIdxB, gLR3])).2
  | y :: z :: ys, h, _ => fun e => by
    rw [TL.joinL] at e
    have := congrArg List.length e
    have l1 := List.length_pos_iff.mpr (h y (by simp [mkS, finS, bNs, gL1, gL2, gLL2, fI2, tkA, ptA, GS, GL, fPut, ful, l12, l02, DL.D.mut, DL.D.top, DL.D.imm, DL.D.imm.immAll, fdOk, fIx, fMul, fAdd, powOk, gLstL, gTupL, DL.D.ty, lvN, szOk, fLen, fListOf, fTupOf, fSl, gSlN, gSlH, gSlL, gSlB, fIsi, fIsiT, isT, DL.D.tyN, DL.D.isX, fInts, DL.D.seqI, fLenSet, fLR, fLR1, gLR2, rgOk, fDict, fAbs, fInt1, gMax2, gMin2, g1S, g2S, fItems, fR1, fR2, bd62, lowE, clr, bakE, kpE, fApp, fIns, fPop, fPopA, fPopI, fClr, fRev, fExt, allTop, fEq, fNe, fNeg, fIsN, DL.D.isNon, DL.D.key, dGet, canE, nrm, cT, sAug_k, ixN, fRvS, fAll, dBls_map, fIsB, fIdx, msk, Function.comp_def, cut_hi, cut_lo, cut_both, gLLL3, fCntB, fIdxB, gLR3])).1
    simp [mkS, finS, bNs, gL1, gL2, gLL2, fI2, tkA, ptA, GS, GL, fPut, ful, l12, l02, DL.D.mut, DL.D.top, DL.D.imm, DL.D.imm.immAll, fdOk, fIx, fMul, fAdd, powOk, gLstL, gTupL, DL.D.ty, lvN, szOk, fLen, fListOf, fTupOf, fSl, gSlN, gSlH, gSlL, gSlB, fIsi, fIsiT, isT, DL.D.tyN, DL.D.isX, fInts, DL.D.seqI, fLenSet, fLR, fLR1, gLR2, rgOk, fDict, fAbs, fInt1, gMax2, gMin2, g1S, g2S, fItems, fR1, fR2, bd62, lowE, clr, bakE, kpE, fApp, fIns, fPop, fPopA, fPopI, fClr, fRev, fExt, allTop, fEq, fNe, fNeg, fIsN, DL.D.isNon, DL.D.key, dGet, canE, nrm, cT, sAug_k, ixN, fRvS, fAll, dBls_map, fIsB, fIdx, msk, Function.comp_def, cut_hi, cut_lo, cut_both, gLLL3, fCntB, fIdxB, gLR3] at this
    omega
theorem number_ok {i : Int} (h : OkI i) (l : Nat) : F_number_told [(l, .str (tx (intL i)))] = .ret (2, .int i) [] := by
  have ln := int_len h
  have zz : (intL i).length ≤ 16777216 := by omega
  have c1 : cutS (tx (intL i)) none (some 1) = tx ((intL i).take 1) := (C8.cutS_slice _ _ _).trans (SX.slice_to (by decide))
  have c2 : cutS (tx (intL i)) (some 1) none = tx ((intL i).drop 1) := (C8.cutS_slice _ _ _).trans (SX.slice_from (by decide))
  have km : Str.ofString "-0" = tx [45, 48] := by decide +kernel
  rw [run_number_told]
  by_cases c : i < 0
  · have e : intL i = 45 :: TL.numL i.natAbs := if_pos c
    rw [e] at c1 c2 zz ⊢
    have fo := fun l => figures_ok i.natAbs h.1 l
    have n0 : TL.numL i.natAbs ≠ [48] := fun h => by have := num_zero h; omega
    have en : (((i.natAbs : Nat) : Int)) = -i := by omega
    rw [en] at fo
    have t1 : (45 :: TL.numL i.natAbs).take 1 = [45] := rfl
    have t2 : (45 :: TL.numL i.natAbs).drop 1 = TL.numL i.natAbs := rfl
    rw [t1] at c1
    rw [t2] at c2
    obtain ⟨w, hw⟩ : ∃ w, TL.numL i.natAbs = w := ⟨_, rfl⟩
    rw [hw] at fo c1 c2 zz n0 ⊢
    have n1 : (45 :: w = [45, 48]) = False := by simpa [mkS, finS, bNs, gL1, gL2, gLL2, fI2, tkA, ptA, GS, GL, fPut, ful, l12, l02, DL.D.mut, DL.D.top, DL.D.imm, DL.D.imm.immAll, fdOk, fIx, fMul, fAdd, powOk, gLstL, gTupL, DL.D.ty, lvN, szOk, fLen, fListOf, fTupOf, fSl, gSlN, gSlH, gSlL, gSlB, fIsi, fIsiT, isT, DL.D.tyN, DL.D.isX, fInts, DL.D.seqI, fLenSet, fLR, fLR1, gLR2, rgOk, fDict, fAbs, fInt1, gMax2, gMin2, g1S, g2S, fItems, fR1, fR2, bd62, lowE, clr, bakE, kpE, fApp, fIns, fPop, fPopA, fPopI, fClr, fRev, fExt, allTop, fEq, fNe, fNeg, fIsN, DL.D.isNon, DL.D.key, dGet, canE, nrm, cT, sAug_k, ixN, fRvS, fAll, dBls_map, fIsB, fIdx, msk, Function.comp_def, cut_hi, cut_lo, cut_both, gLLL3, fCntB, fIdxB, gLR3] using n0
    obtain ⟨v, hv⟩ : ∃ v, 45 :: w = v := ⟨_, rfl⟩
    rw [hv] at c1 c2 zz n1 ⊢
    simp [mkS, finS, bNs, gL1, gL2, gLL2, fI2, tkA, ptA, GS, GL, fPut, ful, l12, l02, DL.D.mut, DL.D.top, DL.D.imm, DL.D.imm.immAll, fdOk, fIx, fMul, fAdd, powOk, gLstL, gTupL, DL.D.ty, lvN, szOk, fLen, fListOf, fTupOf, fSl, gSlN, gSlH, gSlL, gSlB, fIsi, fIsiT, isT, DL.D.tyN, DL.D.isX, fInts, DL.D.seqI, fLenSet, fLR, fLR1, gLR2, rgOk, fDict, fAbs, fInt1, gMax2, gMin2, g1S, g2S, fItems, fR1, fR2, bd62, lowE, clr, bakE, kpE, fApp, fIns, fPop, fPopA, fPopI, fClr, fRev, fExt, allTop, fEq, fNe, fNeg, fIsN, DL.D.isNon, DL.D.key, dGet, canE, nrm, cT, sAug_k, ixN, fRvS, fAll, dBls_map, fIsB, fIdx, msk, Function.comp_def, cut_hi, cut_lo, cut_both, gLLL3, fCntB, fIdxB, gLR3, m_number_told, k_dash, km, tx_eqP, tx_len, zz, c1, c2, n1, fo]
  · have e : intL i = TL.numL i.toNat := if_neg c
    obtain ⟨n, rfl⟩ : ∃ n : Nat, i = n := ⟨i.toNat, by omega⟩
    rw [e] at c1 c2 zz ⊢
    have fo := fun l => figures_ok n h.1 l
    have en : ((n : Int)).toNat = n := rfl
    rw [en] at c1 c2 zz ⊢
    have t1 : ((TL.numL n).take 1 = [45]) = False := eq_false fun h => by
      have : 45 ∈ TL.numL n := List.mem_of_mem_take (by rw [h]; simp [mkS, finS, bNs, gL1, gL2, gLL2, fI2, tkA, ptA, GS, GL, fPut, ful, l12, l02, DL.D.mut, DL.D.top, DL.D.imm, DL.D.imm.immAll, fdOk, fIx, fMul, fAdd, powOk, gLstL, gTupL, DL.D.ty, lvN, szOk, fLen, fListOf, fTupOf, fSl, gSlN, gSlH, gSlL, gSlB, fIsi, fIsiT, isT, DL.D.tyN, DL.D.isX, fInts, DL.D.seqI, fLenSet, fLR, fLR1, gLR2, rgOk, fDict, fAbs, fInt1, gMax2, gMin2, g1S, g2S, fItems, fR1, fR2, bd62, lowE, clr, bakE, kpE, fApp, fIns, fPop, fPopA, fPopI, fClr, fRev, fExt, allTop, fEq, fNe, fNeg, fIsN, DL.D.isNon, DL.D.key, dGet, canE, nrm, cT, sAug_k, ixN, fRvS, fAll, dBls_map, fIsB, fIdx, msk, Function.comp_def, cut_hi, cut_lo, cut_both, gLLL3, fCntB, fIdxB, gLR3])
      exact TL.numL_free (by omega) this
    obtain ⟨w, hw⟩ : ∃ w, TL.numL n = w := ⟨_, rfl⟩
    rw [hw] at fo c1 c2 zz t1 ⊢
    simp [mkS, finS, bNs, gL1, gL2, gLL2, fI2, tkA, ptA, GS, GL, fPut, ful, l12, l02, DL.D.mut, DL.D.top, DL.D.imm, DL.D.imm.immAll, fdOk, fIx, fMul, fAdd, powOk, gLstL, gTupL, DL.D.ty, lvN, szOk, fLen, fListOf, fTupOf, fSl, gSlN, gSlH, gSlL, gSlB, fIsi, fIsiT, isT, DL.D.tyN, DL.D.isX, fInts, DL.D.seqI, fLenSet, fLR, fLR1, gLR2, rgOk, fDict, fAbs, fInt1, gMax2, gMin2, g1S, g2S, fItems, fR1, fR2, bd62, lowE, clr, bakE, kpE, fApp, fIns, fPop, fPopA, fPopI, fClr, fRev, fExt, allTop, fEq, fNe, fNeg, fIsN, DL.D.isNon, DL.D.key, dGet, canE, nrm, cT, sAug_k, ixN, fRvS, fAll, dBls_map, fIsB, fIdx, msk, Function.comp_def, cut_hi, cut_lo, cut_both, gLLL3, fCntB, fIdxB, gLR3, m_number_told, k_dash, km, tx_eqP, tx_len, zz, c1, c2, t1, fo]
structure OkR (r : List Int) : Prop where
  len : r.length ≤ 1000
  ok : ∀ i ∈ r, OkI i
structure OkD (ds : List (Int × Int)) : Prop where
  len : ds.length ≤ 900
  ok : ∀ q ∈ ds, OkA q.1 ∧ OkB q.2 ∧ -2 ≤ q.1 ∧ -2 ≤ q.2 ∧ q.1.natAbs.log2 < 1920 ∧ q.2.natAbs.log2 < 1920 ∧ (wayL q).length ≤ 100
theorem sum_len {ys : List (List Nat)} {k : Nat} (h : ∀ y ∈ ys, y.length ≤ k) : (ys.map (·.length)).sum + ys.length ≤ ys.length * (k + 1) := by
  induction ys with
  | nil => simp [mkS, finS, bNs, gL1, gL2, gLL2, fI2, tkA, ptA, GS, GL, fPut, ful, l12, l02, DL.D.mut, DL.D.top, DL.D.imm, DL.D.imm.immAll, fdOk, fIx, fMul, fAdd, powOk, gLstL, gTupL, DL.D.ty, lvN, szOk, fLen, fListOf, fTupOf, fSl, gSlN, gSlH, gSlL, gSlB, fIsi, fIsiT, isT, DL.D.tyN, DL.D.isX, fInts, DL.D.seqI, fLenSet, fLR, fLR1, gLR2, rgOk, fDict, fAbs, fInt1, gMax2, gMin2, g1S, g2S, fItems, fR1, fR2, bd62, lowE, clr, bakE, kpE, fApp, fIns, fPop, fPopA, fPopI, fClr, fRev, fExt, allTop, fEq, fNe, fNeg, fIsN, DL.D.isNon, DL.D.key, dGet, canE, nrm, cT, sAug_k, ixN, fRvS, fAll, dBls_map, fIsB, fIdx, msk, Function.comp_def, cut_hi, cut_lo, cut_both, gLLL3, fCntB, fIdxB, gLR3]
  | cons y ys ih =>
    have h1 := h y (by simp [mkS, finS, bNs, gL1, gL2, gLL2, fI2, tkA, ptA, GS, GL, fPut, ful, l12, l02, DL.D.mut, DL.D.top, DL.D.imm, DL.D.imm.immAll, fdOk, fIx, fMul, fAdd, powOk, gLstL, gTupL, DL.D.ty, lvN, szOk, fLen, fListOf, fTupOf, fSl, gSlN, gSlH, gSlL, gSlB, fIsi, fIsiT, isT, DL.D.tyN, DL.D.isX, fInts, DL.D.seqI, fLenSet, fLR, fLR1, gLR2, rgOk, fDict, fAbs, fInt1, gMax2, gMin2, g1S, g2S, fItems, fR1, fR2, bd62, lowE, clr, bakE, kpE, fApp, fIns, fPop, fPopA, fPopI, fClr, fRev, fExt, allTop, fEq, fNe, fNeg, fIsN, DL.D.isNon, DL.D.key, dGet, canE, nrm, cT, sAug_k, ixN, fRvS, fAll, dBls_map, fIsB, fIdx, msk, Function.comp_def, cut_hi, cut_lo, cut_both, gLLL3, fCntB, fIdxB, gLR3])
    have h2 := ih fun w hw => h w (List.mem_cons_of_mem _ hw)
    rw [List.map_cons, List.sum_cons, List.length_cons, Nat.succ_mul]
    omega
section
variable {r : List Int} {ds : List (Int × Int)}
theorem OkR.yl (h : OkR r) : ∀ y ∈ r.map intL, y.length ≤ 31 := fun y hy => by
  obtain ⟨i, hi, rfl⟩ := List.mem_map.mp hy
  exact int_len (h.ok i hi)
theorem OkD.yl (h : OkD ds) : ∀ y ∈ ds.map wayL, y.length ≤ 100 := fun y hy => by
  obtain ⟨q, hq, rfl⟩ := List.mem_map.mp hy
  exact (h.ok q hq).2.2.2.2.2.2
theorem row_len (h : OkR r) : (rowL r).length ≤ 100000 := by
  have := joinE_len (s := 32) h.yl
  rw [List.length_map] at this
  have := h.len
  unfold rowL
  omega
theorem doing_len (h : OkD ds) : (doingL ds).length ≤ 100000 := by
  have := joinE_len (s := 32) h.yl
  rw [List.length_map] at this
  have := h.len
  unfold doingL
  omega
theorem row_text_ok (h : OkR r) (l : Nat) : F_row_text [(l, .lst (r.map .int))] = .ret (2, .str (tx (rowL r))) [] := by
  have li := fun l l2 => listed_ok [32] (r.map intL) (fun y hy c hc => by
    obtain ⟨i, _, rfl⟩ := List.mem_map.mp hy
    have := int_low i c hc
    omega) (by
    have := sum_len h.yl
    rw [List.length_map] at this ⊢
    have := h.len
    simp only [List.length_cons, List.length_nil]
    omega) l l2
  rw [List.map_map] at li
  have li : ∀ l l2, F_listed [(l, .lst (r.map fun i => .str (tx (intL i)))), (l2, .str (tx [32]))] = .ret (2, .str (tx (rowL r))) [] := li
  have z : r.length ≤ 16777216 := by have := h.len; omega
  have lg : ∀ i ∈ r, i.natAbs.log2 < 1920 := fun i hi => (h.ok i hi).2
  rw [run_row_text]
  simp +contextual [mkS, finS, bNs, gL1, gL2, gLL2, fI2, tkA, ptA, GS, GL, fPut, ful, l12, l02, DL.D.mut, DL.D.top, DL.D.imm, DL.D.imm.immAll, fdOk, fIx, fMul, fAdd, powOk, gLstL, gTupL, DL.D.ty, lvN, szOk, fLen, fListOf, fTupOf, fSl, gSlN, gSlH, gSlL, gSlB, fIsi, fIsiT, isT, DL.D.tyN, DL.D.isX, fInts, DL.D.seqI, fLenSet, fLR, fLR1, gLR2, rgOk, fDict, fAbs, fInt1, gMax2, gMin2, g1S, g2S, fItems, fR1, fR2, bd62, lowE, clr, bakE, kpE, fApp, fIns, fPop, fPopA, fPopI, fClr, fRev, fExt, allTop, fEq, fNe, fNeg, fIsN, DL.D.isNon, DL.D.key, dGet, canE, nrm, cT, sAug_k, ixN, fRvS, fAll, dBls_map, fIsB, fIdx, msk, Function.comp_def, cut_hi, cut_lo, cut_both, gLLL3, fCntB, fIdxB, gLR3, m_row_text, colM_A, k_blank, k_int, z, lg, li]
theorem doing_text_ok (h : OkD ds) (l : Nat) : F_doing_text [(l, .lst (ds.map DL.prD))] = .ret (2, .str (tx (doingL ds))) [] := by
  have li := fun l l2 => listed_ok [32] (ds.map wayL) (fun y hy c hc => by
    obtain ⟨i, _, rfl⟩ := List.mem_map.mp hy
    have := way_low c hc
    omega) (by
    have := sum_len h.yl
    rw [List.length_map] at this ⊢
    have := h.len
    simp only [List.length_cons, List.length_nil]
    omega) l l2
  rw [List.map_map] at li
  have li : ∀ l l2, F_listed [(l, .lst (ds.map fun i => .str (tx (wayL i)))), (l2, .str (tx [32]))] = .ret (2, .str (tx (doingL ds))) [] := li
  have wt : ∀ q ∈ ds, ∀ l, F_way_text [(l, DL.prD q)] = .ret (2, .str (tx (wayL q))) [] := fun q hq l => by
    have g := h.ok q hq
    exact way_text_ok g.2.2.1 g.2.2.2.1 ⟨g.2.2.2.2.1, g.2.2.2.2.2.1⟩ l
  have z : ds.length ≤ 16777216 := by have := h.len; omega
  rw [run_doing_text]
  simp +contextual [mkS, finS, bNs, gL1, gL2, gLL2, fI2, tkA, ptA, GS, GL, fPut, ful, l12, l02, DL.D.mut, DL.D.top, DL.D.imm, DL.D.imm.immAll, fdOk, fIx, fMul, fAdd, powOk, gLstL, gTupL, DL.D.ty, lvN, szOk, fLen, fListOf, fTupOf, fSl, gSlN, gSlH, gSlL, gSlB, fIsi, fIsiT, isT, DL.D.tyN, DL.D.isX, fInts, DL.D.seqI, fLenSet, fLR, fLR1, gLR2, rgOk, fDict, fAbs, fInt1, gMax2, gMin2, g1S, g2S, fItems, fR1, fR2, bd62, lowE, clr, bakE, kpE, fApp, fIns, fPop, fPopA, fPopI, fClr, fRev, fExt, allTop, fEq, fNe, fNeg, fIsN, DL.D.isNon, DL.D.key, dGet, canE, nrm, cT, sAug_k, ixN, fRvS, fAll, dBls_map, fIsB, fIdx, msk, Function.comp_def, cut_hi, cut_lo, cut_both, gLLL3, fCntB, fIdxB, gLR3, m_doing_text, colM_A, k_blank, z, wt, li]
theorem read_row_ok (h : OkR r) (l : Nat) : F_read_row [(l, .str (tx (rowL r)))] = .ret (2, .lst (r.map .int)) [] := by
  have po := fun l l2 => parts_gen 32 (by decide) (r.map intL) (fun y hy hm => by
    obtain ⟨i, _, rfl⟩ := List.mem_map.mp hy
    exact (int_low i 32 hm).2 rfl) (row_not fun y hy => by
    obtain ⟨i, _, rfl⟩ := List.mem_map.mp hy
    exact int_ne i) (row_len h) l l2
  rw [List.map_map] at po
  have po : ∀ l l2, F_parts_told [(l, .str (tx (rowL r))), (l2, .str (tx [32]))] = .ret (2, .lst (r.map fun i => .str (tx (intL i)))) [] := po
  have no : ∀ i ∈ r, ∀ l, F_number_told [(l, .str (tx (intL i)))] = .ret (2, .int i) [] := fun i hi l => number_ok (h.ok i hi) l
  have z : r.length ≤ 16777216 := by have := h.len; omega
  rw [run_read_row]
  simp +contextual [mkS, finS, bNs, gL1, gL2, gLL2, fI2, tkA, ptA, GS, GL, fPut, ful, l12, l02, DL.D.mut, DL.D.top, DL.D.imm, DL.D.imm.immAll, fdOk, fIx, fMul, fAdd, powOk, gLstL, gTupL, DL.D.ty, lvN, szOk, fLen, fListOf, fTupOf, fSl, gSlN, gSlH, gSlL, gSlB, fIsi, fIsiT, isT, DL.D.tyN, DL.D.isX, fInts, DL.D.seqI, fLenSet, fLR, fLR1, gLR2, rgOk, fDict, fAbs, fInt1, gMax2, gMin2, g1S, g2S, fItems, fR1, fR2, bd62, lowE, clr, bakE, kpE, fApp, fIns, fPop, fPopA, fPopI, fClr, fRev, fExt, allTop, fEq, fNe, fNeg, fIsN, DL.D.isNon, DL.D.key, dGet, canE, nrm, cT, sAug_k, ixN, fRvS, fAll, dBls_map, fIsB, fIdx, msk, Function.comp_def, cut_hi, cut_lo, cut_both, gLLL3, fCntB, fIdxB, gLR3, m_read_row, colM_A, k_blank, z, no, po]
theorem read_doing_ok (h : OkD ds) (l : Nat) : F_read_doing [(l, .str (tx (doingL ds)))] = .ret (2, .lst (ds.map DL.prD)) [] := by
  have po := fun l l2 => parts_ok 32 (by decide) (ds.map wayL) (fun y hy => by
    obtain ⟨q, _, rfl⟩ := List.mem_map.mp hy
    exact ⟨fun h => (way_low 32 h).2.1 rfl, fun h => (way_low 45 h).2.2.2 rfl⟩) (doing_len h) l l2
  rw [List.map_map] at po
  have po : ∀ l l2, F_parts_told [(l, .str (tx (doingL ds))), (l2, .str (tx [32]))] = .ret (2, .lst (ds.map fun i => .str (tx (wayL i)))) [] := po
  have wo : ∀ q ∈ ds, ∀ l, F_way_told [(l, .str (tx (wayL q)))] = .ret (2, DL.prD q) [] := fun q hq l => by
    have g := h.ok q hq
    exact way_told_ok g.1 g.2.1 (by have := g.2.2.2.2.2.2; omega) l
  have z : ds.length ≤ 16777216 := by have := h.len; omega
  rw [run_read_doing]
  simp +contextual [mkS, finS, bNs, gL1, gL2, gLL2, fI2, tkA, ptA, GS, GL, fPut, ful, l12, l02, DL.D.mut, DL.D.top, DL.D.imm, DL.D.imm.immAll, fdOk, fIx, fMul, fAdd, powOk, gLstL, gTupL, DL.D.ty, lvN, szOk, fLen, fListOf, fTupOf, fSl, gSlN, gSlH, gSlL, gSlB, fIsi, fIsiT, isT, DL.D.tyN, DL.D.isX, fInts, DL.D.seqI, fLenSet, fLR, fLR1, gLR2, rgOk, fDict, fAbs, fInt1, gMax2, gMin2, g1S, g2S, fItems, fR1, fR2, bd62, lowE, clr, bakE, kpE, fApp, fIns, fPop, fPopA, fPopI, fClr, fRev, fExt, allTop, fEq, fNe, fNeg, fIsN, DL.D.isNon, DL.D.key, dGet, canE, nrm, cT, sAug_k, ixN, fRvS, fAll, dBls_map, fIsB, fIdx, msk, Function.comp_def, cut_hi, cut_lo, cut_both, gLLL3, fCntB, fIdxB, gLR3, m_read_doing, colM_A, k_blank, z, wo, po]
end
end LW
namespace LW
open L2 DL PySem PySem.Spec PyProof.Rows
theorem okI_small {i : Int} (h : i.natAbs ≤ 268435456 * 10 ^ 21 + 7) : OkI i := okI_of (Nat.lt_of_le_of_lt h (by decide))
theorem row_turn (cell : Int) (k j : Nat) (l0 l1 : Nat) (h0 : l0 = 0 ∨ l0 = 2) (h1 : l1 = 0 ∨ l1 = 2) (F : List Int) (hF : F.length ≤ 1000) :
    ∃ x : Int, OkI x ∧ lb1__law_any_row [some (l0, .int cell), some (l1, .int k), some (2, .lst (F.map .int)), some (0, .int j), none, none] = .nx [some (2, .int cell), some (2, .int k), some (2, .lst ((F ++ [x]).map .int)), none, none, none] := by
  have st := stir_ok cell ((k : Int) + 1 + j) (by omega)
  have bd := stir_bd cell ((k : Int) + 1 + j)
  generalize stir cell ((k : Int) + 1 + j) = n at st bd
  have z : F.length ≤ 16777215 := by omega
  have a3 : n % 3 = 0 ∨ n % 3 = 1 ∨ n % 3 = 2 := by omega
  have a2 : n / 4 % 2 = 0 ∨ n / 4 % 2 = 1 := by omega
  obtain ⟨y, hy, ob⟩ : ∃ y : Int, atI [D.int (n / 8 % 10), .int (n / 8), .int (n * 10 ^ 21 + 7)] (n % 3) = some (.int y) ∧ y.natAbs ≤ 268435456 * 10 ^ 21 + 7 := by
    rcases a3 with h | h | h <;> rw [h]
    · exact ⟨_, rfl, by omega⟩
    · exact ⟨_, rfl, by omega⟩
    · exact ⟨_, rfl, by omega⟩
  obtain ⟨x, hx, ox⟩ : ∃ x : Int, atI [D.int y, .int (0 - y)] (n / 4 % 2) = some (.int x) ∧ x.natAbs ≤ 268435456 * 10 ^ 21 + 7 := by
    rcases a2 with h | h <;> rw [h]
    · exact ⟨_, rfl, ob⟩
    · exact ⟨_, rfl, by omega⟩
  refine ⟨x, okI_small ox, ?_⟩
  have mo : mulOk n 1000000000000000000000 = true := by
    unfold mulOk
    rw [decide_eq_true (show n.natAbs < 2 ^ 64 by omega)]
    rfl
  have p : (10 : Int) ^ 21 = 1000000000000000000000 := by decide
  rw [p] at hy
  have hx2 : atI [D.int y, .int (-y)] (n / 4 % 2) = some (.int x) := by rw [← hx]; congr 3; simp [mkS, finS, bNs, gL1, gL2, gLL2, fI2, tkA, ptA, GS, GL, fPut, ful, l12, l02, DL.D.mut, DL.D.top, DL.D.imm, DL.D.imm.immAll, fdOk, fIx, fMul, fAdd, powOk, gLstL, gTupL, DL.D.ty, lvN, szOk, fLen, fListOf, fTupOf, fSl, gSlN, gSlH, gSlL, gSlB, fIsi, fIsiT, isT, DL.D.tyN, DL.D.isX, fInts, DL.D.seqI, fLenSet, fLR, fLR1, gLR2, rgOk, fDict, fAbs, fInt1, gMax2, gMin2, g1S, g2S, fItems, fR1, fR2, bd62, lowE, clr, bakE, kpE, fApp, fIns, fPop, fPopA, fPopI, fClr, fRev, fExt, allTop, fEq, fNe, fNeg, fIsN, DL.D.isNon, DL.D.key, dGet, canE, nrm, cT, sAug_k, ixN, fRvS, fAll, dBls_map, fIsB, fIdx, msk, Function.comp_def, cut_hi, cut_lo, cut_both, gLLL3, fCntB, fIdxB, gLR3]
  rcases h0 with rfl | rfl <;> rcases h1 with rfl | rfl <;> simp [mkS, finS, bNs, gL1, gL2, gLL2, fI2, tkA, ptA, GS, GL, fPut, ful, l12, l02, DL.D.mut, DL.D.top, DL.D.imm, DL.D.imm.immAll, fdOk, fIx, fMul, fAdd, powOk, gLstL, gTupL, DL.D.ty, lvN, szOk, fLen, fListOf, fTupOf, fSl, gSlN, gSlH, gSlL, gSlB, fIsi, fIsiT, isT, DL.D.tyN, DL.D.isX, fInts, DL.D.seqI, fLenSet, fLR, fLR1, gLR2, rgOk, fDict, fAbs, fInt1, gMax2, gMin2, g1S, g2S, fItems, fR1, fR2, bd62, lowE, clr, bakE, kpE, fApp, fIns, fPop, fPopA, fPopI, fClr, fRev, fExt, allTop, fEq, fNe, fNeg, fIsN, DL.D.isNon, DL.D.key, dGet, canE, nrm, cT, sAug_k, ixN, fRvS, fAll, dBls_map, fIsB, fIdx, msk, Function.comp_def, cut_hi, cut_lo, cut_both, gLLL3, fCntB, fIdxB, gLR3, lb1__law_any_row, st, hy, hx, hx2, z, mo, -atI_cons]
theorem any_row_ok (cell : Int) (k : Nat) : ∃ r : List Int, OkR r ∧ ∀ l0 l1, F__law_any_row [(l0, .int cell), (l1, .int k)] = .ret (2, .lst (r.map .int)) [] := by
  have st := stir_ok cell k (by omega)
  obtain ⟨n, hn, n13⟩ : ∃ n : Nat, stir cell k % 13 = n ∧ n < 13 := ⟨(stir cell k % 13).toNat, by omega, by omega⟩
  obtain ⟨F, o1, o2, o3⟩ := forL_rng (bd := bName 3) (f := lb1__law_any_row) (fun (F : List Int) => ([some (2, .int cell), some (2, .int k), some (2, .lst (F.map .int)), none, none, none] : DL.Env)) (fun j F => F.length = j ∧ ∀ i ∈ F, OkI i) (lo := 0) (n := n) (s := []) ⟨rfl, fun _ h => nomatch h⟩ fun j F hj ⟨h1, h2⟩ => by
    obtain ⟨x, ox, tn⟩ := row_turn cell k j 2 2 (.inr rfl) (.inr rfl) F (by omega)
    rw [Int.zero_add]
    refine ⟨_, rfl, F ++ [x], .inl tn, by simp [mkS, finS, bNs, gL1, gL2, gLL2, fI2, tkA, ptA, GS, GL, fPut, ful, l12, l02, DL.D.mut, DL.D.top, DL.D.imm, DL.D.imm.immAll, fdOk, fIx, fMul, fAdd, powOk, gLstL, gTupL, DL.D.ty, lvN, szOk, fLen, fListOf, fTupOf, fSl, gSlN, gSlH, gSlL, gSlB, fIsi, fIsiT, isT, DL.D.tyN, DL.D.isX, fInts, DL.D.seqI, fLenSet, fLR, fLR1, gLR2, rgOk, fDict, fAbs, fInt1, gMax2, gMin2, g1S, g2S, fItems, fR1, fR2, bd62, lowE, clr, bakE, kpE, fApp, fIns, fPop, fPopA, fPopI, fClr, fRev, fExt, allTop, fEq, fNe, fNeg, fIsN, DL.D.isNon, DL.D.key, dGet, canE, nrm, cT, sAug_k, ixN, fRvS, fAll, dBls_map, fIsB, fIdx, msk, Function.comp_def, cut_hi, cut_lo, cut_both, gLLL3, fCntB, fIdxB, gLR3, h1], fun i hi => ?_⟩
    rcases List.mem_append.mp hi with h | h
    · exact h2 i h
    · rw [List.mem_singleton.mp h]; exact ox
  simp only [rngD, Int.zero_add, List.map_map, Function.comp_def, List.map_nil] at o1
  refine ⟨F, ⟨by omega, o3⟩, fun l0 l1 => ?_⟩
  have z : n < 4611686018427387904 := by omega
  rw [run__law_any_row]
  simp [mkS, finS, bNs, gL1, gL2, gLL2, fI2, tkA, ptA, GS, GL, fPut, ful, l12, l02, DL.D.mut, DL.D.top, DL.D.imm, DL.D.imm.immAll, fdOk, fIx, fMul, fAdd, powOk, gLstL, gTupL, DL.D.ty, lvN, szOk, fLen, fListOf, fTupOf, fSl, gSlN, gSlH, gSlL, gSlB, fIsi, fIsiT, isT, DL.D.tyN, DL.D.isX, fInts, DL.D.seqI, fLenSet, fLR, fLR1, gLR2, rgOk, fDict, fAbs, fInt1, gMax2, gMin2, g1S, g2S, fItems, fR1, fR2, bd62, lowE, clr, bakE, kpE, fApp, fIns, fPop, fPopA, fPopI, fClr, fRev, fExt, allTop, fEq, fNe, fNeg, fIsN, DL.D.isNon, DL.D.key, dGet, canE, nrm, cT, sAug_k, ixN, fRvS, fAll, dBls_map, fIsB, fIdx, msk, Function.comp_def, cut_hi, cut_lo, cut_both, gLLL3, fCntB, fIdxB, gLR3, m__law_any_row, st, hn, rngD, z, o1]
theorem end_of {a : Int} (h0 : 0 ≤ a) (h : a.natAbs ≤ 268435456 * 10 ^ 21 + 7) : (TL.numL a.toNat).length ≤ 30 ∧ a.natAbs.log2 < 1920 ∧ (endL a).length ≤ 30 := by
  have o := okI_small h
  have e : a.toNat = a.natAbs := by omega
  rw [e]
  refine ⟨o.1, o.2, ?_⟩
  unfold endL
  rw [if_neg (by omega), if_neg (by omega), e]
  exact o.1
/-- one move that is drawn -/
def OkM (q : Int × Int) : Prop := (q.1 = -1 ∨ (0 ≤ q.1 ∧ q.1.natAbs ≤ 268435456 * 10 ^ 21 + 7)) ∧ (q.2 = -2 ∨ (0 ≤ q.2 ∧ q.2.natAbs ≤ 268435456 * 10 ^ 21 + 7))
theorem okM_ok {q : Int × Int} (h : OkM q) : OkA q.1 ∧ OkB q.2 ∧ -2 ≤ q.1 ∧ -2 ≤ q.2 ∧ q.1.natAbs.log2 < 1920 ∧ q.2.natAbs.log2 < 1920 ∧ (wayL q).length ≤ 100 := by
  obtain ⟨a, b⟩ := q
  obtain ⟨h1, h2⟩ := h
  dsimp only at h1 h2
  have fa : OkA a ∧ -2 ≤ a ∧ a.natAbs.log2 < 1920 ∧ (endL a).length ≤ 30 := by
    rcases h1 with rfl | ⟨h0, h⟩
    · exact ⟨.inl rfl, by decide, by decide +kernel, by decide⟩
    · have := end_of h0 h
      exact ⟨.inr ⟨h0, this.1⟩, by omega, this.2.1, this.2.2⟩
  have fb : OkB b ∧ -2 ≤ b ∧ b.natAbs.log2 < 1920 ∧ (endL b).length ≤ 30 := by
    rcases h2 with rfl | ⟨h0, h⟩
    · exact ⟨.inl rfl, by decide, by decide +kernel, by decide⟩
    · have := end_of h0 h
      exact ⟨.inr ⟨h0, this.1⟩, by omega, this.2.1, this.2.2⟩
  refine ⟨fa.1, fb.1, fa.2.1, fb.2.1, fa.2.2.1, fb.2.2.1, ?_⟩
  unfold wayL
  have := fa.2.2.2
  have := fb.2.2.2
  rw [List.length_append, List.length_cons]
  dsimp only
  omega
theorem doing_turn (cell : Int) (k j : Nat) (F : List (Int × Int)) (hF : F.length ≤ 1000) :
    ∃ x : Int × Int, OkM x ∧ lb1__law_any_doing [some (2, .int cell), some (2, .int k), some (2, .lst (F.map DL.prD)), some (0, .int j), none, none] = .nx [some (2, .int cell), some (2, .int k), some (2, .lst ((F ++ [x]).map DL.prD)), none, none, none] := by
  have st := stir_ok cell ((k : Int) + 1 + j) (by omega)
  have bd := stir_bd cell ((k : Int) + 1 + j)
  generalize stir cell ((k : Int) + 1 + j) = n at st bd
  have z : F.length ≤ 16777215 := by omega
  have a4 : n % 4 = 0 ∨ n % 4 = 1 ∨ n % 4 = 2 ∨ n % 4 = 3 := by omega
  have b4 : n / 4 % 4 = 0 ∨ n / 4 % 4 = 1 ∨ n / 4 % 4 = 2 ∨ n / 4 % 4 = 3 := by omega
  have p : (10 : Int) ^ 21 = 1000000000000000000000 := by decide
  have mo : mulOk n 1000000000000000000000 = true := by
    unfold mulOk
    rw [decide_eq_true (show n.natAbs < 2 ^ 64 by omega)]
    rfl
  obtain ⟨a, ha, oa⟩ : ∃ y : Int, atI [D.int (-1), .int (n / 16 % 6), .int (n / 16 % 6), .int (n * 1000000000000000000000)] (n % 4) = some (.int y) ∧ (y = -1 ∨ (0 ≤ y ∧ y.natAbs ≤ 268435456 * 10 ^ 21 + 7)) := by
    rcases a4 with h | h | h | h <;> rw [h]
    · exact ⟨_, rfl, .inl rfl⟩
    · exact ⟨_, rfl, .inr (by omega)⟩
    · exact ⟨_, rfl, .inr (by omega)⟩
    · exact ⟨_, rfl, .inr (by omega)⟩
  obtain ⟨b, hb, ob⟩ : ∃ y : Int, atI [D.int (-2), .int (n / 128 % 6), .int (n / 128 % 6), .int n] (n / 4 % 4) = some (.int y) ∧ (y = -2 ∨ (0 ≤ y ∧ y.natAbs ≤ 268435456 * 10 ^ 21 + 7)) := by
    rcases b4 with h | h | h | h <;> rw [h]
    · exact ⟨_, rfl, .inl rfl⟩
    · exact ⟨_, rfl, .inr (by omega)⟩
    · exact ⟨_, rfl, .inr (by omega)⟩
    · exact ⟨_, rfl, .inr (by omega)⟩
  refine ⟨(a, b), ⟨oa, ob⟩, ?_⟩
  rw [List.map_append]
  simp [mkS, finS, bNs, gL1, gL2, gLL2, fI2, tkA, ptA, GS, GL, fPut, ful, l12, l02, DL.D.mut, DL.D.top, DL.D.imm, DL.D.imm.immAll, fdOk, fIx, fMul, fAdd, powOk, gLstL, gTupL, DL.D.ty, lvN, szOk, fLen, fListOf, fTupOf, fSl, gSlN, gSlH, gSlL, gSlB, fIsi, fIsiT, isT, DL.D.tyN, DL.D.isX, fInts, DL.D.seqI, fLenSet, fLR, fLR1, gLR2, rgOk, fDict, fAbs, fInt1, gMax2, gMin2, g1S, g2S, fItems, fR1, fR2, bd62, lowE, clr, bakE, kpE, fApp, fIns, fPop, fPopA, fPopI, fClr, fRev, fExt, allTop, fEq, fNe, fNeg, fIsN, DL.D.isNon, DL.D.key, dGet, canE, nrm, cT, sAug_k, ixN, fRvS, fAll, dBls_map, fIsB, fIdx, msk, Function.comp_def, cut_hi, cut_lo, cut_both, gLLL3, fCntB, fIdxB, gLR3, lb1__law_any_doing, st, ha, hb, z, mo, DL.prD, -atI_cons]
theorem any_doing_ok (cell : Int) (k : Nat) : ∃ ds : List (Int × Int), OkD ds ∧ ∀ l0 l1, F__law_any_doing [(l0, .int cell), (l1, .int k)] = .ret (2, .lst (ds.map DL.prD)) [] := by
  have st := stir_ok cell k (by omega)
  obtain ⟨n, hn, n13⟩ : ∃ n : Nat, stir cell k % 13 = n ∧ n < 13 := ⟨(stir cell k % 13).toNat, by omega, by omega⟩
  obtain ⟨F, o1, o2, o3⟩ := forL_rng (bd := bName 3) (f := lb1__law_any_doing) (fun (F : List (Int × Int)) => ([some (2, .int cell), some (2, .int k), some (2, .lst (F.map DL.prD)), none, none, none] : DL.Env)) (fun j F => F.length = j ∧ ∀ i ∈ F, OkM i) (lo := 0) (n := n) (s := []) ⟨rfl, fun _ h => nomatch h⟩ fun j F hj ⟨h1, h2⟩ => by
    obtain ⟨x, ox, tn⟩ := doing_turn cell k j F (by omega)
    rw [Int.zero_add]
    refine ⟨_, rfl, F ++ [x], .inl tn, by simp [mkS, finS, bNs, gL1, gL2, gLL2, fI2, tkA, ptA, GS, GL, fPut, ful, l12, l02, DL.D.mut, DL.D.top, DL.D.imm, DL.D.imm.immAll, fdOk, fIx, fMul, fAdd, powOk, gLstL, gTupL, DL.D.ty, lvN, szOk, fLen, fListOf, fTupOf, fSl, gSlN, gSlH, gSlL, gSlB, fIsi, fIsiT, isT, DL.D.tyN, DL.D.isX, fInts, DL.D.seqI, fLenSet, fLR, fLR1, gLR2, rgOk, fDict, fAbs, fInt1, gMax2, gMin2, g1S, g2S, fItems, fR1, fR2, bd62, lowE, clr, bakE, kpE, fApp, fIns, fPop, fPopA, fPopI, fClr, fRev, fExt, allTop, fEq, fNe, fNeg, fIsN, DL.D.isNon, DL.D.key, dGet, canE, nrm, cT, sAug_k, ixN, fRvS, fAll, dBls_map, fIsB, fIdx, msk, Function.comp_def, cut_hi, cut_lo, cut_both, gLLL3, fCntB, fIdxB, gLR3, h1], fun i hi => ?_⟩
    rcases List.mem_append.mp hi with h | h
    · exact h2 i h
    · rw [List.mem_singleton.mp h]; exact ox
  simp only [rngD, Int.zero_add, List.map_map, Function.comp_def, List.map_nil] at o1
  refine ⟨F, ⟨by omega, fun q hq => okM_ok (o3 q hq)⟩, fun l0 l1 => ?_⟩
  have z : n < 4611686018427387904 := by omega
  rw [run__law_any_doing]
  simp [mkS, finS, bNs, gL1, gL2, gLL2, fI2, tkA, ptA, GS, GL, fPut, ful, l12, l02, DL.D.mut, DL.D.top, DL.D.imm, DL.D.imm.immAll, fdOk, fIx, fMul, fAdd, powOk, gLstL, gTupL, DL.D.ty, lvN, szOk, fLen, fListOf, fTupOf, fSl, gSlN, gSlH, gSlL, gSlB, fIsi, fIsiT, isT, DL.D.tyN, DL.D.isX, fInts, DL.D.seqI, fLenSet, fLR, fLR1, gLR2, rgOk, fDict, fAbs, fInt1, gMax2, gMin2, g1S, g2S, fItems, fR1, fR2, bd62, lowE, clr, bakE, kpE, fApp, fIns, fPop, fPopA, fPopI, fClr, fRev, fExt, allTop, fEq, fNe, fNeg, fIsN, DL.D.isNon, DL.D.key, dGet, canE, nrm, cT, sAug_k, ixN, fRvS, fAll, dBls_map, fIsB, fIdx, msk, Function.comp_def, cut_hi, cut_lo, cut_both, gLLL3, fCntB, fIdxB, gLR3, m__law_any_doing, st, hn, rngD, z, o1]
theorem long1_turn (cell : Int) (j : Nat) (F : List Int) (hF : F.length ≤ 1000) :
    ∃ x : Int, OkI x ∧ lb1__law_long [some (2, .int cell), some (2, .lst (F.map .int)), some (0, .int j), none, none] = .nx [some (2, .int cell), some (2, .lst ((F ++ [x]).map .int)), none, none, none] := by
  have st := stir_ok cell (401 + (j : Int)) (by omega)
  have bd := stir_bd cell (401 + (j : Int))
  generalize stir cell (401 + (j : Int)) = n at st bd
  have z : F.length ≤ 16777215 := by omega
  have a2 : n % 2 = 0 ∨ n % 2 = 1 := by omega
  have b2 : n / 2 % 2 = 0 ∨ n / 2 % 2 = 1 := by omega
  obtain ⟨a, ha, oa⟩ : ∃ y : Int, atI [D.int (n / 8 % 10), .int (n / 8)] (n % 2) = some (.int y) ∧ y.natAbs ≤ 268435456 := by
    rcases a2 with h | h <;> rw [h]
    · exact ⟨_, rfl, by omega⟩
    · exact ⟨_, rfl, by omega⟩
  obtain ⟨b, hb, ob⟩ : ∃ y : Int, atI [D.int 1, .int (-1)] (n / 2 % 2) = some (.int y) ∧ (y = 1 ∨ y = -1) := by
    rcases b2 with h | h <;> rw [h]
    · exact ⟨_, rfl, .inl rfl⟩
    · exact ⟨_, rfl, .inr rfl⟩
  have mo : mulOk a b = true := by
    unfold mulOk
    rw [decide_eq_true (show a.natAbs < 2 ^ 64 by omega)]
    rfl
  refine ⟨a * b, okI_small ?_, ?_⟩
  · rcases ob with rfl | rfl <;> omega
  · simp [mkS, finS, bNs, gL1, gL2, gLL2, fI2, tkA, ptA, GS, GL, fPut, ful, l12, l02, DL.D.mut, DL.D.top, DL.D.imm, DL.D.imm.immAll, fdOk, fIx, fMul, fAdd, powOk, gLstL, gTupL, DL.D.ty, lvN, szOk, fLen, fListOf, fTupOf, fSl, gSlN, gSlH, gSlL, gSlB, fIsi, fIsiT, isT, DL.D.tyN, DL.D.isX, fInts, DL.D.seqI, fLenSet, fLR, fLR1, gLR2, rgOk, fDict, fAbs, fInt1, gMax2, gMin2, g1S, g2S, fItems, fR1, fR2, bd62, lowE, clr, bakE, kpE, fApp, fIns, fPop, fPopA, fPopI, fClr, fRev, fExt, allTop, fEq, fNe, fNeg, fIsN, DL.D.isNon, DL.D.key, dGet, canE, nrm, cT, sAug_k, ixN, fRvS, fAll, dBls_map, fIsB, fIdx, msk, Function.comp_def, cut_hi, cut_lo, cut_both, gLLL3, fCntB, fIdxB, gLR3, lb1__law_long, st, ha, hb, z, mo, -atI_cons]
theorem long2_turn (cell : Int) (j : Nat) (R : List Int) (F : List (Int × Int)) (hF : F.length ≤ 1000) :
    ∃ x : Int × Int, OkM x ∧ lb2__law_long [some (2, .int cell), some (2, .lst (R.map .int)), some (0, .int j), some (2, .lst (F.map DL.prD)), none] = .nx [some (2, .int cell), some (2, .lst (R.map .int)), none, some (2, .lst ((F ++ [x]).map DL.prD)), none] := by
  have st := stir_ok cell (701 + (j : Int)) (by omega)
  have bd := stir_bd cell (701 + (j : Int))
  generalize stir cell (701 + (j : Int)) = n at st bd
  have z : F.length ≤ 16777215 := by omega
  have a2 : n % 2 = 0 ∨ n % 2 = 1 := by omega
  have b2 : n / 2 % 2 = 0 ∨ n / 2 % 2 = 1 := by omega
  obtain ⟨a, ha, oa⟩ : ∃ y : Int, atI [D.int (-1), .int (n / 16 % 12)] (n % 2) = some (.int y) ∧ (y = -1 ∨ (0 ≤ y ∧ y.natAbs ≤ 268435456 * 10 ^ 21 + 7)) := by
    rcases a2 with h | h <;> rw [h]
    · exact ⟨_, rfl, .inl rfl⟩
    · exact ⟨_, rfl, .inr (by omega)⟩
  obtain ⟨b, hb, ob⟩ : ∃ y : Int, atI [D.int (-2), .int (n / 256 % 12)] (n / 2 % 2) = some (.int y) ∧ (y = -2 ∨ (0 ≤ y ∧ y.natAbs ≤ 268435456 * 10 ^ 21 + 7)) := by
    rcases b2 with h | h <;> rw [h]
    · exact ⟨_, rfl, .inl rfl⟩
    · exact ⟨_, rfl, .inr (by omega)⟩
  refine ⟨(a, b), ⟨oa, ob⟩, ?_⟩
  rw [List.map_append]
  simp [mkS, finS, bNs, gL1, gL2, gLL2, fI2, tkA, ptA, GS, GL, fPut, ful, l12, l02, DL.D.mut, DL.D.top, DL.D.imm, DL.D.imm.immAll, fdOk, fIx, fMul, fAdd, powOk, gLstL, gTupL, DL.D.ty, lvN, szOk, fLen, fListOf, fTupOf, fSl, gSlN, gSlH, gSlL, gSlB, fIsi, fIsiT, isT, DL.D.tyN, DL.D.isX, fInts, DL.D.seqI, fLenSet, fLR, fLR1, gLR2, rgOk, fDict, fAbs, fInt1, gMax2, gMin2, g1S, g2S, fItems, fR1, fR2, bd62, lowE, clr, bakE, kpE, fApp, fIns, fPop, fPopA, fPopI, fClr, fRev, fExt, allTop, fEq, fNe, fNeg, fIsN, DL.D.isNon, DL.D.key, dGet, canE, nrm, cT, sAug_k, ixN, fRvS, fAll, dBls_map, fIsB, fIdx, msk, Function.comp_def, cut_hi, cut_lo, cut_both, gLLL3, fCntB, fIdxB, gLR3, lb2__law_long, st, ha, hb, z, DL.prD, -atI_cons]
theorem long_ok (cell : Int) : ∃ (r : List Int) (ds : List (Int × Int)), OkR r ∧ OkD ds ∧ ∀ l0, F__law_long [(l0, .int cell)] = .ret (2, .lst [.lst (r.map .int), .lst (ds.map DL.prD)]) [] := by
  have st1 := stir_ok cell 400 (by omega)
  have st2 := stir_ok cell 399 (by omega)
  obtain ⟨n, hn, n3⟩ : ∃ n : Nat, 40 + stir cell 400 % 261 = n ∧ n < 301 := ⟨(40 + stir cell 400 % 261).toNat, by omega, by omega⟩
  obtain ⟨m, hm, m3⟩ : ∃ m : Nat, 60 + stir cell 399 % 25 = m ∧ m < 85 := ⟨(60 + stir cell 399 % 25).toNat, by omega, by omega⟩
  obtain ⟨R, o1, o2, o3⟩ := forL_rng (bd := bName 2) (f := lb1__law_long) (fun (F : List Int) => ([some (2, .int cell), some (2, .lst (F.map .int)), none, none, none] : DL.Env)) (fun j F => F.length = j ∧ ∀ i ∈ F, OkI i) (lo := 0) (n := n) (s := []) ⟨rfl, fun _ h => nomatch h⟩ fun j F hj ⟨h1, h2⟩ => by
    obtain ⟨x, ox, tn⟩ := long1_turn cell j F (by omega)
    rw [Int.zero_add]
    refine ⟨_, rfl, F ++ [x], .inl tn, by simp [mkS, finS, bNs, gL1, gL2, gLL2, fI2, tkA, ptA, GS, GL, fPut, ful, l12, l02, DL.D.mut, DL.D.top, DL.D.imm, DL.D.imm.immAll, fdOk, fIx, fMul, fAdd, powOk, gLstL, gTupL, DL.D.ty, lvN, szOk, fLen, fListOf, fTupOf, fSl, gSlN, gSlH, gSlL, gSlB, fIsi, fIsiT, isT, DL.D.tyN, DL.D.isX, fInts, DL.D.seqI, fLenSet, fLR, fLR1, gLR2, rgOk, fDict, fAbs, fInt1, gMax2, gMin2, g1S, g2S, fItems, fR1, fR2, bd62, lowE, clr, bakE, kpE, fApp, fIns, fPop, fPopA, fPopI, fClr, fRev, fExt, allTop, fEq, fNe, fNeg, fIsN, DL.D.isNon, DL.D.key, dGet, canE, nrm, cT, sAug_k, ixN, fRvS, fAll, dBls_map, fIsB, fIdx, msk, Function.comp_def, cut_hi, cut_lo, cut_both, gLLL3, fCntB, fIdxB, gLR3, h1], fun i hi => ?_⟩
    rcases List.mem_append.mp hi with h | h
    · exact h2 i h
    · rw [List.mem_singleton.mp h]; exact ox
  obtain ⟨F, p1, p2, p3⟩ := forL_rng (bd := bName 2) (f := lb2__law_long) (fun (F : List (Int × Int)) => ([some (2, .int cell), some (2, .lst (R.map .int)), none, some (2, .lst (F.map DL.prD)), none] : DL.Env)) (fun j F => F.length = j ∧ ∀ i ∈ F, OkM i) (lo := 0) (n := m) (s := []) ⟨rfl, fun _ h => nomatch h⟩ fun j F hj ⟨h1, h2⟩ => by
    obtain ⟨x, ox, tn⟩ := long2_turn cell j R F (by omega)
    rw [Int.zero_add]
    refine ⟨_, rfl, F ++ [x], .inl tn, by simp [mkS, finS, bNs, gL1, gL2, gLL2, fI2, tkA, ptA, GS, GL, fPut, ful, l12, l02, DL.D.mut, DL.D.top, DL.D.imm, DL.D.imm.immAll, fdOk, fIx, fMul, fAdd, powOk, gLstL, gTupL, DL.D.ty, lvN, szOk, fLen, fListOf, fTupOf, fSl, gSlN, gSlH, gSlL, gSlB, fIsi, fIsiT, isT, DL.D.tyN, DL.D.isX, fInts, DL.D.seqI, fLenSet, fLR, fLR1, gLR2, rgOk, fDict, fAbs, fInt1, gMax2, gMin2, g1S, g2S, fItems, fR1, fR2, bd62, lowE, clr, bakE, kpE, fApp, fIns, fPop, fPopA, fPopI, fClr, fRev, fExt, allTop, fEq, fNe, fNeg, fIsN, DL.D.isNon, DL.D.key, dGet, canE, nrm, cT, sAug_k, ixN, fRvS, fAll, dBls_map, fIsB, fIdx, msk, Function.comp_def, cut_hi, cut_lo, cut_both, gLLL3, fCntB, fIdxB, gLR3, h1], fun i hi => ?_⟩
    rcases List.mem_append.mp hi with h | h
    · exact h2 i h
    · rw [List.mem_singleton.mp h]; exact ox
  simp only [rngD, Int.zero_add, List.map_map, Function.comp_def, List.map_nil] at o1 p1
  refine ⟨R, F, ⟨by omega, o3⟩, ⟨by omega, fun q hq => okM_ok (p3 q hq)⟩, fun l0 => ?_⟩
  have z : n < 4611686018427387904 := by omega
  have z2 : m < 4611686018427387904 := by omega
  have im := prD_imm F
  rw [run__law_long]
  simp [mkS, finS, bNs, gL1, gL2, gLL2, fI2, tkA, ptA, GS, GL, fPut, ful, l12, l02, DL.D.mut, DL.D.top, DL.D.imm, DL.D.imm.immAll, fdOk, fIx, fMul, fAdd, powOk, gLstL, gTupL, DL.D.ty, lvN, szOk, fLen, fListOf, fTupOf, fSl, gSlN, gSlH, gSlL, gSlB, fIsi, fIsiT, isT, DL.D.tyN, DL.D.isX, fInts, DL.D.seqI, fLenSet, fLR, fLR1, gLR2, rgOk, fDict, fAbs, fInt1, gMax2, gMin2, g1S, g2S, fItems, fR1, fR2, bd62, lowE, clr, bakE, kpE, fApp, fIns, fPop, fPopA, fPopI, fClr, fRev, fExt, allTop, fEq, fNe, fNeg, fIsN, DL.D.isNon, DL.D.key, dGet, canE, nrm, cT, sAug_k, ixN, fRvS, fAll, dBls_map, fIsB, fIdx, msk, Function.comp_def, cut_hi, cut_lo, cut_both, gLLL3, fCntB, fIdxB, gLR3, m__law_long, st1, st2, hn, hm, rngD, z, z2, o1, p1, im]
end LW
namespace LW
open L2 DL PySem PySem.Spec PyProof.Rows
theorem deqAll_refl : ∀ {ds : List D}, (∀ d ∈ ds, deq d d = true) → deqAll ds ds = true
  | [], _ => by rw [deqAll]
  | d :: ds, h => by rw [deqAll, h d (List.mem_cons_self ..), deqAll_refl fun x hx => h x (List.mem_cons_of_mem _ hx)]; rfl
theorem row_deq (r : List Int) : deq (.lst (r.map .int)) (.lst (r.map .int)) = true := by
  rw [deq]
  refine deqAll_refl fun d hd => ?_
  obtain ⟨b, _, rfl⟩ := List.mem_map.mp hd
  rw [deq_int]
  simp [mkS, finS, bNs, gL1, gL2, gLL2, fI2, tkA, ptA, GS, GL, fPut, ful, l12, l02, DL.D.mut, DL.D.top, DL.D.imm, DL.D.imm.immAll, fdOk, fIx, fMul, fAdd, powOk, gLstL, gTupL, DL.D.ty, lvN, szOk, fLen, fListOf, fTupOf, fSl, gSlN, gSlH, gSlL, gSlB, fIsi, fIsiT, isT, DL.D.tyN, DL.D.isX, fInts, DL.D.seqI, fLenSet, fLR, fLR1, gLR2, rgOk, fDict, fAbs, fInt1, gMax2, gMin2, g1S, g2S, fItems, fR1, fR2, bd62, lowE, clr, bakE, kpE, fApp, fIns, fPop, fPopA, fPopI, fClr, fRev, fExt, allTop, fEq, fNe, fNeg, fIsN, DL.D.isNon, DL.D.key, dGet, canE, nrm, cT, sAug_k, ixN, fRvS, fAll, dBls_map, fIsB, fIdx, msk, Function.comp_def, cut_hi, cut_lo, cut_both, gLLL3, fCntB, fIdxB, gLR3]
theorem prs_deq (ds : List (Int × Int)) : deq (.lst (ds.map DL.prD)) (.lst (ds.map DL.prD)) = true := by
  rw [deq]
  refine deqAll_refl fun d hd => ?_
  obtain ⟨b, _, rfl⟩ := List.mem_map.mp hd
  unfold DL.prD
  rw [deq, deqAll, deqAll, deqAll, deq_int, deq_int]
  simp [mkS, finS, bNs, gL1, gL2, gLL2, fI2, tkA, ptA, GS, GL, fPut, ful, l12, l02, DL.D.mut, DL.D.top, DL.D.imm, DL.D.imm.immAll, fdOk, fIx, fMul, fAdd, powOk, gLstL, gTupL, DL.D.ty, lvN, szOk, fLen, fListOf, fTupOf, fSl, gSlN, gSlH, gSlL, gSlB, fIsi, fIsiT, isT, DL.D.tyN, DL.D.isX, fInts, DL.D.seqI, fLenSet, fLR, fLR1, gLR2, rgOk, fDict, fAbs, fInt1, gMax2, gMin2, g1S, g2S, fItems, fR1, fR2, bd62, lowE, clr, bakE, kpE, fApp, fIns, fPop, fPopA, fPopI, fClr, fRev, fExt, allTop, fEq, fNe, fNeg, fIsN, DL.D.isNon, DL.D.key, dGet, canE, nrm, cT, sAug_k, ixN, fRvS, fAll, dBls_map, fIsB, fIdx, msk, Function.comp_def, cut_hi, cut_lo, cut_both, gLLL3, fCntB, fIdxB, gLR3]
theorem row_eqd (r : List Int) (n : Nat) : eqd (n + 1) (.lst (r.map D.int)) = true := by
  rw [eqd, List.all_eq_true]
  intro d hd
  obtain ⟨b, _, rfl⟩ := List.mem_map.mp hd
  cases n <;> rfl
theorem prs_eqd (ds : List (Int × Int)) (n : Nat) : eqd (n + 2) (.lst (ds.map DL.prD)) = true := by
  rw [eqd, List.all_eq_true]
  intro d hd
  obtain ⟨b, _, rfl⟩ := List.mem_map.mp hd
  cases n <;> rfl
theorem lst2_deq {a b : D} (h1 : deq a a = true) (h2 : deq b b = true) : deq (.lst [a, b]) (.lst [a, b]) = true := by
  rw [deq, deqAll, deqAll, deqAll, h1, h2]
  rfl
theorem lst2_eqd {n : Nat} {a b : D} (h1 : eqd n a = true) (h2 : eqd n b = true) : eqd (n + 1) (.lst [a, b]) = true := by
  rw [eqd]
  simp [mkS, finS, bNs, gL1, gL2, gLL2, fI2, tkA, ptA, GS, GL, fPut, ful, l12, l02, DL.D.mut, DL.D.top, DL.D.imm, DL.D.imm.immAll, fdOk, fIx, fMul, fAdd, powOk, gLstL, gTupL, DL.D.ty, lvN, szOk, fLen, fListOf, fTupOf, fSl, gSlN, gSlH, gSlL, gSlB, fIsi, fIsiT, isT, DL.D.tyN, DL.D.isX, fInts, DL.D.seqI, fLenSet, fLR, fLR1, gLR2, rgOk, fDict, fAbs, fInt1, gMax2, gMin2, g1S, g2S, fItems, fR1, fR2, bd62, lowE, clr, bakE, kpE, fApp, fIns, fPop, fPopA, fPopI, fClr, fRev, fExt, allTop, fEq, fNe, fNeg, fIsN, DL.D.isNon, DL.D.key, dGet, canE, nrm, cT, sAug_k, ixN, fRvS, fAll, dBls_map, fIsB, fIdx, msk, Function.comp_def, cut_hi, cut_lo, cut_both, gLLL3, fCntB, fIdxB, gLR3, h1, h2]
theorem deq_nil1 (r : List Int) : deq (.lst (r.map .int)) (.lst []) = decide (r = []) := by
  cases r with
  | nil => decide +kernel
  | cons a r => rfl
theorem deq_nil2 (r : List (Int × Int)) : deq (.lst (r.map DL.prD)) (.lst []) = decide (r = []) := by
  cases r with
  | nil => decide +kernel
  | cons a r => rfl
section
variable {r : List Int} {ds : List (Int × Int)}
theorem row_low (r : List Int) : ∀ c ∈ rowL r, c < 1114112 := fun c hc => by
  unfold rowL joinE at hc
  split at hc
  · simp [mkS, finS, bNs, gL1, gL2, gLL2, fI2, tkA, ptA, GS, GL, fPut, ful, l12, l02, DL.D.mut, DL.D.top, DL.D.imm, DL.D.imm.immAll, fdOk, fIx, fMul, fAdd, powOk, gLstL, gTupL, DL.D.ty, lvN, szOk, fLen, fListOf, fTupOf, fSl, gSlN, gSlH, gSlL, gSlB, fIsi, fIsiT, isT, DL.D.tyN, DL.D.isX, fInts, DL.D.seqI, fLenSet, fLR, fLR1, gLR2, rgOk, fDict, fAbs, fInt1, gMax2, gMin2, g1S, g2S, fItems, fR1, fR2, bd62, lowE, clr, bakE, kpE, fApp, fIns, fPop, fPopA, fPopI, fClr, fRev, fExt, allTop, fEq, fNe, fNeg, fIsN, DL.D.isNon, DL.D.key, dGet, canE, nrm, cT, sAug_k, ixN, fRvS, fAll, dBls_map, fIsB, fIdx, msk, Function.comp_def, cut_hi, cut_lo, cut_both, gLLL3, fCntB, fIdxB, gLR3] at hc; omega
  · rcases mem_join hc with h | ⟨y, hy, h⟩
    · simp [mkS, finS, bNs, gL1, gL2, gLL2, fI2, tkA, ptA, GS, GL, fPut, ful, l12, l02, DL.D.mut, DL.D.top, DL.D.imm, DL.D.imm.immAll, fdOk, fIx, fMul, fAdd, powOk, gLstL, gTupL, DL.D.ty, lvN, szOk, fLen, fListOf, fTupOf, fSl, gSlN, gSlH, gSlL, gSlB, fIsi, fIsiT, isT, DL.D.tyN, DL.D.isX, fInts, DL.D.seqI, fLenSet, fLR, fLR1, gLR2, rgOk, fDict, fAbs, fInt1, gMax2, gMin2, g1S, g2S, fItems, fR1, fR2, bd62, lowE, clr, bakE, kpE, fApp, fIns, fPop, fPopA, fPopI, fClr, fRev, fExt, allTop, fEq, fNe, fNeg, fIsN, DL.D.isNon, DL.D.key, dGet, canE, nrm, cT, sAug_k, ixN, fRvS, fAll, dBls_map, fIsB, fIdx, msk, Function.comp_def, cut_hi, cut_lo, cut_both, gLLL3, fCntB, fIdxB, gLR3] at h; omega
    · obtain ⟨i, _, rfl⟩ := List.mem_map.mp hy
      have := int_low i c h
      omega
theorem doing_low (ds : List (Int × Int)) : ∀ c ∈ doingL ds, c < 1114112 := fun c hc => by
  unfold doingL joinE at hc
  split at hc
  · simp [mkS, finS, bNs, gL1, gL2, gLL2, fI2, tkA, ptA, GS, GL, fPut, ful, l12, l02, DL.D.mut, DL.D.top, DL.D.imm, DL.D.imm.immAll, fdOk, fIx, fMul, fAdd, powOk, gLstL, gTupL, DL.D.ty, lvN, szOk, fLen, fListOf, fTupOf, fSl, gSlN, gSlH, gSlL, gSlB, fIsi, fIsiT, isT, DL.D.tyN, DL.D.isX, fInts, DL.D.seqI, fLenSet, fLR, fLR1, gLR2, rgOk, fDict, fAbs, fInt1, gMax2, gMin2, g1S, g2S, fItems, fR1, fR2, bd62, lowE, clr, bakE, kpE, fApp, fIns, fPop, fPopA, fPopI, fClr, fRev, fExt, allTop, fEq, fNe, fNeg, fIsN, DL.D.isNon, DL.D.key, dGet, canE, nrm, cT, sAug_k, ixN, fRvS, fAll, dBls_map, fIsB, fIdx, msk, Function.comp_def, cut_hi, cut_lo, cut_both, gLLL3, fCntB, fIdxB, gLR3] at hc; omega
  · rcases mem_join hc with h | ⟨y, hy, h⟩
    · simp [mkS, finS, bNs, gL1, gL2, gLL2, fI2, tkA, ptA, GS, GL, fPut, ful, l12, l02, DL.D.mut, DL.D.top, DL.D.imm, DL.D.imm.immAll, fdOk, fIx, fMul, fAdd, powOk, gLstL, gTupL, DL.D.ty, lvN, szOk, fLen, fListOf, fTupOf, fSl, gSlN, gSlH, gSlL, gSlB, fIsi, fIsiT, isT, DL.D.tyN, DL.D.isX, fInts, DL.D.seqI, fLenSet, fLR, fLR1, gLR2, rgOk, fDict, fAbs, fInt1, gMax2, gMin2, g1S, g2S, fItems, fR1, fR2, bd62, lowE, clr, bakE, kpE, fApp, fIns, fPop, fPopA, fPopI, fClr, fRev, fExt, allTop, fEq, fNe, fNeg, fIsN, DL.D.isNon, DL.D.key, dGet, canE, nrm, cT, sAug_k, ixN, fRvS, fAll, dBls_map, fIsB, fIdx, msk, Function.comp_def, cut_hi, cut_lo, cut_both, gLLL3, fCntB, fIdxB, gLR3] at h; omega
    · obtain ⟨i, _, rfl⟩ := List.mem_map.mp hy
      have := way_low c h
      omega
theorem is_row_ok (h : OkR r) (l0 l1 : Nat) : F__law_is_row [(l0, .lst (r.map .int)), (l1, .lst (r.map .int))] = .ret (2, .bl true) [] := by
  have d1 := row_deq r
  have e1 : eqd 60 (.lst (r.map .int)) = true := row_eqd r 59
  have z : r.length ≤ 16777216 := by have := h.len; omega
  have e9 : eqd 60 (.lst []) = true := rfl
  have d9 : deq (.lst []) (.lst []) = true := by decide +kernel
  rw [run__law_is_row]
  simp [mkS, finS, bNs, gL1, gL2, gLL2, fI2, tkA, ptA, GS, GL, fPut, ful, l12, l02, DL.D.mut, DL.D.top, DL.D.imm, DL.D.imm.immAll, fdOk, fIx, fMul, fAdd, powOk, gLstL, gTupL, DL.D.ty, lvN, szOk, fLen, fListOf, fTupOf, fSl, gSlN, gSlH, gSlL, gSlB, fIsi, fIsiT, isT, DL.D.tyN, DL.D.isX, fInts, DL.D.seqI, fLenSet, fLR, fLR1, gLR2, rgOk, fDict, fAbs, fInt1, gMax2, gMin2, g1S, g2S, fItems, fR1, fR2, bd62, lowE, clr, bakE, kpE, fApp, fIns, fPop, fPopA, fPopI, fClr, fRev, fExt, allTop, fEq, fNe, fNeg, fIsN, DL.D.isNon, DL.D.key, dGet, canE, nrm, cT, sAug_k, ixN, fRvS, fAll, dBls_map, fIsB, fIdx, msk, Function.comp_def, cut_hi, cut_lo, cut_both, gLLL3, fCntB, fIdxB, gLR3, m__law_is_row, colM_A, d1, e1, z, e9, d9]
theorem is_doing_ok (h : OkD ds) (l0 l1 : Nat) : F__law_is_doing [(l0, .lst (ds.map DL.prD)), (l1, .lst (ds.map DL.prD))] = .ret (2, .bl true) [] := by
  have d1 := prs_deq ds
  have e1 : eqd 60 (.lst (ds.map DL.prD)) = true := prs_eqd ds 58
  have z : ds.length ≤ 16777216 := by have := h.len; omega
  have e9 : eqd 60 (.lst []) = true := rfl
  have d9 : deq (.lst []) (.lst []) = true := by decide +kernel
  rw [run__law_is_doing]
  simp [mkS, finS, bNs, gL1, gL2, gLL2, fI2, tkA, ptA, GS, GL, fPut, ful, l12, l02, DL.D.mut, DL.D.top, DL.D.imm, DL.D.imm.immAll, fdOk, fIx, fMul, fAdd, powOk, gLstL, gTupL, DL.D.ty, lvN, szOk, fLen, fListOf, fTupOf, fSl, gSlN, gSlH, gSlL, gSlB, fIsi, fIsiT, isT, DL.D.tyN, DL.D.isX, fInts, DL.D.seqI, fLenSet, fLR, fLR1, gLR2, rgOk, fDict, fAbs, fInt1, gMax2, gMin2, g1S, g2S, fItems, fR1, fR2, bd62, lowE, clr, bakE, kpE, fApp, fIns, fPop, fPopA, fPopI, fClr, fRev, fExt, allTop, fEq, fNe, fNeg, fIsN, DL.D.isNon, DL.D.key, dGet, canE, nrm, cT, sAug_k, ixN, fRvS, fAll, dBls_map, fIsB, fIdx, msk, Function.comp_def, cut_hi, cut_lo, cut_both, gLLL3, fCntB, fIdxB, gLR3, m__law_is_doing, colM_A, d1, e1, z, e9, d9, DL.prD]
theorem right_turn (hr : OkR r) (hd : OkD ds) (i : Int) (l0 l1 l2 l3 : Nat) (k : Nat) (h2 : l2 = 2) (h3 : l3 = 2) :
    lb1__law_right [some (l0, .lst (r.map .int)), some (l1, .lst (ds.map DL.prD)), some (l2, .lst [.str (tx (rowL r)), .str (tx (doingL ds))]), some (l3, .lst [.lst (r.map .int), .lst (ds.map DL.prD)]), some (k, .int i), none, none, none, none] =
    .nx [some (l0, .lst (r.map .int)), some (l1, .lst (ds.map DL.prD)), some (2, .lst [.str (tx (rowL r)), .str (tx (doingL ds))]), some (2, .lst [.lst (r.map .int), .lst (ds.map DL.prD)]), none, none, none, none, none] := by
  subst h2 h3
  have rt := fun l => row_text_ok hr l
  have dt := fun l => doing_text_ok hd l
  have rr := fun l => read_row_ok hr l
  have rd := fun l => read_doing_ok hd l
  have ir := fun l0 l1 => is_row_ok hr l0 l1
  have id' := fun l0 l1 => is_doing_ok hd l0 l1
  have e1 : eqd 60 (.lst [.str (tx (rowL r)), .str (tx (doingL ds))]) = true := lst2_eqd (eqd_tx (row_low r)) (eqd_tx (doing_low ds))
  have d1 : deq (.lst [.str (tx (rowL r)), .str (tx (doingL ds))]) (.lst [.str (tx (rowL r)), .str (tx (doingL ds))]) = true := lst2_deq (by rw [deq_tx]; simp [mkS, finS, bNs, gL1, gL2, gLL2, fI2, tkA, ptA, GS, GL, fPut, ful, l12, l02, DL.D.mut, DL.D.top, DL.D.imm, DL.D.imm.immAll, fdOk, fIx, fMul, fAdd, powOk, gLstL, gTupL, DL.D.ty, lvN, szOk, fLen, fListOf, fTupOf, fSl, gSlN, gSlH, gSlL, gSlB, fIsi, fIsiT, isT, DL.D.tyN, DL.D.isX, fInts, DL.D.seqI, fLenSet, fLR, fLR1, gLR2, rgOk, fDict, fAbs, fInt1, gMax2, gMin2, g1S, g2S, fItems, fR1, fR2, bd62, lowE, clr, bakE, kpE, fApp, fIns, fPop, fPopA, fPopI, fClr, fRev, fExt, allTop, fEq, fNe, fNeg, fIsN, DL.D.isNon, DL.D.key, dGet, canE, nrm, cT, sAug_k, ixN, fRvS, fAll, dBls_map, fIsB, fIdx, msk, Function.comp_def, cut_hi, cut_lo, cut_both, gLLL3, fCntB, fIdxB, gLR3]) (by rw [deq_tx]; simp [mkS, finS, bNs, gL1, gL2, gLL2, fI2, tkA, ptA, GS, GL, fPut, ful, l12, l02, DL.D.mut, DL.D.top, DL.D.imm, DL.D.imm.immAll, fdOk, fIx, fMul, fAdd, powOk, gLstL, gTupL, DL.D.ty, lvN, szOk, fLen, fListOf, fTupOf, fSl, gSlN, gSlH, gSlL, gSlB, fIsi, fIsiT, isT, DL.D.tyN, DL.D.isX, fInts, DL.D.seqI, fLenSet, fLR, fLR1, gLR2, rgOk, fDict, fAbs, fInt1, gMax2, gMin2, g1S, g2S, fItems, fR1, fR2, bd62, lowE, clr, bakE, kpE, fApp, fIns, fPop, fPopA, fPopI, fClr, fRev, fExt, allTop, fEq, fNe, fNeg, fIsN, DL.D.isNon, DL.D.key, dGet, canE, nrm, cT, sAug_k, ixN, fRvS, fAll, dBls_map, fIsB, fIdx, msk, Function.comp_def, cut_hi, cut_lo, cut_both, gLLL3, fCntB, fIdxB, gLR3])
  have e2 : eqd 60 (.lst [.lst (r.map .int), .lst (ds.map DL.prD)]) = true := lst2_eqd (row_eqd r 58) (prs_eqd ds 57)
  have d2 : deq (.lst [.lst (r.map .int), .lst (ds.map DL.prD)]) (.lst [.lst (r.map .int), .lst (ds.map DL.prD)]) = true := lst2_deq (row_deq r) (prs_deq ds)
  have z1 : r.length ≤ 16777215 := by have := hr.len; omega
  have z2 : ds.length ≤ 16777215 := by have := hd.len; omega
  have im := prD_imm ds
  have ix0 : ∀ A B : D, atI [A, B] 0 = some A := fun _ _ => rfl
  have ix1 : ∀ A B : D, atI [A, B] 1 = some B := fun _ _ => rfl
  obtain ⟨S, hS⟩ : ∃ S, tx (rowL r) = S := ⟨_, rfl⟩
  obtain ⟨T, hT⟩ : ∃ T, tx (doingL ds) = T := ⟨_, rfl⟩
  rw [hS] at rt rr e1 d1 ⊢
  rw [hT] at dt rd e1 d1 ⊢
  simp [mkS, finS, bNs, gL1, gL2, gLL2, fI2, tkA, ptA, GS, GL, fPut, ful, l12, l02, DL.D.mut, DL.D.top, DL.D.imm, DL.D.imm.immAll, fdOk, fIx, fMul, fAdd, powOk, gLstL, gTupL, DL.D.ty, lvN, szOk, fLen, fListOf, fTupOf, fSl, gSlN, gSlH, gSlL, gSlB, fIsi, fIsiT, isT, DL.D.tyN, DL.D.isX, fInts, DL.D.seqI, fLenSet, fLR, fLR1, gLR2, rgOk, fDict, fAbs, fInt1, gMax2, gMin2, g1S, g2S, fItems, fR1, fR2, bd62, lowE, clr, bakE, kpE, fApp, fIns, fPop, fPopA, fPopI, fClr, fRev, fExt, allTop, fEq, fNe, fNeg, fIsN, DL.D.isNon, DL.D.key, dGet, canE, nrm, cT, sAug_k, ixN, fRvS, fAll, dBls_map, fIsB, fIdx, msk, Function.comp_def, cut_hi, cut_lo, cut_both, gLLL3, fCntB, fIdxB, gLR3, lb1__law_right, rt, dt, rr, rd, ir, id', e1, d1, e2, d2, z1, z2, im, ix0, ix1, nestL, outD, -atI_cons]
theorem right_ok (hr : OkR r) (hd : OkD ds) (l0 l1 : Nat) : F__law_right [(l0, .lst (r.map .int)), (l1, .lst (ds.map DL.prD))] = .ret (2, .bl true) [] := by
  have zr : r.length ≤ 16777216 := by have := hr.len; omega
  have zd : ds.length ≤ 16777216 := by have := hd.len; omega
  have lg : ∀ i ∈ r, i.natAbs.log2 < 1920 := fun i hi => (hr.ok i hi).2
  have wt : ∀ q ∈ ds, ∀ l, F__law_way [(l, DL.prD q)] = .ret (2, .str (tx (wayL q))) [] := fun q hq l => by
    have g := hd.ok q hq
    exact law_way_ok g.2.2.1 g.2.2.2.1 ⟨g.2.2.2.2.1, g.2.2.2.2.2.1⟩ l
  have j1 := fun l l2 => fJoin_map l l2 (tx [32]) (fun i => tx (intL i)) r
  have e1 : (r.map fun i => tx (intL i)) = (r.map intL).map tx := by rw [List.map_map]; rfl
  have j2 := fun l l2 => fJoin_map l l2 (tx [32]) (fun i => tx (wayL i)) ds
  have e2 : (ds.map fun i => tx (wayL i)) = (ds.map wayL).map tx := by rw [List.map_map]; rfl
  have lx : ∀ ys : List (List Nat), (ys.map tx).map (·.length) = ys.map (·.length) := fun ys => by
    rw [List.map_map]
    exact List.map_congr_left fun q _ => tx_len _
  have s1 : ((r.map fun i => tx (intL i)).map (·.length)).sum + (r.map fun i => tx (intL i)).length * (tx [32]).length ≤ 16777216 := by
    rw [e1, lx, tx_len, List.length_map]
    have := sum_len hr.yl
    rw [List.length_map] at this ⊢
    have := hr.len
    simp only [List.length_cons, List.length_nil]
    omega
  have s2 : ((ds.map fun i => tx (wayL i)).map (·.length)).sum + (ds.map fun i => tx (wayL i)).length * (tx [32]).length ≤ 16777216 := by
    rw [e2, lx, tx_len, List.length_map]
    have := sum_len hd.yl
    rw [List.length_map] at this ⊢
    have := hd.len
    simp only [List.length_cons, List.length_nil]
    omega
  simp only [if_pos s1] at j1
  simp only [if_pos s2] at j2
  rw [e1, tx_join] at j1
  rw [e2, tx_join] at j2
  have f1 : eqd 60 (.lst (r.map .int)) = true := row_eqd r 59
  have f2 : eqd 60 (.lst (ds.map DL.prD)) = true := prs_eqd ds 58
  have g1 := deq_nil1 r
  have g2 := deq_nil2 ds
  have e9 : eqd 60 (.lst []) = true := rfl
  have im := prD_imm ds
  have lp : ∀ l0 l1, forL (bName 4) lb1__law_right ((rngD 0 2).map fun d => (0, d)) [some (l0, .lst (r.map .int)), some (l1, .lst (ds.map DL.prD)), some (2, .lst [.str (tx (rowL r)), .str (tx (doingL ds))]), some (2, .lst [.lst (r.map .int), .lst (ds.map DL.prD)]), none, none, none, none, none] = .nx [some (l0, .lst (r.map .int)), some (l1, .lst (ds.map DL.prD)), some (2, .lst [.str (tx (rowL r)), .str (tx (doingL ds))]), some (2, .lst [.lst (r.map .int), .lst (ds.map DL.prD)]), none, none, none, none, none] := fun l0 l1 => forL_const fun y hy => by
    obtain ⟨d, hd', rfl⟩ := List.mem_map.mp hy
    unfold rngD at hd'
    obtain ⟨k, hk, rfl⟩ := List.mem_map.mp hd'
    exact ⟨_, rfl, .inl (right_turn hr hd _ l0 l1 2 2 0 rfl rfl)⟩
  have rl := row_len hr
  have dl := doing_len hd
  have jn0 : ∀ l l2, fJoin (l, .str (tx [32])) (l2, .lst []) = some (2, .str Str.empty) := fun l l2 => fJoin_nil l l2 _
  rw [run__law_right]
  by_cases c1 : r = []
  · subst c1
    have y1 : rowL [] = [45] := rfl
    rw [y1] at lp
    by_cases c2 : ds = []
    · subst c2
      have y2 : doingL [] = [45] := rfl
      rw [y2] at lp
      simp only [List.map_nil] at lp
      simp [mkS, finS, bNs, gL1, gL2, gLL2, fI2, tkA, ptA, GS, GL, fPut, ful, l12, l02, DL.D.mut, DL.D.top, DL.D.imm, DL.D.imm.immAll, fdOk, fIx, fMul, fAdd, powOk, gLstL, gTupL, DL.D.ty, lvN, szOk, fLen, fListOf, fTupOf, fSl, gSlN, gSlH, gSlL, gSlB, fIsi, fIsiT, isT, DL.D.tyN, DL.D.isX, fInts, DL.D.seqI, fLenSet, fLR, fLR1, gLR2, rgOk, fDict, fAbs, fInt1, gMax2, gMin2, g1S, g2S, fItems, fR1, fR2, bd62, lowE, clr, bakE, kpE, fApp, fIns, fPop, fPopA, fPopI, fClr, fRev, fExt, allTop, fEq, fNe, fNeg, fIsN, DL.D.isNon, DL.D.key, dGet, canE, nrm, cT, sAug_k, ixN, fRvS, fAll, dBls_map, fIsB, fIdx, msk, Function.comp_def, cut_hi, cut_lo, cut_both, gLLL3, fCntB, fIdxB, gLR3, m__law_right, colM_A, k_blank, k_dash, k_emp, tx_cat, tx_len, e9, g1, jn0, mul_0, mul_1, ok_mul0, ok_mul1, lp]
    · have y2 : doingL ds = TL.joinL [32] (ds.map wayL) := if_neg fun h => c2 (List.map_eq_nil_iff.mp h)
      rw [← y2] at j2
      obtain ⟨T, hT⟩ : ∃ T, doingL ds = T := ⟨_, rfl⟩
      rw [hT] at j2 lp dl
      have z1 : T.length ≤ 16777216 := by omega
      simp only [List.map_nil] at lp
      simp +contextual [mkS, finS, bNs, gL1, gL2, gLL2, fI2, tkA, ptA, GS, GL, fPut, ful, l12, l02, DL.D.mut, DL.D.top, DL.D.imm, DL.D.imm.immAll, fdOk, fIx, fMul, fAdd, powOk, gLstL, gTupL, DL.D.ty, lvN, szOk, fLen, fListOf, fTupOf, fSl, gSlN, gSlH, gSlL, gSlB, fIsi, fIsiT, isT, DL.D.tyN, DL.D.isX, fInts, DL.D.seqI, fLenSet, fLR, fLR1, gLR2, rgOk, fDict, fAbs, fInt1, gMax2, gMin2, g1S, g2S, fItems, fR1, fR2, bd62, lowE, clr, bakE, kpE, fApp, fIns, fPop, fPopA, fPopI, fClr, fRev, fExt, allTop, fEq, fNe, fNeg, fIsN, DL.D.isNon, DL.D.key, dGet, canE, nrm, cT, sAug_k, ixN, fRvS, fAll, dBls_map, fIsB, fIdx, msk, Function.comp_def, cut_hi, cut_lo, cut_both, gLLL3, fCntB, fIdxB, gLR3, m__law_right, colM_A, k_blank, k_dash, k_emp, tx_cat, tx_len, e9, f2, g1, g2, c2, wt, zd, im, jn0, j2, z1, mul_0, mul_1, ok_mul0, ok_mul1, lp]
  · have y1 : rowL r = TL.joinL [32] (r.map intL) := if_neg fun h => c1 (List.map_eq_nil_iff.mp h)
    rw [← y1] at j1
    obtain ⟨S, hS⟩ : ∃ S, rowL r = S := ⟨_, rfl⟩
    rw [hS] at j1 lp rl
    have z2 : S.length ≤ 16777216 := by omega
    by_cases c2 : ds = []
    · subst c2
      have y2 : doingL [] = [45] := rfl
      rw [y2] at lp
      simp only [List.map_nil] at lp
      simp +contextual [mkS, finS, bNs, gL1, gL2, gLL2, fI2, tkA, ptA, GS, GL, fPut, ful, l12, l02, DL.D.mut, DL.D.top, DL.D.imm, DL.D.imm.immAll, fdOk, fIx, fMul, fAdd, powOk, gLstL, gTupL, DL.D.ty, lvN, szOk, fLen, fListOf, fTupOf, fSl, gSlN, gSlH, gSlL, gSlB, fIsi, fIsiT, isT, DL.D.tyN, DL.D.isX, fInts, DL.D.seqI, fLenSet, fLR, fLR1, gLR2, rgOk, fDict, fAbs, fInt1, gMax2, gMin2, g1S, g2S, fItems, fR1, fR2, bd62, lowE, clr, bakE, kpE, fApp, fIns, fPop, fPopA, fPopI, fClr, fRev, fExt, allTop, fEq, fNe, fNeg, fIsN, DL.D.isNon, DL.D.key, dGet, canE, nrm, cT, sAug_k, ixN, fRvS, fAll, dBls_map, fIsB, fIdx, msk, Function.comp_def, cut_hi, cut_lo, cut_both, gLLL3, fCntB, fIdxB, gLR3, m__law_right, colM_A, k_blank, k_dash, k_emp, tx_cat, tx_len, e9, f1, g1, g2, c1, k_int, zr, lg, jn0, j1, z2, mul_0, mul_1, ok_mul0, ok_mul1, lp]
    · have y2 : doingL ds = TL.joinL [32] (ds.map wayL) := if_neg fun h => c2 (List.map_eq_nil_iff.mp h)
      rw [← y2] at j2
      obtain ⟨T, hT⟩ : ∃ T, doingL ds = T := ⟨_, rfl⟩
      rw [hT] at j2 lp dl
      have z1 : T.length ≤ 16777216 := by omega
      simp +contextual [mkS, finS, bNs, gL1, gL2, gLL2, fI2, tkA, ptA, GS, GL, fPut, ful, l12, l02, DL.D.mut, DL.D.top, DL.D.imm, DL.D.imm.immAll, fdOk, fIx, fMul, fAdd, powOk, gLstL, gTupL, DL.D.ty, lvN, szOk, fLen, fListOf, fTupOf, fSl, gSlN, gSlH, gSlL, gSlB, fIsi, fIsiT, isT, DL.D.tyN, DL.D.isX, fInts, DL.D.seqI, fLenSet, fLR, fLR1, gLR2, rgOk, fDict, fAbs, fInt1, gMax2, gMin2, g1S, g2S, fItems, fR1, fR2, bd62, lowE, clr, bakE, kpE, fApp, fIns, fPop, fPopA, fPopI, fClr, fRev, fExt, allTop, fEq, fNe, fNeg, fIsN, DL.D.isNon, DL.D.key, dGet, canE, nrm, cT, sAug_k, ixN, fRvS, fAll, dBls_map, fIsB, fIdx, msk, Function.comp_def, cut_hi, cut_lo, cut_both, gLLL3, fCntB, fIdxB, gLR3, m__law_right, colM_A, k_blank, k_dash, k_emp, tx_cat, tx_len, e9, f1, f2, g1, g2, c1, c2, k_int, zr, zd, lg, wt, im, jn0, j1, j2, z1, z2, mul_0, mul_1, ok_mul0, ok_mul1, lp]
end
end LW
namespace LW
open L2 DL PySem PySem.Spec PyProof.Rows
theorem cell_turn (C : List Int) (lc : Nat) (cell : Int) :
    lb1_law [none, some (lc, .lst (C.map .int)), some (0, .int cell), none, none] = .nx [none, some (lc, .lst (C.map .int)), none, none, none] := by
  obtain ⟨r, hr, h1⟩ := any_row_ok cell 0
  obtain ⟨ds, hd, h2⟩ := any_doing_ok cell 20
  have ri := fun l0 l1 => right_ok hr hd l0 l1
  have h1 : ∀ l0 l1, F__law_any_row [(l0, .int cell), (l1, .int 0)] = .ret (2, .lst (r.map .int)) [] := h1
  have h2 : ∀ l0 l1, F__law_any_doing [(l0, .int cell), (l1, .int 20)] = .ret (2, .lst (ds.map DL.prD)) [] := h2
  have im := prD_imm ds
  simp [mkS, finS, bNs, gL1, gL2, gLL2, fI2, tkA, ptA, GS, GL, fPut, ful, l12, l02, DL.D.mut, DL.D.top, DL.D.imm, DL.D.imm.immAll, fdOk, fIx, fMul, fAdd, powOk, gLstL, gTupL, DL.D.ty, lvN, szOk, fLen, fListOf, fTupOf, fSl, gSlN, gSlH, gSlL, gSlB, fIsi, fIsiT, isT, DL.D.tyN, DL.D.isX, fInts, DL.D.seqI, fLenSet, fLR, fLR1, gLR2, rgOk, fDict, fAbs, fInt1, gMax2, gMin2, g1S, g2S, fItems, fR1, fR2, bd62, lowE, clr, bakE, kpE, fApp, fIns, fPop, fPopA, fPopI, fClr, fRev, fExt, allTop, fEq, fNe, fNeg, fIsN, DL.D.isNon, DL.D.key, dGet, canE, nrm, cT, sAug_k, ixN, fRvS, fAll, dBls_map, fIsB, fIdx, msk, Function.comp_def, cut_hi, cut_lo, cut_both, gLLL3, fCntB, fIdxB, gLR3, lb1_law, h1, h2, ri, im]
theorem q0 (l0 l1 : Nat) : F__law_right [(l0, .lst []), (l1, .lst [])] = .ret (2, .bl true) [] := right_ok (r := []) (ds := []) ⟨by decide, fun _ h => nomatch h⟩ ⟨by decide, fun _ h => nomatch h⟩ l0 l1
theorem okr1 : OkR [0] := ⟨by decide, fun i hi => by rw [List.mem_singleton.mp hi]; exact okI_small (by omega)⟩
theorem okd1 : OkD [(-1, -2)] := ⟨by decide, fun q hq => by rw [List.mem_singleton.mp hq]; exact okM_ok ⟨.inl rfl, .inl rfl⟩⟩
theorem q1 (l0 l1 : Nat) : F__law_right [(l0, .lst [.int 0]), (l1, .lst [.tup [.int (-1), .int (-2)]])] = .ret (2, .bl true) [] := by
  have h := right_ok okr1 okd1 l0 l1
  simp only [List.map_cons, List.map_nil, DL.prD] at h
  exact h
def retL (F : List LD → FR) : SF := (sRet (toE [] (pAnd (pCall F [(pApp gLstL []), (pApp gLstL [])]) (pCall F [(pApp gLstL [(pC (.int 0))]), (pApp gLstL [(pApp gTupL [(pApp gNeg [(pC (.int 1))]), (pApp gNeg [(pC (.int 2))])])])]))))
theorem ret_ok (F : List LD → FR) (h0 : ∀ l0 l1, F [(l0, .lst []), (l1, .lst [])] = .ret (2, .bl true) []) (h1 : ∀ l0 l1, F [(l0, .lst [.int 0]), (l1, .lst [.tup [.int (-1), .int (-2)]])] = .ret (2, .bl true) []) (Γ : DL.Env) : retL F Γ = .rt (2, .bl true) Γ := by
  simp [mkS, finS, bNs, gL1, gL2, gLL2, fI2, tkA, ptA, GS, GL, fPut, ful, l12, l02, DL.D.mut, DL.D.top, DL.D.imm, DL.D.imm.immAll, fdOk, fIx, fMul, fAdd, powOk, gLstL, gTupL, DL.D.ty, lvN, szOk, fLen, fListOf, fTupOf, fSl, gSlN, gSlH, gSlL, gSlB, fIsi, fIsiT, isT, DL.D.tyN, DL.D.isX, fInts, DL.D.seqI, fLenSet, fLR, fLR1, gLR2, rgOk, fDict, fAbs, fInt1, gMax2, gMin2, g1S, g2S, fItems, fR1, fR2, bd62, lowE, clr, bakE, kpE, fApp, fIns, fPop, fPopA, fPopI, fClr, fRev, fExt, allTop, fEq, fNe, fNeg, fIsN, DL.D.isNon, DL.D.key, dGet, canE, nrm, cT, sAug_k, ixN, fRvS, fAll, dBls_map, fIsB, fIdx, msk, Function.comp_def, cut_hi, cut_lo, cut_both, gLLL3, fCntB, fIdxB, gLR3, retL, h0, h1]
def restL (Fl Fr : List LD → FR) (lb : SF) : SF := (sSeq (sCan [false, true, false, false, false] (sFor (srcE (g1S fItems) [(toE [1] (pVar 1))]) (bName 2) lb))
  (sSeq (sAsg (toE [1] (pCall Fl [(pApp gIx [(pVar 1), (pC (.int 0))])])) (bUn [3, 4]))
  (sSeq (sIf (toEB (bNotP (pB (pCall Fr [(pVar 3), (pVar 4)]))))
  (sRet (toE [] (pC (.bl false))))
  sNil)
  (retL Fr))))
def frontL (z : Int) (RR : SF) : SF := (sLow [0] (sCan [true, true, true, true, true]
  (sSeq (sAsg (toE [0] (pApp gSlHT [(pVar 0), pI (pC (.int 12))])) (bName 1))
  (sSeq (sIf (toEB (pB (pApp gEqT [(pVar 1), (pApp gLstL [])])))
  (sAsg (toE [] (pApp gLstL [(pC (.int z))])) (bName 1))
  sNil) RR))))
theorem m_law_is : m_law = frontL 0 (restL F__law_long F__law_right lb1_law) := rfl
theorem front_gen (z : Int) (RR : SF) (ns : List Int) (h : ∀ a C, ∃ Γ, RR [some (2, .frz ns), some (2, .lst ((a :: C).map .int)), none, none, none] = .rt (2, .bl true) Γ) : ∃ Γ, frontL z RR [some (0, .frz ns), none, none, none, none] = .rt (2, .bl true) Γ := by
  have ct : cutG ns none (some 12) = ns.take 12 := cut_hi ns (by decide)
  have e2 := eqd_ints (ns.take 12)
  obtain ⟨C, hC⟩ : ∃ C, ns.take 12 = C := ⟨_, rfl⟩
  rw [hC] at ct e2
  have zC : C.length ≤ 16777216 := by rw [← hC, List.length_take]; omega
  have e9 : eqd 60 (.lst []) = true := rfl
  by_cases c : C = []
  · subst c
    have d9 : deq (.lst []) (.lst []) = true := by decide +kernel
    obtain ⟨G, rs⟩ := h z []
    simp only [List.map_cons, List.map_nil] at rs
    exact ⟨_, by simp [mkS, finS, bNs, gL1, gL2, gLL2, fI2, tkA, ptA, GS, GL, fPut, ful, l12, l02, DL.D.mut, DL.D.top, DL.D.imm, DL.D.imm.immAll, fdOk, fIx, fMul, fAdd, powOk, gLstL, gTupL, DL.D.ty, lvN, szOk, fLen, fListOf, fTupOf, fSl, gSlN, gSlH, gSlL, gSlB, fIsi, fIsiT, isT, DL.D.tyN, DL.D.isX, fInts, DL.D.seqI, fLenSet, fLR, fLR1, gLR2, rgOk, fDict, fAbs, fInt1, gMax2, gMin2, g1S, g2S, fItems, fR1, fR2, bd62, lowE, clr, bakE, kpE, fApp, fIns, fPop, fPopA, fPopI, fClr, fRev, fExt, allTop, fEq, fNe, fNeg, fIsN, DL.D.isNon, DL.D.key, dGet, canE, nrm, cT, sAug_k, ixN, fRvS, fAll, dBls_map, fIsB, fIdx, msk, Function.comp_def, cut_hi, cut_lo, cut_both, gLLL3, fCntB, fIdxB, gLR3, frontL, ct, e9, d9, rs]; rfl⟩
  · have d9 : deq (.lst (C.map .int)) (.lst []) = false := by rw [deq_nil1, decide_eq_false c]
    cases C with
    | nil => exact absurd rfl c
    | cons a C =>
      obtain ⟨G, rs⟩ := h a C
      obtain ⟨X, hX⟩ : ∃ X, a :: C = X := ⟨_, rfl⟩
      rw [hX] at ct e2 d9 zC c rs
      exact ⟨_, by simp [mkS, finS, bNs, gL1, gL2, gLL2, fI2, tkA, ptA, GS, GL, fPut, ful, l12, l02, DL.D.mut, DL.D.top, DL.D.imm, DL.D.imm.immAll, fdOk, fIx, fMul, fAdd, powOk, gLstL, gTupL, DL.D.ty, lvN, szOk, fLen, fListOf, fTupOf, fSl, gSlN, gSlH, gSlL, gSlB, fIsi, fIsiT, isT, DL.D.tyN, DL.D.isX, fInts, DL.D.seqI, fLenSet, fLR, fLR1, gLR2, rgOk, fDict, fAbs, fInt1, gMax2, gMin2, g1S, g2S, fItems, fR1, fR2, bd62, lowE, clr, bakE, kpE, fApp, fIns, fPop, fPopA, fPopI, fClr, fRev, fExt, allTop, fEq, fNe, fNeg, fIsN, DL.D.isNon, DL.D.key, dGet, canE, nrm, cT, sAug_k, ixN, fRvS, fAll, dBls_map, fIsB, fIdx, msk, Function.comp_def, cut_hi, cut_lo, cut_both, gLLL3, fCntB, fIdxB, gLR3, frontL, ct, zC, e9, e2, d9, rs, c]; rfl⟩
theorem rest_gen (Fl Fr : List LD → FR) (lb : SF) (ns : List Int) (a : Int) (X : List Int) (r : List Int) (ds : List (Int × Int)) (a0 : atI X 0 = some a)
    (lp : forL (bName 2) lb (X.map fun c => (0, D.int c)) [none, some (0, .lst (X.map .int)), none, none, none] = .nx [none, some (0, .lst (X.map .int)), none, none, none])
    (lg : ∀ l0, Fl [(l0, .int a)] = .ret (2, .lst [.lst (r.map .int), .lst (ds.map DL.prD)]) []) (ri : ∀ l0 l1, Fr [(l0, .lst (r.map .int)), (l1, .lst (ds.map DL.prD))] = .ret (2, .bl true) []) (rt : ∀ Γ, retL Fr Γ = .rt (2, .bl true) Γ) :
    ∃ Γ, restL Fl Fr lb [some (2, .frz ns), some (2, .lst (X.map .int)), none, none, none] = .rt (2, .bl true) Γ := by
  have im := prD_imm ds
  exact ⟨_, by simp [mkS, finS, bNs, gL1, gL2, gLL2, fI2, tkA, ptA, GS, GL, fPut, ful, l12, l02, DL.D.mut, DL.D.top, DL.D.imm, DL.D.imm.immAll, fdOk, fIx, fMul, fAdd, powOk, gLstL, gTupL, DL.D.ty, lvN, szOk, fLen, fListOf, fTupOf, fSl, gSlN, gSlH, gSlL, gSlB, fIsi, fIsiT, isT, DL.D.tyN, DL.D.isX, fInts, DL.D.seqI, fLenSet, fLR, fLR1, gLR2, rgOk, fDict, fAbs, fInt1, gMax2, gMin2, g1S, g2S, fItems, fR1, fR2, bd62, lowE, clr, bakE, kpE, fApp, fIns, fPop, fPopA, fPopI, fClr, fRev, fExt, allTop, fEq, fNe, fNeg, fIsN, DL.D.isNon, DL.D.key, dGet, canE, nrm, cT, sAug_k, ixN, fRvS, fAll, dBls_map, fIsB, fIdx, msk, Function.comp_def, cut_hi, cut_lo, cut_both, gLLL3, fCntB, fIdxB, gLR3, restL, lp, a0, lg, ri, im, rt]; rfl⟩
theorem rest_ok (ns : List Int) (a : Int) (C : List Int) : ∃ Γ, restL F__law_long F__law_right lb1_law [some (2, .frz ns), some (2, .lst ((a :: C).map .int)), none, none, none] = .rt (2, .bl true) Γ := by
  obtain ⟨r, ds, hr, hd, lg⟩ := long_ok a
  exact rest_gen F__law_long F__law_right lb1_law ns a (a :: C) r ds (atI_cast (a :: C) 0) (forL_const fun y hy => by
    obtain ⟨c, hc, rfl⟩ := List.mem_map.mp hy
    exact ⟨_, rfl, .inl (cell_turn _ 0 c)⟩) lg (fun l0 l1 => right_ok hr hd l0 l1) (ret_ok F__law_right q0 q1)
theorem law_true (ns : List Int) (hl : ns.length ≤ 63) : ∃ l, F_law [(0, .frz ns)] = .ret (l, .bl true) [] := by
  obtain ⟨G, h⟩ := front_gen 0 (restL F__law_long F__law_right lb1_law) ns fun a C => rest_ok ns a C
  refine ⟨2, ?_⟩
  rw [run_law, m_law_is, h]
  rfl
end LW
namespace LW
open L2 DL PySem PySem.Spec PyProof.Rows
def top (i : Nat) : Stmt := PySem.Challenge.pw_pilenets_k76_rows_and_doings_written.main.body.getD i (.Pass ⟨0, 0, 0, 0⟩)
abbrev st__law_stir : Stmt := top 21
abbrev st__law_any_doing : Stmt := top 25
abbrev st__law_any_row : Stmt := top 24
abbrev st__law_long : Stmt := top 26
abbrev st__law_is_doing : Stmt := top 27
abbrev st__law_is_row : Stmt := top 28
abbrev st__law_end : Stmt := top 22
abbrev st__law_way : Stmt := top 23
abbrev st_listed : Stmt := top 11
abbrev st_end_text : Stmt := top 9
abbrev st_way_text : Stmt := top 10
abbrev st_doing_text : Stmt := top 13
abbrev st_parts_told : Stmt := top 16
abbrev st_figures_told : Stmt := top 14
abbrev st_way_told : Stmt := top 15
abbrev st_read_doing : Stmt := top 19
abbrev st_number_told : Stmt := top 17
abbrev st_read_row : Stmt := top 18
abbrev st_row_text : Stmt := top 12
abbrev st__law_right : Stmt := top 29
abbrev st_law : Stmt := top 30
structure Bt (K : PySem.W.Frag) (mg : Str → Option Value) : Prop where
  b_bool : mg "bool" = none
  b_int : mg "int" = none
  b_isinstance : mg "isinstance" = none
  b_len : mg "len" = none
  b_list : mg "list" = none
  b_range : mg "range" = none
  b_str : mg "str" = none
  b_tuple : mg "tuple" = none
  c_FIGURES : ∃ t, mg "FIGURES" = some (.str "0123456789" t)
  c_IN : ∃ t, mg "IN" = some (.int (-1) t)
  c_MOST_FIGURES : ∃ t, mg "MOST_FIGURES" = some (.int 30 t)
  c_NONE : ∃ t, mg "NONE" = some (.str "-" t)
  c_OUT : ∃ t, mg "OUT" = some (.int (-2) t)
  x_NoText : XCls K mg "NoText"
section
variable {P : Program} {w : World} {K : PySem.W.Frag} {mg : Str → Option Value} {base : Heap}
theorem sc__law_stir : FnScope ["cell", "k", "number"] ["cell", "k"] (defScope st__law_stir) := ⟨rfl, rfl, rfl, by decide +kernel, rfl, by decide +kernel, by decide +kernel⟩
theorem ok__law_stir {f : Addr} {fd : FuncData} (F : Fun K "_law_stir" "_law_stir" st__law_stir f fd) (B : Bt K mg) : FnOk P w K mg base (L2.CX P w) 1 f fd ["cell", "k"] (spF K mg 2 [] F__law_stir) := by
  refine def_ok 2 3 [] (m__law_stir) F sc__law_stir rfl rfl (by decide) (by decide) fun cdv A outer s H E W hr tk => ?_
  have h100 := room100 hr
  have h65 := room65 hr
  have h64 := room64 hr
  have h1 := room1 hr
  have hp : PassesOwn (model P w) (A.deeper (envOfC "_law_stir" (defScope st__law_stir) s.heap.objs.size f cdv)) (cxOf (L2.CX P w) P w K mg base ["cell", "k", "number"] "_law_stir" (defScope st__law_stir) f cdv A outer s H E).env (cxOf (L2.CX P w) P w K mg base ["cell", "k", "number"] "_law_stir" (defScope st__law_stir) f cdv A outer s H E).xe := PassesOwn.leaving
  exact (ss_low [0, 1] (ss_can [true, true, true]
      (ss_cons (s_if (DTP.toE (t_cmp op_ge vCmp (p_v 0) (p_bin op_pow vPow p_int p_int) (nomark _)))
      (ss_one (s_ret (DP.toE (p_bin op_mod vMod (p_bin op_shr vShr (p_bin op_sub vSub (p_v 0) (p_bin op_pow vPow p_int p_int)) (p_bin op_mulD vMulD p_int (p_v 1))) (p_bin op_pow vPow p_int p_int)))))
      ss_nil)
      (ss_cons (s_st 2 sc__law_stir.nd (DP.toE (p_bin op_mod vMod (p_bin op_mulD vMulD (p_bin op_addAny vAdd (p_bin op_addAny vAdd (p_v 0) (p_bin op_mulD vMulD p_int (p_v 1))) p_int) p_int) p_int)))
      (ss_cons (s_st 2 sc__law_stir.nd (DP.toE (p_bin op_mod vMod (p_bin op_mulD vMulD (p_v 2) (p_v 2)) p_int)))
      (ss_one (s_ret (DP.toE (p_bin op_fdivW vFdiv (p_bin op_mod vMod (p_bin op_mulD vMulD (p_v 2) p_int) p_int) p_int)))))))))
theorem sc__law_any_doing : FnScope ["cell", "k", "found", "j", "number", "a"] ["cell", "k"] (defScope st__law_any_doing) := ⟨rfl, rfl, rfl, by decide +kernel, rfl, by decide +kernel, by decide +kernel⟩
theorem ok__law_any_doing {f : Addr} {fd : FuncData} (F : Fun K "_law_any_doing" "_law_any_doing" st__law_any_doing f fd) (B : Bt K mg) (C__law_stir : DCal P w K mg base 1 "_law_stir" ["cell", "k"] 2 [] F__law_stir) : FnOk P w K mg base (L2.CX P w) 2 f fd ["cell", "k"] (spF K mg 2 [] F__law_any_doing) := by
  refine def_ok 2 6 [] (m__law_any_doing) F sc__law_any_doing rfl rfl (by decide) (by decide) fun cdv A outer s H E W hr tk => ?_
  have h100 := room100 hr
  have h65 := room65 hr
  have h64 := room64 hr
  have h1 := room1 hr
  have hp : PassesOwn (model P w) (A.deeper (envOfC "_law_any_doing" (defScope st__law_any_doing) s.heap.objs.size f cdv)) (cxOf (L2.CX P w) P w K mg base ["cell", "k", "found", "j", "number", "a"] "_law_any_doing" (defScope st__law_any_doing) f cdv A outer s H E).env (cxOf (L2.CX P w) P w K mg base ["cell", "k", "found", "j", "number", "a"] "_law_any_doing" (defScope st__law_any_doing) f cdv A outer s H E).xe := PassesOwn.leaving
  exact (ss_low [0, 1] (ss_can [true, true, true, true, true, true]
      (ss_cons (s_st 2 sc__law_any_doing.nd (DP.toE (p_lst .nil)))
      (ss_cons (s_can [true, true, true, false, false, false] (s_for hp rfl (di_r1 (by rfl) (by exact B.b_range) (DP.toE (p_bin op_mod vMod (p_c tk C__law_stir (hr.mono (by decide)) (.cons (p_v 0) (.cons (p_v 1) .nil rfl) rfl)) p_int))) (g_n 3 sc__law_any_doing.nd) tg_name
      (ss_cons (s_st 4 sc__law_any_doing.nd (DP.toE (p_c tk C__law_stir (hr.mono (by decide)) (.cons (p_v 0) (.cons (p_bin op_addAny vAdd (p_bin op_addAny vAdd (p_v 1) p_int) (p_v 3)) .nil rfl) rfl))))
      (ss_cons (s_st 5 sc__law_any_doing.nd (DP.toE (p_ix h100 (p_lst (.cons (p_un un_neg vNeg p_int) (.cons (p_bin op_mod vMod (p_bin op_fdivW vFdiv (p_v 4) p_int) p_int) (.cons (p_bin op_mod vMod (p_bin op_fdivW vFdiv (p_v 4) p_int) p_int) (.cons (p_bin op_mulD vMulD (p_v 4) (p_bin op_pow vPow p_int p_int)) .nil rfl) rfl) rfl) rfl)) (p_bin op_mod vMod (p_v 4) p_int) (fun _ _ => rfl))))
      (ss_cons (s_expr (e_methM PySem.F.plainAttrs_list PySem.F.slot_list_append PySem.F.type_list_append mt_append (MOk.of (n := 1) l_append) (pv 2) (.ex (DP.toE (p_tup (.cons (p_v 5) (.cons (p_ix h100 (p_lst (.cons (p_un un_neg vNeg p_int) (.cons (p_bin op_mod vMod (p_bin op_fdivW vFdiv (p_v 4) p_int) p_int) (.cons (p_bin op_mod vMod (p_bin op_fdivW vFdiv (p_v 4) p_int) p_int) (.cons (p_v 4) .nil rfl) rfl) rfl) rfl)) (p_bin op_mod vMod (p_bin op_fdivW vFdiv (p_v 4) p_int) p_int) (fun _ _ => rfl)) .nil rfl) rfl))) .nil rfl)))
      (ss_can [true, true, true, false, false, false] ss_nil))))))
      (ss_one (s_ret (e_v 2)))))))
theorem sc__law_any_row : FnScope ["cell", "k", "found", "j", "number", "one"] ["cell", "k"] (defScope st__law_any_row) := ⟨rfl, rfl, rfl, by decide +kernel, rfl, by decide +kernel, by decide +kernel⟩
theorem ok__law_any_row {f : Addr} {fd : FuncData} (F : Fun K "_law_any_row" "_law_any_row" st__law_any_row f fd) (B : Bt K mg) (C__law_stir : DCal P w K mg base 1 "_law_stir" ["cell", "k"] 2 [] F__law_stir) : FnOk P w K mg base (L2.CX P w) 2 f fd ["cell", "k"] (spF K mg 2 [] F__law_any_row) := by
  refine def_ok 2 6 [] (m__law_any_row) F sc__law_any_row rfl rfl (by decide) (by decide) fun cdv A outer s H E W hr tk => ?_
  have h100 := room100 hr
  have h65 := room65 hr
  have h64 := room64 hr
  have h1 := room1 hr
  have hp : PassesOwn (model P w) (A.deeper (envOfC "_law_any_row" (defScope st__law_any_row) s.heap.objs.size f cdv)) (cxOf (L2.CX P w) P w K mg base ["cell", "k", "found", "j", "number", "one"] "_law_any_row" (defScope st__law_any_row) f cdv A outer s H E).env (cxOf (L2.CX P w) P w K mg base ["cell", "k", "found", "j", "number", "one"] "_law_any_row" (defScope st__law_any_row) f cdv A outer s H E).xe := PassesOwn.leaving
  exact (ss_low [0, 1] (ss_can [true, true, true, true, true, true]
      (ss_cons (s_st 2 sc__law_any_row.nd (DP.toE (p_lst .nil)))
      (ss_cons (s_can [true, true, true, false, false, false] (s_for hp rfl (di_r1 (by rfl) (by exact B.b_range) (DP.toE (p_bin op_mod vMod (p_c tk C__law_stir (hr.mono (by decide)) (.cons (p_v 0) (.cons (p_v 1) .nil rfl) rfl)) p_int))) (g_n 3 sc__law_any_row.nd) tg_name
      (ss_cons (s_st 4 sc__law_any_row.nd (DP.toE (p_c tk C__law_stir (hr.mono (by decide)) (.cons (p_v 0) (.cons (p_bin op_addAny vAdd (p_bin op_addAny vAdd (p_v 1) p_int) (p_v 3)) .nil rfl) rfl))))
      (ss_cons (s_st 5 sc__law_any_row.nd (DP.toE (p_ix h100 (p_lst (.cons (p_bin op_mod vMod (p_bin op_fdivW vFdiv (p_v 4) p_int) p_int) (.cons (p_bin op_fdivW vFdiv (p_v 4) p_int) (.cons (p_bin op_addAny vAdd (p_bin op_mulD vMulD (p_v 4) (p_bin op_pow vPow p_int p_int)) p_int) .nil rfl) rfl) rfl)) (p_bin op_mod vMod (p_v 4) p_int) (fun _ _ => rfl))))
      (ss_cons (s_expr (e_methM PySem.F.plainAttrs_list PySem.F.slot_list_append PySem.F.type_list_append mt_append (MOk.of (n := 1) l_append) (pv 2) (.ex (DP.toE (p_ix h100 (p_lst (.cons (p_v 5) (.cons (p_bin op_sub vSub p_int (p_v 5)) .nil rfl) rfl)) (p_bin op_mod vMod (p_bin op_fdivW vFdiv (p_v 4) p_int) p_int) (fun _ _ => rfl))) .nil rfl)))
      (ss_can [true, true, true, false, false, false] ss_nil))))))
      (ss_one (s_ret (e_v 2)))))))
theorem sc__law_long : FnScope ["cell", "row", "j", "doing", "number"] ["cell"] (defScope st__law_long) := ⟨rfl, rfl, rfl, by decide +kernel, rfl, by decide +kernel, by decide +kernel⟩
theorem ok__law_long {f : Addr} {fd : FuncData} (F : Fun K "_law_long" "_law_long" st__law_long f fd) (B : Bt K mg) (C__law_stir : DCal P w K mg base 1 "_law_stir" ["cell", "k"] 2 [] F__law_stir) : FnOk P w K mg base (L2.CX P w) 2 f fd ["cell"] (spF K mg 1 [] F__law_long) := by
  refine def_ok 1 5 [] (m__law_long) F sc__law_long rfl rfl (by decide) (by decide) fun cdv A outer s H E W hr tk => ?_
  have h100 := room100 hr
  have h65 := room65 hr
  have h64 := room64 hr
  have h1 := room1 hr
  have hp : PassesOwn (model P w) (A.deeper (envOfC "_law_long" (defScope st__law_long) s.heap.objs.size f cdv)) (cxOf (L2.CX P w) P w K mg base ["cell", "row", "j", "doing", "number"] "_law_long" (defScope st__law_long) f cdv A outer s H E).env (cxOf (L2.CX P w) P w K mg base ["cell", "row", "j", "doing", "number"] "_law_long" (defScope st__law_long) f cdv A outer s H E).xe := PassesOwn.leaving
  exact (ss_low [0] (ss_can [true, true, true, true, true]
      (ss_cons (s_st 1 sc__law_long.nd (DP.toE (p_lst .nil)))
      (ss_cons (s_can [true, true, false, false, false] (s_for hp rfl (di_r1 (by rfl) (by exact B.b_range) (DP.toE (p_bin op_addAny vAdd p_int (p_bin op_mod vMod (p_c tk C__law_stir (hr.mono (by decide)) (.cons (p_v 0) (.cons p_int .nil rfl) rfl)) p_int)))) (g_n 2 sc__law_long.nd) tg_name
      (ss_cons (s_st 4 sc__law_long.nd (DP.toE (p_c tk C__law_stir (hr.mono (by decide)) (.cons (p_v 0) (.cons (p_bin op_addAny vAdd p_int (p_v 2)) .nil rfl) rfl))))
      (ss_cons (s_expr (e_methM PySem.F.plainAttrs_list PySem.F.slot_list_append PySem.F.type_list_append mt_append (MOk.of (n := 1) l_append) (pv 1) (.ex (DP.toE (p_bin op_mulD vMulD (p_ix h100 (p_lst (.cons (p_bin op_mod vMod (p_bin op_fdivW vFdiv (p_v 4) p_int) p_int) (.cons (p_bin op_fdivW vFdiv (p_v 4) p_int) .nil rfl) rfl)) (p_bin op_mod vMod (p_v 4) p_int) (fun _ _ => rfl)) (p_ix h100 (p_lst (.cons p_int (.cons (p_un un_neg vNeg p_int) .nil rfl) rfl)) (p_bin op_mod vMod (p_bin op_fdivW vFdiv (p_v 4) p_int) p_int) (fun _ _ => rfl)))) .nil rfl)))
      (ss_can [true, true, false, false, false] ss_nil)))))
      (ss_cons (s_st 3 sc__law_long.nd (DP.toE (p_lst .nil)))
      (ss_cons (s_can [true, true, false, true, false] (s_for hp rfl (di_r1 (by rfl) (by exact B.b_range) (DP.toE (p_bin op_addAny vAdd p_int (p_bin op_mod vMod (p_c tk C__law_stir (hr.mono (by decide)) (.cons (p_v 0) (.cons p_int .nil rfl) rfl)) p_int)))) (g_n 2 sc__law_long.nd) tg_name
      (ss_cons (s_st 4 sc__law_long.nd (DP.toE (p_c tk C__law_stir (hr.mono (by decide)) (.cons (p_v 0) (.cons (p_bin op_addAny vAdd p_int (p_v 2)) .nil rfl) rfl))))
      (ss_cons (s_expr (e_methM PySem.F.plainAttrs_list PySem.F.slot_list_append PySem.F.type_list_append mt_append (MOk.of (n := 1) l_append) (pv 3) (.ex (DP.toE (p_tup (.cons (p_ix h100 (p_lst (.cons (p_un un_neg vNeg p_int) (.cons (p_bin op_mod vMod (p_bin op_fdivW vFdiv (p_v 4) p_int) p_int) .nil rfl) rfl)) (p_bin op_mod vMod (p_v 4) p_int) (fun _ _ => rfl)) (.cons (p_ix h100 (p_lst (.cons (p_un un_neg vNeg p_int) (.cons (p_bin op_mod vMod (p_bin op_fdivW vFdiv (p_v 4) p_int) p_int) .nil rfl) rfl)) (p_bin op_mod vMod (p_bin op_fdivW vFdiv (p_v 4) p_int) p_int) (fun _ _ => rfl)) .nil rfl) rfl))) .nil rfl)))
      (ss_can [true, true, false, true, false] ss_nil)))))
      (ss_one (s_ret (e_lst (.cons (e_v 1) (.cons (e_v 3) .nil rfl) rfl))))))))))
theorem sc__law_is_doing : FnScope ["found", "due", "one", "a", "b"] ["found", "due"] (defScope st__law_is_doing) := ⟨rfl, rfl, rfl, by decide +kernel, rfl, by decide +kernel, by decide +kernel⟩
theorem ok__law_is_doing {f : Addr} {fd : FuncData} (F : Fun K "_law_is_doing" "_law_is_doing" st__law_is_doing f fd) (B : Bt K mg) : FnOk P w K mg base (L2.CX P w) 1 f fd ["found", "due"] (spF K mg 2 [] F__law_is_doing) := by
  refine def_ok 2 5 [] (m__law_is_doing) F sc__law_is_doing rfl rfl (by decide) (by decide) fun cdv A outer s H E W hr tk => ?_
  have h100 := room100 hr
  have h65 := room65 hr
  have h64 := room64 hr
  have h1 := room1 hr
  have hp : PassesOwn (model P w) (A.deeper (envOfC "_law_is_doing" (defScope st__law_is_doing) s.heap.objs.size f cdv)) (cxOf (L2.CX P w) P w K mg base ["found", "due", "one", "a", "b"] "_law_is_doing" (defScope st__law_is_doing) f cdv A outer s H E).env (cxOf (L2.CX P w) P w K mg base ["found", "due", "one", "a", "b"] "_law_is_doing" (defScope st__law_is_doing) f cdv A outer s H E).xe := PassesOwn.leaving
  exact (ss_low [0, 1] (ss_can [true, true, true, true, true]
      (ss_cons (s_if (DTP.toE (DWP.t (w_or (t_not (t_val (p_isi (by rfl) (by exact B.b_isinstance) (T := "list") (by decide) (pe_ty (by rfl) (by exact B.b_list) (by rfl)) (p_v 0)))) (w_or (t_cmp (op_neT h64) vNeT (p_v 0) (p_v 1) (nomark _)) (w_or1 (t_cmp (op_neT h64) vNeT (p_lc (own := [("one", 2)]) rfl sc__law_is_doing.nd (dip_seq (p_v 0)) (blkOk_by (own := [("one", 2)]) (by first | (dsimp only [cxOf, envOfC, compEnvC]; decide +kernel) | with_unfolding_all rfl)) (by decide) tg_name (fun _ _ _ _ _ => (g_n 2 sc__law_is_doing.nd)) (fun _ _ _ _ _ => ptsP1 (t_not (t_val (p_isi (by rfl) (by exact B.b_isinstance) (T := "tuple") (by decide) (pe_ty (by rfl) (by exact B.b_tuple) (by rfl)) (p_v 2))))) (fun _ _ _ _ _ => (p_v 2))) (p_lst .nil) (nomark _)))))))
      (ss_one (s_ret (DP.toE p_bl)))
      ss_nil)
      (ss_one (s_ret (DP.toE (p_cmp (op_eqT h64) vEqT (p_lc (own := [("a", 3), ("b", 4)]) rfl sc__law_is_doing.nd (dip_seq (p_v 0)) (blkOk_by (own := [("a", 3), ("b", 4)]) (by first | (dsimp only [cxOf, envOfC, compEnvC]; decide +kernel) | with_unfolding_all rfl)) (by decide) (tg_un rfl) (fun _ _ _ _ _ => (pg_un rfl (pgs_cons (g_n 3 sc__law_is_doing.nd) (pgs_cons (g_n 4 sc__law_is_doing.nd) pgs_nil)))) (fun _ _ _ _ _ => ptsP1 (DWP.t (w_or (t_val (p_isi (by rfl) (by exact B.b_isinstance) (T := "bool") (by decide) (pe_ty (by rfl) (by exact B.b_bool) (by rfl)) (p_v 3))) (w_or1 (t_val (p_isi (by rfl) (by exact B.b_isinstance) (T := "bool") (by decide) (pe_ty (by rfl) (by exact B.b_bool) (by rfl)) (p_v 4))))))) (fun _ _ _ _ _ => p_int)) (p_lst .nil) (nomark _))))))))
theorem sc__law_is_row : FnScope ["found", "due", "one"] ["found", "due"] (defScope st__law_is_row) := ⟨rfl, rfl, rfl, by decide +kernel, rfl, by decide +kernel, by decide +kernel⟩
theorem ok__law_is_row {f : Addr} {fd : FuncData} (F : Fun K "_law_is_row" "_law_is_row" st__law_is_row f fd) (B : Bt K mg) : FnOk P w K mg base (L2.CX P w) 1 f fd ["found", "due"] (spF K mg 2 [] F__law_is_row) := by
  refine def_ok 2 3 [] (m__law_is_row) F sc__law_is_row rfl rfl (by decide) (by decide) fun cdv A outer s H E W hr tk => ?_
  have h100 := room100 hr
  have h65 := room65 hr
  have h64 := room64 hr
  have h1 := room1 hr
  have hp : PassesOwn (model P w) (A.deeper (envOfC "_law_is_row" (defScope st__law_is_row) s.heap.objs.size f cdv)) (cxOf (L2.CX P w) P w K mg base ["found", "due", "one"] "_law_is_row" (defScope st__law_is_row) f cdv A outer s H E).env (cxOf (L2.CX P w) P w K mg base ["found", "due", "one"] "_law_is_row" (defScope st__law_is_row) f cdv A outer s H E).xe := PassesOwn.leaving
  exact (ss_low [0, 1] (ss_can [true, true, true]
      (ss_one (s_ret (DP.toE (p_and (p_isi (by rfl) (by exact B.b_isinstance) (T := "list") (by decide) (pe_ty (by rfl) (by exact B.b_list) (by rfl)) (p_v 0)) (p_and (p_cmp (op_eqT h64) vEqT (p_v 0) (p_v 1) (nomark _)) (p_one (p_cmp (op_eqT h64) vEqT (p_lc (own := [("one", 2)]) rfl sc__law_is_row.nd (dip_seq (p_v 0)) (blkOk_by (own := [("one", 2)]) (by first | (dsimp only [cxOf, envOfC, compEnvC]; decide +kernel) | with_unfolding_all rfl)) (by decide) tg_name (fun _ _ _ _ _ => (g_n 2 sc__law_is_row.nd)) (fun _ _ _ _ _ => ptsP1 (t_val (p_isi (by rfl) (by exact B.b_isinstance) (T := "bool") (by decide) (pe_ty (by rfl) (by exact B.b_bool) (by rfl)) (p_v 2)))) (fun _ _ _ _ _ => p_int)) (p_lst .nil) (nomark _))))))))))
theorem sc__law_end : FnScope ["place"] ["place"] (defScope st__law_end) := ⟨rfl, rfl, rfl, by decide +kernel, rfl, by decide +kernel, by decide +kernel⟩
theorem ok__law_end {f : Addr} {fd : FuncData} (F : Fun K "_law_end" "_law_end" st__law_end f fd) (B : Bt K mg) : FnOk P w K mg base (L2.CX P w) 1 f fd ["place"] (spF K mg 1 [] F__law_end) := by
  refine def_ok 1 1 [] (m__law_end) F sc__law_end rfl rfl (by decide) (by decide) fun cdv A outer s H E W hr tk => ?_
  have h100 := room100 hr
  have h65 := room65 hr
  have h64 := room64 hr
  have h1 := room1 hr
  have hp : PassesOwn (model P w) (A.deeper (envOfC "_law_end" (defScope st__law_end) s.heap.objs.size f cdv)) (cxOf (L2.CX P w) P w K mg base ["place"] "_law_end" (defScope st__law_end) f cdv A outer s H E).env (cxOf (L2.CX P w) P w K mg base ["place"] "_law_end" (defScope st__law_end) f cdv A outer s H E).xe := PassesOwn.leaving
  exact (ss_low [0] (ss_can [true]
      (ss_one (s_ret (DP.toE (p_if (C := [0, 0]) (by decide) (by decide) (t_cmp op_lt vCmp (p_v 0) p_int (nomark _)) (p_ix h100 (p_lst (.cons p_str (.cons p_str .nil rfl) rfl)) (p_bin op_addAny vAdd (p_v 0) p_int) (fun _ _ => rfl)) (p_callTy call_str_int vStr (by rfl) (by exact B.b_str) (by rfl) (.cons (p_v 0) .nil rfl))))))))
theorem sc__law_way : FnScope ["way"] ["way"] (defScope st__law_way) := ⟨rfl, rfl, rfl, by decide +kernel, rfl, by decide +kernel, by decide +kernel⟩
theorem ok__law_way {f : Addr} {fd : FuncData} (F : Fun K "_law_way" "_law_way" st__law_way f fd) (B : Bt K mg) (C__law_end : DCal P w K mg base 1 "_law_end" ["place"] 1 [] F__law_end) : FnOk P w K mg base (L2.CX P w) 2 f fd ["way"] (spF K mg 1 [] F__law_way) := by
  refine def_ok 1 1 [] (m__law_way) F sc__law_way rfl rfl (by decide) (by decide) fun cdv A outer s H E W hr tk => ?_
  have h100 := room100 hr
  have h65 := room65 hr
  have h64 := room64 hr
  have h1 := room1 hr
  have hp : PassesOwn (model P w) (A.deeper (envOfC "_law_way" (defScope st__law_way) s.heap.objs.size f cdv)) (cxOf (L2.CX P w) P w K mg base ["way"] "_law_way" (defScope st__law_way) f cdv A outer s H E).env (cxOf (L2.CX P w) P w K mg base ["way"] "_law_way" (defScope st__law_way) f cdv A outer s H E).xe := PassesOwn.leaving
  exact (ss_low [0] (ss_can [true]
      (ss_one (s_ret (DP.toE (p_bin op_addAny vAdd (p_bin op_addAny vAdd (p_c tk C__law_end (hr.mono (by decide)) (.cons (p_ix h100 (p_v 0) p_int (fun _ _ => rfl)) .nil rfl)) p_str) (p_c tk C__law_end (hr.mono (by decide)) (.cons (p_ix h100 (p_v 0) p_int (fun _ _ => rfl)) .nil rfl))))))))
theorem sc_listed : FnScope ["words", "between"] ["words", "between"] (defScope st_listed) := ⟨rfl, rfl, rfl, by decide +kernel, rfl, by decide +kernel, by decide +kernel⟩
theorem ok_listed {f : Addr} {fd : FuncData} (F : Fun K "listed" "listed" st_listed f fd) (B : Bt K mg) : FnOk P w K mg base (L2.CX P w) 1 f fd ["words", "between"] (spF K mg 2 [] F_listed) := by
  refine def_ok 2 2 [] (m_listed) F sc_listed rfl rfl (by decide) (by decide) fun cdv A outer s H E W hr tk => ?_
  have h100 := room100 hr
  have h65 := room65 hr
  have h64 := room64 hr
  have h1 := room1 hr
  have hp : PassesOwn (model P w) (A.deeper (envOfC "listed" (defScope st_listed) s.heap.objs.size f cdv)) (cxOf (L2.CX P w) P w K mg base ["words", "between"] "listed" (defScope st_listed) f cdv A outer s H E).env (cxOf (L2.CX P w) P w K mg base ["words", "between"] "listed" (defScope st_listed) f cdv A outer s H E).xe := PassesOwn.leaving
  exact (ss_low [0, 1] (ss_can [true, true]
      (ss_cons (s_if (DTP.toE (t_cmp (op_eqT h64) vEqT (p_v 0) (p_lst .nil) (nomark _)))
      (ss_one (s_ret (DP.toE (p_glS (by rfl) B.c_NONE))))
      ss_nil)
      (ss_one (s_ret (DP.toE (p_methA PySem.F.plainAttrs_str PySem.F.slot_str_join PySem.F.type_str_join mt_joinS vJoin (p_v 1) (.cons (p_v 0) .nil rfl))))))))
theorem sc_end_text : FnScope ["place"] ["place"] (defScope st_end_text) := ⟨rfl, rfl, rfl, by decide +kernel, rfl, by decide +kernel, by decide +kernel⟩
theorem ok_end_text {f : Addr} {fd : FuncData} (F : Fun K "end_text" "end_text" st_end_text f fd) (B : Bt K mg) : FnOk P w K mg base (L2.CX P w) 1 f fd ["place"] (spF K mg 1 [] F_end_text) := by
  refine def_ok 1 1 [] (m_end_text) F sc_end_text rfl rfl (by decide) (by decide) fun cdv A outer s H E W hr tk => ?_
  have h100 := room100 hr
  have h65 := room65 hr
  have h64 := room64 hr
  have h1 := room1 hr
  have hp : PassesOwn (model P w) (A.deeper (envOfC "end_text" (defScope st_end_text) s.heap.objs.size f cdv)) (cxOf (L2.CX P w) P w K mg base ["place"] "end_text" (defScope st_end_text) f cdv A outer s H E).env (cxOf (L2.CX P w) P w K mg base ["place"] "end_text" (defScope st_end_text) f cdv A outer s H E).xe := PassesOwn.leaving
  exact (ss_low [0] (ss_can [true]
      (ss_cons (s_if (DTP.toE (t_cmp (op_eqT h64) vEqT (p_v 0) (p_gl (by rfl) B.c_IN) (nomark _)))
      (ss_one (s_ret (DP.toE p_str)))
      ss_nil)
      (ss_cons (s_if (DTP.toE (t_cmp (op_eqT h64) vEqT (p_v 0) (p_gl (by rfl) B.c_OUT) (nomark _)))
      (ss_one (s_ret (DP.toE p_str)))
      ss_nil)
      (ss_one (s_ret (DP.toE (p_callTy call_str_int vStr (by rfl) (by exact B.b_str) (by rfl) (.cons (p_v 0) .nil rfl)))))))))
theorem sc_way_text : FnScope ["way"] ["way"] (defScope st_way_text) := ⟨rfl, rfl, rfl, by decide +kernel, rfl, by decide +kernel, by decide +kernel⟩
theorem ok_way_text {f : Addr} {fd : FuncData} (F : Fun K "way_text" "way_text" st_way_text f fd) (B : Bt K mg) (C_end_text : DCal P w K mg base 1 "end_text" ["place"] 1 [] F_end_text) : FnOk P w K mg base (L2.CX P w) 2 f fd ["way"] (spF K mg 1 [] F_way_text) := by
  refine def_ok 1 1 [] (m_way_text) F sc_way_text rfl rfl (by decide) (by decide) fun cdv A outer s H E W hr tk => ?_
  have h100 := room100 hr
  have h65 := room65 hr
  have h64 := room64 hr
  have h1 := room1 hr
  have hp : PassesOwn (model P w) (A.deeper (envOfC "way_text" (defScope st_way_text) s.heap.objs.size f cdv)) (cxOf (L2.CX P w) P w K mg base ["way"] "way_text" (defScope st_way_text) f cdv A outer s H E).env (cxOf (L2.CX P w) P w K mg base ["way"] "way_text" (defScope st_way_text) f cdv A outer s H E).xe := PassesOwn.leaving
  exact (ss_low [0] (ss_can [true]
      (ss_one (s_ret (DP.toE (p_bin op_addAny vAdd (p_bin op_addAny vAdd (p_c tk C_end_text (hr.mono (by decide)) (.cons (p_ix h100 (p_v 0) p_int (fun _ _ => rfl)) .nil rfl)) p_str) (p_c tk C_end_text (hr.mono (by decide)) (.cons (p_ix h100 (p_v 0) p_int (fun _ _ => rfl)) .nil rfl))))))))
theorem sc_doing_text : FnScope ["doing", "move"] ["doing"] (defScope st_doing_text) := ⟨rfl, rfl, rfl, by decide +kernel, rfl, by decide +kernel, by decide +kernel⟩
theorem ok_doing_text {f : Addr} {fd : FuncData} (F : Fun K "doing_text" "doing_text" st_doing_text f fd) (B : Bt K mg) (C_listed : DCal P w K mg base 1 "listed" ["words", "between"] 2 [] F_listed) (C_way_text : DCal P w K mg base 2 "way_text" ["way"] 1 [] F_way_text) : FnOk P w K mg base (L2.CX P w) 3 f fd ["doing"] (spF K mg 1 [] F_doing_text) := by
  refine def_ok 1 2 [] (m_doing_text) F sc_doing_text rfl rfl (by decide) (by decide) fun cdv A outer s H E W hr tk => ?_
  have h100 := room100 hr
  have h65 := room65 hr
  have h64 := room64 hr
  have h1 := room1 hr
  have hp : PassesOwn (model P w) (A.deeper (envOfC "doing_text" (defScope st_doing_text) s.heap.objs.size f cdv)) (cxOf (L2.CX P w) P w K mg base ["doing", "move"] "doing_text" (defScope st_doing_text) f cdv A outer s H E).env (cxOf (L2.CX P w) P w K mg base ["doing", "move"] "doing_text" (defScope st_doing_text) f cdv A outer s H E).xe := PassesOwn.leaving
  exact (ss_low [0] (ss_can [true, true]
      (ss_one (s_ret (DP.toE (p_c tk C_listed (hr.mono (by decide)) (.cons (p_lc (own := [("move", 1)]) rfl sc_doing_text.nd (dip_seq (p_v 0)) (blkOk_by (own := [("move", 1)]) (by first | (dsimp only [cxOf, envOfC, compEnvC]; decide +kernel) | with_unfolding_all rfl)) (by decide) tg_name (fun _ _ _ _ _ => (g_n 1 sc_doing_text.nd)) (fun _ _ _ _ _ => ptsP0) (fun _ _ _ _ _ => (p_c tkB C_way_text (hr.mono (by decide)) (.cons (p_v 1) .nil rfl)))) (.cons p_str .nil rfl) rfl)))))))
theorem sc_parts_told : FnScope ["text", "between"] ["text", "between"] (defScope st_parts_told) := ⟨rfl, rfl, rfl, by decide +kernel, rfl, by decide +kernel, by decide +kernel⟩
theorem ok_parts_told {f : Addr} {fd : FuncData} (F : Fun K "parts_told" "parts_told" st_parts_told f fd) (B : Bt K mg) : FnOk P w K mg base (L2.CX P w) 1 f fd ["text", "between"] (spF K mg 2 [] F_parts_told) := by
  refine def_ok 2 2 [] (m_parts_told) F sc_parts_told rfl rfl (by decide) (by decide) fun cdv A outer s H E W hr tk => ?_
  have h100 := room100 hr
  have h65 := room65 hr
  have h64 := room64 hr
  have h1 := room1 hr
  have hp : PassesOwn (model P w) (A.deeper (envOfC "parts_told" (defScope st_parts_told) s.heap.objs.size f cdv)) (cxOf (L2.CX P w) P w K mg base ["text", "between"] "parts_told" (defScope st_parts_told) f cdv A outer s H E).env (cxOf (L2.CX P w) P w K mg base ["text", "between"] "parts_told" (defScope st_parts_told) f cdv A outer s H E).xe := PassesOwn.leaving
  exact (ss_low [0, 1] (ss_can [true, true]
      (ss_cons (s_if (DTP.toE (t_cmp (op_eqT h64) vEqT (p_v 0) (p_glS (by rfl) B.c_NONE) (nomark _)))
      (ss_one (s_ret (e_lst .nil)))
      ss_nil)
      (ss_one (s_ret (DP.toE (p_methA PySem.F.plainAttrs_str PySem.F.slot_str_split PySem.F.type_str_split mt_splitS vSplit (p_v 0) (.cons (p_v 1) .nil rfl))))))))
theorem sc_figures_told : FnScope ["word", "sign"] ["word"] (defScope st_figures_told) := ⟨rfl, rfl, rfl, by decide +kernel, rfl, by decide +kernel, by decide +kernel⟩
theorem ok_figures_told {f : Addr} {fd : FuncData} (F : Fun K "figures_told" "figures_told" st_figures_told f fd) (B : Bt K mg) : FnOk P w K mg base (L2.CX P w) 1 f fd ["word"] (spF K mg 1 [] F_figures_told) := by
  refine def_ok 1 2 [] (m_figures_told) F sc_figures_told rfl rfl (by decide) (by decide) fun cdv A outer s H E W hr tk => ?_
  have h100 := room100 hr
  have h65 := room65 hr
  have h64 := room64 hr
  have h1 := room1 hr
  have hp : PassesOwn (model P w) (A.deeper (envOfC "figures_told" (defScope st_figures_told) s.heap.objs.size f cdv)) (cxOf (L2.CX P w) P w K mg base ["word", "sign"] "figures_told" (defScope st_figures_told) f cdv A outer s H E).env (cxOf (L2.CX P w) P w K mg base ["word", "sign"] "figures_told" (defScope st_figures_told) f cdv A outer s H E).xe := PassesOwn.leaving
  exact (ss_low [0] (ss_can [true, true]
      (ss_cons (s_if (DTP.toE (DWP.t (w_or (t_not (t_chain op_le op_le p_int (p_callB call_lenAny vLen (by rfl) (by exact B.b_len) (by rfl) (.cons (p_v 0) .nil rfl)) (p_gl (by rfl) B.c_MOST_FIGURES))) (w_or1 (t_cmp (op_neT h64) vNeT (p_lc (own := [("sign", 1)]) rfl sc_figures_told.nd (dip_str (p_v 0)) (blkOk_by (own := [("sign", 1)]) (by first | (dsimp only [cxOf, envOfC, compEnvC]; decide +kernel) | with_unfolding_all rfl)) (by decide) tg_name (fun _ _ _ _ _ => (g_n 1 sc_figures_told.nd)) (fun _ _ _ _ _ => ptsP1 (t_cmp (op_notInAnyS h65) vNotInS (p_v 1) (p_glS (by rfl) B.c_FIGURES) rfl)) (fun _ _ _ _ _ => (p_v 1))) (p_lst .nil) (nomark _))))))
      (ss_one (s_rs tk B.x_NoText))
      ss_nil)
      (ss_cons (s_if (DTP.toE (DWP.t (w_and (t_cmp (op_eqT h64) vEqT (p_ix h100 (p_v 0) p_int (fun _ _ => rfl)) p_str (nomark _)) (w_and1 (t_cmp (op_neT h64) vNeT (p_v 0) p_str (nomark _))))))
      (ss_one (s_rs tk B.x_NoText))
      ss_nil)
      (ss_one (s_ret (DP.toE (p_callTy call_int1S vInt1S (by rfl) (by exact B.b_int) (by rfl) (.cons (p_v 0) .nil rfl)))))))))
theorem sc_way_told : FnScope ["text", "ends", "a", "b"] ["text"] (defScope st_way_told) := ⟨rfl, rfl, rfl, by decide +kernel, rfl, by decide +kernel, by decide +kernel⟩
theorem ok_way_told {f : Addr} {fd : FuncData} (F : Fun K "way_told" "way_told" st_way_told f fd) (B : Bt K mg) (C_figures_told : DCal P w K mg base 1 "figures_told" ["word"] 1 [] F_figures_told) : FnOk P w K mg base (L2.CX P w) 2 f fd ["text"] (spF K mg 1 [] F_way_told) := by
  refine def_ok 1 4 [] (m_way_told) F sc_way_told rfl rfl (by decide) (by decide) fun cdv A outer s H E W hr tk => ?_
  have h100 := room100 hr
  have h65 := room65 hr
  have h64 := room64 hr
  have h1 := room1 hr
  have hp : PassesOwn (model P w) (A.deeper (envOfC "way_told" (defScope st_way_told) s.heap.objs.size f cdv)) (cxOf (L2.CX P w) P w K mg base ["text", "ends", "a", "b"] "way_told" (defScope st_way_told) f cdv A outer s H E).env (cxOf (L2.CX P w) P w K mg base ["text", "ends", "a", "b"] "way_told" (defScope st_way_told) f cdv A outer s H E).xe := PassesOwn.leaving
  exact (ss_low [0] (ss_can [true, true, true, true]
      (ss_cons (s_st 1 sc_way_told.nd (DP.toE (p_methA PySem.F.plainAttrs_str PySem.F.slot_str_split PySem.F.type_str_split mt_splitS vSplit (p_v 0) (.cons p_str .nil rfl))))
      (ss_cons (s_if (DTP.toE (t_cmp (op_neT h64) vNeT (p_callB call_lenAny vLen (by rfl) (by exact B.b_len) (by rfl) (.cons (p_v 1) .nil rfl)) p_int (nomark _)))
      (ss_one (s_rs tk B.x_NoText))
      ss_nil)
      (ss_cons (s_st 2 sc_way_told.nd (DP.toE (p_gl (by rfl) B.c_IN)))
      (ss_cons (s_if (DTP.toE (t_cmp (op_neT h64) vNeT (p_ix h100 (p_v 1) p_int (fun _ _ => rfl)) p_str (nomark _)))
      (ss_one (s_st 2 sc_way_told.nd (DP.toE (p_c tk C_figures_told (hr.mono (by decide)) (.cons (p_ix h100 (p_v 1) p_int (fun _ _ => rfl)) .nil rfl)))))
      ss_nil)
      (ss_cons (s_st 3 sc_way_told.nd (DP.toE (p_gl (by rfl) B.c_OUT)))
      (ss_cons (s_if (DTP.toE (t_cmp (op_neT h64) vNeT (p_ix h100 (p_v 1) p_int (fun _ _ => rfl)) p_str (nomark _)))
      (ss_one (s_st 3 sc_way_told.nd (DP.toE (p_c tk C_figures_told (hr.mono (by decide)) (.cons (p_ix h100 (p_v 1) p_int (fun _ _ => rfl)) .nil rfl)))))
      ss_nil)
      (ss_one (s_ret (e_tup (.cons (e_v 2) (.cons (e_v 3) .nil rfl) rfl))))))))))))
theorem sc_read_doing : FnScope ["text", "part"] ["text"] (defScope st_read_doing) := ⟨rfl, rfl, rfl, by decide +kernel, rfl, by decide +kernel, by decide +kernel⟩
theorem ok_read_doing {f : Addr} {fd : FuncData} (F : Fun K "read_doing" "read_doing" st_read_doing f fd) (B : Bt K mg) (C_parts_told : DCal P w K mg base 1 "parts_told" ["text", "between"] 2 [] F_parts_told) (C_way_told : DCal P w K mg base 2 "way_told" ["text"] 1 [] F_way_told) : FnOk P w K mg base (L2.CX P w) 3 f fd ["text"] (spF K mg 1 [] F_read_doing) := by
  refine def_ok 1 2 [] (m_read_doing) F sc_read_doing rfl rfl (by decide) (by decide) fun cdv A outer s H E W hr tk => ?_
  have h100 := room100 hr
  have h65 := room65 hr
  have h64 := room64 hr
  have h1 := room1 hr
  have hp : PassesOwn (model P w) (A.deeper (envOfC "read_doing" (defScope st_read_doing) s.heap.objs.size f cdv)) (cxOf (L2.CX P w) P w K mg base ["text", "part"] "read_doing" (defScope st_read_doing) f cdv A outer s H E).env (cxOf (L2.CX P w) P w K mg base ["text", "part"] "read_doing" (defScope st_read_doing) f cdv A outer s H E).xe := PassesOwn.leaving
  exact (ss_low [0] (ss_can [true, true]
      (ss_one (s_ret (e_lcP (t := pbT) (f := (pCall F_way_told [(pVar 1)])) (A := [1]) (bdIn_name 1) (e_lc rfl sc_read_doing.nd (di_seq (DP.toE (p_c tk C_parts_told (hr.mono (by decide)) (.cons (p_v 0) (.cons p_str .nil rfl) rfl)))) (blkOk_by (own := [("part", 1)]) (by first | (dsimp only [cxOf, envOfC, compEnvC]; decide +kernel) | with_unfolding_all rfl)) (by decide) tg_name (fun _ _ _ _ _ => (g_n 1 sc_read_doing.nd)) (fun _ _ _ _ _ => pts0) (fun _ _ _ _ _ => (DP.toE (p_c tkB C_way_told (hr.mono (by decide)) (.cons (p_v 1) .nil rfl))))))))))
theorem sc_number_told : FnScope ["word"] ["word"] (defScope st_number_told) := ⟨rfl, rfl, rfl, by decide +kernel, rfl, by decide +kernel, by decide +kernel⟩
theorem ok_number_told {f : Addr} {fd : FuncData} (F : Fun K "number_told" "number_told" st_number_told f fd) (B : Bt K mg) (C_figures_told : DCal P w K mg base 1 "figures_told" ["word"] 1 [] F_figures_told) : FnOk P w K mg base (L2.CX P w) 2 f fd ["word"] (spF K mg 1 [] F_number_told) := by
  refine def_ok 1 1 [] (m_number_told) F sc_number_told rfl rfl (by decide) (by decide) fun cdv A outer s H E W hr tk => ?_
  have h100 := room100 hr
  have h65 := room65 hr
  have h64 := room64 hr
  have h1 := room1 hr
  have hp : PassesOwn (model P w) (A.deeper (envOfC "number_told" (defScope st_number_told) s.heap.objs.size f cdv)) (cxOf (L2.CX P w) P w K mg base ["word"] "number_told" (defScope st_number_told) f cdv A outer s H E).env (cxOf (L2.CX P w) P w K mg base ["word"] "number_told" (defScope st_number_told) f cdv A outer s H E).xe := PassesOwn.leaving
  exact (ss_low [0] (ss_can [true]
      (ss_cons (s_if (DTP.toE (DWP.t (w_and (t_cmp (op_eqT h64) vEqT (p_slHT (p_v 0) p_int) p_str (nomark _)) (w_and1 (t_cmp (op_neT h64) vNeT (p_v 0) p_str (nomark _))))))
      (ss_one (s_ret (DP.toE (p_un un_neg vNeg (p_c tk C_figures_told (hr.mono (by decide)) (.cons (p_slLT (p_v 0) p_int) .nil rfl))))))
      ss_nil)
      (ss_one (s_ret (DP.toE (p_c tk C_figures_told (hr.mono (by decide)) (.cons (p_v 0) .nil rfl))))))))
theorem sc_read_row : FnScope ["text", "word"] ["text"] (defScope st_read_row) := ⟨rfl, rfl, rfl, by decide +kernel, rfl, by decide +kernel, by decide +kernel⟩
theorem ok_read_row {f : Addr} {fd : FuncData} (F : Fun K "read_row" "read_row" st_read_row f fd) (B : Bt K mg) (C_number_told : DCal P w K mg base 2 "number_told" ["word"] 1 [] F_number_told) (C_parts_told : DCal P w K mg base 1 "parts_told" ["text", "between"] 2 [] F_parts_told) : FnOk P w K mg base (L2.CX P w) 3 f fd ["text"] (spF K mg 1 [] F_read_row) := by
  refine def_ok 1 2 [] (m_read_row) F sc_read_row rfl rfl (by decide) (by decide) fun cdv A outer s H E W hr tk => ?_
  have h100 := room100 hr
  have h65 := room65 hr
  have h64 := room64 hr
  have h1 := room1 hr
  have hp : PassesOwn (model P w) (A.deeper (envOfC "read_row" (defScope st_read_row) s.heap.objs.size f cdv)) (cxOf (L2.CX P w) P w K mg base ["text", "word"] "read_row" (defScope st_read_row) f cdv A outer s H E).env (cxOf (L2.CX P w) P w K mg base ["text", "word"] "read_row" (defScope st_read_row) f cdv A outer s H E).xe := PassesOwn.leaving
  exact (ss_low [0] (ss_can [true, true]
      (ss_one (s_ret (e_lcP (t := pbT) (f := (pCall F_number_told [(pVar 1)])) (A := [1]) (bdIn_name 1) (e_lc rfl sc_read_row.nd (di_seq (DP.toE (p_c tk C_parts_told (hr.mono (by decide)) (.cons (p_v 0) (.cons p_str .nil rfl) rfl)))) (blkOk_by (own := [("word", 1)]) (by first | (dsimp only [cxOf, envOfC, compEnvC]; decide +kernel) | with_unfolding_all rfl)) (by decide) tg_name (fun _ _ _ _ _ => (g_n 1 sc_read_row.nd)) (fun _ _ _ _ _ => pts0) (fun _ _ _ _ _ => (DP.toE (p_c tkB C_number_told (hr.mono (by decide)) (.cons (p_v 1) .nil rfl))))))))))
theorem sc_row_text : FnScope ["row", "number"] ["row"] (defScope st_row_text) := ⟨rfl, rfl, rfl, by decide +kernel, rfl, by decide +kernel, by decide +kernel⟩
theorem ok_row_text {f : Addr} {fd : FuncData} (F : Fun K "row_text" "row_text" st_row_text f fd) (B : Bt K mg) (C_listed : DCal P w K mg base 1 "listed" ["words", "between"] 2 [] F_listed) : FnOk P w K mg base (L2.CX P w) 2 f fd ["row"] (spF K mg 1 [] F_row_text) := by
  refine def_ok 1 2 [] (m_row_text) F sc_row_text rfl rfl (by decide) (by decide) fun cdv A outer s H E W hr tk => ?_
  have h100 := room100 hr
  have h65 := room65 hr
  have h64 := room64 hr
  have h1 := room1 hr
  have hp : PassesOwn (model P w) (A.deeper (envOfC "row_text" (defScope st_row_text) s.heap.objs.size f cdv)) (cxOf (L2.CX P w) P w K mg base ["row", "number"] "row_text" (defScope st_row_text) f cdv A outer s H E).env (cxOf (L2.CX P w) P w K mg base ["row", "number"] "row_text" (defScope st_row_text) f cdv A outer s H E).xe := PassesOwn.leaving
  exact (ss_low [0] (ss_can [true, true]
      (ss_one (s_ret (DP.toE (p_c tk C_listed (hr.mono (by decide)) (.cons (p_lc (own := [("number", 1)]) rfl sc_row_text.nd (dip_seq (p_v 0)) (blkOk_by (own := [("number", 1)]) (by first | (dsimp only [cxOf, envOfC, compEnvC]; decide +kernel) | with_unfolding_all rfl)) (by decide) tg_name (fun _ _ _ _ _ => (g_n 1 sc_row_text.nd)) (fun _ _ _ _ _ => ptsP0) (fun _ _ _ _ _ => (p_callTy call_str_int vStr (by rfl) (by exact B.b_str) (by rfl) (.cons (p_v 1) .nil rfl)))) (.cons p_str .nil rfl) rfl)))))))
theorem sc__law_right : FnScope ["row", "doing", "texts", "handed", "turn", "told", "found", "number", "way"] ["row", "doing"] (defScope st__law_right) := ⟨rfl, rfl, rfl, by decide +kernel, rfl, by decide +kernel, by decide +kernel⟩
theorem ok__law_right {f : Addr} {fd : FuncData} (F : Fun K "_law_right" "_law_right" st__law_right f fd) (B : Bt K mg) (C__law_is_doing : DCal P w K mg base 1 "_law_is_doing" ["found", "due"] 2 [] F__law_is_doing) (C__law_is_row : DCal P w K mg base 1 "_law_is_row" ["found", "due"] 2 [] F__law_is_row) (C__law_way : DCal P w K mg base 2 "_law_way" ["way"] 1 [] F__law_way) (C_doing_text : DCal P w K mg base 3 "doing_text" ["doing"] 1 [] F_doing_text) (C_read_doing : DCal P w K mg base 3 "read_doing" ["text"] 1 [] F_read_doing) (C_read_row : DCal P w K mg base 3 "read_row" ["text"] 1 [] F_read_row) (C_row_text : DCal P w K mg base 2 "row_text" ["row"] 1 [] F_row_text) : FnOk P w K mg base (L2.CX P w) 4 f fd ["row", "doing"] (spF K mg 2 [] F__law_right) := by
  refine def_ok 2 9 [] (m__law_right) F sc__law_right rfl rfl (by decide) (by decide) fun cdv A outer s H E W hr tk => ?_
  have h100 := room100 hr
  have h65 := room65 hr
  have h64 := room64 hr
  have h1 := room1 hr
  have hp : PassesOwn (model P w) (A.deeper (envOfC "_law_right" (defScope st__law_right) s.heap.objs.size f cdv)) (cxOf (L2.CX P w) P w K mg base ["row", "doing", "texts", "handed", "turn", "told", "found", "number", "way"] "_law_right" (defScope st__law_right) f cdv A outer s H E).env (cxOf (L2.CX P w) P w K mg base ["row", "doing", "texts", "handed", "turn", "told", "found", "number", "way"] "_law_right" (defScope st__law_right) f cdv A outer s H E).xe := PassesOwn.leaving
  exact (ss_low [0, 1] (ss_can [true, true, true, true, true, true, true, true, true]
      (ss_cons (s_st 2 sc__law_right.nd (DP.toE (p_lst (.cons (p_bin op_addAny vAdd (p_methA PySem.F.plainAttrs_str PySem.F.slot_str_join PySem.F.type_str_join mt_joinS vJoin p_str (.cons (p_lc (own := [("number", 7)]) rfl sc__law_right.nd (dip_seq (p_v 0)) (blkOk_by (own := [("number", 7)]) (by first | (dsimp only [cxOf, envOfC, compEnvC]; decide +kernel) | with_unfolding_all rfl)) (by decide) tg_name (fun _ _ _ _ _ => (g_n 7 sc__law_right.nd)) (fun _ _ _ _ _ => ptsP0) (fun _ _ _ _ _ => (p_callTy call_str_int vStr (by rfl) (by exact B.b_str) (by rfl) (.cons (p_v 7) .nil rfl)))) .nil rfl)) (p_bin op_mulD vMulD p_str (p_callTy call_int1S vInt1S (by rfl) (by exact B.b_int) (by rfl) (.cons (p_cmp (op_eqT h64) vEqT (p_v 0) (p_lst .nil) (nomark _)) .nil rfl)))) .nil rfl))))
      (ss_cons (s_expr (e_methM PySem.F.plainAttrs_list PySem.F.slot_list_append PySem.F.type_list_append mt_append (MOk.of (n := 1) l_append) (pv 2) (.ex (DP.toE (p_bin op_addAny vAdd (p_methA PySem.F.plainAttrs_str PySem.F.slot_str_join PySem.F.type_str_join mt_joinS vJoin p_str (.cons (p_lc (own := [("way", 8)]) rfl sc__law_right.nd (dip_seq (p_v 1)) (blkOk_by (own := [("way", 8)]) (by first | (dsimp only [cxOf, envOfC, compEnvC]; decide +kernel) | with_unfolding_all rfl)) (by decide) tg_name (fun _ _ _ _ _ => (g_n 8 sc__law_right.nd)) (fun _ _ _ _ _ => ptsP0) (fun _ _ _ _ _ => (p_c tkB C__law_way (hr.mono (by decide)) (.cons (p_v 8) .nil rfl)))) .nil rfl)) (p_bin op_mulD vMulD p_str (p_callTy call_int1S vInt1S (by rfl) (by exact B.b_int) (by rfl) (.cons (p_cmp (op_eqT h64) vEqT (p_v 1) (p_lst .nil) (nomark _)) .nil rfl))))) .nil rfl)))
      (ss_cons (s_st 3 sc__law_right.nd (DP.toE (p_lst (.cons (p_callTy call_list_of vListOf (by rfl) (by exact B.b_list) (by rfl) (.cons (p_v 0) .nil rfl)) (.cons (p_callTy call_list_of vListOf (by rfl) (by exact B.b_list) (by rfl) (.cons (p_v 1) .nil rfl)) .nil rfl) rfl))))
      (ss_cons (s_can [true, true, true, true, false, false, false, false, false] (s_for hp rfl (di_r1 (by rfl) (by exact B.b_range) (DP.toE p_int)) (g_n 4 sc__law_right.nd) tg_name
      (ss_cons (s_st 5 sc__law_right.nd (DP.toE (p_lst (.cons (p_c tk C_row_text (hr.mono (by decide)) (.cons (p_ix h100 (p_v 3) p_int (fun _ _ => rfl)) .nil rfl)) (.cons (p_c tk C_doing_text (hr.mono (by decide)) (.cons (p_ix h100 (p_v 3) p_int (fun _ _ => rfl)) .nil rfl)) .nil rfl) rfl))))
      (ss_cons (s_if (DTP.toE (DWP.t (w_or (t_cmp (op_neT h64) vNeT (p_v 5) (p_v 2) (nomark _)) (w_or1 (t_cmp (op_neT h64) vNeT (p_v 3) (p_lst (.cons (p_v 0) (.cons (p_v 1) .nil rfl) rfl)) (nomark _))))))
      (ss_one (s_ret (DP.toE p_bl)))
      ss_nil)
      (ss_cons (s_st 6 sc__law_right.nd (DP.toE (p_lst (.cons (p_c tk C_read_row (hr.mono (by decide)) (.cons (p_ix h100 (p_v 2) p_int (fun _ _ => rfl)) .nil rfl)) (.cons (p_c tk C_read_doing (hr.mono (by decide)) (.cons (p_ix h100 (p_v 2) p_int (fun _ _ => rfl)) .nil rfl)) .nil rfl) rfl))))
      (ss_cons (s_if (DTP.toE (DWP.t (w_or (t_not (t_val (p_c tk C__law_is_row (hr.mono (by decide)) (.cons (p_ix h100 (p_v 6) p_int (fun _ _ => rfl)) (.cons (p_v 0) .nil rfl) rfl)))) (w_or1 (t_not (t_val (p_c tk C__law_is_doing (hr.mono (by decide)) (.cons (p_ix h100 (p_v 6) p_int (fun _ _ => rfl)) (.cons (p_v 1) .nil rfl) rfl))))))))
      (ss_one (s_ret (DP.toE p_bl)))
      ss_nil)
      (ss_cons (s_expr (e_nest1 PySem.F.plainAttrs_list PySem.F.slot_list_append PySem.F.type_list_append mt_append l_append (pv 6) p_int (fun _ _ => rfl) p_int))
      (ss_cons (s_expr (e_nest1 PySem.F.plainAttrs_list PySem.F.slot_list_append PySem.F.type_list_append mt_append l_append (pv 6) p_int (fun _ _ => rfl) (p_tup (.cons (p_un un_neg vNeg p_int) (.cons (p_un un_neg vNeg p_int) .nil rfl) rfl))))
      (ss_can [true, true, true, true, false, false, false, false, false] ss_nil)))))))))
      (ss_one (s_ret (DP.toE p_bl)))))))))
theorem sc_law : FnScope ["script", "cells", "cell", "row", "doing"] ["script"] (defScope st_law) := ⟨rfl, rfl, rfl, by decide +kernel, rfl, by decide +kernel, by decide +kernel⟩
theorem ok_law {f : Addr} {fd : FuncData} (F : Fun K "law" "law" st_law f fd) (B : Bt K mg) (C__law_any_doing : DCal P w K mg base 2 "_law_any_doing" ["cell", "k"] 2 [] F__law_any_doing) (C__law_any_row : DCal P w K mg base 2 "_law_any_row" ["cell", "k"] 2 [] F__law_any_row) (C__law_long : DCal P w K mg base 2 "_law_long" ["cell"] 1 [] F__law_long) (C__law_right : DCal P w K mg base 4 "_law_right" ["row", "doing"] 2 [] F__law_right) : FnOk P w K mg base (L2.CX P w) 5 f fd ["script"] (spF K mg 1 [] F_law) := by
  refine def_ok 1 5 [] (m_law) F sc_law rfl rfl (by decide) (by decide) fun cdv A outer s H E W hr tk => ?_
  have h100 := room100 hr
  have h65 := room65 hr
  have h64 := room64 hr
  have h1 := room1 hr
  have hp : PassesOwn (model P w) (A.deeper (envOfC "law" (defScope st_law) s.heap.objs.size f cdv)) (cxOf (L2.CX P w) P w K mg base ["script", "cells", "cell", "row", "doing"] "law" (defScope st_law) f cdv A outer s H E).env (cxOf (L2.CX P w) P w K mg base ["script", "cells", "cell", "row", "doing"] "law" (defScope st_law) f cdv A outer s H E).xe := PassesOwn.leaving
  exact (ss_low [0] (ss_can [true, true, true, true, true]
      (ss_cons (s_st 1 sc_law.nd (DP.toE (p_slHT (p_v 0) p_int)))
      (ss_cons (s_if (DTP.toE (t_cmp (op_eqT h64) vEqT (p_v 1) (p_lst .nil) (nomark _)))
      (ss_one (s_st 1 sc_law.nd (DP.toE (p_lst (.cons p_int .nil rfl)))))
      ss_nil)
      (ss_cons (s_can [false, true, false, false, false] (s_for hp rfl (di_seq (DP.toE (p_v 1))) (g_n 2 sc_law.nd) tg_name
      (ss_cons (s_if (DTP.toE (t_not (t_val (p_c tk C__law_right (hr.mono (by decide)) (.cons (p_c tk C__law_any_row (hr.mono (by decide)) (.cons (p_v 2) (.cons p_int .nil rfl) rfl)) (.cons (p_c tk C__law_any_doing (hr.mono (by decide)) (.cons (p_v 2) (.cons p_int .nil rfl) rfl)) .nil rfl) rfl)))))
      (ss_one (s_ret (DP.toE p_bl)))
      ss_nil)
      (ss_can [false, true, false, false, false] ss_nil))))
      (ss_cons (s_un (is := [3, 4]) rfl rfl (DP.toE (p_c tk C__law_long (hr.mono (by decide)) (.cons (p_ix h100 (p_v 1) p_int (fun _ _ => rfl)) .nil rfl))) (pgs_cons (g_n 3 sc_law.nd) (pgs_cons (g_n 4 sc_law.nd) pgs_nil)))
      (ss_cons (s_if (DTP.toE (t_not (t_val (p_c tk C__law_right (hr.mono (by decide)) (.cons (p_v 3) (.cons (p_v 4) .nil rfl) rfl)))))
      (ss_one (s_ret (DP.toE p_bl)))
      ss_nil)
      (ss_one (s_ret (DP.toE (p_and (p_c tk C__law_right (hr.mono (by decide)) (.cons (p_lst .nil) (.cons (p_lst .nil) .nil rfl) rfl)) (p_one (p_c tk C__law_right (hr.mono (by decide)) (.cons (p_lst (.cons p_int .nil rfl)) (.cons (p_lst (.cons (p_tup (.cons (p_un un_neg vNeg p_int) (.cons (p_un un_neg vNeg p_int) .nil rfl) rfl)) .nil rfl)) .nil rfl) rfl))))))))))))))
end
section
variable {P : Program} {w : World} {K : PySem.W.Frag} {h : Heap} {mg : Str → Option Value} {fa : Addr}
theorem all_mk (X : K.In h) (G : h.Ns mainGlobals mg) (hfa : mg "law" = some (.ref fa)) {t_FIGURES : Tok} {t_IN : Tok} {t_MOST_FIGURES : Tok} {t_NONE : Tok} {t_OUT : Tok} {X_NoText : Addr} {f__law_stir : Addr} {od__law_stir an__law_stir : Option Addr} {sl__law_stir : Array (Option Value)} {oc__law_stir kV__law_stir dc__law_stir pm__law_stir cd__law_stir ct__law_stir : Value} {f__law_any_doing : Addr} {od__law_any_doing an__law_any_doing : Option Addr} {sl__law_any_doing : Array (Option Value)} {oc__law_any_doing kV__law_any_doing dc__law_any_doing pm__law_any_doing cd__law_any_doing ct__law_any_doing : Value} {f__law_any_row : Addr} {od__law_any_row an__law_any_row : Option Addr} {sl__law_any_row : Array (Option Value)} {oc__law_any_row kV__law_any_row dc__law_any_row pm__law_any_row cd__law_any_row ct__law_any_row : Value} {f__law_long : Addr} {od__law_long an__law_long : Option Addr} {sl__law_long : Array (Option Value)} {oc__law_long kV__law_long dc__law_long pm__law_long cd__law_long ct__law_long : Value} {f__law_is_doing : Addr} {od__law_is_doing an__law_is_doing : Option Addr} {sl__law_is_doing : Array (Option Value)} {oc__law_is_doing kV__law_is_doing dc__law_is_doing pm__law_is_doing cd__law_is_doing ct__law_is_doing : Value} {f__law_is_row : Addr} {od__law_is_row an__law_is_row : Option Addr} {sl__law_is_row : Array (Option Value)} {oc__law_is_row kV__law_is_row dc__law_is_row pm__law_is_row cd__law_is_row ct__law_is_row : Value} {f__law_end : Addr} {od__law_end an__law_end : Option Addr} {sl__law_end : Array (Option Value)} {oc__law_end kV__law_end dc__law_end pm__law_end cd__law_end ct__law_end : Value} {f__law_way : Addr} {od__law_way an__law_way : Option Addr} {sl__law_way : Array (Option Value)} {oc__law_way kV__law_way dc__law_way pm__law_way cd__law_way ct__law_way : Value} {f_listed : Addr} {od_listed an_listed : Option Addr} {sl_listed : Array (Option Value)} {oc_listed kV_listed dc_listed pm_listed cd_listed ct_listed : Value} {f_end_text : Addr} {od_end_text an_end_text : Option Addr} {sl_end_text : Array (Option Value)} {oc_end_text kV_end_text dc_end_text pm_end_text cd_end_text ct_end_text : Value} {f_way_text : Addr} {od_way_text an_way_text : Option Addr} {sl_way_text : Array (Option Value)} {oc_way_text kV_way_text dc_way_text pm_way_text cd_way_text ct_way_text : Value} {f_doing_text : Addr} {od_doing_text an_doing_text : Option Addr} {sl_doing_text : Array (Option Value)} {oc_doing_text kV_doing_text dc_doing_text pm_doing_text cd_doing_text ct_doing_text : Value} {f_parts_told : Addr} {od_parts_told an_parts_told : Option Addr} {sl_parts_told : Array (Option Value)} {oc_parts_told kV_parts_told dc_parts_told pm_parts_told cd_parts_told ct_parts_told : Value} {f_figures_told : Addr} {od_figures_told an_figures_told : Option Addr} {sl_figures_told : Array (Option Value)} {oc_figures_told kV_figures_told dc_figures_told pm_figures_told cd_figures_told ct_figures_told : Value} {f_way_told : Addr} {od_way_told an_way_told : Option Addr} {sl_way_told : Array (Option Value)} {oc_way_told kV_way_told dc_way_told pm_way_told cd_way_told ct_way_told : Value} {f_read_doing : Addr} {od_read_doing an_read_doing : Option Addr} {sl_read_doing : Array (Option Value)} {oc_read_doing kV_read_doing dc_read_doing pm_read_doing cd_read_doing ct_read_doing : Value} {f_number_told : Addr} {od_number_told an_number_told : Option Addr} {sl_number_told : Array (Option Value)} {oc_number_told kV_number_told dc_number_told pm_number_told cd_number_told ct_number_told : Value} {f_read_row : Addr} {od_read_row an_read_row : Option Addr} {sl_read_row : Array (Option Value)} {oc_read_row kV_read_row dc_read_row pm_read_row cd_read_row ct_read_row : Value} {f_row_text : Addr} {od_row_text an_row_text : Option Addr} {sl_row_text : Array (Option Value)} {oc_row_text kV_row_text dc_row_text pm_row_text cd_row_text ct_row_text : Value} {f__law_right : Addr} {od__law_right an__law_right : Option Addr} {sl__law_right : Array (Option Value)} {oc__law_right kV__law_right dc__law_right pm__law_right cd__law_right ct__law_right : Value} {f_law : Addr} {od_law an_law : Option Addr} {sl_law : Array (Option Value)} {oc_law kV_law dc_law pm_law cd_law ct_law : Value}
    (b_bool : PySem.W.nsIn K mainGlobals "bool" = some none)
    (b_int : PySem.W.nsIn K mainGlobals "int" = some none)
    (b_isinstance : PySem.W.nsIn K mainGlobals "isinstance" = some none)
    (b_len : PySem.W.nsIn K mainGlobals "len" = some none)
    (b_list : PySem.W.nsIn K mainGlobals "list" = some none)
    (b_range : PySem.W.nsIn K mainGlobals "range" = some none)
    (b_str : PySem.W.nsIn K mainGlobals "str" = some none)
    (b_tuple : PySem.W.nsIn K mainGlobals "tuple" = some none)
    (c_FIGURES : PySem.W.nsIn K mainGlobals "FIGURES" = some (some (.str "0123456789" t_FIGURES)))
    (c_IN : PySem.W.nsIn K mainGlobals "IN" = some (some (.int (-1) t_IN)))
    (c_MOST_FIGURES : PySem.W.nsIn K mainGlobals "MOST_FIGURES" = some (some (.int 30 t_MOST_FIGURES)))
    (c_NONE : PySem.W.nsIn K mainGlobals "NONE" = some (some (.str "-" t_NONE)))
    (c_OUT : PySem.W.nsIn K mainGlobals "OUT" = some (some (.int (-2) t_OUT)))
    (x1_NoText : PySem.W.nsIn K mainGlobals "NoText" = some (some (.ref X_NoText)))
    (x2_NoText : PySem.W.excIn K X_NoText [.type "ValueError", .type "Exception", .type "BaseException", .type "object"] "ValueError.__new__" = true)
    (x3_NoText : PySem.W.keepIn K (.ref X_NoText) = true)
    (x4_NoText : PySem.W.subIn K (.ref X_NoText) (.type "BaseException") = some true)
    (x5_NoText : PySem.W.typeIn K (.ref X_NoText) = some (.type "type"))
    (a__law_stir : PySem.W.nsIn K mainGlobals "_law_stir" = some (some (.ref f__law_stir)))
    (l__law_stir : K.lookup f__law_stir = some ⟨oc__law_stir, od__law_stir, .func (PySem.W.fnOf "_law_stir" "_law_stir" (defArgs st__law_stir) (defBody st__law_stir) (defScope st__law_stir) .none kV__law_stir dc__law_stir pm__law_stir an__law_stir cd__law_stir ct__law_stir), sl__law_stir⟩)
    (d__law_stir : PySem.W.codeIn K cd__law_stir "_law_stir" = true)
    (k__law_stir : PySem.W.keepIn K (.ref f__law_stir) = true)
    (a__law_any_doing : PySem.W.nsIn K mainGlobals "_law_any_doing" = some (some (.ref f__law_any_doing)))
    (l__law_any_doing : K.lookup f__law_any_doing = some ⟨oc__law_any_doing, od__law_any_doing, .func (PySem.W.fnOf "_law_any_doing" "_law_any_doing" (defArgs st__law_any_doing) (defBody st__law_any_doing) (defScope st__law_any_doing) .none kV__law_any_doing dc__law_any_doing pm__law_any_doing an__law_any_doing cd__law_any_doing ct__law_any_doing), sl__law_any_doing⟩)
    (d__law_any_doing : PySem.W.codeIn K cd__law_any_doing "_law_any_doing" = true)
    (k__law_any_doing : PySem.W.keepIn K (.ref f__law_any_doing) = true)
    (a__law_any_row : PySem.W.nsIn K mainGlobals "_law_any_row" = some (some (.ref f__law_any_row)))
    (l__law_any_row : K.lookup f__law_any_row = some ⟨oc__law_any_row, od__law_any_row, .func (PySem.W.fnOf "_law_any_row" "_law_any_row" (defArgs st__law_any_row) (defBody st__law_any_row) (defScope st__law_any_row) .none kV__law_any_row dc__law_any_row pm__law_any_row an__law_any_row cd__law_any_row ct__law_any_row), sl__law_any_row⟩)
    (d__law_any_row : PySem.W.codeIn K cd__law_any_row "_law_any_row" = true)
    (k__law_any_row : PySem.W.keepIn K (.ref f__law_any_row) = true)
    (a__law_long : PySem.W.nsIn K mainGlobals "_law_long" = some (some (.ref f__law_long)))
    (l__law_long : K.lookup f__law_long = some ⟨oc__law_long, od__law_long, .func (PySem.W.fnOf "_law_long" "_law_long" (defArgs st__law_long) (defBody st__law_long) (defScope st__law_long) .none kV__law_long dc__law_long pm__law_long an__law_long cd__law_long ct__law_long), sl__law_long⟩)
    (d__law_long : PySem.W.codeIn K cd__law_long "_law_long" = true)
    (k__law_long : PySem.W.keepIn K (.ref f__law_long) = true)
    (a__law_is_doing : PySem.W.nsIn K mainGlobals "_law_is_doing" = some (some (.ref f__law_is_doing)))
    (l__law_is_doing : K.lookup f__law_is_doing = some ⟨oc__law_is_doing, od__law_is_doing, .func (PySem.W.fnOf "_law_is_doing" "_law_is_doing" (defArgs st__law_is_doing) (defBody st__law_is_doing) (defScope st__law_is_doing) .none kV__law_is_doing dc__law_is_doing pm__law_is_doing an__law_is_doing cd__law_is_doing ct__law_is_doing), sl__law_is_doing⟩)
    (d__law_is_doing : PySem.W.codeIn K cd__law_is_doing "_law_is_doing" = true)
    (k__law_is_doing : PySem.W.keepIn K (.ref f__law_is_doing) = true)
    (a__law_is_row : PySem.W.nsIn K mainGlobals "_law_is_row" = some (some (.ref f__law_is_row)))
    (l__law_is_row : K.lookup f__law_is_row = some ⟨oc__law_is_row, od__law_is_row, .func (PySem.W.fnOf "_law_is_row" "_law_is_row" (defArgs st__law_is_row) (defBody st__law_is_row) (defScope st__law_is_row) .none kV__law_is_row dc__law_is_row pm__law_is_row an__law_is_row cd__law_is_row ct__law_is_row), sl__law_is_row⟩)
    (d__law_is_row : PySem.W.codeIn K cd__law_is_row "_law_is_row" = true)
    (k__law_is_row : PySem.W.keepIn K (.ref f__law_is_row) = true)
    (a__law_end : PySem.W.nsIn K mainGlobals "_law_end" = some (some (.ref f__law_end)))
    (l__law_end : K.lookup f__law_end = some ⟨oc__law_end, od__law_end, .func (PySem.W.fnOf "_law_end" "_law_end" (defArgs st__law_end) (defBody st__law_end) (defScope st__law_end) .none kV__law_end dc__law_end pm__law_end an__law_end cd__law_end ct__law_end), sl__law_end⟩)
    (d__law_end : PySem.W.codeIn K cd__law_end "_law_end" = true)
    (k__law_end : PySem.W.keepIn K (.ref f__law_end) = true)
    (a__law_way : PySem.W.nsIn K mainGlobals "_law_way" = some (some (.ref f__law_way)))
    (l__law_way : K.lookup f__law_way = some ⟨oc__law_way, od__law_way, .func (PySem.W.fnOf "_law_way" "_law_way" (defArgs st__law_way) (defBody st__law_way) (defScope st__law_way) .none kV__law_way dc__law_way pm__law_way an__law_way cd__law_way ct__law_way), sl__law_way⟩)
    (d__law_way : PySem.W.codeIn K cd__law_way "_law_way" = true)
    (k__law_way : PySem.W.keepIn K (.ref f__law_way) = true)
    (a_listed : PySem.W.nsIn K mainGlobals "listed" = some (some (.ref f_listed)))
    (l_listed : K.lookup f_listed = some ⟨oc_listed, od_listed, .func (PySem.W.fnOf "listed" "listed" (defArgs st_listed) (defBody st_listed) (defScope st_listed) .none kV_listed dc_listed pm_listed an_listed cd_listed ct_listed), sl_listed⟩)
    (d_listed : PySem.W.codeIn K cd_listed "listed" = true)
    (k_listed : PySem.W.keepIn K (.ref f_listed) = true)
    (a_end_text : PySem.W.nsIn K mainGlobals "end_text" = some (some (.ref f_end_text)))
    (l_end_text : K.lookup f_end_text = some ⟨oc_end_text, od_end_text, .func (PySem.W.fnOf "end_text" "end_text" (defArgs st_end_text) (defBody st_end_text) (defScope st_end_text) .none kV_end_text dc_end_text pm_end_text an_end_text cd_end_text ct_end_text), sl_end_text⟩)
    (d_end_text : PySem.W.codeIn K cd_end_text "end_text" = true)
    (k_end_text : PySem.W.keepIn K (.ref f_end_text) = true)
    (a_way_text : PySem.W.nsIn K mainGlobals "way_text" = some (some (.ref f_way_text)))
    (l_way_text : K.lookup f_way_text = some ⟨oc_way_text, od_way_text, .func (PySem.W.fnOf "way_text" "way_text" (defArgs st_way_text) (defBody st_way_text) (defScope st_way_text) .none kV_way_text dc_way_text pm_way_text an_way_text cd_way_text ct_way_text), sl_way_text⟩)
    (d_way_text : PySem.W.codeIn K cd_way_text "way_text" = true)
    (k_way_text : PySem.W.keepIn K (.ref f_way_text) = true)
    (a_doing_text : PySem.W.nsIn K mainGlobals "doing_text" = some (some (.ref f_doing_text)))
    (l_doing_text : K.lookup f_doing_text = some ⟨oc_doing_text, od_doing_text, .func (PySem.W.fnOf "doing_text" "doing_text" (defArgs st_doing_text) (defBody st_doing_text) (defScope st_doing_text) .none kV_doing_text dc_doing_text pm_doing_text an_doing_text cd_doing_text ct_doing_text), sl_doing_text⟩)
    (d_doing_text : PySem.W.codeIn K cd_doing_text "doing_text" = true)
    (k_doing_text : PySem.W.keepIn K (.ref f_doing_text) = true)
    (a_parts_told : PySem.W.nsIn K mainGlobals "parts_told" = some (some (.ref f_parts_told)))
    (l_parts_told : K.lookup f_parts_told = some ⟨oc_parts_told, od_parts_told, .func (PySem.W.fnOf "parts_told" "parts_told" (defArgs st_parts_told) (defBody st_parts_told) (defScope st_parts_told) .none kV_parts_told dc_parts_told pm_parts_told an_parts_told cd_parts_told ct_parts_told), sl_parts_told⟩)
    (d_parts_told : PySem.W.codeIn K cd_parts_told "parts_told" = true)
    (k_parts_told : PySem.W.keepIn K (.ref f_parts_told) = true)
    (a_figures_told : PySem.W.nsIn K mainGlobals "figures_told" = some (some (.ref f_figures_told)))
    (l_figures_told : K.lookup f_figures_told = some ⟨oc_figures_told, od_figures_told, .func (PySem.W.fnOf "figures_told" "figures_told" (defArgs st_figures_told) (defBody st_figures_told) (defScope st_figures_told) .none kV_figures_told dc_figures_told pm_figures_told an_figures_told cd_figures_told ct_figures_told), sl_figures_told⟩)
    (d_figures_told : PySem.W.codeIn K cd_figures_told "figures_told" = true)
    (k_figures_told : PySem.W.keepIn K (.ref f_figures_told) = true)
    (a_way_told : PySem.W.nsIn K mainGlobals "way_told" = some (some (.ref f_way_told)))
    (l_way_told : K.lookup f_way_told = some ⟨oc_way_told, od_way_told, .func (PySem.W.fnOf "way_told" "way_told" (defArgs st_way_told) (defBody st_way_told) (defScope st_way_told) .none kV_way_told dc_way_told pm_way_told an_way_told cd_way_told ct_way_told), sl_way_told⟩)
    (d_way_told : PySem.W.codeIn K cd_way_told "way_told" = true)
    (k_way_told : PySem.W.keepIn K (.ref f_way_told) = true)
    (a_read_doing : PySem.W.nsIn K mainGlobals "read_doing" = some (some (.ref f_read_doing)))
    (l_read_doing : K.lookup f_read_doing = some ⟨oc_read_doing, od_read_doing, .func (PySem.W.fnOf "read_doing" "read_doing" (defArgs st_read_doing) (defBody st_read_doing) (defScope st_read_doing) .none kV_read_doing dc_read_doing pm_read_doing an_read_doing cd_read_doing ct_read_doing), sl_read_doing⟩)
    (d_read_doing : PySem.W.codeIn K cd_read_doing "read_doing" = true)
    (k_read_doing : PySem.W.keepIn K (.ref f_read_doing) = true)
    (a_number_told : PySem.W.nsIn K mainGlobals "number_told" = some (some (.ref f_number_told)))
    (l_number_told : K.lookup f_number_told = some ⟨oc_number_told, od_number_told, .func (PySem.W.fnOf "number_told" "number_told" (defArgs st_number_told) (defBody st_number_told) (defScope st_number_told) .none kV_number_told dc_number_told pm_number_told an_number_told cd_number_told ct_number_told), sl_number_told⟩)
    (d_number_told : PySem.W.codeIn K cd_number_told "number_told" = true)
    (k_number_told : PySem.W.keepIn K (.ref f_number_told) = true)
    (a_read_row : PySem.W.nsIn K mainGlobals "read_row" = some (some (.ref f_read_row)))
    (l_read_row : K.lookup f_read_row = some ⟨oc_read_row, od_read_row, .func (PySem.W.fnOf "read_row" "read_row" (defArgs st_read_row) (defBody st_read_row) (defScope st_read_row) .none kV_read_row dc_read_row pm_read_row an_read_row cd_read_row ct_read_row), sl_read_row⟩)
    (d_read_row : PySem.W.codeIn K cd_read_row "read_row" = true)
    (k_read_row : PySem.W.keepIn K (.ref f_read_row) = true)
    (a_row_text : PySem.W.nsIn K mainGlobals "row_text" = some (some (.ref f_row_text)))
    (l_row_text : K.lookup f_row_text = some ⟨oc_row_text, od_row_text, .func (PySem.W.fnOf "row_text" "row_text" (defArgs st_row_text) (defBody st_row_text) (defScope st_row_text) .none kV_row_text dc_row_text pm_row_text an_row_text cd_row_text ct_row_text), sl_row_text⟩)
    (d_row_text : PySem.W.codeIn K cd_row_text "row_text" = true)
    (k_row_text : PySem.W.keepIn K (.ref f_row_text) = true)
    (a__law_right : PySem.W.nsIn K mainGlobals "_law_right" = some (some (.ref f__law_right)))
    (l__law_right : K.lookup f__law_right = some ⟨oc__law_right, od__law_right, .func (PySem.W.fnOf "_law_right" "_law_right" (defArgs st__law_right) (defBody st__law_right) (defScope st__law_right) .none kV__law_right dc__law_right pm__law_right an__law_right cd__law_right ct__law_right), sl__law_right⟩)
    (d__law_right : PySem.W.codeIn K cd__law_right "_law_right" = true)
    (k__law_right : PySem.W.keepIn K (.ref f__law_right) = true)
    (a_law : PySem.W.nsIn K mainGlobals "law" = some (some (.ref f_law)))
    (l_law : K.lookup f_law = some ⟨oc_law, od_law, .func (PySem.W.fnOf "law" "law" (defArgs st_law) (defBody st_law) (defScope st_law) .none kV_law dc_law pm_law an_law cd_law ct_law), sl_law⟩)
    (d_law : PySem.W.codeIn K cd_law "law" = true)
    (k_law : PySem.W.keepIn K (.ref f_law) = true)
    : ∃ fd : FuncData, (∀ (s : Shared) (u : Value), BindsTo s fd ⟨[u], []⟩ [("script", u)]) ∧ ∀ base : Heap, K.In base → base.Ns mainGlobals mg → FnOk P w K mg base (L2.CX P w) 5 fa fd ["script"] (spF K mg 1 [] F_law) := by
  have e := hfa.symm.trans (PySem.W.mg_of X G a_law)
  cases e
  have B : Bt K mg := ⟨PySem.W.mg_none_of X G b_bool, PySem.W.mg_none_of X G b_int, PySem.W.mg_none_of X G b_isinstance, PySem.W.mg_none_of X G b_len, PySem.W.mg_none_of X G b_list, PySem.W.mg_none_of X G b_range, PySem.W.mg_none_of X G b_str, PySem.W.mg_none_of X G b_tuple, ⟨_, PySem.W.mg_of X G c_FIGURES⟩, ⟨_, PySem.W.mg_of X G c_IN⟩, ⟨_, PySem.W.mg_of X G c_MOST_FIGURES⟩, ⟨_, PySem.W.mg_of X G c_NONE⟩, ⟨_, PySem.W.mg_of X G c_OUT⟩, ⟨_, x2_NoText, PySem.W.mg_of X G x1_NoText, x3_NoText, x4_NoText, x5_NoText⟩⟩
  have F__law_stir' := fun_mk (st := st__law_stir) l__law_stir d__law_stir k__law_stir
  have n__law_stir := F__law_stir'.binds (ps := ["cell", "k"]) fun _ _ _ _ _ _ us hl => match us, hl with | [_, _], _ => rfl
  have F__law_any_doing' := fun_mk (st := st__law_any_doing) l__law_any_doing d__law_any_doing k__law_any_doing
  have n__law_any_doing := F__law_any_doing'.binds (ps := ["cell", "k"]) fun _ _ _ _ _ _ us hl => match us, hl with | [_, _], _ => rfl
  have F__law_any_row' := fun_mk (st := st__law_any_row) l__law_any_row d__law_any_row k__law_any_row
  have n__law_any_row := F__law_any_row'.binds (ps := ["cell", "k"]) fun _ _ _ _ _ _ us hl => match us, hl with | [_, _], _ => rfl
  have F__law_long' := fun_mk (st := st__law_long) l__law_long d__law_long k__law_long
  have n__law_long := F__law_long'.binds (ps := ["cell"]) fun _ _ _ _ _ _ us hl => match us, hl with | [_], _ => rfl
  have F__law_is_doing' := fun_mk (st := st__law_is_doing) l__law_is_doing d__law_is_doing k__law_is_doing
  have n__law_is_doing := F__law_is_doing'.binds (ps := ["found", "due"]) fun _ _ _ _ _ _ us hl => match us, hl with | [_, _], _ => rfl
  have F__law_is_row' := fun_mk (st := st__law_is_row) l__law_is_row d__law_is_row k__law_is_row
  have n__law_is_row := F__law_is_row'.binds (ps := ["found", "due"]) fun _ _ _ _ _ _ us hl => match us, hl with | [_, _], _ => rfl
  have F__law_end' := fun_mk (st := st__law_end) l__law_end d__law_end k__law_end
  have n__law_end := F__law_end'.binds (ps := ["place"]) fun _ _ _ _ _ _ us hl => match us, hl with | [_], _ => rfl
  have F__law_way' := fun_mk (st := st__law_way) l__law_way d__law_way k__law_way
  have n__law_way := F__law_way'.binds (ps := ["way"]) fun _ _ _ _ _ _ us hl => match us, hl with | [_], _ => rfl
  have F_listed' := fun_mk (st := st_listed) l_listed d_listed k_listed
  have n_listed := F_listed'.binds (ps := ["words", "between"]) fun _ _ _ _ _ _ us hl => match us, hl with | [_, _], _ => rfl
  have F_end_text' := fun_mk (st := st_end_text) l_end_text d_end_text k_end_text
  have n_end_text := F_end_text'.binds (ps := ["place"]) fun _ _ _ _ _ _ us hl => match us, hl with | [_], _ => rfl
  have F_way_text' := fun_mk (st := st_way_text) l_way_text d_way_text k_way_text
  have n_way_text := F_way_text'.binds (ps := ["way"]) fun _ _ _ _ _ _ us hl => match us, hl with | [_], _ => rfl
  have F_doing_text' := fun_mk (st := st_doing_text) l_doing_text d_doing_text k_doing_text
  have n_doing_text := F_doing_text'.binds (ps := ["doing"]) fun _ _ _ _ _ _ us hl => match us, hl with | [_], _ => rfl
  have F_parts_told' := fun_mk (st := st_parts_told) l_parts_told d_parts_told k_parts_told
  have n_parts_told := F_parts_told'.binds (ps := ["text", "between"]) fun _ _ _ _ _ _ us hl => match us, hl with | [_, _], _ => rfl
  have F_figures_told' := fun_mk (st := st_figures_told) l_figures_told d_figures_told k_figures_told
  have n_figures_told := F_figures_told'.binds (ps := ["word"]) fun _ _ _ _ _ _ us hl => match us, hl with | [_], _ => rfl
  have F_way_told' := fun_mk (st := st_way_told) l_way_told d_way_told k_way_told
  have n_way_told := F_way_told'.binds (ps := ["text"]) fun _ _ _ _ _ _ us hl => match us, hl with | [_], _ => rfl
  have F_read_doing' := fun_mk (st := st_read_doing) l_read_doing d_read_doing k_read_doing
  have n_read_doing := F_read_doing'.binds (ps := ["text"]) fun _ _ _ _ _ _ us hl => match us, hl with | [_], _ => rfl
  have F_number_told' := fun_mk (st := st_number_told) l_number_told d_number_told k_number_told
  have n_number_told := F_number_told'.binds (ps := ["word"]) fun _ _ _ _ _ _ us hl => match us, hl with | [_], _ => rfl
  have F_read_row' := fun_mk (st := st_read_row) l_read_row d_read_row k_read_row
  have n_read_row := F_read_row'.binds (ps := ["text"]) fun _ _ _ _ _ _ us hl => match us, hl with | [_], _ => rfl
  have F_row_text' := fun_mk (st := st_row_text) l_row_text d_row_text k_row_text
  have n_row_text := F_row_text'.binds (ps := ["row"]) fun _ _ _ _ _ _ us hl => match us, hl with | [_], _ => rfl
  have F__law_right' := fun_mk (st := st__law_right) l__law_right d__law_right k__law_right
  have n__law_right := F__law_right'.binds (ps := ["row", "doing"]) fun _ _ _ _ _ _ us hl => match us, hl with | [_, _], _ => rfl
  have F_law' := fun_mk (st := st_law) l_law d_law k_law
  have n_law := F_law'.binds (ps := ["script"]) fun _ _ _ _ _ _ us hl => match us, hl with | [_], _ => rfl
  refine ⟨PySem.W.fnOf "law" "law" (defArgs st_law) (defBody st_law) (defScope st_law) .none kV_law dc_law pm_law an_law cd_law ct_law, fun s u => .of_eq rfl, fun base _ _ => ?_⟩
  have C__law_stir : DCal P w K mg base 1 "_law_stir" ["cell", "k"] 2 [] F__law_stir := ⟨_, _, ok__law_stir F__law_stir' B , PySem.W.mg_of X G a__law_stir, k__law_stir, n__law_stir⟩
  have C__law_any_doing : DCal P w K mg base 2 "_law_any_doing" ["cell", "k"] 2 [] F__law_any_doing := ⟨_, _, ok__law_any_doing F__law_any_doing' B C__law_stir, PySem.W.mg_of X G a__law_any_doing, k__law_any_doing, n__law_any_doing⟩
  have C__law_any_row : DCal P w K mg base 2 "_law_any_row" ["cell", "k"] 2 [] F__law_any_row := ⟨_, _, ok__law_any_row F__law_any_row' B C__law_stir, PySem.W.mg_of X G a__law_any_row, k__law_any_row, n__law_any_row⟩
  have C__law_long : DCal P w K mg base 2 "_law_long" ["cell"] 1 [] F__law_long := ⟨_, _, ok__law_long F__law_long' B C__law_stir, PySem.W.mg_of X G a__law_long, k__law_long, n__law_long⟩
  have C__law_is_doing : DCal P w K mg base 1 "_law_is_doing" ["found", "due"] 2 [] F__law_is_doing := ⟨_, _, ok__law_is_doing F__law_is_doing' B , PySem.W.mg_of X G a__law_is_doing, k__law_is_doing, n__law_is_doing⟩
  have C__law_is_row : DCal P w K mg base 1 "_law_is_row" ["found", "due"] 2 [] F__law_is_row := ⟨_, _, ok__law_is_row F__law_is_row' B , PySem.W.mg_of X G a__law_is_row, k__law_is_row, n__law_is_row⟩
  have C__law_end : DCal P w K mg base 1 "_law_end" ["place"] 1 [] F__law_end := ⟨_, _, ok__law_end F__law_end' B , PySem.W.mg_of X G a__law_end, k__law_end, n__law_end⟩
  have C__law_way : DCal P w K mg base 2 "_law_way" ["way"] 1 [] F__law_way := ⟨_, _, ok__law_way F__law_way' B C__law_end, PySem.W.mg_of X G a__law_way, k__law_way, n__law_way⟩
  have C_listed : DCal P w K mg base 1 "listed" ["words", "between"] 2 [] F_listed := ⟨_, _, ok_listed F_listed' B , PySem.W.mg_of X G a_listed, k_listed, n_listed⟩
  have C_end_text : DCal P w K mg base 1 "end_text" ["place"] 1 [] F_end_text := ⟨_, _, ok_end_text F_end_text' B , PySem.W.mg_of X G a_end_text, k_end_text, n_end_text⟩
  have C_way_text : DCal P w K mg base 2 "way_text" ["way"] 1 [] F_way_text := ⟨_, _, ok_way_text F_way_text' B C_end_text, PySem.W.mg_of X G a_way_text, k_way_text, n_way_text⟩
  have C_doing_text : DCal P w K mg base 3 "doing_text" ["doing"] 1 [] F_doing_text := ⟨_, _, ok_doing_text F_doing_text' B C_listed C_way_text, PySem.W.mg_of X G a_doing_text, k_doing_text, n_doing_text⟩
  have C_parts_told : DCal P w K mg base 1 "parts_told" ["text", "between"] 2 [] F_parts_told := ⟨_, _, ok_parts_told F_parts_told' B , PySem.W.mg_of X G a_parts_told, k_parts_told, n_parts_told⟩
  have C_figures_told : DCal P w K mg base 1 "figures_told" ["word"] 1 [] F_figures_told := ⟨_, _, ok_figures_told F_figures_told' B , PySem.W.mg_of X G a_figures_told, k_figures_told, n_figures_told⟩
  have C_way_told : DCal P w K mg base 2 "way_told" ["text"] 1 [] F_way_told := ⟨_, _, ok_way_told F_way_told' B C_figures_told, PySem.W.mg_of X G a_way_told, k_way_told, n_way_told⟩
  have C_read_doing : DCal P w K mg base 3 "read_doing" ["text"] 1 [] F_read_doing := ⟨_, _, ok_read_doing F_read_doing' B C_parts_told C_way_told, PySem.W.mg_of X G a_read_doing, k_read_doing, n_read_doing⟩
  have C_number_told : DCal P w K mg base 2 "number_told" ["word"] 1 [] F_number_told := ⟨_, _, ok_number_told F_number_told' B C_figures_told, PySem.W.mg_of X G a_number_told, k_number_told, n_number_told⟩
  have C_read_row : DCal P w K mg base 3 "read_row" ["text"] 1 [] F_read_row := ⟨_, _, ok_read_row F_read_row' B C_number_told C_parts_told, PySem.W.mg_of X G a_read_row, k_read_row, n_read_row⟩
  have C_row_text : DCal P w K mg base 2 "row_text" ["row"] 1 [] F_row_text := ⟨_, _, ok_row_text F_row_text' B C_listed, PySem.W.mg_of X G a_row_text, k_row_text, n_row_text⟩
  have C__law_right : DCal P w K mg base 4 "_law_right" ["row", "doing"] 2 [] F__law_right := ⟨_, _, ok__law_right F__law_right' B C__law_is_doing C__law_is_row C__law_way C_doing_text C_read_doing C_read_row C_row_text, PySem.W.mg_of X G a__law_right, k__law_right, n__law_right⟩
  exact ok_law F_law' B C__law_any_doing C__law_any_row C__law_long C__law_right
end
theorem walk_law {l : PySem.W.OpenLaw} {q : Program} {loose : List Str} {XP : (Str → Option Value) → Heap → Prop} {YP : World → Heap → Prop} {d : DefRec} {K : Params → PySem.W.Frag} (hn : l.most = some 63) (hdf : d.params.defaults = [])
    (hY : ∀ (w : World) (h : Heap), YP w h → (K w.params).In h)
    (F : ∀ (w : World) (mg : Str → Option Value) (fa : Addr) (h : Heap), (K w.params).In h → h.Ns mainGlobals mg → mg d.name = some (.ref fa) →
      ∃ fd : FuncData, (∀ (s : Shared) (u : Value), BindsTo s fd ⟨[u], []⟩ [("script", u)]) ∧ ∀ base : Heap, (K w.params).In base → base.Ns mainGlobals mg → FnOk l.prog w (K w.params) mg base (L2.CX l.prog w) 5 fa fd ["script"] (spF (K w.params) mg 1 [] F_law)) :
    PySem.W.WalkO q loose XP YP l.row.toRowW d [] (fun f vs => PySem.call f vs) :=
  L2.walk_of (n := 63) (k := 5) (x := "script") (CX := fun w => L2.CX l.prog w) (sp := fun w => spLaw (K w.params) F_law) hn (by decide) hdf ⟨rfl, by decide, by decide⟩ hY (fun w mg fa h a b c => by
    obtain ⟨fd, h1, h2⟩ := F w mg fa h a b c
    exact ⟨fd, h1, fun base x y => (h2 base x y).imp fun vs H Q E z => z mg⟩) (fun w H a ns hl hO hS => spLaw_of law_true hl hO hS) fun w H s e s' c => cx_false c
end LW
open PySem PySem.W PyProof.Rows
theorem PySem.Challenge.cw_pilenets_k76_rows_and_doings_written_holds : PySem.Challenge.rw_pilenets_k76_rows_and_doings_written.Holds := by
  w_on; o_law; k_head; (case hw => w_witness2)
  k_fill
  refine LW.walk_law (l := PySem.Challenge.rw_pilenets_k76_rows_and_doings_written) rfl rfl (fun w h Y => PySem.W.kIn_of Y) ?F
  case F =>
    intro w mg fa h KX G hmg
    refine' LW.all_mk KX G hmg ?b_bool ?b_int ?b_isinstance ?b_len ?b_list ?b_range ?b_str ?b_tuple ?c_FIGURES ?c_IN ?c_MOST_FIGURES ?c_NONE ?c_OUT ?x1_NoText ?x2_NoText ?x3_NoText ?x4_NoText ?x5_NoText ?a__law_stir ?l__law_stir ?d__law_stir ?k__law_stir ?a__law_any_doing ?l__law_any_doing ?d__law_any_doing ?k__law_any_doing ?a__law_any_row ?l__law_any_row ?d__law_any_row ?k__law_any_row ?a__law_long ?l__law_long ?d__law_long ?k__law_long ?a__law_is_doing ?l__law_is_doing ?d__law_is_doing ?k__law_is_doing ?a__law_is_row ?l__law_is_row ?d__law_is_row ?k__law_is_row ?a__law_end ?l__law_end ?d__law_end ?k__law_end ?a__law_way ?l__law_way ?d__law_way ?k__law_way ?a_listed ?l_listed ?d_listed ?k_listed ?a_end_text ?l_end_text ?d_end_text ?k_end_text ?a_way_text ?l_way_text ?d_way_text ?k_way_text ?a_doing_text ?l_doing_text ?d_doing_text ?k_doing_text ?a_parts_told ?l_parts_told ?d_parts_told ?k_parts_told ?a_figures_told ?l_figures_told ?d_figures_told ?k_figures_told ?a_way_told ?l_way_told ?d_way_told ?k_way_told ?a_read_doing ?l_read_doing ?d_read_doing ?k_read_doing ?a_number_told ?l_number_told ?d_number_told ?k_number_told ?a_read_row ?l_read_row ?d_read_row ?k_read_row ?a_row_text ?l_row_text ?d_row_text ?k_row_text ?a__law_right ?l__law_right ?d__law_right ?k__law_right ?a_law ?l_law ?d_law ?k_law
    (case b_bool => k_is)
    (case b_int => k_is)
    (case b_isinstance => k_is)
    (case b_len => k_is)
    (case b_list => k_is)
    (case b_range => k_is)
    (case b_str => k_is)
    (case b_tuple => k_is)
    (case c_FIGURES => k_is)
    (case c_IN => k_is)
    (case c_MOST_FIGURES => k_is)
    (case c_NONE => k_is)
    (case c_OUT => k_is)
    (case x1_NoText => k_is)
    (case x2_NoText => k_exc)
    (case x3_NoText => k_is)
    (case x4_NoText => k_is)
    (case x5_NoText => k_is)
    (case a__law_stir => k_is)
    (case l__law_stir => k_is)
    (case d__law_stir => k_is)
    (case k__law_stir => k_is)
    (case a__law_any_doing => k_is)
    (case l__law_any_doing => k_is)
    (case d__law_any_doing => k_is)
    (case k__law_any_doing => k_is)
    (case a__law_any_row => k_is)
    (case l__law_any_row => k_is)
    (case d__law_any_row => k_is)
    (case k__law_any_row => k_is)
    (case a__law_long => k_is)
    (case l__law_long => k_is)
    (case d__law_long => k_is)
    (case k__law_long => k_is)
    (case a__law_is_doing => k_is)
    (case l__law_is_doing => k_is)
    (case d__law_is_doing => k_is)
    (case k__law_is_doing => k_is)
    (case a__law_is_row => k_is)
    (case l__law_is_row => k_is)
    (case d__law_is_row => k_is)
    (case k__law_is_row => k_is)
    (case a__law_end => k_is)
    (case l__law_end => k_is)
    (case d__law_end => k_is)
    (case k__law_end => k_is)
    (case a__law_way => k_is)
    (case l__law_way => k_is)
    (case d__law_way => k_is)
    (case k__law_way => k_is)
    (case a_listed => k_is)
    (case l_listed => k_is)
    (case d_listed => k_is)
    (case k_listed => k_is)
    (case a_end_text => k_is)
    (case l_end_text => k_is)
    (case d_end_text => k_is)
    (case k_end_text => k_is)
    (case a_way_text => k_is)
    (case l_way_text => k_is)
    (case d_way_text => k_is)
    (case k_way_text => k_is)
    (case a_doing_text => k_is)
    (case l_doing_text => k_is)
    (case d_doing_text => k_is)
    (case k_doing_text => k_is)
    (case a_parts_told => k_is)
    (case l_parts_told => k_is)
    (case d_parts_told => k_is)
    (case k_parts_told => k_is)
    (case a_figures_told => k_is)
    (case l_figures_told => k_is)
    (case d_figures_told => k_is)
    (case k_figures_told => k_is)
    (case a_way_told => k_is)
    (case l_way_told => k_is)
    (case d_way_told => k_is)
    (case k_way_told => k_is)
    (case a_read_doing => k_is)
    (case l_read_doing => k_is)
    (case d_read_doing => k_is)
    (case k_read_doing => k_is)
    (case a_number_told => k_is)
    (case l_number_told => k_is)
    (case d_number_told => k_is)
    (case k_number_told => k_is)
    (case a_read_row => k_is)
    (case l_read_row => k_is)
    (case d_read_row => k_is)
    (case k_read_row => k_is)
    (case a_row_text => k_is)
    (case l_row_text => k_is)
    (case d_row_text => k_is)
    (case k_row_text => k_is)
    (case a__law_right => k_is)
    (case l__law_right => k_is)
    (case d__law_right => k_is)
    (case k__law_right => k_is)
    (case a_law => k_is)
    (case l_law => k_is)
    (case d_law => k_is)
    (case k_law => k_is)
#print axioms PySem.Challenge.cw_pilenets_k76_rows_and_doings_written_holds
