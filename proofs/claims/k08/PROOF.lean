import PyProof.Rows.All
import Wide.All
import OpenK.AllK
import Wide.FinOn
import HandS.ForMost
import HandS.ForExc
import HandS.CallSlots
import HandS.TupAny
import HandS.Wide
import HandS.Zip
import KE.GoesEnum
import KE.GoesZip
import HandS.Star
import HandS.RaiseMore
import HandS.Style
import PySem.Challenge.RW_spanwidths_k08_cells_that_hold_the_width
set_option Elab.async false
set_option linter.all false
set_option maxRecDepth 100000
namespace Dl
open PySem L2

/-- the written part -/
class Kc where
  k : PySem.W.Frag
variable [Kc]

/-- plain data -/
inductive D where
  | non
  | bl (b : Bool)
  | int (i : Int)
  | str (x : Str)
  | tup (l : List D)
  | lst (l : List D)
  | dct (ks : List Key) (l : List D)
  | fl (l : List Int)

/-- what a name holds: data, or a list of its own -/
inductive O where
  | val (d : D)
  | lst (l : List O)

mutual
def frz : O → D
  | .val d => d
  | .lst l => .lst (frzs l)
def frzs : List O → List D
  | [] => []
  | o :: l => frz o :: frzs l
end
theorem frzs_eq : ∀ l : List O, frzs l = l.map frz
  | [] => rfl
  | o :: l => by rw [frzs, List.map_cons, frzs_eq l]
theorem frzs_val (ds : List D) : frzs (ds.map O.val) = ds := by
  induction ds with
  | nil => rfl
  | cons d ds ih => rw [List.map_cons, frzs, ih]; rfl

/-- a list of the written part -/
def KL (K : PySem.W.Frag) (p : Addr) (xs : List V) : Prop := ∃ (o : Obj) (its : Array Value) (n : Nat),
  K.lookup p = some o ∧ o.cls = .type "list" ∧ o.dict = none ∧ o.data = .seq its n ∧ its.size ≤ sizeLine ∧ Vals xs its.toList
mutual
inductive Rep (W : Addr → Prop) (H : Hp) : V → D → Prop
  | non : Rep W H .non .non
  | bl (b : Bool) : Rep W H (.bl b) (.bl b)
  | int (i : Int) : Rep W H (.int i) (.int i)
  | str (x : Str) : Rep W H (.str x) (.str x)
  | tup {p : Addr} {vs : List V} {ds : List D} : ¬ W p → H p = some (.tup vs) → Reps W H vs ds → Rep W H (.ref p) (.tup ds)
  | lst {p : Addr} {vs : List V} {ds : List D} : ¬ W p → H p = some (.lst vs) → Reps W H vs ds → Rep W H (.ref p) (.lst ds)
  | dct {p : Addr} {kvs : List (Key × V)} {ds : List D} : ¬ W p → H p = some (.dK kvs) → Reps W H (kvs.map (·.2)) ds → Rep W H (.ref p) (.dct (kvs.map (·.1)) ds)
  | fl {p : Addr} {ns : List Int} : ((¬ W p ∧ ∃ o, H p = some (.frz o (.lst (ns.map V.int)))) ∨ KL Kc.k p (ns.map V.int)) → Rep W H (.ref p) (.fl ns)
inductive Reps (W : Addr → Prop) (H : Hp) : List V → List D → Prop
  | nil : Reps W H [] []
  | cons {v : V} {vs : List V} {d : D} {ds : List D} : Rep W H v d → Reps W H vs ds → Reps W H (v :: vs) (d :: ds)
end

/-- what is not volatile stays as it is, and is not volatile then -/
def Stay (W : Addr → Prop) (H : Hp) (W' : Addr → Prop) (H' : Hp) : Prop := ∀ p o, ¬ W p → H p = some o → H' p = some o ∧ ¬ W' p
mutual
theorem Rep.stay {W W' : Addr → Prop} {H H' : Hp} (s : Stay W H W' H') : ∀ {v : V} {d : D}, Rep W H v d → Rep W' H' v d
  | _, _, .non => .non
  | _, _, .bl b => .bl b
  | _, _, .int i => .int i
  | _, _, .str x => .str x
  | _, _, .tup n r q => .tup (s _ _ n r).2 (s _ _ n r).1 (Reps.stay s q)
  | _, _, .lst n r q => .lst (s _ _ n r).2 (s _ _ n r).1 (Reps.stay s q)
  | _, _, .dct n r q => .dct (s _ _ n r).2 (s _ _ n r).1 (Reps.stay s q)
  | _, _, .fl (.inl ⟨n, o, r⟩) => .fl (.inl ⟨(s _ _ n r).2, o, (s _ _ n r).1⟩)
  | _, _, .fl (.inr q) => .fl (.inr q)
theorem Reps.stay {W W' : Addr → Prop} {H H' : Hp} (s : Stay W H W' H') : ∀ {vs : List V} {ds : List D}, Reps W H vs ds → Reps W' H' vs ds
  | _, _, .nil => .nil
  | _, _, .cons a b => .cons (Rep.stay s a) (Reps.stay s b)
end
theorem Reps.len {W : Addr → Prop} {H : Hp} : ∀ {vs : List V} {ds : List D}, Reps W H vs ds → vs.length = ds.length
  | _, _, .nil => rfl
  | _, _, .cons _ b => by rw [List.length_cons, List.length_cons, b.len]
theorem Reps.get {W : Addr → Prop} {H : Hp} : ∀ {vs : List V} {ds : List D}, Reps W H vs ds → ∀ (i : Nat) (d : D), ds[i]? = some d → ∃ v, vs[i]? = some v ∧ Rep W H v d
  | _, _, .nil, i, d, e => by simp at e
  | _, _, .cons a _, 0, d, e => by simp at e; subst e; exact ⟨_, rfl, a⟩
  | _, _, .cons _ b, i + 1, d, e => by simpa using b.get i d (by simpa using e)

mutual
inductive RO (W : Addr → Prop) (H : Hp) : V → O → List Addr → Prop
  | val {v : V} {d : D} : Rep W H v d → RO W H v (.val d) []
  | lst {p : Addr} {its : List (V × O)} {fp : List Addr} : H p = some (.lst (its.map (·.1))) → RIs W H its fp → RO W H (.ref p) (.lst (its.map (·.2))) (p :: fp)
inductive RIs (W : Addr → Prop) (H : Hp) : List (V × O) → List Addr → Prop
  | nil : RIs W H [] []
  | cons {v : V} {o : O} {its : List (V × O)} {f fs : List Addr} : RO W H v o f → RIs W H its fs → RIs W H ((v, o) :: its) (f ++ fs)
end
mutual
theorem RO.stay {W W' : Addr → Prop} {H H' : Hp} (s : Stay W H W' H') : ∀ {v : V} {o : O} {fp : List Addr}, RO W H v o fp → (∀ p ∈ fp, H' p = H p) → RO W' H' v o fp
  | _, _, _, .val r, _ => .val (r.stay s)
  | _, _, _, .lst e q, k => .lst (by rw [k _ List.mem_cons_self]; exact e) (RIs.stay s q fun p hp => k p (List.mem_cons_of_mem _ hp))
theorem RIs.stay {W W' : Addr → Prop} {H H' : Hp} (s : Stay W H W' H') : ∀ {its : List (V × O)} {fp : List Addr}, RIs W H its fp → (∀ p ∈ fp, H' p = H p) → RIs W' H' its fp
  | _, _, .nil, _ => .nil
  | _, _, .cons a b, k => .cons (RO.stay s a fun p hp => k p (List.mem_append_left _ hp)) (RIs.stay s b fun p hp => k p (List.mem_append_right _ hp))
end
mutual
/-- what is owned is there -/
theorem RO.there {W : Addr → Prop} {H : Hp} : ∀ {v : V} {o : O} {fp : List Addr}, RO W H v o fp → ∀ p ∈ fp, ∃ xs, H p = some (.lst xs)
  | _, _, _, .val _, p, hp => by simp at hp
  | _, _, _, .lst e q, p, hp => by
    rcases List.mem_cons.mp hp with h | h
    · subst h; exact ⟨_, e⟩
    · exact RIs.there q p h
theorem RIs.there {W : Addr → Prop} {H : Hp} : ∀ {its : List (V × O)} {fp : List Addr}, RIs W H its fp → ∀ p ∈ fp, ∃ xs, H p = some (.lst xs)
  | _, _, .nil, p, hp => by simp at hp
  | _, _, .cons a b, p, hp => by
    rcases List.mem_append.mp hp with h | h
    · exact RO.there a p h
    · exact RIs.there b p h
end
theorem RIs.app {W : Addr → Prop} {H : Hp} : ∀ {a b : List (V × O)} {f g : List Addr}, RIs W H a f → RIs W H b g → RIs W H (a ++ b) (f ++ g)
  | _, _, _, _, .nil, q => q
  | _, _, _, _, .cons r s, q => by
    rw [List.append_assoc]
    exact .cons r (RIs.app s q)
theorem RIs.split {W : Addr → Prop} {H : Hp} : ∀ {a b : List (V × O)} {f : List Addr}, RIs W H (a ++ b) f → ∃ g h, f = g ++ h ∧ RIs W H a g ∧ RIs W H b h
  | [], _, f, q => ⟨[], f, rfl, .nil, q⟩
  | x :: a, b, _, .cons r s => by
    obtain ⟨g, h, e, q1, q2⟩ := RIs.split (a := a) s
    exact ⟨_ ++ g, h, by rw [e, List.append_assoc], .cons r q1, q2⟩
theorem RIs.perm {W : Addr → Prop} {H : Hp} {a b : List (V × O)} (h : a.Perm b) : ∀ {f : List Addr}, RIs W H a f → ∃ g, f.Perm g ∧ RIs W H b g := by
  induction h with
  | nil => intro f q; exact ⟨f, .refl _, q⟩
  | cons x _ ih =>
    intro f q
    cases q with
    | cons r s =>
      obtain ⟨g, hp, q⟩ := ih s
      exact ⟨_ ++ g, hp.append_left _, .cons r q⟩
  | swap x y l =>
    intro f q
    cases q with
    | @cons _ _ _ f1 _ r s =>
      cases s with
      | @cons _ _ _ f2 f3 r' s' =>
        refine ⟨f2 ++ (f1 ++ f3), ?_, .cons r' (.cons r s')⟩
        rw [← List.append_assoc, ← List.append_assoc]
        exact List.perm_append_comm.append_right _
  | trans _ _ ih1 ih2 =>
    intro f q
    obtain ⟨g, h1, q1⟩ := ih1 q
    obtain ⟨g', h2, q2⟩ := ih2 q1
    exact ⟨g', h1.trans h2, q2⟩

/-- the items stand in H, apart from one another and from the reserved places R -/
def CG (R : List Addr) (H : Hp) (its : List (V × O)) : Prop := ∃ fp, RIs (fun a => a ∈ R ++ fp) H its fp ∧ (R ++ fp).Nodup
abbrev CI := CG []
theorem CG.perm {R : List Addr} {H : Hp} {a b : List (V × O)} (c : CG R H a) (h : a.Perm b) : CG R H b := by
  obtain ⟨fp, q, n⟩ := c
  obtain ⟨g, hp, q'⟩ := q.perm h
  have hp' : (R ++ fp).Perm (R ++ g) := hp.append_left _
  refine ⟨g, q'.stay (fun p o hn e => ⟨e, fun z => hn (hp'.mem_iff.mpr z)⟩) (fun _ _ => rfl), hp'.nodup_iff.mp n⟩
theorem CG.drop {R : List Addr} {H : Hp} {a b : List (V × O)} (c : CG R H (a ++ b)) : CG R H b := by
  obtain ⟨fp, q, n⟩ := c
  obtain ⟨g, h, rfl, q1, q2⟩ := q.split
  refine ⟨h, q2.stay (fun p o hn e => ⟨e, fun z => hn ?_⟩) (fun _ _ => rfl), ?_⟩
  · rcases List.mem_append.mp z with z | z
    · exact List.mem_append_left _ z
    · exact List.mem_append_right _ (List.mem_append_right _ z)
  · exact n.sublist ((List.Sublist.refl R).append (List.sublist_append_right g h))
theorem CG.tail {R : List Addr} {H : Hp} {x : V × O} {b : List (V × O)} (c : CG R H (x :: b)) : CG R H b := CG.drop (a := [x]) c
theorem CG.mid {R : List Addr} {H : Hp} {a m b : List (V × O)} (c : CG R H (a ++ (m ++ b))) : CG R H (a ++ b) := by
  have h : (a ++ (m ++ b)).Perm (m ++ (a ++ b)) := by
    rw [← List.append_assoc, ← List.append_assoc]
    exact List.perm_append_comm.append_right _
  exact (c.perm h).drop
mutual
/-- owned things as data -/
theorem RO.frz {W : Addr → Prop} {H : Hp} : ∀ {v : V} {o : O} {fp : List Addr}, RO W H v o fp → (∀ p, W p → p ∉ fp) → Rep W H v (Dl.frz o)
  | _, _, _, .val r, _ => by rw [Dl.frz]; exact r
  | _, _, _, .lst (p := p) e q, k => by
    rw [Dl.frz]
    exact .lst (fun z => k p z List.mem_cons_self) e (RIs.frz q fun p hp h => k p hp (List.mem_cons_of_mem _ h))
theorem RIs.frz {W : Addr → Prop} {H : Hp} : ∀ {its : List (V × O)} {fp : List Addr}, RIs W H its fp → (∀ p, W p → p ∉ fp) → Reps W H (its.map (·.1)) (frzs (its.map (·.2)))
  | _, _, .nil, _ => .nil
  | _, _, .cons a b, k => .cons (RO.frz a fun p hp h => k p hp (List.mem_append_left _ h)) (RIs.frz b fun p hp h => k p hp (List.mem_append_right _ h))
end
theorem CG.frz {R : List Addr} {H : Hp} {v : V} {o : O} {b : List (V × O)} (c : CG R H ((v, o) :: b)) : CG R H ((v, .val (Dl.frz o)) :: b) := by
  obtain ⟨fp, q, n⟩ := c
  cases q with
  | cons r s =>
    rename_i f g
    have sub : ∀ a, a ∈ R ++ g → a ∈ R ++ (f ++ g) := fun a z => by
      rcases List.mem_append.mp z with z | z
      · exact List.mem_append_left _ z
      · exact List.mem_append_right _ (List.mem_append_right _ z)
    have st : Stay (fun a => a ∈ R ++ (f ++ g)) H (fun a => a ∈ R ++ g) H := fun p o hn e => ⟨e, fun z => hn (sub p z)⟩
    have hp : (R ++ (f ++ g)).Perm (f ++ (R ++ g)) := by
      rw [← List.append_assoc, ← List.append_assoc]
      exact List.perm_append_comm.append_right _
    have n' := hp.nodup_iff.mp n
    have r' := r.stay st fun _ _ => rfl
    refine ⟨g, .cons (f := []) (.val (r'.frz fun p hp h => ?_)) (s.stay st fun _ _ => rfl), n'.sublist (List.sublist_append_right _ _)⟩
    exact (List.nodup_append.mp n').2.2 p h p hp rfl
theorem CG.dup {R : List Addr} {H : Hp} {v : V} {d : D} {b : List (V × O)} (c : CG R H ((v, .val d) :: b)) : CG R H ((v, .val d) :: (v, .val d) :: b) := by
  obtain ⟨fp, q, n⟩ := c
  cases q with
  | cons r s =>
    cases r with
    | val r => exact ⟨_, .cons (f := []) (.val r) (.cons (f := []) (.val r) s), n⟩
/-- a new place -/
theorem CG.fresh {R : List Addr} {H : Hp} {b : List (V × O)} {p : Addr} (c : CG R H b) (hp : H p = none) (hr : p ∉ R) : CG (p :: R) H b := by
  obtain ⟨fp, q, n⟩ := c
  have hf : p ∉ fp := fun z => by
    obtain ⟨xs, e⟩ := q.there p z
    rw [hp] at e; cases e
  refine ⟨fp, q.stay (fun a o hn e => ⟨e, fun z => ?_⟩) (fun _ _ => rfl), ?_⟩
  · rcases List.mem_cons.mp z with z | z
    · subst z; rw [hp] at e; cases e
    · exact hn z
  · exact List.nodup_cons.mpr ⟨fun z => (List.mem_append.mp z).elim hr hf, n⟩
/-- the reserved place is written -/
theorem CG.write {R : List Addr} {H : Hp} {b : List (V × O)} {p : Addr} (c : CG (p :: R) H b) (o : HO) : CG (p :: R) (upd H p o) b := by
  obtain ⟨fp, q, n⟩ := c
  have n' := List.nodup_cons.mp n
  refine ⟨fp, q.stay (fun a u hn e => ⟨?_, hn⟩) (fun a ha => ?_), n⟩
  · have hz : a ≠ p := fun z => hn (by rw [z]; exact List.mem_cons_self)
    rw [upd_ne hz]; exact e
  · have hz : a ≠ p := fun z => n'.1 (List.mem_append_right _ (by rw [← z]; exact ha))
    exact upd_ne hz
/-- an owned list is opened -/
theorem CG.open' {R : List Addr} {H : Hp} {v : V} {l : List O} {b : List (V × O)} (c : CG R H ((v, .lst l) :: b)) :
    ∃ p its, v = .ref p ∧ l = its.map (·.2) ∧ H p = some (.lst (its.map (·.1))) ∧ p ∉ R ∧ CG (p :: R) H (its ++ b) := by
  obtain ⟨fp, q, n⟩ := c
  cases q with
  | cons r s =>
    rename_i f g
    generalize eo : O.lst l = o at r
    cases r with
    | val r => cases eo
    | @lst p its fp' e q =>
      injection eo with eo
      have pm : (R ++ (p :: fp' ++ g)).Perm (p :: R ++ (fp' ++ g)) := by
        rw [List.cons_append]
        exact List.perm_middle
      have n' := pm.nodup_iff.mp n
      have hm : ∀ a, a ∈ p :: R ++ (fp' ++ g) → a ∈ R ++ (p :: fp' ++ g) := fun a z => pm.mem_iff.mpr z
      refine ⟨p, its, rfl, eo, e, fun z => (List.nodup_cons.mp n').1 (List.mem_append_left _ z), _, (q.app s).stay (fun a u hn e => ⟨e, fun z => hn (hm a z)⟩) (fun _ _ => rfl), n'⟩
/-- an owned list is closed -/
theorem CG.close {R : List Addr} {H : Hp} {p : Addr} {its b : List (V × O)} (c : CG (p :: R) H (its ++ b)) (e : H p = some (.lst (its.map (·.1)))) : CG R H ((.ref p, .lst (its.map (·.2))) :: b) := by
  obtain ⟨fp, q, n⟩ := c
  obtain ⟨f, g, rfl, q1, q2⟩ := q.split
  have pm : (p :: R ++ (f ++ g)).Perm (R ++ (p :: f ++ g)) := by
    rw [List.cons_append]
    exact List.perm_middle.symm
  have st : Stay (fun a => a ∈ p :: R ++ (f ++ g)) H (fun a => a ∈ R ++ (p :: f ++ g)) H := fun a u hn e => ⟨e, fun z => hn (pm.mem_iff.mpr z)⟩
  exact ⟨_, .cons (.lst e (q1.stay st fun _ _ => rfl)) (q2.stay st fun _ _ => rfl), pm.nodup_iff.mp n⟩
theorem CG.closeW {R : List Addr} {H : Hp} {p : Addr} {its b : List (V × O)} (c : CG (p :: R) H (its ++ b)) : CG R (upd H p (.lst (its.map (·.1)))) ((.ref p, .lst (its.map (·.2))) :: b) :=
  (c.write _).close upd_same
/-- a new owned list -/
theorem CG.newL {R : List Addr} {H : Hp} {p : Addr} {its b : List (V × O)} (c : CG R H (its ++ b)) (hp : H p = none) (hr : p ∉ R) : CG R (upd H p (.lst (its.map (·.1)))) ((.ref p, .lst (its.map (·.2))) :: b) :=
  (c.fresh hp hr).closeW
/-- a reserved place that came to hold data is let go -/
theorem CG.relT {R : List Addr} {H : Hp} {p : Addr} {vs : List V} {b : List (V × O)} (c : CG (p :: R) H b) : CG R H b := by
  obtain ⟨fp, q, n⟩ := c
  exact ⟨fp, q.stay (fun a u hn e => ⟨e, fun z => hn (List.mem_cons_of_mem _ z)⟩) (fun _ _ => rfl), (List.nodup_cons.mp n).2⟩
theorem RIs.vals {W : Addr → Prop} {H : Hp} : ∀ {vs : List V} {ds : List D} {fp : List Addr}, vs.length = ds.length → RIs W H (vs.zip (ds.map O.val)) fp → fp = [] ∧ Reps W H vs ds
  | [], [], _, _, .nil => ⟨rfl, .nil⟩
  | v :: vs, d :: ds, _, hl, .cons r s => by
    cases r with
    | val r =>
      obtain ⟨e, q⟩ := RIs.vals (vs := vs) (ds := ds) (by simpa using hl) s
      subst e
      exact ⟨rfl, .cons r q⟩
  | [], d :: ds, _, hl, _ => by simp at hl
  | v :: vs, [], _, hl, _ => by simp at hl
theorem RIs.ofVals {W : Addr → Prop} {H : Hp} : ∀ {vs : List V} {ds : List D}, Reps W H vs ds → RIs W H (vs.zip (ds.map O.val)) []
  | _, _, .nil => .nil
  | _, _, .cons a b => .cons (f := []) (fs := []) (.val a) (RIs.ofVals b)
/-- a new tuple of data -/
theorem CG.newT {R : List Addr} {H : Hp} {p : Addr} {vs : List V} {ds : List D} {b : List (V × O)} (c : CG R H (vs.zip (ds.map O.val) ++ b)) (hl : vs.length = ds.length) (hp : H p = none) (hr : p ∉ R) :
    CG R (upd H p (.tup vs)) ((.ref p, .val (.tup ds)) :: b) := by
  obtain ⟨fp, q, n⟩ := ((c.fresh hp hr).write (.tup vs))
  obtain ⟨f, g, rfl, q1, q2⟩ := q.split
  obtain ⟨rfl, q1⟩ := RIs.vals hl q1
  have st : Stay (fun a => a ∈ p :: R ++ ([] ++ g)) (upd H p (.tup vs)) (fun a => a ∈ R ++ g) (upd H p (.tup vs)) := fun a u hn e => ⟨e, fun z => hn (List.mem_cons_of_mem _ z)⟩
  have n' := List.nodup_cons.mp n
  exact ⟨g, .cons (f := []) (.val (.tup n'.1 upd_same (q1.stay st))) (q2.stay st fun _ _ => rfl), n'.2⟩
/-- a tuple, a list, that is data is opened -/
theorem CG.openT {R : List Addr} {H : Hp} {v : V} {ds : List D} {b : List (V × O)} (c : CG R H ((v, .val (.tup ds)) :: b)) :
    ∃ p vs, v = .ref p ∧ H p = some (.tup vs) ∧ vs.length = ds.length ∧ CG R H (vs.zip (ds.map O.val) ++ (v, .val (.tup ds)) :: b) := by
  obtain ⟨fp, q, n⟩ := c
  cases q with
  | cons r s =>
    cases r with
    | val r =>
      have r0 := r
      cases r with
      | tup h1 h2 h3 => exact ⟨_, _, rfl, h2, h3.len, _, (RIs.ofVals h3).app (.cons (f := []) (.val r0) s), n⟩
theorem CG.openL {R : List Addr} {H : Hp} {v : V} {ds : List D} {b : List (V × O)} (c : CG R H ((v, .val (.lst ds)) :: b)) :
    ∃ p vs, v = .ref p ∧ H p = some (.lst vs) ∧ vs.length = ds.length ∧ CG R H (vs.zip (ds.map O.val) ++ (v, .val (.lst ds)) :: b) := by
  obtain ⟨fp, q, n⟩ := c
  cases q with
  | cons r s =>
    cases r with
    | val r =>
      have r0 := r
      cases r with
      | lst h1 h2 h3 => exact ⟨_, _, rfl, h2, h3.len, _, (RIs.ofVals h3).app (.cons (f := []) (.val r0) s), n⟩
/-- what a value is -/
theorem CG.rep {R : List Addr} {H : Hp} {v : V} {d : D} {b : List (V × O)} (c : CG R H ((v, .val d) :: b)) : ∃ W, Rep W H v d := by
  obtain ⟨fp, q, n⟩ := c
  cases q with
  | cons r s => cases r with | val r => exact ⟨_, r⟩
theorem CG.int {R : List Addr} {H : Hp} {v : V} {i : Int} {b : List (V × O)} (c : CG R H ((v, .val (.int i)) :: b)) : v = .int i := by
  obtain ⟨W, r⟩ := c.rep
  cases r
  rfl
theorem CG.bl {R : List Addr} {H : Hp} {v : V} {i : Bool} {b : List (V × O)} (c : CG R H ((v, .val (.bl i)) :: b)) : v = .bl i := by
  obtain ⟨W, r⟩ := c.rep
  cases r
  rfl
theorem CG.str {R : List Addr} {H : Hp} {v : V} {i : Str} {b : List (V × O)} (c : CG R H ((v, .val (.str i)) :: b)) : v = .str i := by
  obtain ⟨W, r⟩ := c.rep
  cases r
  rfl
theorem CG.non {R : List Addr} {H : Hp} {v : V} {b : List (V × O)} (c : CG R H ((v, .val .non) :: b)) : v = .non := by
  obtain ⟨W, r⟩ := c.rep
  cases r
  rfl
/-- scalars may come -/
def sc : D → Option V
  | .non => some .non
  | .bl b => some (.bl b)
  | .int i => some (.int i)
  | .str x => some (.str x)
  | _ => none
theorem CG.sc {R : List Addr} {H : Hp} {v : V} {d : D} {b : List (V × O)} (c : CG R H b) (h : Dl.sc d = some v) : CG R H ((v, .val d) :: b) := by
  obtain ⟨fp, q, n⟩ := c
  refine ⟨fp, .cons (f := []) (.val ?_) q, n⟩
  cases d <;> simp only [Dl.sc, Option.some.injEq, reduceCtorEq] at h <;> subst h
  · exact .non
  · exact .bl _
  · exact .int _
  · exact .str _
end Dl

namespace Dl
variable [Kc]
open PySem L2

/-- the slots -/
abbrev Sl := List (Option O)
/-- an exception: its class by name, its fields -/
structure Ex where
  cls : Str
  fs : List (Str × D)
inductive Out (α : Type) where
  | ok (a : α) (ρ : Sl)
  | ex (x : Ex) (ρ : Sl)
  | fail
abbrev M (α : Type) := Sl → Out α
def ret {α : Type} (a : α) : M α := fun ρ => .ok a ρ
def stop {α : Type} : M α := fun _ => .fail
def bnd {α β : Type} (m : M α) (f : α → M β) : M β := fun ρ => match m ρ with
  | .ok a ρ' => f a ρ'
  | .ex x ρ' => .ex x ρ'
  | .fail => .fail
def lift {α : Type} (o : Option α) : M α := match o with
  | some a => ret a
  | none => stop
def vof (m : M O) : M D := bnd m fun o => ret (frz o)
def Out.go {α : Type} (r : Out α) (k : α → Sl → Prop) (b : Ex → Sl → Prop) : Prop := match r with
  | .ok a ρ => k a ρ
  | .ex x ρ => b x ρ
  | .fail => False
theorem Out.go_mono {α : Type} {r : Out α} {k k' : α → Sl → Prop} {b b' : Ex → Sl → Prop} (h : r.go k b) (hk : ∀ a ρ, r = .ok a ρ → k a ρ → k' a ρ) (hb : ∀ x ρ, r = .ex x ρ → b x ρ → b' x ρ) : r.go k' b' := by
  cases r with
  | ok a ρ => exact hk a ρ rfl h
  | ex x ρ => exact hb x ρ rfl h
  | fail => exact h
theorem go_bnd {α β : Type} {m : M α} {f : α → M β} {ρ : Sl} {k : β → Sl → Prop} {b : Ex → Sl → Prop} : (bnd m f ρ).go k b ↔ (m ρ).go (fun a ρ' => (f a ρ').go k b) b := by
  unfold bnd
  cases m ρ <;> exact Iff.rfl
theorem go_ret {α : Type} {a : α} {ρ : Sl} {k : α → Sl → Prop} {b : Ex → Sl → Prop} : (ret a ρ).go k b ↔ k a ρ := Iff.rfl
theorem go_lift {α : Type} {o : Option α} {ρ : Sl} {k : α → Sl → Prop} {b : Ex → Sl → Prop} (h : (lift o ρ).go k b) : ∃ a, o = some a ∧ k a ρ := by
  cases o with
  | none => exact False.elim h
  | some a => exact ⟨a, rfl, h⟩

/-! ### slots and items -/
def sI : St → Sl → List (V × O)
  | some v :: σ, some o :: ρ => (v, o) :: sI σ ρ
  | some _ :: σ, none :: ρ => sI σ ρ
  | none :: σ, _ :: ρ => sI σ ρ
  | _, _ => []
structure Sh (σ : St) (ρ : Sl) : Prop where
  len : σ.length = ρ.length
  has : ∀ (i : Nat) (o : O), ρ[i]? = some (some o) → ∃ v, σ[i]? = some (some v)
theorem Sh.tail {a : Option V} {b : Option O} {σ : St} {ρ : Sl} (h : Sh (a :: σ) (b :: ρ)) : Sh σ ρ :=
  ⟨by simpa using h.len, fun i o e => by simpa using h.has (i + 1) o (by simpa using e)⟩
theorem Sh.lt {σ : St} {ρ : Sl} (h : Sh σ ρ) {i : Nat} {o : Option O} (e : ρ[i]? = some o) : i < σ.length := by
  rw [h.len]
  exact (List.getElem?_eq_some_iff.mp e).1
theorem sI_get : ∀ {σ : St} {ρ : Sl}, Sh σ ρ → ∀ {i : Nat} {o : O}, ρ[i]? = some (some o) → ∃ v, σ[i]? = some (some v) ∧ (sI σ ρ).Perm ((v, o) :: sI σ (ρ.set i none))
  | [], ρ, h, i, o, e => by
    have := h.len
    cases ρ with
    | nil => simp at e
    | cons => simp at this
  | a :: σ, [], h, i, o, e => by simp at e
  | a :: σ, b :: ρ, h, 0, o, e => by
    obtain ⟨v, hv⟩ := h.has 0 o e
    simp at e hv
    subst e hv
    exact ⟨v, rfl, .refl _⟩
  | a :: σ, b :: ρ, h, i + 1, o, e => by
    obtain ⟨v, h1, h2⟩ := sI_get (i := i) (o := o) h.tail (by simpa using e)
    refine ⟨v, by simpa using h1, ?_⟩
    cases a with
    | none => exact h2
    | some a =>
      cases b with
      | none => exact h2
      | some b => exact (h2.cons (a, b)).trans (.swap ..)
theorem sI_set {v : V} {o : O} : ∀ {σ : St} {ρ : Sl}, σ.length = ρ.length → ∀ {i : Nat}, i < σ.length → (sI (σ.set i (some v)) (ρ.set i (some o))).Perm ((v, o) :: sI σ (ρ.set i none))
  | [], ρ, h, i, e => by simp at e
  | a :: σ, [], h, i, e => by simp at h
  | a :: σ, b :: ρ, h, 0, e => by
    show ((v, o) :: sI σ ρ).Perm ((v, o) :: sI (a :: σ) (none :: ρ))
    cases a <;> exact .refl _
  | a :: σ, b :: ρ, h, i + 1, e => by
    have h2 := sI_set (v := v) (o := o) (σ := σ) (ρ := ρ) (by simpa using h) (i := i) (by simpa using e)
    cases a with
    | none => exact h2
    | some a =>
      cases b with
      | none => exact h2
      | some b => exact (h2.cons (a, b)).trans (.swap ..)
theorem set_self {α : Type} : ∀ {l : List α} {i : Nat} {a : α}, l[i]? = some a → l.set i a = l
  | [], i, a, e => by simp at e
  | x :: l, 0, a, e => by simp at e; subst e; rfl
  | x :: l, i + 1, a, e => by
    show x :: l.set i a = x :: l
    rw [set_self (by simpa using e)]
theorem set_set {α : Type} : ∀ {l : List α} {i : Nat} {a b : α}, (l.set i a).set i b = l.set i b
  | [], i, a, b => rfl
  | x :: l, 0, a, b => rfl
  | x :: l, i + 1, a, b => by
    show x :: (l.set i a).set i b = x :: l.set i b
    rw [set_set]
theorem Sh.set {σ : St} {ρ : Sl} (h : Sh σ ρ) (i : Nat) (v : V) (o : Option O) : Sh (σ.set i (some v)) (ρ.set i o) := by
  refine ⟨by rw [List.length_set, List.length_set, h.len], fun j p e => ?_⟩
  by_cases hij : i = j
  · subst hij
    have hl : i < ρ.length := by
      have := (List.getElem?_eq_some_iff.mp e).1
      simpa using this
    exact ⟨v, by rw [List.getElem?_set_self (by rw [h.len]; exact hl)]⟩
  · rw [List.getElem?_set_ne hij] at e
    rw [List.getElem?_set_ne hij]
    exact h.has j p e
theorem Sh.setR {σ : St} {ρ : Sl} (h : Sh σ ρ) {i : Nat} {v : V} (hv : σ[i]? = some (some v)) (o : Option O) : Sh σ (ρ.set i o) := by
  have := h.set i v o
  rwa [set_self hv] at this

/-- the slots and what is pending besides stand in H -/
structure Conf (σ : St) (H : Hp) (pend : List (V × O)) (ρ : Sl) : Prop where
  sh : Sh σ ρ
  ci : CI H (sI σ ρ ++ pend)
theorem perm_in (a : List (V × O)) (pre b : List (V × O)) : (a ++ (pre ++ b)).Perm (pre ++ (a ++ b)) := by
  rw [← List.append_assoc, ← List.append_assoc]
  exact List.perm_append_comm.append_right _
theorem Conf.out {σ : St} {H : Hp} {pre pend : List (V × O)} {ρ : Sl} (c : Conf σ H (pre ++ pend) ρ) : CI H (pre ++ (sI σ ρ ++ pend)) := c.ci.perm (perm_in _ _ _)
theorem Conf.back {σ : St} {H : Hp} {pre pend : List (V × O)} {ρ : Sl} (s : Sh σ ρ) (c : CI H (pre ++ (sI σ ρ ++ pend))) : Conf σ H (pre ++ pend) ρ := ⟨s, c.perm (perm_in _ _ _).symm⟩
theorem Conf.out1 {σ : St} {H : Hp} {x : V × O} {pend : List (V × O)} {ρ : Sl} (c : Conf σ H (x :: pend) ρ) : CI H (x :: (sI σ ρ ++ pend)) := Conf.out (pre := [x]) c
theorem Conf.back1 {σ : St} {H : Hp} {x : V × O} {pend : List (V × O)} {ρ : Sl} (s : Sh σ ρ) (c : CI H (x :: (sI σ ρ ++ pend))) : Conf σ H (x :: pend) ρ := Conf.back (pre := [x]) s c
theorem Conf.back0 {σ : St} {H : Hp} {pend : List (V × O)} {ρ : Sl} (s : Sh σ ρ) (c : CI H (sI σ ρ ++ pend)) : Conf σ H pend ρ := ⟨s, c⟩
theorem Conf.frz {σ : St} {H : Hp} {v : V} {o : O} {pend : List (V × O)} {ρ : Sl} (c : Conf σ H ((v, o) :: pend) ρ) : Conf σ H ((v, .val (Dl.frz o)) :: pend) ρ := .back1 c.sh c.out1.frz
theorem Conf.tail {σ : St} {H : Hp} {x : V × O} {pend : List (V × O)} {ρ : Sl} (c : Conf σ H (x :: pend) ρ) : Conf σ H pend ρ := ⟨c.sh, c.out1.tail⟩
theorem Conf.drop {σ : St} {H : Hp} {x pend : List (V × O)} {ρ : Sl} (c : Conf σ H (x ++ pend) ρ) : Conf σ H pend ρ := ⟨c.sh, c.out.drop⟩
theorem Conf.perm {σ : St} {H : Hp} {p q : List (V × O)} {ρ : Sl} (c : Conf σ H p ρ) (h : p.Perm q) : Conf σ H q ρ := ⟨c.sh, c.ci.perm (h.append_left _)⟩
theorem Conf.sc {σ : St} {H : Hp} {pend : List (V × O)} {ρ : Sl} (c : Conf σ H pend ρ) {d : D} {v : V} (h : Dl.sc d = some v) : Conf σ H ((v, .val d) :: pend) ρ := .back1 c.sh (c.ci.sc h)
/-- the i-th slot's thing is taken out -/
theorem Conf.take {σ : St} {H : Hp} {pend : List (V × O)} {ρ : Sl} (c : Conf σ H pend ρ) {i : Nat} {o : O} (e : ρ[i]? = some (some o)) :
    ∃ v, σ[i]? = some (some v) ∧ Conf σ H ((v, o) :: pend) (ρ.set i none) := by
  obtain ⟨v, h1, h2⟩ := sI_get c.sh e
  refine ⟨v, h1, .back1 (c.sh.setR h1 none) (c.ci.perm ?_)⟩
  exact h2.append_right _
/-- a thing is put into the i-th slot -/
theorem Conf.put {σ : St} {H : Hp} {pend : List (V × O)} {ρ : Sl} {v : V} {o : O} {i : Nat} (c : Conf σ H ((v, o) :: pend) ρ) (hi : i < σ.length) : Conf (σ.set i (some v)) H pend (ρ.set i (some o)) := by
  have hs := sI_set (v := v) (o := o) c.sh.len hi
  refine ⟨c.sh.set i v _, ?_⟩
  have hci : CI H ((v, o) :: (sI σ (ρ.set i none) ++ pend)) := by
    by_cases hn : ∃ u, ρ[i]? = some (some u)
    · obtain ⟨u, hu⟩ := hn
      obtain ⟨w, _, h2⟩ := sI_get c.sh hu
      have := (c.out1.perm ((h2.append_right pend).cons _)).perm (.swap ..)
      exact this.tail
    · have hz : ρ.set i none = ρ := by
        apply set_self
        have hl : i < ρ.length := by rw [← c.sh.len]; exact hi
        cases e : ρ[i]? with
        | none => rw [List.getElem?_eq_none_iff] at e; omega
        | some z =>
          cases z with
          | none => rfl
          | some u => exact absurd ⟨u, e⟩ hn
      rw [hz]
      exact c.out1
  exact hci.perm (hs.append_right pend).symm
theorem Conf.putS {σ : St} {H : Hp} {pend : List (V × O)} {ρ : Sl} {v : V} {o : O} {i : Nat} (c : Conf σ H ((v, o) :: pend) ρ) (hi : σ[i]? = some (some v)) : Conf σ H pend (ρ.set i (some o)) := by
  have h := c.put (i := i) (List.getElem?_eq_some_iff.mp hi).1
  rwa [set_self hi] at h

/-! ### readings by data -/
structure Bx where
  p : Ex → Sl → List (V × O) → St → Prop
  mono : ∀ x ρ a q σ, p x ρ q σ → p x ρ (a :: q) σ
theorem Bx.monos (B : Bx) {x : Ex} {ρ : Sl} {σ : St} {q : List (V × O)} : ∀ (a : List (V × O)), B.p x ρ q σ → B.p x ρ (a ++ q) σ
  | [], h => h
  | b :: a, h => B.mono _ _ _ _ _ (B.monos a h)
def B0 : Bx := ⟨fun _ _ _ _ => False, fun _ _ _ _ _ h => h⟩
def tE (B : Bx) (m : M O) : TE := fun σ H Q => ∃ pend ρ, Conf σ H pend ρ ∧ (m ρ).go (fun r ρ' => ∀ v H', Conf σ H' ((v, r) :: pend) ρ' → Q v H') (fun x ρ' => B.p x ρ' pend σ)
def tT (B : Bx) (m : M Bool) : TT := fun σ H Q => ∃ pend ρ, Conf σ H pend ρ ∧ (m ρ).go (fun r ρ' => ∀ H', Conf σ H' pend ρ' → Q r H') (fun x ρ' => B.p x ρ' pend σ)
def tA (B : Bx) (m : M (List O)) : TA := fun σ H Q => ∃ pend ρ, Conf σ H pend ρ ∧ (m ρ).go (fun r ρ' => ∀ vs H', vs.length = r.length → Conf σ H' (vs.zip r ++ pend) ρ' → Q vs H') (fun x ρ' => B.p x ρ' pend σ)
inductive Fl where
  | nx
  | rt (o : O)
  | bk
  | ct
def CP (cp : List Nat) (σ σ' : St) : Prop := ∀ i ∈ cp, σ'[i]? = σ[i]?
theorem CP.refl (cp : List Nat) (σ : St) : CP cp σ σ := fun _ _ => rfl
theorem CP.trans {cp : List Nat} {a b c : St} (h : CP cp a b) (g : CP cp b c) : CP cp a c := fun i hi => (g i hi).trans (h i hi)
def flGo (cp : List Nat) (D : Ends) (σ : St) (pend : List (V × O)) (f : Fl) (ρ' : Sl) : Prop := match f with
  | .nx => ∀ σ' H', Conf σ' H' pend ρ' → CP cp σ σ' → D.nx σ' H'
  | .rt r => ∀ v σ' H', Conf σ' H' ((v, r) :: pend) ρ' → CP cp σ σ' → D.rt v H'
  | .bk => ∀ σ' H', Conf σ' H' pend ρ' → CP cp σ σ' → D.bk σ' H'
  | .ct => ∀ σ' H', Conf σ' H' pend ρ' → CP cp σ σ' → D.ct σ' H'
def tS (B : Bx) (cp : List Nat) (m : M Fl) : TS := fun D σ H => ∃ pend ρ, Conf σ H pend ρ ∧ (m ρ).go (flGo cp D σ pend) (fun x ρ' => ∀ σ', CP cp σ σ' → B.p x ρ' pend σ')
/-- a target: the thing is pending -/
def tG (B : Bx) (cp : List Nat) (m : O → M Unit) : TG := fun v σ H Q => ∃ pend ρ o, Conf σ H ((v, o) :: pend) ρ ∧ (m o ρ).go (fun _ ρ' => ∀ σ' H', Conf σ' H' pend ρ' → CP cp σ σ' → Q σ' H') (fun x ρ' => ∀ σ', CP cp σ σ' → B.p x ρ' pend σ')

theorem _root_.L2.PE.imp {X : Cx} {e : Expr} {t t' : TE} (h : PE X e t) (k : ∀ σ H Q, t' σ H Q → t σ H Q) : PE X e t' := ⟨fun pins s σ H Q I q => h.run pins s σ H Q I (k σ H Q q)⟩
theorem _root_.L2.PT.imp {X : Cx} {e : Expr} {t t' : TT} (h : PT X e t) (k : ∀ σ H Q, t' σ H Q → t σ H Q) : PT X e t' := ⟨fun pins s σ H Q I q => h.run pins s σ H Q I (k σ H Q q)⟩
theorem _root_.L2.PW.imp {X : Cx} {e : Expr} {t t' : TT} (h : PW X e t) (k : ∀ σ H Q, t' σ H Q → t σ H Q) : PW X e t' := ⟨fun wh pins s σ H Q I q => h.run wh pins s σ H Q I (k σ H Q q)⟩
theorem _root_.L2.PA.imp {X : Cx} {e : List Expr} {t t' : TA} (h : PA X e t) (k : ∀ σ H Q, t' σ H Q → t σ H Q) : PA X e t' := ⟨fun pos pins s σ H Q I q => h.run pos pins s σ H Q I (k σ H Q q)⟩
theorem _root_.L2.PS.imp {X : Cx} {e : Stmt} {t t' : TS} (h : PS X e t) (k : ∀ D σ H, t' D σ H → t D σ H) : PS X e t' := ⟨fun pins s σ H D I q => h.run pins s σ H D I (k D σ H q)⟩
theorem _root_.L2.PSs.imp {X : Cx} {e : List Stmt} {t t' : TS} (h : PSs X e t) (k : ∀ D σ H, t' D σ H → t D σ H) : PSs X e t' := ⟨fun pins s σ H D I q => h.run pins s σ H D I (k D σ H q)⟩

abbrev DE (X : Cx) (B : Bx) (e : Expr) (m : M O) : Prop := PE X e (tE B m)
abbrev DT (X : Cx) (B : Bx) (e : Expr) (m : M Bool) : Prop := PT X e (tT B m)
abbrev DA (X : Cx) (B : Bx) (es : List Expr) (m : M (List O)) : Prop := PA X es (tA B m)
section
variable {X : Cx} {B : Bx}
/-- code that never runs through -/
theorem de_stop {e : Expr} : DE X B e stop := ⟨fun _ _ _ _ _ _ ⟨_, _, _, h⟩ => False.elim h⟩
theorem dt_stop {e : Expr} : DT X B e stop := ⟨fun _ _ _ _ _ _ ⟨_, _, _, h⟩ => False.elim h⟩
theorem da_stop {e : List Expr} : DA X B e stop := ⟨fun _ _ _ _ _ _ _ ⟨_, _, _, h⟩ => False.elim h⟩
/-- one part after another: the first reading's end -/
theorem tE_bnd {α : Type} {m : M O} {f : O → M α} {k : α → Sl → Prop} {σ : St} {H : Hp} {pend : List (V × O)} {ρ : Sl} {Q : VK} (c : Conf σ H pend ρ) (h : (bnd m f ρ).go k (fun x ρ' => B.p x ρ' pend σ))
    (hQ : ∀ r ρ' v H', Conf σ H' ((v, r) :: pend) ρ' → (f r ρ').go k (fun x ρ' => B.p x ρ' pend σ) → Q v H') : tE B m σ H Q :=
  ⟨pend, ρ, c, Out.go_mono (go_bnd.mp h) (fun r ρ' _ g v H' c' => hQ r ρ' v H' c' g) fun _ _ _ g => g⟩
theorem tE_bnd2 {α : Type} {m : M O} {f : O → M α} {k : α → Sl → Prop} {σ : St} {H : Hp} (a : List (V × O)) {pend : List (V × O)} {ρ : Sl} {Q : VK} (c : Conf σ H (a ++ pend) ρ) (h : (bnd m f ρ).go k (fun x ρ' => B.p x ρ' pend σ))
    (hQ : ∀ r ρ' v H', Conf σ H' ((v, r) :: (a ++ pend)) ρ' → (f r ρ').go k (fun x ρ' => B.p x ρ' pend σ) → Q v H') : tE B m σ H Q :=
  ⟨a ++ pend, ρ, c, Out.go_mono (go_bnd.mp h) (fun r ρ' _ g v H' c' => hQ r ρ' v H' c' g) fun _ _ _ g => B.monos a g⟩
theorem go_pend {α : Type} {r : Out α} {k : α → Sl → Prop} {σ : St} {pend : List (V × O)} (a : List (V × O)) (h : r.go k (fun x ρ' => B.p x ρ' pend σ)) : r.go k (fun x ρ' => B.p x ρ' (a ++ pend) σ) :=
  Out.go_mono h (fun _ _ _ g => g) fun _ _ _ g => B.monos a g

/-! ### constants and names -/
theorem de_sc {e : Expr} {d : D} {v : V} (h : sc d = some v) (he : PE X e (tC v)) : DE X B e (ret (.val d)) :=
  he.imp fun σ H Q ⟨pend, ρ, c, g⟩ => (g : ∀ v H', Conf σ H' ((v, .val d) :: pend) ρ → Q v H') v H (c.sc h)
/-- a name is read: what it holds is data from then on -/
def mVar (i : Nat) : M O := fun ρ => match ρ[i]? with
  | some (some o) => .ok (.val (frz o)) (ρ.set i (some (.val (frz o))))
  | _ => .fail
theorem de_var {e : Expr} {i : Nat} (he : PE X e (tVar i)) : DE X B e (mVar i) := by
  refine he.imp fun σ H Q ⟨pend, ρ, c, g⟩ => ?_
  unfold mVar at g
  split at g
  · rename_i o e
    obtain ⟨v, hv, c'⟩ := c.take e
    have c2 := c'.frz
    have c3 : Conf σ H ((v, .val (frz o)) :: (v, .val (frz o)) :: pend) (ρ.set i none) := .back (pre := [_, _]) c2.sh c2.out1.dup
    have c4 := c3.putS hv
    rw [set_set] at c4
    exact ⟨v, hv, g v H c4⟩
  · exact False.elim g

/-! ### two values -/
/-- what an operator on values does -/
def Op2 (r : R2) (f : D → D → Option O) : Prop := ∀ (d e : D) (o : O), f d e = some o → ∀ (x y : V) (H : Hp) (its : List (V × O)) (Q : VK), CI H ((x, .val d) :: (y, .val e) :: its) →
  (∀ v H', CI H' ((v, o) :: its) → Q v H') → r x y H Q
def mOp2 (f : D → D → Option O) (a b : M O) : M O := bnd a fun x => bnd b fun y => lift (f (frz x) (frz y))
theorem de_op2 {e a b : Expr} {r : R2} {f : D → D → Option O} {ma mb : M O} (hf : Op2 r f) (ha : DE X B a ma) (hb : DE X B b mb) (he : ∀ {ta tb : TE}, PE X a ta → PE X b tb → PE X e (tOp r ta tb)) : DE X B e (mOp2 f ma mb) := by
  refine (he ha hb).imp fun σ H Q ⟨pend, ρ, c, g⟩ => ?_
  refine tE_bnd c g fun x ρ1 v1 H1 c1 g1 => ?_
  refine tE_bnd (pend := (v1, .val (frz x)) :: pend) c1.frz (go_pend [_] g1) fun y ρ2 v2 H2 c2 g2 => ?_
  obtain ⟨o, ho, g3⟩ := go_lift g2
  have c3 := c2.frz
  have c4 : CI H2 ((v1, .val (frz x)) :: (v2, .val (frz y)) :: (sI σ ρ2 ++ pend)) := (Conf.out (pre := [_, _]) c3).perm (.swap ..)
  exact hf _ _ _ ho v1 v2 H2 _ Q c4 fun v H' c5 => g3 v H' (.back1 c2.sh c5)
def mOp1 (f : D → Option O) (a : M O) : M O := bnd a fun x => lift (f (frz x))
def Op1 (r : V → Hp → VK → Prop) (f : D → Option O) : Prop := ∀ (d : D) (o : O), f d = some o → ∀ (x : V) (H : Hp) (its : List (V × O)) (Q : VK), CI H ((x, .val d) :: its) →
  (∀ v H', CI H' ((v, o) :: its) → Q v H') → r x H Q
theorem de_op1 {e a : Expr} {r : V → Hp → VK → Prop} {f : D → Option O} {ma : M O} (hf : Op1 r f) (ha : DE X B a ma) (he : ∀ {ta : TE}, PE X a ta → PE X e (tUn r ta)) : DE X B e (mOp1 f ma) := by
  refine (he ha).imp fun σ H Q ⟨pend, ρ, c, g⟩ => ?_
  refine tE_bnd c g fun x ρ1 v1 H1 c1 g1 => ?_
  obtain ⟨o, ho, g3⟩ := go_lift g1
  exact hf _ _ ho v1 H1 _ Q c1.frz.out1 fun v H' c5 => g3 v H' (.back1 c1.sh c5)

/-! ### argument lists -/
def mCons (m : M O) (ms : M (List O)) : M (List O) := bnd m fun o => bnd ms fun os => ret (o :: os)
theorem da_nil : DA X B [] (ret []) := pa_nil.imp fun σ H Q ⟨pend, ρ, c, g⟩ => (g : ∀ vs H', vs.length = 0 → Conf σ H' (vs.zip [] ++ pend) ρ → Q vs H') [] H rfl c
theorem tA_bnd {α : Type} {m : M (List O)} {f : List O → M α} {k : α → Sl → Prop} {σ : St} {H : Hp} {pend : List (V × O)} {ρ : Sl} {Q : List V → Hp → Prop} (c : Conf σ H pend ρ) (h : (bnd m f ρ).go k (fun x ρ' => B.p x ρ' pend σ))
    (hQ : ∀ r ρ' vs H', vs.length = r.length → Conf σ H' (vs.zip r ++ pend) ρ' → (f r ρ').go k (fun x ρ' => B.p x ρ' pend σ) → Q vs H') : tA B m σ H Q :=
  ⟨pend, ρ, c, Out.go_mono (go_bnd.mp h) (fun r ρ' _ g v H' hl c' => hQ r ρ' v H' hl c' g) fun _ _ _ g => g⟩
theorem da_cons {e : Expr} {es : List Expr} {m : M O} {ms : M (List O)} (h1 : DE X B e m) (h2 : DA X B es ms) (hs : starEach (e :: es) X.env = (false, eval e X.env) :: starEach es X.env) : DA X B (e :: es) (mCons m ms) := by
  refine (pa_cons h1 h2 hs).imp fun σ H Q ⟨pend, ρ, c, g⟩ => ?_
  refine tE_bnd c g fun x ρ1 v1 H1 c1 g1 => ?_
  refine tA_bnd (pend := (v1, x) :: pend) c1 (go_pend [_] g1) fun os ρ2 vs H2 hl c2 g2 => ?_
  refine (g2 : ∀ ws H', ws.length = (x :: os).length → Conf σ H' (ws.zip (x :: os) ++ pend) ρ2 → Q ws H') (v1 :: vs) H2 (by simp [hl]) (c2.perm ?_)
  exact List.perm_middle
theorem CG.frzAll {R : List Addr} {H : Hp} {b : List (V × O)} : ∀ {vs : List V} {os : List O} {a : List (V × O)}, CG R H (vs.zip os ++ (a ++ b)) → vs.length = os.length → CG R H (vs.zip ((frzs os).map O.val) ++ (a ++ b))
  | [], [], a, c, _ => c
  | [], _ :: _, a, c, h => by simp at h
  | _ :: _, [], a, c, h => by simp at h
  | v :: vs, o :: os, a, c, h => by
    have c1 : CG R H ((v, o) :: (vs.zip os ++ (a ++ b))) := c
    have c2 : CG R H (vs.zip os ++ (((v, .val (Dl.frz o)) :: a) ++ b)) := c1.frz.perm List.perm_middle.symm
    have c3 := CG.frzAll (vs := vs) (os := os) (a := (v, .val (Dl.frz o)) :: a) c2 (by simpa using h)
    exact c3.perm List.perm_middle
theorem Conf.frzAll {σ : St} {H : Hp} {vs : List V} {os : List O} {pend : List (V × O)} {ρ : Sl} (c : Conf σ H (vs.zip os ++ pend) ρ) (h : vs.length = os.length) : Conf σ H (vs.zip ((frzs os).map O.val) ++ pend) ρ := by
  have c1 : CI H (vs.zip os ++ ([] ++ (sI σ ρ ++ pend))) := c.out
  exact .back c.sh (c1.frzAll h)
theorem frzs_length (os : List O) : (frzs os).length = os.length := by rw [frzs_eq, List.length_map]
def mTup (ms : M (List O)) : M O := bnd ms fun os => if os.length ≤ 1000 then ret (.val (.tup (frzs os))) else stop
def mLst (ms : M (List O)) : M O := bnd ms fun os => if os.length ≤ 1000 then ret (.lst os) else stop
theorem sz1000 {n : Nat} (h : n ≤ 1000) : n ≤ sizeLine := Nat.le_of_lt (small1000 h)
theorem de_tup {es : List Expr} {k : Nat} {pos : Pos} {ms : M (List O)} (h : DA X B es ms) : DE X B (.Tuple es k pos) (mTup ms) := by
  refine (pe_tup h).imp fun σ H Q ⟨pend, ρ, c, g⟩ => ?_
  refine tA_bnd c g fun os ρ1 vs H1 hl c1 g1 => ?_
  split at g1
  · rename_i hz
    refine ⟨by rw [hl]; exact sz1000 hz, fun p hp => ?_⟩
    have c2 := (c1.frzAll hl).out
    exact (g1 : ∀ v H', Conf σ H' ((v, .val (.tup (frzs os))) :: pend) ρ1 → Q v H') _ _ (.back1 c1.sh (c2.newT (by rw [frzs_length]; exact hl) hp (by simp)))
  · exact False.elim g1
theorem zip_fst {vs : List V} {os : List O} (h : vs.length = os.length) : (vs.zip os).map (·.1) = vs := by rw [List.map_fst_zip (by omega)]
theorem zip_snd {vs : List V} {os : List O} (h : vs.length = os.length) : (vs.zip os).map (·.2) = os := by rw [List.map_snd_zip (by omega)]
theorem de_lst {es : List Expr} {pos : Pos} {ms : M (List O)} (h : DA X B es ms) : DE X B (.List es pos) (mLst ms) := by
  refine (pe_lst h).imp fun σ H Q ⟨pend, ρ, c, g⟩ => ?_
  refine tA_bnd c g fun os ρ1 vs H1 hl c1 g1 => ?_
  split at g1
  · rename_i hz
    refine ⟨by rw [hl]; exact sz1000 hz, fun p hp => ?_⟩
    have c2 := c1.out.newL hp (by simp)
    rw [zip_fst hl, zip_snd hl] at c2
    exact (g1 : ∀ v H', Conf σ H' ((v, .lst os) :: pend) ρ1 → Q v H') _ _ (.back1 c1.sh c2)
  · exact False.elim g1
/-- a built-in of values -/
def OpN (r : List V → Hp → VK → Prop) (f : List D → Option O) : Prop := ∀ (ds : List D) (o : O), f ds = some o → ∀ (vs : List V) (H : Hp) (its : List (V × O)) (Q : VK), vs.length = ds.length → CI H (vs.zip (ds.map O.val) ++ its) →
  (∀ v H', CI H' ((v, o) :: its) → Q v H') → r vs H Q
def mOpN (f : List D → Option O) (ms : M (List O)) : M O := bnd ms fun os => lift (f (frzs os))
theorem de_opN {e : Expr} {es : List Expr} {r : List V → Hp → VK → Prop} {f : List D → Option O} {ms : M (List O)} (hf : OpN r f) (ha : DA X B es ms) (he : ∀ {t : TA}, PA X es t → PE X e (tCB r t)) : DE X B e (mOpN f ms) := by
  refine (he ha).imp fun σ H Q ⟨pend, ρ, c, g⟩ => ?_
  refine tA_bnd c g fun os ρ1 vs H1 hl c1 g1 => ?_
  obtain ⟨o, ho, g3⟩ := go_lift g1
  exact hf _ _ ho vs H1 _ Q (by rw [frzs_length]; exact hl) (c1.frzAll hl).out fun v H' c5 => g3 v H' (.back1 c1.sh c5)

/-! ### tests -/
def mB (m : M O) : M Bool := bnd m fun o => match o with
  | .val (.bl b) => ret b
  | _ => stop
theorem go_mB {ρ : Sl} {σ : St} {pend : List (V × O)} {o : O} {k : Bool → Sl → Prop} {b : Ex → Sl → Prop} (h : ((match o with
  | .val (.bl b) => ret b
  | _ => (stop : M Bool)) ρ).go k b) : ∃ c, o = .val (.bl c) ∧ k c ρ := by
  split at h
  · exact ⟨_, rfl, h⟩
  · exact False.elim h
theorem dt_val {e : Expr} {m : M O} (h : DE X B e m) (hp : ∀ {t : TE}, PE X e t → PT X e (tTest t)) : DT X B e (mB m) := by
  refine (hp h).imp fun σ H Q ⟨pend, ρ, c, g⟩ => ?_
  refine tE_bnd c g fun o ρ1 v H1 c1 g1 => ?_
  obtain ⟨b, rfl, g2⟩ := go_mB (σ := σ) (pend := pend) g1
  exact ⟨b, c1.out1.bl, g2 H1 c1.tail⟩
def mAnd (a b : M Bool) : M Bool := bnd a fun x => if x = true then b else ret false
def mOr (a b : M Bool) : M Bool := bnd a fun x => if x = true then ret true else b
def mNot (a : M Bool) : M Bool := bnd a fun x => ret (!x)
theorem tT_bnd {α : Type} {m : M Bool} {f : Bool → M α} {k : α → Sl → Prop} {σ : St} {H : Hp} {pend : List (V × O)} {ρ : Sl} {Q : Bool → Hp → Prop} (c : Conf σ H pend ρ) (h : (bnd m f ρ).go k (fun x ρ' => B.p x ρ' pend σ))
    (hQ : ∀ r ρ' H', Conf σ H' pend ρ' → (f r ρ').go k (fun x ρ' => B.p x ρ' pend σ) → Q r H') : tT B m σ H Q :=
  ⟨pend, ρ, c, Out.go_mono (go_bnd.mp h) (fun r ρ' _ g H' c' => hQ r ρ' H' c' g) fun _ _ _ g => g⟩
theorem tAnd_of {ma mb : M Bool} {σ : St} {H : Hp} {Q : Bool → Hp → Prop} (h : tT B (mAnd ma mb) σ H Q) : tAnd (tT B ma) (tT B mb) σ H Q := by
  obtain ⟨pend, ρ, c, g⟩ := h
  refine tT_bnd c g fun b ρ1 H1 c1 g1 => ?_
  cases b with
  | true =>
    rw [if_pos rfl] at g1 ⊢
    exact ⟨pend, ρ1, c1, g1⟩
  | false =>
    rw [if_neg (by decide)] at g1 ⊢
    exact (g1 : ∀ H', Conf σ H' pend ρ1 → Q false H') H1 c1
theorem tOr_of {ma mb : M Bool} {σ : St} {H : Hp} {Q : Bool → Hp → Prop} (h : tT B (mOr ma mb) σ H Q) : tOr (tT B ma) (tT B mb) σ H Q := by
  obtain ⟨pend, ρ, c, g⟩ := h
  refine tT_bnd c g fun b ρ1 H1 c1 g1 => ?_
  cases b with
  | false =>
    rw [if_neg (by decide)] at g1 ⊢
    exact ⟨pend, ρ1, c1, g1⟩
  | true =>
    rw [if_pos rfl] at g1 ⊢
    exact (g1 : ∀ H', Conf σ H' pend ρ1 → Q true H') H1 c1
theorem dt_not {a : Expr} {m : M Bool} {pos : Pos} (h : DT X B a m) : DT X B (.UnaryOp .Not a pos) (mNot m) := by
  refine (pt_not h).imp fun σ H Q ⟨pend, ρ, c, g⟩ => ?_
  refine tT_bnd c g fun b ρ1 H1 c1 g1 => ?_
  exact (g1 : ∀ H', Conf σ H' pend ρ1 → Q (!b) H') H1 c1
/-- a test's answer as a value -/
def mOfB (m : M Bool) : M O := bnd m fun b => ret (.val (.bl b))
def mIf (c : M Bool) (a b : M O) : M O := bnd c fun x => if x = true then a else b
theorem de_ifE {c a b : Expr} {mc : M Bool} {ma mb : M O} {pos : Pos} (hc : DT X B c mc) (ha : DE X B a ma) (hb : DE X B b mb) : DE X B (.IfExp c a b pos) (mIf mc ma mb) := by
  refine (pe_ifExp hc ha hb).imp fun σ H Q ⟨pend, ρ, c, g⟩ => ?_
  refine tT_bnd c g fun b ρ1 H1 c1 g1 => ?_
  cases b with
  | true => rw [if_pos rfl] at g1 ⊢; exact ⟨pend, ρ1, c1, g1⟩
  | false => rw [if_neg (by decide)] at g1 ⊢; exact ⟨pend, ρ1, c1, g1⟩
/-- and, or, not as values: bools -/
def mAndV (a b : M O) : M O := bnd a fun x => match x with
  | .val (.bl true) => b
  | .val (.bl false) => ret (.val (.bl false))
  | _ => stop
def mOrV (a b : M O) : M O := bnd a fun x => match x with
  | .val (.bl true) => ret (.val (.bl true))
  | .val (.bl false) => b
  | _ => stop
theorem de_and {a b : Expr} {rest : List Expr} {ma mb : M O} {pos : Pos} (ha : DE X B a ma) (hb : DE X B (.BoolOp .And (b :: rest) pos) mb) : DE X B (.BoolOp .And (a :: b :: rest) pos) (mAndV ma mb) := by
  refine (pe_and ha hb).imp fun σ H Q ⟨pend, ρ, c, g⟩ => ?_
  refine tE_bnd c g fun o ρ1 v H1 c1 g1 => ?_
  split at g1
  · exact ⟨true, c1.out1.bl, by rw [if_pos rfl]; exact ⟨pend, ρ1, c1.tail, g1⟩⟩
  · have e := c1.out1.bl
    subst e
    exact ⟨false, rfl, by rw [if_neg (by decide)]; exact (g1 : ∀ v H', Conf σ H' ((v, .val (.bl false)) :: pend) ρ1 → Q v H') _ H1 c1⟩
  · exact False.elim g1
theorem de_or {a b : Expr} {rest : List Expr} {ma mb : M O} {pos : Pos} (ha : DE X B a ma) (hb : DE X B (.BoolOp .Or (b :: rest) pos) mb) : DE X B (.BoolOp .Or (a :: b :: rest) pos) (mOrV ma mb) := by
  refine (pe_or ha hb).imp fun σ H Q ⟨pend, ρ, c, g⟩ => ?_
  refine tE_bnd c g fun o ρ1 v H1 c1 g1 => ?_
  split at g1
  · have e := c1.out1.bl
    subst e
    exact ⟨true, rfl, by rw [if_pos rfl]; exact (g1 : ∀ v H', Conf σ H' ((v, .val (.bl true)) :: pend) ρ1 → Q v H') _ H1 c1⟩
  · exact ⟨false, c1.out1.bl, by rw [if_neg (by decide)]; exact ⟨pend, ρ1, c1.tail, g1⟩⟩
  · exact False.elim g1
end
end Dl

namespace Dl
variable [Kc]
open PySem L2

/-- how the slots may have moved -/
structure SR where
  r : St → St → Prop
  refl : ∀ σ, r σ σ
  trans : ∀ {a b c}, r a b → r b c → r a c
def srC (cp : List Nat) : SR := ⟨CP cp, CP.refl cp, CP.trans⟩
def srW (vs : List Nat) : SR := ⟨fun σ σ' => wipe σ' vs = wipe σ vs, fun _ => rfl, fun h g => g.trans h⟩
theorem wipe_set (i : Nat) (v : Option V) : ∀ {vs : List Nat} {σ : St}, i ∈ vs → wipe (σ.set i v) vs = wipe σ vs
  | [], _, h => by simp at h
  | j :: vs, σ, h => by
    show (wipe (σ.set i v) vs).set j none = (wipe σ vs).set j none
    by_cases hm : i ∈ vs
    · rw [wipe_set i v hm]
    · have e : i = j := by
        rcases List.mem_cons.mp h with h | h
        · exact h
        · exact absurd h hm
      subst e
      have h2 : ∀ (us : List Nat) (τ : St), i ∉ us → wipe (τ.set i v) us = (wipe τ us).set i v := by
        intro us
        induction us with
        | nil => intro τ _; rfl
        | cons a us ih =>
          intro τ hn
          show (wipe (τ.set i v) us).set a none = ((wipe τ us).set a none).set i v
          rw [ih τ (fun z => hn (List.mem_cons_of_mem _ z)), List.set_comm]
          exact fun z => hn (by rw [z]; exact List.mem_cons_self)
      rw [h2 vs σ hm, set_set]
def tGr (B : Bx) (S : SR) (m : O → M Unit) : TG := fun v σ H Q => ∃ pend ρ o, Conf σ H ((v, o) :: pend) ρ ∧ (m o ρ).go (fun _ ρ' => ∀ σ' H', Conf σ' H' pend ρ' → S.r σ σ' → Q σ' H') (fun x ρ' => ∀ σ', S.r σ σ' → B.p x ρ' pend σ')
def tGs (B : Bx) (S : SR) (m : List O → M Unit) : TGs := fun vs σ H Q => ∃ pend ρ os, vs.length = os.length ∧ Conf σ H (vs.zip os ++ pend) ρ ∧ (m os ρ).go (fun _ ρ' => ∀ σ' H', Conf σ' H' pend ρ' → S.r σ σ' → Q σ' H') (fun x ρ' => ∀ σ', S.r σ σ' → B.p x ρ' pend σ')
theorem _root_.L2.PG.imp {X : Cx} {e : Expr} {t t' : TG} (h : PG X e t) (k : ∀ v σ H Q, t' v σ H Q → t v σ H Q) : PG X e t' := ⟨fun pins s σ H v u Q I r q => h.run pins s σ H v u Q I r (k v σ H Q q)⟩
theorem _root_.L2.PGs.imp {X : Cx} {e : List Expr} {t t' : TGs} (h : PGs X e t) (k : ∀ v σ H Q, t' v σ H Q → t v σ H Q) : PGs X e t' := ⟨fun pins s σ H v u Q I r q => h.run pins s σ H v u Q I r (k v σ H Q q)⟩
abbrev DG (X : Cx) (B : Bx) (S : SR) (e : Expr) (m : O → M Unit) : Prop := PG X e (tGr B S m)
abbrev DGs (X : Cx) (B : Bx) (S : SR) (e : List Expr) (m : List O → M Unit) : Prop := PGs X e (tGs B S m)
abbrev DS (X : Cx) (B : Bx) (cp : List Nat) (e : Stmt) (m : M Fl) : Prop := PS X e (tS B cp m)
abbrev DSs (X : Cx) (B : Bx) (cp : List Nat) (e : List Stmt) (m : M Fl) : Prop := PSs X e (tS B cp m)
section
variable {X : Cx} {B : Bx} {S : SR} {cp : List Nat}
theorem ds_stop {e : Stmt} : DS X B cp e stop := ⟨fun _ _ _ _ _ _ ⟨_, _, _, h⟩ => False.elim h⟩
theorem dss_stop {e : List Stmt} : DSs X B cp e stop := ⟨fun _ _ _ _ _ _ ⟨_, _, _, h⟩ => False.elim h⟩
theorem dg_stop {e : Expr} : DG X B S e (fun _ => stop) := ⟨fun _ _ _ _ _ _ _ _ _ ⟨_, _, _, _, h⟩ => False.elim h⟩
/-- targets -/
def mSet (ok : Nat → Bool) (i : Nat) (o : O) : M Unit := fun ρ => if ok i = true ∧ i < ρ.length then .ok () (ρ.set i (some o)) else .fail
theorem dg_name {e : Expr} {ok : Nat → Bool} {i : Nat} (hp : PG X e (gName i)) (hS : ∀ i, ok i = true → ∀ σ v, S.r σ (σ.set i (some v))) : DG X B S e (mSet ok i) := by
  refine hp.imp fun v σ H Q ⟨pend, ρ, o, c, g⟩ => ?_
  unfold mSet at g
  split at g
  · rename_i h
    exact g _ _ (c.put (by rw [c.sh.len]; exact h.2)) (hS i h.1 σ v)
  · exact False.elim g
def mGNil (os : List O) : M Unit := match os with
  | [] => ret ()
  | _ => stop
def mGCons (m : O → M Unit) (ms : List O → M Unit) (os : List O) : M Unit := match os with
  | [] => stop
  | o :: os => bnd (m o) fun _ => ms os
theorem dgs_nil : DGs X B S [] mGNil := by
  refine pgs_nil.imp fun vs σ H Q ⟨pend, ρ, os, hl, c, g⟩ => ?_
  cases os with
  | nil =>
    cases vs with
    | nil => exact ⟨rfl, g σ H c (S.refl σ)⟩
    | cons => simp at hl
  | cons => exact False.elim g
theorem dgs_cons {e : Expr} {es : List Expr} {m : O → M Unit} {ms : List O → M Unit} (h1 : DG X B S e m) (h2 : DGs X B S es ms)
    (hs : (assignEach (e :: es) X.env).map (·.2) = assign e X.env :: (assignEach es X.env).map (·.2)) : DGs X B S (e :: es) (mGCons m ms) := by
  refine (pgs_cons h1 h2 hs).imp fun vs σ H Q ⟨pend, ρ, os, hl, c, g⟩ => ?_
  cases os with
  | nil => exact False.elim g
  | cons o os =>
    cases vs with
    | nil => simp at hl
    | cons v vs =>
      refine ⟨v, vs, rfl, vs.zip os ++ pend, ρ, o, c, ?_⟩
      refine Out.go_mono (go_bnd.mp g) (fun _ ρ1 _ g1 σ1 H1 c1 s1 => ?_) fun x ρ1 _ g1 σ' s' => B.monos _ (g1 σ' s')
      exact ⟨pend, ρ1, os, by simpa using hl, c1, Out.go_mono g1 (fun _ ρ2 _ g2 σ2 H2 c2 s2 => g2 σ2 H2 c2 (S.trans s1 s2)) fun x ρ2 _ g2 σ2 s2 => g2 σ2 (S.trans s1 s2)⟩
def mGTup (n : Nat) (ms : List O → M Unit) (o : O) : M Unit := match frz o with
  | .tup ds => if ds.length = n then ms (ds.map O.val) else stop
  | .lst ds => if ds.length = n then ms (ds.map O.val) else stop
  | _ => stop
theorem sq_t {K : PySem.W.Frag} {H : Hp} {p : Addr} {vs : List V} (h : H p = some (.tup vs)) : SqT K H p vs := .inl (.inl h)
theorem sq_l {K : PySem.W.Frag} {H : Hp} {p : Addr} {vs : List V} (h : H p = some (.lst vs)) : SqL K H p vs := .inl (.inl h)
theorem dg_tup {es : List Expr} {k n : Nat} {pos : Pos} {ms : List O → M Unit} (hc : X.calm = true) (h : DGs X B S es ms) (hn : (assignEach es X.env).length = n) (hst : (assignEach es X.env).findIdx? (·.1) = none) :
    DG X B S (.Tuple es k pos) (mGTup n ms) := by
  have h1 : PG X (.Tuple es k pos) (gTup X.K n (tGs B S ms)) := pg_tup hc h hn hst
  have h2 : PG X (.Tuple es k pos) (gLst X.K n (tGs B S ms)) := pg_lst hc h hn hst
  refine ⟨fun pins s σ H v u Q I r ⟨pend, ρ, o, c, g⟩ => ?_⟩
  have c1 := c.frz
  unfold mGTup at g
  generalize e : frz o = d at g c1
  cases d with
  | tup ds =>
    by_cases hl : ds.length = n
    · dsimp only at g
      rw [if_pos hl] at g
      obtain ⟨p, vs, rfl, hr, hv, c2⟩ := c1.out1.openT
      refine h1.run pins s σ H _ u Q I r ⟨p, vs, rfl, sq_t hr, hv.trans hl, pend, ρ, ds.map O.val, by simp [hv], ?_, g⟩
      exact .back c.sh (CG.mid (m := [_]) c2)
    · dsimp only at g
      rw [if_neg hl] at g
      exact False.elim g
  | lst ds =>
    by_cases hl : ds.length = n
    · dsimp only at g
      rw [if_pos hl] at g
      obtain ⟨p, vs, rfl, hr, hv, c2⟩ := c1.out1.openL
      refine h2.run pins s σ H _ u Q I r ⟨p, vs, rfl, sq_l hr, hv.trans hl, pend, ρ, ds.map O.val, by simp [hv], ?_, g⟩
      exact .back c.sh (CG.mid (m := [_]) c2)
    · dsimp only at g
      rw [if_neg hl] at g
      exact False.elim g
  | _ => exact False.elim g

/-! ### statements -/
def mSeq (a b : M Fl) : M Fl := bnd a fun f => match f with
  | .nx => b
  | f => ret f
theorem dss_nil : DSs X B cp [] (ret .nx) := pss_nil.imp fun D σ H ⟨pend, ρ, c, g⟩ => (g : ∀ σ' H', Conf σ' H' pend ρ → CP cp σ σ' → D.nx σ' H') σ H c (CP.refl _ _)
theorem flGo_step {D : Ends} {σ σ1 : St} {pend : List (V × O)} {f : Fl} {ρ : Sl} (h : flGo cp D σ pend f ρ) (s : CP cp σ σ1) : flGo cp D σ1 pend f ρ := by
  cases f with
  | nx => exact fun σ' H' c s' => h σ' H' c (s.trans s')
  | rt r => exact fun v σ' H' c s' => h v σ' H' c (s.trans s')
  | bk => exact fun σ' H' c s' => h σ' H' c (s.trans s')
  | ct => exact fun σ' H' c s' => h σ' H' c (s.trans s')
theorem dss_cons {s : Stmt} {ss : List Stmt} {a b : M Fl} (h1 : DS X B cp s a) (h2 : DSs X B cp ss b) : DSs X B cp (s :: ss) (mSeq a b) := by
  refine (pss_cons h1 h2).imp fun D σ H ⟨pend, ρ, c, g⟩ => ?_
  refine ⟨pend, ρ, c, Out.go_mono (go_bnd.mp g) (fun f ρ1 _ g1 => ?_) fun x ρ1 _ g1 => g1⟩
  cases f with
  | nx => exact fun σ1 H1 c1 s1 => ⟨pend, ρ1, c1, Out.go_mono g1 (fun f ρ2 _ g2 => flGo_step g2 s1) fun x ρ2 _ g2 σ2 s2 => g2 σ2 (s1.trans s2)⟩
  | rt r => exact g1
  | bk => exact g1
  | ct => exact g1
/-- an expression within a statement -/
theorem tE_st {α : Type} {m : M O} {f : O → M α} {k : α → Sl → Prop} {σ : St} {H : Hp} {pend : List (V × O)} {ρ : Sl} {Q : VK} (c : Conf σ H pend ρ) (h : (bnd m f ρ).go k (fun x ρ' => ∀ σ', CP cp σ σ' → B.p x ρ' pend σ'))
    (hQ : ∀ r ρ' v H', Conf σ H' ((v, r) :: pend) ρ' → (f r ρ').go k (fun x ρ' => ∀ σ', CP cp σ σ' → B.p x ρ' pend σ') → Q v H') : tE B m σ H Q :=
  ⟨pend, ρ, c, Out.go_mono (go_bnd.mp h) (fun r ρ' _ g v H' c' => hQ r ρ' v H' c' g) fun _ _ _ g => g σ (CP.refl _ _)⟩
theorem tT_st {α : Type} {m : M Bool} {f : Bool → M α} {k : α → Sl → Prop} {σ : St} {H : Hp} {pend : List (V × O)} {ρ : Sl} {Q : Bool → Hp → Prop} (c : Conf σ H pend ρ) (h : (bnd m f ρ).go k (fun x ρ' => ∀ σ', CP cp σ σ' → B.p x ρ' pend σ'))
    (hQ : ∀ r ρ' H', Conf σ H' pend ρ' → (f r ρ').go k (fun x ρ' => ∀ σ', CP cp σ σ' → B.p x ρ' pend σ') → Q r H') : tT B m σ H Q :=
  ⟨pend, ρ, c, Out.go_mono (go_bnd.mp h) (fun r ρ' _ g H' c' => hQ r ρ' H' c' g) fun _ _ _ g => g σ (CP.refl _ _)⟩
def mDo (m : M O) : M Fl := bnd m fun _ => ret .nx
def mRet (m : M O) : M Fl := bnd m fun o => ret (.rt o)
theorem ds_expr {s : Stmt} {e : Expr} {m : M O} (h : DE X B e m) (hp : ∀ {t : TE}, PE X e t → PS X s (tDrop t)) : DS X B cp s (mDo m) := by
  refine (hp h).imp fun D σ H ⟨pend, ρ, c, g⟩ => ?_
  exact tE_st c g fun r ρ1 v H1 c1 g1 => (g1 : ∀ σ' H', Conf σ' H' pend ρ1 → CP cp σ σ' → D.nx σ' H') σ H1 c1.tail (CP.refl _ _)
theorem ds_ret {e : Expr} {m : M O} {pos : Pos} (h : DE X B e m) : DS X B cp (.Return (some e) pos) (mRet m) := by
  refine (ps_ret h).imp fun D σ H ⟨pend, ρ, c, g⟩ => ?_
  exact tE_st c g fun r ρ1 v H1 c1 g1 => (g1 : ∀ v σ' H', Conf σ' H' ((v, r) :: pend) ρ1 → CP cp σ σ' → D.rt v H') v σ H1 c1 (CP.refl _ _)
theorem ds_retN {pos : Pos} : DS X B cp (.Return none pos) (ret (.rt (.val .non))) := by
  refine ps_retN.imp fun D σ H ⟨pend, ρ, c, g⟩ => ?_
  exact (g : ∀ v σ' H', Conf σ' H' ((v, .val .non) :: pend) ρ → CP cp σ σ' → D.rt v H') _ σ H (c.sc rfl) (CP.refl _ _)
theorem ds_pass {pos : Pos} : DS X B cp (.Pass pos) (ret .nx) := ps_pass.imp fun D σ H ⟨pend, ρ, c, g⟩ => (g : ∀ σ' H', Conf σ' H' pend ρ → CP cp σ σ' → D.nx σ' H') σ H c (CP.refl _ _)
theorem ds_break {pos : Pos} : DS X B cp (.Break pos) (ret .bk) := ps_break.imp fun D σ H ⟨pend, ρ, c, g⟩ => (g : ∀ σ' H', Conf σ' H' pend ρ → CP cp σ σ' → D.bk σ' H') σ H c (CP.refl _ _)
theorem ds_cont {pos : Pos} : DS X B cp (.Continue pos) (ret .ct) := ps_continue.imp fun D σ H ⟨pend, ρ, c, g⟩ => (g : ∀ σ' H', Conf σ' H' pend ρ → CP cp σ σ' → D.ct σ' H') σ H c (CP.refl _ _)
def mIfS (c : M Bool) (a b : M Fl) : M Fl := bnd c fun x => if x = true then a else b
theorem ds_if {c : Expr} {a b : List Stmt} {mc : M Bool} {ma mb : M Fl} {pos : Pos} (hc : DT X B c mc) (ha : DSs X B cp a ma) (hb : DSs X B cp b mb) : DS X B cp (.If c a b pos) (mIfS mc ma mb) := by
  refine (ps_if hc ha hb).imp fun D σ H ⟨pend, ρ, c, g⟩ => ?_
  refine tT_st c g fun b ρ1 H1 c1 g1 => ?_
  cases b with
  | true => rw [if_pos rfl] at g1 ⊢; exact ⟨pend, ρ1, c1, g1⟩
  | false => rw [if_neg (by decide)] at g1 ⊢; exact ⟨pend, ρ1, c1, g1⟩
def mAsg (m : M O) (t : O → M Unit) : M Fl := bnd m fun o => bnd (t o) fun _ => ret .nx
theorem ds_asg {s : Stmt} {e tg : Expr} {m : M O} {t : O → M Unit} (he : DE X B e m) (ht : DG X B (srC cp) tg t) (hp : ∀ {te : TE} {g : TG}, PE X e te → PG X tg g → PS X s (tAsg te g)) : DS X B cp s (mAsg m t) := by
  refine (hp he ht).imp fun D σ H ⟨pend, ρ, c, g⟩ => ?_
  refine tE_st c g fun r ρ1 v H1 c1 g1 => ?_
  exact ⟨pend, ρ1, r, c1, Out.go_mono (go_bnd.mp g1) (fun _ ρ2 _ g2 => g2) fun x ρ2 _ g2 => g2⟩
/-- name = e -/
theorem ds_set {s : Stmt} {e : Expr} {m : M O} {ok : Nat → Bool} {i : Nat} (he : DE X B e m) (hp : ∀ {te : TE}, PE X e te → PS X s (tAsg te (gName i))) (hS : ∀ i, ok i = true → ∀ σ v, CP cp σ (σ.set i (some v))) : DS X B cp s (mAsg m (mSet ok i)) := by
  refine (hp he).imp fun D σ H ⟨pend, ρ, c, g⟩ => ?_
  refine tE_st c g fun r ρ1 v H1 c1 g1 => ?_
  have g2 := go_bnd.mp g1
  unfold mSet at g2
  split at g2
  · rename_i h
    exact g2 _ _ (c1.put (by rw [c1.sh.len]; exact h.2)) (hS i h.1 σ v)
  · exact False.elim g2

/-! ### loops -/
structure WalkD (J : It) (src : List (V × O)) (ds : List D) : Prop where
  go : ∀ i H its, i < ds.length → CI H (src ++ its) → J.go i H
  yld : ∀ i H its x H' d, ds[i]? = some d → CI H (src ++ its) → J.yld i H x H' → CI H' ((x, .val d) :: (src ++ its))
  stop : ∀ H its, CI H (src ++ its) → J.stop ds.length H
def tI (B : Bx) (m : M (List D)) : TI := fun σ H R => ∃ pend ρ, Conf σ H pend ρ ∧ (m ρ).go (fun ds ρ' => ∀ J H' src, WalkD J src ds → Conf σ H' (src ++ pend) ρ' → R J H') (fun x ρ' => B.p x ρ' pend σ)
abbrev DI (X : Cx) (B : Bx) (tg e : Expr) (m : M (List D)) : Prop := PI X tg e (tI B m)
theorem _root_.L2.PI.imp {X : Cx} {tg e : Expr} {t t' : TI} (h : PI X tg e t) (k : ∀ σ H Q, t' σ H Q → t σ H Q) : PI X tg e t' := ⟨fun pins s σ H Q I q => h.run pins s σ H Q I (k σ H Q q)⟩
theorem di_stop {tg e : Expr} : DI X B tg e stop := ⟨fun _ _ _ _ _ _ ⟨_, _, _, h⟩ => False.elim h⟩
def mLoop (t : O → M Unit) (b : M Fl) : List D → M Fl
  | [] => ret .nx
  | d :: ds => bnd (t (.val d)) fun _ => bnd b fun f => match f with
    | .nx => mLoop t b ds
    | .ct => mLoop t b ds
    | .bk => ret .nx
    | .rt r => ret (.rt r)
def mFor (i : M (List D)) (t : O → M Unit) (b : M Fl) : M Fl := bnd i fun ds => mLoop t b ds
theorem drop_eq {α : Type} : ∀ {l : List α} {i : Nat}, i < l.length → ∃ d, l[i]? = some d ∧ l.drop i = d :: l.drop (i + 1)
  | [], i, h => by simp at h
  | a :: l, 0, h => ⟨a, rfl, rfl⟩
  | a :: l, i + 1, h => by
    obtain ⟨d, h1, h2⟩ := drop_eq (l := l) (i := i) (by simpa using h)
    exact ⟨d, by simpa using h1, by simpa using h2⟩
theorem ds_for {tg it : Expr} {body : List Stmt} {mi : M (List D)} {t : O → M Unit} {b : M Fl} {pos : Pos} (hp : PassesOwn (model X.prog X.w) X.A X.env X.xe) (hc : X.calm = true) (hi : DI X B tg it mi) (hg : DG X B (srC cp) tg t) (hb : DSs X B cp body b)
    (hs : ∀ x, foldedSetIterable it X.env x = pure x) : DS X B cp (.For tg it body [] pos) (mFor mi t b) := by
  refine (ps_for hp hc hi hg hb hs).imp fun D σ H ⟨pend, ρ, c, g⟩ => ?_
  refine ⟨pend, ρ, c, Out.go_mono (go_bnd.mp g) (fun ds ρ1 _ g1 J H1 src wk c1 => ?_) fun x ρ1 _ g1 => g1 σ (CP.refl _ _)⟩
  refine ⟨fun i n σ' H' => n = ds.length - i ∧ i ≤ ds.length ∧ CP cp σ σ' ∧ ∃ ρ', Conf σ' H' (src ++ pend) ρ' ∧ (mLoop t b (ds.drop i) ρ').go (flGo cp D σ pend) (fun x ρ' => ∀ σ', CP cp σ σ' → B.p x ρ' pend σ'),
    ⟨ds.length, rfl, Nat.zero_le _, CP.refl _ _, ρ1, c1, g1⟩, ?_⟩
  rintro i n σ2 H2 ⟨rfl, hi, s2, ρ2, c2, g2⟩
  by_cases hl : i < ds.length
  · right
    obtain ⟨d, hd, he⟩ := drop_eq hl
    rw [he] at g2
    refine ⟨wk.go i H2 (sI σ2 ρ2 ++ pend) hl c2.out, fun σ' H' => CP cp σ σ' ∧ ∃ ρ', Conf σ' H' (src ++ pend) ρ' ∧ (mLoop t b (ds.drop (i + 1)) ρ').go (flGo cp D σ pend) (fun x ρ' => ∀ σ', CP cp σ σ' → B.p x ρ' pend σ'),
      fun σ' H' q => ⟨ds.length - (i + 1), by omega, rfl, hl, q.1, q.2⟩, fun x H3 y => ?_⟩
    have c3 : Conf σ2 H3 ((x, .val d) :: (src ++ pend)) ρ2 := .back (pre := (x, .val d) :: src) c2.sh (wk.yld i H2 _ x H3 d hd c2.out y)
    refine ⟨src ++ pend, ρ2, .val d, c3, Out.go_mono (go_bnd.mp g2) (fun _ ρ3 _ g3 σ3 H4 c4 s3 => ?_) fun x ρ3 _ g3 σ3 s3 => B.monos _ (g3 σ3 (s2.trans s3))⟩
    have s3' : CP cp σ σ3 := s2.trans s3
    refine ⟨src ++ pend, ρ3, c4, Out.go_mono (go_bnd.mp g3) (fun f ρ4 _ g4 => ?_) fun x ρ4 _ g4 σ4 s4 => B.monos _ (g4 σ4 (s3'.trans s4))⟩
    cases f with
    | nx => exact fun σ4 H5 c5 s4 => ⟨s3'.trans s4, ρ4, c5, g4⟩
    | ct => exact fun σ4 H5 c5 s4 => ⟨s3'.trans s4, ρ4, c5, g4⟩
    | bk => exact fun σ4 H5 c5 s4 => (g4 : ∀ σ' H', Conf σ' H' pend ρ4 → CP cp σ σ' → D.nx σ' H') σ4 H5 c5.drop (s3'.trans s4)
    | rt r => exact fun v σ4 H5 c5 s4 => (g4 : ∀ v σ' H', Conf σ' H' ((v, r) :: pend) ρ4 → CP cp σ σ' → D.rt v H') v σ4 H5 (.back1 c5.sh (CG.mid (a := [_]) (Conf.out (pre := (v, r) :: src) c5))) (s3'.trans s4)
  · left
    have e : i = ds.length := by omega
    subst e
    rw [List.drop_length] at g2
    exact ⟨wk.stop H2 _ c2.out, (g2 : ∀ σ' H', Conf σ' H' pend ρ2 → CP cp σ σ' → D.nx σ' H') σ2 H2 c2.drop s2⟩
def mWhile (c : M Bool) (b : M Fl) : Nat → M Fl
  | 0 => stop
  | n + 1 => bnd c fun x => if x = true then bnd b fun f => match f with
    | .nx => mWhile c b n
    | .ct => mWhile c b n
    | .bk => ret .nx
    | .rt r => ret (.rt r)
    else ret .nx
theorem ds_while {c : Expr} {body : List Stmt} {mc : M Bool} {b : M Fl} {pos : Pos} (N : Nat) (hp : PassesOwn (model X.prog X.w) X.A X.env X.xe) (hc : DT X B c mc) (hb : DSs X B cp body b) : DS X B cp (.While c body [] pos) (mWhile mc b N) := by
  refine (ps_while hp hc hb).imp fun D σ H ⟨pend, ρ, c, g⟩ => ?_
  refine ⟨fun n σ' H' => CP cp σ σ' ∧ ∃ ρ', Conf σ' H' pend ρ' ∧ (mWhile mc b n ρ').go (flGo cp D σ pend) (fun x ρ' => ∀ σ', CP cp σ σ' → B.p x ρ' pend σ'), ⟨N, CP.refl _ _, ρ, c, g⟩, ?_⟩
  rintro n σ1 H1 ⟨s1, ρ1, c1, g1⟩
  cases n with
  | zero => exact False.elim g1
  | succ n =>
    refine ⟨pend, ρ1, c1, Out.go_mono (go_bnd.mp g1) (fun x ρ2 _ g2 H2 c2 => ?_) fun x ρ2 _ g2 => g2 σ1 s1⟩
    cases x with
    | false =>
      rw [if_neg (by decide)] at g2 ⊢
      exact (g2 : ∀ σ' H', Conf σ' H' pend ρ2 → CP cp σ σ' → D.nx σ' H') σ1 H2 c2 s1
    | true =>
      rw [if_pos rfl] at g2 ⊢
      refine ⟨fun σ' H' => CP cp σ σ' ∧ ∃ ρ', Conf σ' H' pend ρ' ∧ (mWhile mc b n ρ').go (flGo cp D σ pend) (fun x ρ' => ∀ σ', CP cp σ σ' → B.p x ρ' pend σ'), fun σ' H' q => ⟨n, Nat.lt_succ_self n, q⟩, ?_⟩
      refine ⟨pend, ρ2, c2, Out.go_mono (go_bnd.mp g2) (fun f ρ4 _ g4 => ?_) fun x ρ4 _ g4 σ4 s4 => g4 σ4 (s1.trans s4)⟩
      cases f with
      | nx => exact fun σ4 H5 c5 s4 => ⟨s1.trans s4, ρ4, c5, g4⟩
      | ct => exact fun σ4 H5 c5 s4 => ⟨s1.trans s4, ρ4, c5, g4⟩
      | bk => exact fun σ4 H5 c5 s4 => (g4 : ∀ σ' H', Conf σ' H' pend ρ4 → CP cp σ σ' → D.nx σ' H') σ4 H5 c5 (s1.trans s4)
      | rt r => exact fun v σ4 H5 c5 s4 => (g4 : ∀ v σ' H', Conf σ' H' ((v, r) :: pend) ρ4 → CP cp σ σ' → D.rt v H') v σ4 H5 c5 (s1.trans s4)

/-! ### comprehensions -/
def wipeO (ρ : Sl) : List Nat → Sl
  | [] => ρ
  | v :: vs => (wipeO ρ vs).set v none
theorem sI_drop1 : ∀ (σ : St) (ρ : Sl) (i : Nat), ∃ a, (sI σ ρ).Perm (a ++ sI (σ.set i none) (ρ.set i none))
  | [], ρ, i => ⟨[], by simp [sI]⟩
  | a :: σ, [], i => by
    refine ⟨[], ?_⟩
    cases i <;> cases a <;> simp [sI]
  | a :: σ, b :: ρ, 0 => by
    cases a with
    | none => exact ⟨[], .refl _⟩
    | some a =>
      cases b with
      | none => exact ⟨[], .refl _⟩
      | some b => exact ⟨[(a, b)], .refl _⟩
  | a :: σ, b :: ρ, i + 1 => by
    obtain ⟨x, hx⟩ := sI_drop1 σ ρ i
    cases a with
    | none => exact ⟨x, hx⟩
    | some a =>
      cases b with
      | none => exact ⟨x, hx⟩
      | some b => exact ⟨x, (hx.cons (a, b)).trans List.perm_middle.symm⟩
theorem Conf.wipe {H : Hp} {pend : List (V × O)} : ∀ {vs : List Nat} {σ : St} {ρ : Sl}, Conf σ H pend ρ → Conf (L2.wipe σ vs) H pend (wipeO ρ vs)
  | [], _, _, c => c
  | v :: vs, σ, ρ, c => by
    have c1 := Conf.wipe (vs := vs) c
    show Conf ((L2.wipe σ vs).set v none) H pend ((wipeO ρ vs).set v none)
    obtain ⟨a, ha⟩ := sI_drop1 (L2.wipe σ vs) (wipeO ρ vs) v
    refine ⟨⟨by rw [List.length_set, List.length_set, c1.sh.len], fun j o e => ?_⟩, ?_⟩
    · by_cases hj : v = j
      · subst hj
        have hl := (List.getElem?_eq_some_iff.mp e).1
        rw [List.length_set] at hl
        rw [List.getElem?_set_self hl] at e
        cases e
      · rw [List.getElem?_set_ne hj] at e ⊢
        exact c1.sh.has j o e
    · have := c1.ci.perm (ha.append_right pend)
      rw [List.append_assoc] at this
      exact this.drop
theorem sI_more : ∀ {σ τ : St} {ρ : Sl}, Sh σ ρ → σ.length = τ.length → (∀ (i : Nat) (v : V), σ[i]? = some (some v) → τ[i]? = some (some v)) → sI τ ρ = sI σ ρ
  | [], [], ρ, _, _, _ => rfl
  | [], _ :: _, _, _, h, _ => by simp at h
  | _ :: _, [], _, _, h, _ => by simp at h
  | a :: σ, b :: τ, [], h, _, _ => by
    have := h.len
    simp at this
  | a :: σ, b :: τ, c :: ρ, h, hl, k => by
    have ih := sI_more (σ := σ) (τ := τ) (ρ := ρ) h.tail (by simpa using hl) fun i v e => by simpa using k (i + 1) v (by simpa using e)
    cases c with
    | none => cases a <;> cases b <;> exact ih
    | some c =>
      obtain ⟨v, hv⟩ := h.has 0 c rfl
      have hb := k 0 v hv
      simp at hv hb
      subst hv hb
      show (v, c) :: sI τ ρ = (v, c) :: sI σ ρ
      rw [ih]
theorem Conf.unwipe {σ : St} {H : Hp} {pend : List (V × O)} {ρ : Sl} {vs : List Nat} (c : Conf (L2.wipe σ vs) H pend ρ) : Conf σ H pend ρ := by
  refine ⟨⟨by rw [← c.sh.len, wipe_length], fun i o e => ?_⟩, ?_⟩
  · obtain ⟨v, hv⟩ := c.sh.has i o e
    exact ⟨v, (wipe_some hv).1⟩
  · rw [sI_more c.sh (by rw [wipe_length]) fun i v e => (wipe_some e).1]
    exact c.ci
theorem wipe_wipe (σ : St) (vs : List Nat) : L2.wipe (L2.wipe σ vs) vs = L2.wipe σ vs := by
  have key : ∀ (us : List Nat) (τ : St), (∀ i ∈ us, ∀ v : V, τ[i]? ≠ some (some v)) → L2.wipe τ us = τ := by
    intro us
    induction us with
    | nil => intro τ _; rfl
    | cons a us ih =>
      intro τ h
      show (L2.wipe τ us).set a none = τ
      rw [ih τ fun i hi => h i (List.mem_cons_of_mem _ hi)]
      cases e : τ[a]? with
      | none =>
        apply List.ext_getElem?
        intro j
        by_cases hj : a = j
        · subst hj
          rw [e, List.getElem?_set]
          have := List.getElem?_eq_none_iff.mp e
          simp; omega
        · rw [List.getElem?_set_ne hj]
      | some z =>
        cases z with
        | none => exact set_self e
        | some v => exact absurd e (h a List.mem_cons_self v)
  exact key vs _ fun i hi v e => (wipe_some e).2 hi
def mWipe (vs : List Nat) : M Unit := fun ρ => .ok () (wipeO ρ vs)
def mComps (vs : List Nat) (t : O → M Unit) (c : M Bool) (e : M O) : List D → List O → M (List O)
  | [], acc => ret acc
  | d :: ds, acc => bnd (t (.val d)) fun _ => bnd c fun x => if x = true then bnd e fun o => bnd (mWipe vs) fun _ => mComps vs t c e ds (acc ++ [o]) else bnd (mWipe vs) fun _ => mComps vs t c e ds acc
def noEx {α : Type} (m : M α) : M α := fun ρ => match m ρ with
  | .ex _ _ => .fail
  | r => r
theorem go_noEx {α : Type} {m : M α} {ρ : Sl} {k : α → Sl → Prop} {b : Ex → Sl → Prop} (h : (noEx m ρ).go k b) : (m ρ).go k (fun _ _ => False) := by
  unfold noEx at h
  cases e : m ρ with
  | ok a ρ' => rw [e] at h; exact h
  | ex x ρ' => rw [e] at h; exact h
  | fail => rw [e] at h; exact h
def mComp (vs : List Nat) (i : M (List D)) (t : O → M Unit) (c : M Bool) (e : M O) : M O := bnd i fun ds => if ds.length ≤ 1000000 then noEx (bnd (mWipe vs) fun _ => bnd (mComps vs t c e ds []) fun os => ret (.lst os)) else stop
theorem big : 1000000 < sizeLine := by decide
theorem lc_of {σ : St} {H : Hp} {Q : VK} {vs : List Nat} {mi : M (List D)} {t : O → M Unit} {mc : M Bool} {me : M O} (h : tE B (mComp vs mi t mc me) σ H Q) : tLc (tI B mi) (tGr B0 (srW vs) t) (tT B0 mc) (tE B0 me) vs σ H Q := by
  obtain ⟨pend, ρ, c, g⟩ := h
  refine ⟨pend, ρ, c, Out.go_mono (go_bnd.mp g) (fun ds ρ1 _ g1 J H1 src wk c1 => ?_) fun x ρ1 _ g1 => g1⟩
  intro p hp
  by_cases hz : ds.length ≤ 1000000
  · rw [if_pos hz] at g1
    have g2 := go_noEx g1
    have c2 : Conf (wipe σ vs) H1 (src ++ pend) (wipeO ρ1 vs) := c1.wipe
    have c3 : Conf (wipe σ vs) (upd H1 p (.lst [])) ((.ref p, .lst []) :: (src ++ pend)) (wipeO ρ1 vs) := .back1 c2.sh (CG.newL (its := []) c2.ci hp (by simp))
    refine ⟨fun i n H' => n = ds.length - i ∧ i ≤ ds.length ∧ ∃ ρ' acc, Conf (wipe σ vs) H' ((.ref p, .lst acc) :: (src ++ pend)) ρ' ∧ acc.length ≤ i ∧
      (mComps vs t mc me (ds.drop i) acc ρ').go (fun os ρ'' => ∀ v H'', Conf σ H'' ((v, .lst os) :: pend) ρ'' → Q v H'') (fun _ _ => False), ⟨ds.length, rfl, Nat.zero_le _, _, [], c3, Nat.le_refl _, ?_⟩, ?_⟩
    · have g3 := go_bnd.mp g2
      exact Out.go_mono (go_bnd.mp g3) (fun os ρ2 _ g4 => g4) fun _ _ _ z => z
    rintro i n H2 ⟨rfl, hi, ρ2, acc, c4, ha, g4⟩
    have c4' : CI H2 (src ++ ((.ref p, .lst acc) :: (sI (wipe σ vs) ρ2 ++ pend))) := (Conf.out (pre := (.ref p, .lst acc) :: src) c4).perm List.perm_middle.symm
    by_cases hl : i < ds.length
    · right
      obtain ⟨d, hd, he⟩ := drop_eq hl
      rw [he] at g4
      refine ⟨wk.go i H2 _ hl c4', fun H' => ∃ ρ' acc, Conf (wipe σ vs) H' ((.ref p, .lst acc) :: (src ++ pend)) ρ' ∧ acc.length ≤ i + 1 ∧
        (mComps vs t mc me (ds.drop (i + 1)) acc ρ').go (fun os ρ'' => ∀ v H'', Conf σ H'' ((v, .lst os) :: pend) ρ'' → Q v H'') (fun _ _ => False), fun H' q => ⟨ds.length - (i + 1), by omega, rfl, hl, q⟩, fun x H3 y => ?_⟩
      have y1 := wk.yld i H2 _ x H3 d hd c4' y
      have c5 : Conf (wipe σ vs) H3 ((x, .val d) :: (.ref p, .lst acc) :: (src ++ pend)) ρ2 := .back (pre := (x, .val d) :: (.ref p, .lst acc) :: src) c4.sh (y1.perm (List.perm_middle.cons _))
      refine ⟨_, ρ2, .val d, c5, Out.go_mono (go_bnd.mp g4) (fun _ ρ3 _ g5 σ3 H4 c6 s3 => ?_) fun _ _ _ z => z.elim⟩
      refine ⟨s3.trans (show wipe (wipe σ vs) vs = wipe σ vs from wipe_wipe σ vs), _, ρ3, c6, Out.go_mono (go_bnd.mp g5) (fun b ρ4 _ g6 H5 c7 => ?_) fun _ _ _ z => z.elim⟩
      have sw : wipe σ3 vs = wipe σ vs := s3.trans (wipe_wipe σ vs)
      cases b with
      | false =>
        rw [if_neg (by decide)] at g6
        refine iteF ?_
        have c8 : Conf (wipe σ3 vs) H5 ((.ref p, .lst acc) :: (src ++ pend)) (wipeO ρ4 vs) := c7.wipe
        rw [sw] at c8
        exact ⟨_, acc, c8, by omega, g6⟩
      | true =>
        rw [if_pos rfl] at g6
        refine iteT ?_
        refine ⟨_, ρ4, c7, Out.go_mono (go_bnd.mp g6) (fun o ρ5 _ g7 v H6 c8 => ?_) fun _ _ _ z => z.elim⟩
        have c9 : Conf (wipe σ3 vs) H6 ((v, o) :: (.ref p, .lst acc) :: (src ++ pend)) (wipeO ρ5 vs) := c8.wipe
        rw [sw] at c9
        have o1 : CI H6 ((.ref p, .lst acc) :: (v, o) :: (src ++ (sI (wipe σ vs) (wipeO ρ5 vs) ++ pend))) := (Conf.out (pre := (v, o) :: (.ref p, .lst acc) :: src) c9).perm (.swap ..)
        obtain ⟨q, its, e1, e2, e3, hr, o2⟩ := o1.open'
        cases e1
        have o3 : CG [p] H6 ((its ++ [(v, o)]) ++ (src ++ (sI (wipe σ vs) (wipeO ρ5 vs) ++ pend))) := by
          rw [List.append_assoc]
          exact o2
        have o4 := o3.closeW
        rw [List.map_append, List.map_append] at o4
        have hlen : (its.map (·.1)).length = acc.length := by rw [e2, List.length_map, List.length_map]
        refine ⟨its.map (·.1), e3, by have := big; omega, _, acc ++ [o], .back (pre := (.ref p, .lst (acc ++ [o])) :: src) c9.sh ?_, by rw [List.length_append]; simp; omega, g7⟩
        rw [e2]
        exact o4
    · left
      have e : i = ds.length := by omega
      subst e
      rw [List.drop_length] at g4
      refine ⟨wk.stop H2 _ c4', (g4 : ∀ v H'', Conf σ H'' ((v, .lst acc) :: pend) ρ2 → Q v H'') _ _ ?_⟩
      have c5 : Conf (wipe σ vs) H2 ((.ref p, .lst acc) :: pend) ρ2 := .back1 c4.sh (CG.mid (a := [_]) (Conf.out (pre := (.ref p, .lst acc) :: src) c4))
      exact c5.unwipe
  · rw [if_neg hz] at g1
    exact False.elim g1
end
end Dl

namespace Dl
variable [Kc]
open PySem L2

theorem CG.mem {R : List Addr} {H : Hp} {v : V} {d : D} {its : List (V × O)} (c : CG R H its) (h : (v, O.val d) ∈ its) : CG R H ((v, .val d) :: its) := by
  obtain ⟨s, t, rfl⟩ := List.append_of_mem h
  exact (c.perm List.perm_middle).dup.perm (List.perm_middle.symm.cons _)
theorem atI_map {α β : Type} (f : α → β) (l : List α) (i : Int) : atI (l.map f) i = (atI l i).map f := by
  unfold atI
  rw [List.length_map]
  cases ixN l.length i with
  | none => rfl
  | some j => simp
theorem atI_mem {α : Type} {l : List α} {i : Int} {a : α} (h : atI l i = some a) : a ∈ l := by
  unfold atI at h
  cases e : ixN l.length i with
  | none => rw [e] at h; cases h
  | some j => rw [e] at h; exact List.mem_of_getElem? h
theorem atI_zip {vs : List V} {ds : List D} (hl : vs.length = ds.length) {i : Int} {d : D} (h : atI ds i = some d) : ∃ w, atI vs i = some w ∧ (w, O.val d) ∈ vs.zip (ds.map O.val) := by
  have e1 : (vs.zip (ds.map O.val)).map (·.2) = ds.map O.val := zip_snd (by simp [hl])
  have e2 : (vs.zip (ds.map O.val)).map (·.1) = vs := zip_fst (by simp [hl])
  have h1 : atI (ds.map O.val) i = some (.val d) := by rw [atI_map, h]; rfl
  rw [← e1, atI_map] at h1
  cases q : atI (vs.zip (ds.map O.val)) i with
  | none => rw [q] at h1; cases h1
  | some p =>
    rw [q] at h1
    have h2 : p.2 = O.val d := Option.some.inj h1
    refine ⟨p.1, ?_, ?_⟩
    · have h3 : atI ((vs.zip (ds.map O.val)).map (·.1)) i = some p.1 := by rw [atI_map, q]; rfl
      rwa [e2] at h3
    · rw [← h2]; exact atI_mem q

/-! ### x[k] -/
def ixO (o : O) (k : D) : Option D := match o, k with
  | .lst l, .int i => (match atI l i with
    | some (.val d) => some d
    | _ => none)
  | .val (.tup ds), .int i => atI ds i
  | .val (.lst ds), .int i => atI ds i
  | .val (.fl ns), .int i => (atI ns i).map D.int
  | .val (.str x), .int i => if x.length ≤ 1000000 then (atI x.cps.toList i).map fun c => .str ⟨#[c]⟩ else none
  | _, _ => none
theorem le_line {n : Nat} (h : n ≤ 1000000) : n ≤ sizeLine := Nat.le_trans h (Nat.le_of_lt big)
theorem rep_fl {W : Addr → Prop} {H : Hp} {v : V} {ns : List Int} (r : Rep W H v (.fl ns)) : ∃ p, v = .ref p ∧ SqL Kc.k H p (ns.map V.int) := by
  cases r with
  | fl h =>
    rcases h with ⟨_, o, h⟩ | h
    · exact ⟨_, rfl, .inl (.inr ⟨o, h⟩)⟩
    · exact ⟨_, rfl, .inr h⟩
theorem rIx_of {o : O} {k d : D} {H : Hp} {v y : V} {its : List (V × O)} {Q : VK} (h : ixO o k = some d) (c : CI H ((v, o) :: (y, .val k) :: its)) (hQ : ∀ w, CI H ((w, .val d) :: (v, o) :: its) → Q w H) : rIx Kc.k v y H Q := by
  have cy := c.perm (.swap ..)
  have c0 : CI H ((v, o) :: its) := cy.tail
  unfold ixO at h
  split at h
  · rename_i l i
    have ey := cy.int
    obtain ⟨p, its', rfl, rfl, hp, hr, c2⟩ := c0.open'
    split at h
    · rename_i d' hd
      cases h
      rw [atI_map] at hd
      cases q : atI its' i with
      | none => rw [q] at hd; cases hd
      | some wo =>
        rw [q] at hd
        have h2 : wo.2 = O.val d := Option.some.inj hd
        have hm : (wo.1, O.val d) ∈ its' ++ its := by
          rw [← h2]
          exact List.mem_append_left _ (atI_mem q)
        refine .inl ⟨p, its'.map (·.1), i, wo.1, rfl, ey, SqL.of hp, by rw [atI_map, q]; rfl, hQ _ ?_⟩
        have c3 : CG [p] H (its' ++ ((wo.1, .val d) :: its)) := (c2.mem hm).perm List.perm_middle.symm
        exact (c3.close hp).perm (.swap ..)
    · cases h
  · rename_i ds i
    have ey := cy.int
    obtain ⟨p, vs, rfl, hr, hl, c2⟩ := c0.openT
    obtain ⟨w, h1, h2⟩ := atI_zip hl h
    refine .inr (.inl ⟨p, vs, i, w, rfl, ey, sq_t hr, h1, hQ _ ?_⟩)
    exact CG.mid (a := [_]) (c2.mem (List.mem_append_left _ h2))
  · rename_i ds i
    have ey := cy.int
    obtain ⟨p, vs, rfl, hr, hl, c2⟩ := c0.openL
    obtain ⟨w, h1, h2⟩ := atI_zip hl h
    refine .inl ⟨p, vs, i, w, rfl, ey, sq_l hr, h1, hQ _ ?_⟩
    exact CG.mid (a := [_]) (c2.mem (List.mem_append_left _ h2))
  · rename_i ns i
    have ey := cy.int
    obtain ⟨W, r⟩ := c0.rep
    obtain ⟨p, rfl, s⟩ := rep_fl r
    cases q : atI ns i with
    | none => rw [q] at h; cases h
    | some z =>
      rw [q] at h
      cases h
      exact .inl ⟨p, _, i, .int z, rfl, ey, s, by rw [atI_map, q]; rfl, hQ _ (c0.sc rfl)⟩
  · rename_i x i
    have ey := cy.int
    have ev := c0.str
    split at h
    · rename_i hz
      cases q : atI x.cps.toList i with
      | none => rw [q] at h; cases h
      | some a =>
        rw [q] at h
        have h2 : D.str ⟨#[a]⟩ = d := Option.some.inj h
        subst h2
        exact .inr (.inr ⟨x, i, a, ev, ey, le_line hz, q, hQ _ (c0.sc rfl)⟩)
    · cases h
  · cases h
section
variable {X : Cx} {B : Bx} {S : SR} {cp : List Nat}
def ixD (d k : D) : Option O := (ixO (.val d) k).map O.val
theorem op2_ix : Op2 (rIx Kc.k) ixD := fun d e o ho x y H its Q c k => by
  unfold ixD at ho
  cases q : ixO (.val d) e with
  | none => rw [q] at ho; cases ho
  | some r =>
    rw [q] at ho
    cases ho
    exact rIx_of q c fun w c2 => k w H (CG.mid (a := [_]) (m := [_]) c2)
/-- a slot's thing, k known -/
def mIxAt (i : Nat) (k : D) : M O := fun ρ => match ρ[i]? with
  | some (some o) => (match ixO o k with
    | some d => .ok (.val d) ρ
    | none => .fail)
  | _ => .fail
def mHas {α : Type} (i : Nat) (m : M α) : M α := fun ρ => match ρ[i]? with
  | some (some _) => m ρ
  | _ => .fail
def mIxS (i : Nat) (m : M O) : M O := mHas i (bnd m fun k => mIxAt i (frz k))
theorem go_has {α : Type} {i : Nat} {m : M α} {ρ : Sl} {k : α → Sl → Prop} {b : Ex → Sl → Prop} (h : (mHas i m ρ).go k b) : (∃ o, ρ[i]? = some (some o)) ∧ (m ρ).go k b := by
  unfold mHas at h
  split at h
  · rename_i o e
    exact ⟨⟨o, e⟩, h⟩
  · exact False.elim h
theorem de_ixS {e a b : Expr} {i : Nat} {m : M O} (hK : X.K = Kc.k) (ha : PE X a (tVar i)) (hb : DE X B b m) (he : ∀ {ta tb : TE}, PE X a ta → PE X b tb → PE X e (tOp (rIx X.K) ta tb)) : DE X B e (mIxS i m) := by
  refine (he ha hb).imp fun σ H Q ⟨pend, ρ, c, g⟩ => ?_
  rw [hK]
  obtain ⟨⟨o0, e0⟩, g⟩ := go_has g
  obtain ⟨v, hv⟩ := c.sh.has i o0 e0
  refine ⟨v, hv, tE_bnd c g fun k ρ1 y H1 c1 g1 => ?_⟩
  unfold mIxAt at g1
  split at g1
  · rename_i o e1
    split at g1
    · rename_i d hd
      obtain ⟨v', hv', c2⟩ := c1.frz.take e1
      rw [hv] at hv'
      cases hv'
      refine rIx_of hd (Conf.out (pre := [_, _]) c2) fun w c3 => g1 w H1 ?_
      have c4 : Conf σ H1 ((v, o) :: (w, .val d) :: pend) (ρ1.set i none) := .back (pre := [_, _]) c2.sh (c3.perm (.swap ..))
      have c5 := c4.putS hv
      rw [set_set, set_self e1] at c5
      exact c5
    · exact False.elim g1
  · exact False.elim g1

/-! ### x.append(e) -/
def mAppAt (i : Nat) (o : O) : M O := fun ρ => match ρ[i]? with
  | some (some (.lst l)) => if l.length < 1000000 then .ok (.val .non) (ρ.set i (some (.lst (l ++ [o])))) else .fail
  | _ => .fail
def mHasL {α : Type} (i : Nat) (m : M α) : M α := fun ρ => match ρ[i]? with
  | some (some (.lst _)) => m ρ
  | _ => .fail
def mApp (i : Nat) (m : M O) : M O := mHasL i (bnd m fun o => mAppAt i o)
theorem go_hasL {α : Type} {i : Nat} {m : M α} {ρ : Sl} {k : α → Sl → Prop} {b : Ex → Sl → Prop} (h : (mHasL i m ρ).go k b) : (∃ l, ρ[i]? = some (some (.lst l))) ∧ (m ρ).go k b := by
  unfold mHasL at h
  split at h
  · rename_i o e
    exact ⟨⟨o, e⟩, h⟩
  · exact False.elim h
theorem de_app {e a b : Expr} {i : Nat} {m : M O} (ha : PE X a (tVar i)) (hb : DE X B b m) (he : ∀ {ta tb : TE}, PE X a ta → PE X b tb → PE X e (tBM X.K "list" rAppend ta (tCons tb tNil))) : DE X B e (mApp i m) := by
  refine (he ha hb).imp fun σ H Q ⟨pend, ρ, c, g⟩ => ?_
  obtain ⟨⟨l0, e0⟩, g⟩ := go_hasL g
  obtain ⟨v, hv, c0⟩ := c.take e0
  obtain ⟨p, its, rfl, _, hp, _, _⟩ := c0.out1.open'
  refine ⟨_, hv, .inl ⟨rfl, _, SqL.of hp⟩, tE_bnd c g fun o ρ1 y H1 c1 g1 => ?_⟩
  unfold mAppAt at g1
  split at g1
  · rename_i l e1
    split at g1
    · rename_i hz
      obtain ⟨v', hv', c2⟩ := c1.take e1
      rw [hv] at hv'
      cases hv'
      obtain ⟨q, its2, e2, e3, hq, _, c3⟩ := (Conf.out (pre := [_, _]) c2).open'
      cases e2
      refine ⟨p, its2.map (·.1), y, rfl, rfl, hq, by rw [e3, List.length_map] at hz; rw [List.length_map]; have := big; omega, g1 _ _ ?_⟩
      have c4 : CG [p] H1 ((its2 ++ [(y, o)]) ++ (sI σ (ρ1.set i none) ++ pend)) := by
        rw [List.append_assoc]
        exact c3
      have c5 := c4.closeW
      rw [List.map_append, List.map_append, ← e3] at c5
      have c6 : Conf σ (upd H1 p (.lst (its2.map (·.1) ++ [y]))) ((.ref p, .lst (l ++ [o])) :: pend) (ρ1.set i none) := .back1 c2.sh c5
      have c7 := c6.putS hv
      rw [set_set] at c7
      exact c7.sc rfl
    · exact False.elim g1
  · exact False.elim g1

/-! ### x[k] = v -/
def mPutAt (i : Nat) (k : D) (o : O) : M Unit := fun ρ => match ρ[i]?, k with
  | some (some (.lst l)), .int z => (match ixN l.length z with
    | some n => .ok () (ρ.set i (some (.lst (l.set n o))))
    | none => .fail)
  | _, _ => .fail
def mPut (i : Nat) (m : M O) (o : O) : M Unit := mHas i (bnd m fun k => mPutAt i (frz k) o)
theorem put_of {σ : St} {H : Hp} {y v : V} {k : D} {o : O} {pend : List (V × O)} {ρ : Sl} {i : Nat} {w : V} {Q : Hp → Prop} {f : Unit → Sl → Prop} {b : Ex → Sl → Prop} (hv : σ[i]? = some (some w)) (c : Conf σ H ((y, .val k) :: (v, o) :: pend) ρ) (g : (mPutAt i k o ρ).go f b)
    (hQ : ∀ H' ρ', Conf σ H' pend ρ' → f () ρ' → Q H') : rSetL w y v H Q := by
  unfold mPutAt at g
  split at g
  · rename_i l z e1
    split at g
    · rename_i n hn
      have ey := c.out1.int
      obtain ⟨v', hv', c2⟩ := c.take e1
      rw [hv] at hv'
      cases hv'
      obtain ⟨p, its, rfl, e3, hq, _, c3⟩ := (Conf.out (pre := [_, _, _]) c2).open'
      have hlen : (its.map (·.1)).length = l.length := by rw [e3, List.length_map, List.length_map]
      refine ⟨p, its.map (·.1), z, n, rfl, ey, hq, by rw [hlen]; exact hn, hQ _ _ ?_ g⟩
      have hlt : n < its.length := by
        have := (ixN_seq hn).2.1
        rw [e3, List.length_map] at this
        exact this
      have c4 : CG [p] H (its.set n (v, o) ++ (sI σ (ρ.set i none) ++ pend)) := by
        have c5 : CG [p] H (its ++ ((v, o) :: (sI σ (ρ.set i none) ++ pend))) := CG.mid (m := [_]) c3
        have c6 : CG [p] H ((v, o) :: (its ++ (sI σ (ρ.set i none) ++ pend))) := c5.perm List.perm_middle
        obtain ⟨s, t, x, h1, h2⟩ : ∃ s t x, its = s ++ x :: t ∧ its.set n (v, o) = s ++ (v, o) :: t := by
          obtain ⟨x, _, hx⟩ := drop_eq hlt
          refine ⟨its.take n, its.drop (n + 1), x, ?_, ?_⟩
          · rw [← hx, List.take_append_drop]
          · rw [List.set_eq_take_append_cons_drop, if_pos hlt]
        rw [h2]
        rw [h1, List.append_assoc] at c6
        have c7 : CG [p] H (((v, o) :: s) ++ (t ++ (sI σ (ρ.set i none) ++ pend))) := CG.mid (a := (v, o) :: s) (m := [x]) c6
        rw [List.append_assoc]
        exact c7.perm List.perm_middle.symm
      have c5 := c4.closeW
      rw [List.map_set, List.map_set, ← e3] at c5
      have c6 : Conf σ (upd H p (.lst ((its.map (·.1)).set n v))) ((.ref p, .lst (l.set n o)) :: pend) (ρ.set i none) := .back1 c2.sh c5
      have c7 := c6.putS hv
      rwa [set_set] at c7
    · exact False.elim g
  · exact False.elim g
theorem dg_put {e a b : Expr} {i : Nat} {m : M O} (ha : PE X a (tVar i)) (hb : DE X B b m) (he : ∀ {ta tb : TE}, PE X a ta → PE X b tb → PG X e (gSub ta tb rSetL)) : DG X B S e (mPut i m) := by
  refine (he ha hb).imp fun v σ H Q ⟨pend, ρ, o, c, g⟩ => ?_
  obtain ⟨⟨o0, e0⟩, g⟩ := go_has g
  obtain ⟨w, hw⟩ := c.sh.has i o0 e0
  refine ⟨w, hw, ⟨(v, o) :: pend, ρ, c, Out.go_mono (go_bnd.mp g) (fun k ρ1 _ g1 y H1 c1 => ?_) fun x ρ1 _ g1 => B.mono _ _ _ _ _ (g1 σ (S.refl σ))⟩⟩
  exact put_of hw c1.frz g1 fun H' ρ' c2 g2 => g2 σ H' c2 (S.refl σ)

/-! ### calls -/
inductive FOut where
  | ok (r : O) (outs : List O)
  | ex (x : Ex) (outs : List O)
  | fail
abbrev FM := List O → FOut
inductive Ag where
  | sl (i : Nat)
  | ev (m : M O)
def mTake (i : Nat) : M (O × Option Nat) := fun ρ => match ρ[i]? with
  | some (some (.val d)) => .ok (.val d, none) ρ
  | some (some (.lst l)) => .ok (.lst l, some i) (ρ.set i none)
  | _ => .fail
def mArgs : List Ag → M (List (O × Option Nat))
  | [] => ret []
  | .sl i :: as => mHas i (bnd (mArgs as) fun rs => bnd (mTake i) fun r => ret (r :: rs))
  | .ev m :: as => bnd m fun o => bnd (mArgs as) fun rs => ret ((o, none) :: rs)
def Ln1 (σ : St) (v : V) (r : O × Option Nat) : Prop := ∀ i, r.2 = some i → σ[i]? = some (some v)
inductive Ln (σ : St) : List V → List (O × Option Nat) → Prop
  | nil : Ln σ [] []
  | cons {v : V} {vs : List V} {r : O × Option Nat} {rs : List (O × Option Nat)} : Ln1 σ v r → Ln σ vs rs → Ln σ (v :: vs) (r :: rs)
theorem Ln.len {σ : St} : ∀ {vs : List V} {rs : List (O × Option Nat)}, Ln σ vs rs → vs.length = rs.length
  | _, _, .nil => rfl
  | _, _, .cons _ h => by rw [List.length_cons, List.length_cons, h.len]
def tAg (B : Bx) (m : M (List (O × Option Nat))) : TA := fun σ H Q => ∃ pend ρ, Conf σ H pend ρ ∧ (m ρ).go (fun rs ρ' => ∀ vs H', Ln σ vs rs → Conf σ H' (vs.zip (rs.map (·.1)) ++ pend) ρ' → Q vs H') (fun x ρ' => B.p x ρ' pend σ)
theorem dx_nil : PA X [] (tAg B (mArgs [])) := pa_nil.imp fun σ H Q ⟨pend, ρ, c, g⟩ => (g : ∀ vs H', Ln σ vs [] → Conf σ H' (vs.zip [] ++ pend) ρ → Q vs H') [] H .nil c
theorem dx_csl {e : Expr} {es : List Expr} {i : Nat} {as : List Ag} (he : PE X e (tVar i)) (h2 : PA X es (tAg B (mArgs as))) (hs : starEach (e :: es) X.env = (false, eval e X.env) :: starEach es X.env) : PA X (e :: es) (tAg B (mArgs (.sl i :: as))) := by
  refine (pa_cons he h2 hs).imp fun σ H Q ⟨pend, ρ, c, g⟩ => ?_
  obtain ⟨⟨o, eo⟩, g⟩ := go_has g
  obtain ⟨v, hv⟩ := c.sh.has i o eo
  refine ⟨v, hv, pend, ρ, c, Out.go_mono (go_bnd.mp g) (fun rs ρ1 _ g1 vs H1 l1 c1 => ?_) fun _ _ _ z => z⟩
  have g2 := go_bnd.mp g1
  unfold mTake at g2
  split at g2
  · rename_i d ed
    obtain ⟨v', hv', c'⟩ := c1.take ed
    rw [hv] at hv'
    cases hv'
    have c3 : Conf σ H1 ((v, .val d) :: (v, .val d) :: (vs.zip (rs.map (·.1)) ++ pend)) (ρ1.set i none) := .back (pre := [_, _]) c'.sh c'.out1.dup
    have c4 := c3.putS hv
    rw [set_set, set_self ed] at c4
    exact (g2 : ∀ vs' H', Ln σ vs' ((.val d, none) :: rs) → Conf σ H' (vs'.zip (((.val d, none) :: rs).map (·.1)) ++ pend) ρ1 → Q vs' H') (v :: vs) H1 (.cons (fun _ z => nomatch z) l1) c4
  · rename_i l el
    obtain ⟨v', hv', c'⟩ := c1.take el
    rw [hv] at hv'
    cases hv'
    exact (g2 : ∀ vs' H', Ln σ vs' ((.lst l, some i) :: rs) → Conf σ H' (vs'.zip (((.lst l, some i) :: rs).map (·.1)) ++ pend) (ρ1.set i none) → Q vs' H') (v :: vs) H1 (.cons (fun j z => by cases z; exact hv) l1) c'
  · exact False.elim g2
theorem dx_cev {e : Expr} {es : List Expr} {m : M O} {as : List Ag} (h1 : DE X B e m) (h2 : PA X es (tAg B (mArgs as))) (hs : starEach (e :: es) X.env = (false, eval e X.env) :: starEach es X.env) : PA X (e :: es) (tAg B (mArgs (.ev m :: as))) := by
  refine (pa_cons h1 h2 hs).imp fun σ H Q ⟨pend, ρ, c, g⟩ => ?_
  refine ⟨pend, ρ, c, Out.go_mono (go_bnd.mp g) (fun r ρ1 _ g1 v H1 c1 => ?_) fun _ _ _ z => z⟩
  refine ⟨(v, r) :: pend, ρ1, c1, Out.go_mono (go_bnd.mp g1) (fun rs ρ2 _ g2 vs H2 l2 c2 => ?_) fun x ρ2 _ z => B.mono _ _ _ _ _ z⟩
  exact (g2 : ∀ vs H', Ln σ vs ((r, none) :: rs) → Conf σ H' (vs.zip (((r, none) :: rs).map (·.1)) ++ pend) ρ2 → Q vs H') (v :: vs) H2 (.cons (fun _ z => nomatch z) l2) (c2.perm List.perm_middle)
/-- what was lent comes back -/
def giveBack : List (O × Option Nat) → List O → Sl → Sl
  | (_, some i) :: rs, o :: outs, ρ => (giveBack rs outs ρ).set i (some o)
  | (_, none) :: rs, _ :: outs, ρ => giveBack rs outs ρ
  | _, _, ρ => ρ
theorem Conf.given {σ : St} {H : Hp} {pend : List (V × O)} {ρ : Sl} : ∀ {vs : List V} {rs : List (O × Option Nat)} {outs : List O}, Ln σ vs rs → outs.length = rs.length → Conf σ H (vs.zip outs ++ pend) ρ → Conf σ H pend (giveBack rs outs ρ)
  | _, _, [], .nil, _, c => c
  | _, _, _ :: _, .nil, h, _ => by simp at h
  | _, _, [], .cons _ _, h, _ => by simp at h
  | v :: vs, (o0, r) :: rs, o :: outs, .cons l1 l2, h, c => by
    have c1 : Conf σ H (vs.zip outs ++ ((v, o) :: pend)) ρ := c.perm List.perm_middle.symm
    have c2 := Conf.given l2 (by simpa using h) c1
    cases r with
    | none => exact c2.tail
    | some i => exact c2.putS (l1 i rfl)
def mCall (f : FM) (as : List Ag) : M O := bnd (mArgs as) fun rs => fun ρ => match f (rs.map (·.1)) with
  | .ok r outs => .ok r (giveBack rs outs ρ)
  | .ex x outs => .ex x (giveBack rs outs ρ)
  | .fail => .fail
/-- an exception: xh tells of its object -/
abbrev XH := Ex → Value → Option Addr → Hp → List (V × O) → Prop
def XR (xh : XH) (x : Ex) (cls : Value) (d : Option Addr) (H : Hp) (its : List (V × O)) : Prop := ∃ i0, xh x cls d H i0 ∧ CI H (i0 ++ its)
theorem XR.perm {xh : XH} {x : Ex} {cls : Value} {d : Option Addr} {H : Hp} {a b : List (V × O)} (h : XR xh x cls d H a) (p : a.Perm b) : XR xh x cls d H b := by
  obtain ⟨i0, h1, h2⟩ := h
  exact ⟨i0, h1, h2.perm (p.append_left _)⟩
theorem XR.drop {xh : XH} {x : Ex} {cls : Value} {d : Option Addr} {H : Hp} {a b : List (V × O)} (h : XR xh x cls d H (a ++ b)) : XR xh x cls d H b := by
  obtain ⟨i0, h1, h2⟩ := h
  exact ⟨i0, h1, CG.mid h2⟩
def spM (xh : XH) (n : Nat) (f : FM) : Sp := fun vs H Q E => vs.length = n ∧ ∃ pend args, vs.length = args.length ∧ CI H (vs.zip args ++ pend) ∧ match f args with
  | .ok r outs => outs.length = args.length ∧ ∀ v H', CI H' ((v, r) :: (vs.zip outs ++ pend)) → Q v H'
  | .ex x outs => outs.length = args.length ∧ ∀ cls d H', XR xh x cls d H' (vs.zip outs ++ pend) → E cls d H'
  | .fail => False
/-- as FnOk, while no repr is under way -/
structure FnG (P : Program) (w : World) (K : PySem.W.Frag) (mg : Str → Option Value) (base : Heap) (CX : CXT) (k : Nat) (f : Addr) (fd : FuncData) (ps : List Str) (sp : Sp) : Prop where
  len : ∀ vs H Q E, sp vs H Q E → vs.length = ps.length
  run : ∀ (A : Around) (outer : List PySem.Env) (s : Shared) (H : Hp) (args : Args) (us : List Value) (vs : List V) (Q : VK) (E : XK),
    Room k A → A.guards = some [] → Env0 P w K mg base A outer s H → BindsTo s fd args (ps.zip us) → Vals vs us → sp vs H Q E →
    codeAny (model P w) A (.call (.ref f) args) (CR CX outer P w H s Q E) s
/-- what an exception out of a call is wished to be -/
def EB (xh : XH) (B : Bx) (σ : St) : XK := fun cls d H' => ∃ x ρ pend, B.p x ρ pend σ ∧ Sh σ ρ ∧ XR xh x cls d H' (sI σ ρ ++ pend)
theorem run_G {CX : CXT} {k : Nat} {f : Addr} {fd : FuncData} {ps : List Str} {sp : Sp} {E : XK} {pins : List (Addr × Obj)} {σ : St} {H : Hp} {s : Shared} {Q : VK} {us : List Value} {vs : List V}
    (F : FnG X.prog X.w X.K X.mg X.base CX k f fd ps sp) (hr : Room k X.A) (hgd : X.A.guards = some []) (hb : Binds X.K fd ps []) (hx : PassesAt CX X σ E) (I : Inv X pins σ H s) (r : Vals vs us) (h : sp vs H Q E) :
    wpAny (model X.prog X.w) X.A (call (.ref f) us) (EP X pins σ Q) X.xe s := by
  have hl : us.length = ps.length := by
    rw [← r.length]
    exact F.len _ _ _ _ h
  have hbd := hb s us I.kIn (by rw [List.append_nil]; exact hl)
  rw [List.append_nil] at hbd
  have key := F.run X.A X.stack s H ⟨us, []⟩ us vs Q E hr hgd I.env0 hbd r h
  refine wpAny_call (codeAny_mono key fun r s' hq => ?_)
  rcases r with e | fl
  · exact hx pins H s e s' I hq
  · cases fl <;> first
      | exact I.after hq
      | exact False.elim hq
theorem sp_of {xh : XH} {n : Nat} {f : FM} {as : List Ag} {σ : St} {vs : List V} {H : Hp} {Q : VK} {rs : List (O × Option Nat)} {ρ : Sl} {pend : List (V × O)} (hn : rs.length = n) (l : Ln σ vs rs) (c : Conf σ H (vs.zip (rs.map (·.1)) ++ pend) ρ)
    (g : ((match f (rs.map (·.1)) with
      | .ok r outs => .ok r (giveBack rs outs ρ)
      | .ex x outs => .ex x (giveBack rs outs ρ)
      | .fail => .fail : Out O)).go (fun r ρ' => ∀ v H', Conf σ H' ((v, r) :: pend) ρ' → Q v H') (fun x ρ' => B.p x ρ' pend σ)) (ho : ∀ r outs, f (rs.map (·.1)) = .ok r outs → outs.length = rs.length) (hx : ∀ x outs, f (rs.map (·.1)) = .ex x outs → outs.length = rs.length) :
    spM xh n f vs H Q (EB xh B σ) := by
  refine ⟨l.len.trans hn, sI σ ρ ++ pend, rs.map (·.1), by rw [List.length_map]; exact l.len, c.out, ?_⟩
  split at g
  · rename_i r outs e
    have h1 := ho r outs e
    refine ⟨by rw [List.length_map]; exact h1, fun v H' c1 => g v H' ?_⟩
    have c2 : Conf σ H' (vs.zip outs ++ ((v, r) :: pend)) ρ := by
      refine .back c.sh (c1.perm ?_)
      refine (List.perm_middle (l₁ := vs.zip outs)).symm.trans ?_
      exact (List.perm_middle (l₁ := sI σ ρ) (a := (v, r)) (l₂ := pend)).symm.append_left _
    exact Conf.given l h1 c2
  · rename_i x outs e
    have h1 := hx x outs e
    refine ⟨by rw [List.length_map]; exact h1, fun cls d H' ⟨i0, x1, x2⟩ => ?_⟩
    have c2 : Conf σ H' (vs.zip outs ++ (i0 ++ pend)) ρ := by
      refine .back c.sh (x2.perm ?_)
      refine (perm_in i0 (vs.zip outs) _).trans (List.Perm.append_left _ ?_)
      exact perm_in i0 (sI σ ρ) pend
    have c3 := Conf.given l h1 c2
    exact ⟨x, _, pend, g, c3.sh, i0, x1, c3.out⟩
  · exact False.elim g
end
end Dl

namespace Dl
variable [Kc]
open PySem L2 PySem.Spec PyProof.Rows

section
variable {P : Program} {w : World} {K : PySem.W.Frag} {mg : Str → Option Value} {base : Heap} {CX : CXT}
/-- a def by its body, while no repr is under way -/
theorem fnG_of {x qual : Str} {st : Stmt} {f : Addr} {fd : FuncData} {N ps : List Str} {k : Nat} {sp : Sp} (F : Fun K x qual st f fd) (S : FnScope N ps (defScope st)) (len : ∀ vs H Q E, sp vs H Q E → vs.length = ps.length)
    (hb : ∀ (cd : Value) (A : Around) (outer : List PySem.Env) (s : Shared) (H : Hp) (vs : List V) (Q : VK) (E : XK), Room k (A.deeper (envOfC qual (defScope st) s.heap.objs.size f cd)) → A.guards = some [] → sp vs H Q E →
      ∃ t, PSs (cxOf CX P w K mg base N qual (defScope st) f cd A outer s H E) (defBody st) t ∧ t { nx := fun _ H' => Q .non H', rt := Q } (start N vs) H) :
    FnG P w K mg base CX (k + 1) f fd ps sp := by
  obtain ⟨oc, od, kV, doc, pm, an, cd, ct, osl, rfl, lk, hcd⟩ := F.ex
  refine ⟨len, fun A outer s H args us vs Q E hr hgd e0 hbd r hsp => ?_⟩
  have old : ∀ b o, base.get? b = some o → s.heap.get? b = some o := fun b o e => (e0.bs b o e).1
  have kin : K.In s.heap := e0.mod.kin.keeps old
  have lim : s.heap.NoLimit := e0.mod.nolimit.keeps old
  have kinds : ∀ y ∈ ps.zip us, (defScope st).names.lookup y.1 = some .local ∨
      ((defScope st).names.lookup y.1 = some .cell ∧ ((cellsFrom (s.heap.objs.size + 1) (defScope st).names []).lookup y.1).isSome = true) := by
    intro y hy
    rcases S.par y.1 (List.of_mem_zip (a := y.1) (b := y.2) hy).1 with q | q
    · exact Or.inl q
    · exact Or.inr ⟨q, PySem.W.cellsFrom_some _ _ _ (Or.inl q)⟩
  apply codeAny_call_function hr.depth (kin _ _ lk) rfl S.co S.gen rfl (PySem.W.codeRec_of kin hcd)
  apply hbd
  apply wpAny_newFunctionEnv_cells S.kind kinds
  intro env he s1 ic
  subst he
  refine ⟨lim.keeps ic.toInCall.keep, codeAny_func ?_⟩
  obtain ⟨t, ht, hq⟩ := hb cd A outer s H vs Q E (hr.deeper _) hgd hsp
  have I := inv_start (CX := CX) (E := E) S hr.hd e0 (len _ _ _ _ hsp) r ic
  refine wpAny_mono (ht.run [] s1 _ H _ I hq) (fun fl s' hs => ?_) (fun _ _ z => z)
  cases fl with
  | ret u =>
    obtain ⟨v, σ', H', J, rv, q⟩ := hs
    exact ⟨v, H', J.os, J.bare, J.base, J.hok, rv, q⟩
  | next =>
    obtain ⟨σ', H', J, q⟩ := hs
    exact ⟨V.non, H', J.os, J.bare, J.base, J.hok, rfl, q⟩
  | brk =>
    obtain ⟨_, _, _, q⟩ := hs
    exact False.elim q
  | cont =>
    obtain ⟨_, _, _, q⟩ := hs
    exact False.elim q
end

/-! ### what a def does, by data -/
def outsOf : List Bool → List O → Sl → Option (List O)
  | [], [], _ => some []
  | true :: fs, _ :: as, some o :: ρ => (outsOf fs as ρ).map (o :: ·)
  | false :: fs, .val d :: as, _ :: ρ => (outsOf fs as ρ).map (.val d :: ·)
  | _, _, _ => none
theorem outsOf_len : ∀ {fs : List Bool} {as : List O} {ρ : Sl} {outs : List O}, outsOf fs as ρ = some outs → outs.length = as.length
  | [], [], _, _, h => by cases h; rfl
  | [], _ :: _, _, _, h => by simp [outsOf] at h
  | true :: fs, [], _, _, h => by simp [outsOf] at h
  | true :: fs, _ :: as, [], _, h => by simp [outsOf] at h
  | true :: fs, _ :: as, none :: ρ, _, h => by simp [outsOf] at h
  | true :: fs, _ :: as, some o :: ρ, outs, h => by
    rw [outsOf] at h
    cases e : outsOf fs as ρ with
    | none => rw [e] at h; cases h
    | some l => rw [e] at h; cases h; simp [outsOf_len e]
  | false :: fs, [], _, _, h => by simp [outsOf] at h
  | false :: fs, .lst _ :: as, _, _, h => by simp [outsOf] at h
  | false :: fs, .val d :: as, [], _, h => by simp [outsOf] at h
  | false :: fs, .val d :: as, _ :: ρ, outs, h => by
    rw [outsOf] at h
    cases e : outsOf fs as ρ with
    | none => rw [e] at h; cases h
    | some l => rw [e] at h; cases h; simp [outsOf_len e]
/-- the data handed in at names that the def stores anew -/
def kept : List Bool → List V → List O → List (V × O)
  | true :: fs, _ :: vs, _ :: as => kept fs vs as
  | false :: fs, v :: vs, .val d :: as => (v, .val d) :: kept fs vs as
  | _, _, _ => []
theorem CG.keep {R : List Addr} {H : Hp} : ∀ {fs : List Bool} {vs : List V} {as : List O} {b : List (V × O)}, CG R H (vs.zip as ++ b) → CG R H (vs.zip as ++ (kept fs vs as ++ b))
  | [], vs, as, b, c => c
  | true :: fs, [], as, b, c => c
  | true :: fs, v :: vs, [], b, c => c
  | true :: fs, v :: vs, a :: as, b, c => by
    have c1 : CG R H (vs.zip as ++ ((v, a) :: b)) := CG.perm (a := (v, a) :: (vs.zip as ++ b)) c List.perm_middle.symm
    have c2 := CG.keep (fs := fs) c1
    refine c2.perm ?_
    have p1 : (kept fs vs as ++ (v, a) :: b).Perm ((v, a) :: (kept fs vs as ++ b)) := List.perm_middle
    exact (p1.append_left _).trans List.perm_middle
  | false :: fs, [], as, b, c => c
  | false :: fs, v :: vs, [], b, c => c
  | false :: fs, v :: vs, .lst l :: as, b, c => c
  | false :: fs, v :: vs, .val d :: as, b, c => by
    have c0 : CG R H ((v, .val d) :: (v, .val d) :: (vs.zip as ++ b)) := CG.dup c
    have c1 : CG R H (vs.zip as ++ ((v, .val d) :: (v, .val d) :: b)) := c0.perm ((List.perm_middle (l₁ := vs.zip as)).symm.cons _ |>.trans List.perm_middle.symm)
    have c2 := CG.keep (fs := fs) c1
    refine c2.perm ?_
    have p1 : (kept fs vs as ++ (v, .val d) :: (v, .val d) :: b).Perm ((v, .val d) :: (v, .val d) :: (kept fs vs as ++ b)) := List.perm_middle.trans (List.perm_middle.cons _)
    exact (p1.append_left _).trans List.perm_middle
theorem CG.outs {R : List Addr} {H : Hp} : ∀ {fs : List Bool} {vs : List V} {as : List O} {σ : L2.St} {ρ : Sl} {outs : List O} {rest : List (V × O)}, vs.length = as.length → Sh σ ρ →
    (∀ i : Nat, fs[i]? = some true → ∃ v, vs[i]? = some v ∧ σ[i]? = some (some v)) → outsOf fs as ρ = some outs → CG R H (sI σ ρ ++ (kept fs vs as ++ rest)) → CG R H (vs.zip outs ++ rest)
  | [], vs, [], σ, ρ, outs, rest, hl, sh, hk, ho, c => by
    cases ho
    cases vs with
    | nil => exact CG.drop c
    | cons => simp at hl
  | [], _, _ :: _, _, _, _, _, _, _, _, ho, _ => by simp [outsOf] at ho
  | true :: fs, _, [], _, _, _, _, _, _, _, ho, _ => by simp [outsOf] at ho
  | true :: fs, _, _ :: as, _, [], _, _, _, _, _, ho, _ => by simp [outsOf] at ho
  | true :: fs, _, _ :: as, _, none :: ρ, _, _, _, _, _, ho, _ => by simp [outsOf] at ho
  | true :: fs, [], _ :: as, _, some o :: ρ, _, _, hl, _, _, _, _ => by simp at hl
  | true :: fs, v :: vs, a :: as, [], some o :: ρ, _, _, _, sh, _, _, _ => by have := sh.len; simp at this
  | true :: fs, v :: vs, a :: as, s :: σ, some o :: ρ, outs, rest, hl, sh, hk, ho, c => by
    rw [outsOf] at ho
    cases e : outsOf fs as ρ with
    | none => rw [e] at ho; cases ho
    | some l =>
      rw [e] at ho; cases ho
      obtain ⟨v', h1, h2⟩ := hk 0 rfl
      simp at h1 h2
      subst h1 h2
      have c1 : CG R H ((v, o) :: (sI σ ρ ++ (kept fs vs as ++ rest))) := c
      have c2 : CG R H (sI σ ρ ++ (kept fs vs as ++ ((v, o) :: rest))) := by
        refine c1.perm (List.perm_middle.symm.trans ?_)
        exact (List.perm_middle (l₁ := kept fs vs as)).symm.append_left _
      have c3 := CG.outs (fs := fs) (by simpa using hl) sh.tail (fun i hi => by simpa using hk (i + 1) (by simpa using hi)) e c2
      exact c3.perm List.perm_middle
  | false :: fs, _, [], _, _, _, _, _, _, _, ho, _ => by simp [outsOf] at ho
  | false :: fs, _, .lst _ :: as, _, _, _, _, _, _, _, ho, _ => by simp [outsOf] at ho
  | false :: fs, _, .val d :: as, _, [], _, _, _, _, _, ho, _ => by simp [outsOf] at ho
  | false :: fs, [], .val d :: as, _, _ :: ρ, _, _, hl, _, _, _, _ => by simp at hl
  | false :: fs, v :: vs, .val d :: as, [], _ :: ρ, _, _, _, sh, _, _, _ => by have := sh.len; simp at this
  | false :: fs, v :: vs, .val d :: as, s :: σ, q :: ρ, outs, rest, hl, sh, hk, ho, c => by
    rw [outsOf] at ho
    cases e : outsOf fs as ρ with
    | none => rw [e] at ho; cases ho
    | some l =>
      rw [e] at ho; cases ho
      have c1 : CG R H (sI σ ρ ++ (((v, .val d) :: kept fs vs as) ++ rest)) := by
        have c0 : CG R H (sI (s :: σ) (q :: ρ) ++ (((v, .val d) :: kept fs vs as) ++ rest)) := c
        cases s with
        | none => exact c0
        | some s =>
          cases q with
          | none => exact c0
          | some q => exact c0.tail
      have c2 : CG R H (sI σ ρ ++ (kept fs vs as ++ ((v, .val d) :: rest))) := c1.perm ((List.perm_middle (l₁ := kept fs vs as)).symm.append_left _)
      have c3 := CG.outs (fs := fs) (by simpa using hl) sh.tail (fun i hi => by simpa using hk (i + 1) (by simpa using hi)) e c2
      exact c3.perm List.perm_middle
def begin (n : Nat) (args : List O) : Sl := args.map some ++ List.replicate (n - args.length) none
def fOut (fs : List Bool) (args : List O) (r : Out Fl) : FOut := match r with
  | .ok (.rt r) ρ => (match outsOf fs args ρ with
    | some outs => .ok r outs
    | none => .fail)
  | .ok .nx ρ => (match outsOf fs args ρ with
    | some outs => .ok (.val .non) outs
    | none => .fail)
  | .ex x ρ => (match outsOf fs args ρ with
    | some outs => .ex x outs
    | none => .fail)
  | _ => .fail
/-- n names, the parameters first; fs: which parameters are never stored anew -/
def mDef (n : Nat) (fs : List Bool) (m : M Fl) : FM := fun args => fOut fs args (m (begin n args))
theorem sI_begin : ∀ {vs : List V} {args : List O} (n : Nat), vs.length = args.length → sI (vs.map some ++ List.replicate n none) (args.map some ++ List.replicate n none) = vs.zip args
  | [], [], n, _ => by
    induction n with
    | zero => rfl
    | succ n ih => exact ih
  | [], _ :: _, _, h => by simp at h
  | _ :: _, [], _, h => by simp at h
  | v :: vs, a :: as, n, h => by
    have ih := sI_begin (vs := vs) (args := as) n (by simpa using h)
    show (v, a) :: sI (vs.map some ++ List.replicate n none) (as.map some ++ List.replicate n none) = (v, a) :: vs.zip as
    rw [ih]
theorem sh_begin {vs : List V} {args : List O} (n : Nat) (h : vs.length = args.length) : Sh (vs.map some ++ List.replicate n none) (args.map some ++ List.replicate n none) := by
  refine ⟨by simp [h], fun i o e => ?_⟩
  by_cases hi : i < args.length
  · have hv : i < vs.length := by omega
    exact ⟨vs[i], by rw [List.getElem?_append_left (by simpa using hv)]; simp [hv]⟩
  · rw [List.getElem?_append_right (by simpa using hi), List.getElem?_replicate] at e
    split at e <;> cases e
def cpOf (fs : List Bool) : List Nat := (List.range fs.length).filter fun i => fs[i]? == some true
theorem mem_cp {fs : List Bool} {i : Nat} (h : fs[i]? = some true) : i ∈ cpOf fs := by
  have hl := (List.getElem?_eq_some_iff.mp h).1
  exact List.mem_filter.mpr ⟨List.mem_range.mpr hl, by simp [h]⟩
def BE (xh : XH) (E : XK) : Bx := ⟨fun x ρ pend σ => Sh σ ρ → ∀ cls d H', XR xh x cls d H' (sI σ ρ ++ pend) → E cls d H', fun x ρ a q σ h sh cls d H' xr => by
  have := xr.perm (b := [a] ++ (sI σ ρ ++ q)) List.perm_middle
  exact h sh cls d H' this.drop⟩
section
variable {P : Program} {w : World} {K : PySem.W.Frag} {mg : Str → Option Value} {base : Heap} {CX : CXT}
theorem fOut_ok {fs : List Bool} {args : List O} {r : Out Fl} {o : O} {outs : List O} (h : fOut fs args r = .ok o outs) : outs.length = args.length := by
  unfold fOut at h
  split at h
  · split at h
    · rename_i e; cases h; exact outsOf_len e
    · cases h
  · split at h
    · rename_i e; cases h; exact outsOf_len e
    · cases h
  · split at h <;> cases h
  · cases h
theorem fOut_ex {fs : List Bool} {args : List O} {r : Out Fl} {x : Ex} {outs : List O} (h : fOut fs args r = .ex x outs) : outs.length = args.length := by
  unfold fOut at h
  split at h
  · split at h <;> cases h
  · split at h <;> cases h
  · split at h
    · rename_i e; cases h; exact outsOf_len e
    · cases h
  · cases h
/-- the promise's own way in -/
theorem body_of {xh : XH} {N : List Str} {fs : List Bool} {np : Nat} {m : M Fl} {vs : List V} {H : Hp} {Q : VK} {E : XK} (hfs : fs.length = np) (hN : np ≤ N.length) (h : spM xh np (mDef N.length fs m) vs H Q E) :
    tS (BE xh E) (cpOf fs) m { nx := fun _ H' => Q .non H', rt := Q } (start N vs) H := by
  obtain ⟨hn, pend, args, hl, c, g⟩ := h
  have e1 : start N vs = vs.map some ++ List.replicate (N.length - vs.length) none := rfl
  have e2 : begin N.length args = args.map some ++ List.replicate (N.length - vs.length) none := by unfold begin; rw [hl]
  have cf : Conf (start N vs) H (kept fs vs args ++ pend) (begin N.length args) := by
    rw [e1, e2]
    refine ⟨sh_begin _ hl, ?_⟩
    rw [sI_begin _ hl]
    exact c.keep
  have key : ∀ {σ' : L2.St} {ρ' : Sl} {H' : Hp} {outs : List O} {i0 : List (V × O)}, outsOf fs args ρ' = some outs → Conf σ' H' (i0 ++ (kept fs vs args ++ pend)) ρ' → CP (cpOf fs) (start N vs) σ' → CI H' (i0 ++ (vs.zip outs ++ pend)) := by
    intro σ' ρ' H' outs i0 ho c' s'
    have c1 : CI H' (sI σ' ρ' ++ (kept fs vs args ++ (i0 ++ pend))) := c'.ci.perm ((perm_in i0 (kept fs vs args) pend).append_left _)
    have c2 := CG.outs hl c'.sh (fun i hi => ?_) ho c1
    · exact c2.perm (perm_in _ _ _)
    · have hs := s' i (mem_cp hi)
      have hil : i < vs.length := by
        have := (List.getElem?_eq_some_iff.mp hi).1
        omega
      refine ⟨vs[i], by simp [hil], ?_⟩
      rw [hs, e1, List.getElem?_append_left (by simpa using hil)]
      simp [hil]
  refine ⟨_, _, cf, ?_⟩
  unfold mDef at g
  cases r : m (begin N.length args) with
  | fail => rw [r] at g; exact False.elim g
  | ex x ρ' =>
    rw [r] at g
    simp only [fOut] at g
    cases ho : outsOf fs args ρ' with
    | none => rw [ho] at g; exact False.elim g
    | some outs =>
      rw [ho] at g
      intro σ' s' sh cls d H' ⟨i0, x1, x2⟩
      refine g.2 cls d H' ⟨i0, x1, key (i0 := i0) ho ?_ s'⟩
      exact .back sh x2
  | ok f ρ' =>
    rw [r] at g
    cases f with
    | bk => exact False.elim g
    | ct => exact False.elim g
    | nx =>
      simp only [fOut] at g
      cases ho : outsOf fs args ρ' with
      | none => rw [ho] at g; exact False.elim g
      | some outs =>
        rw [ho] at g
        intro σ' H' c' s'
        exact g.2 _ _ ((key (i0 := []) ho c' s').sc rfl)
    | rt o =>
      simp only [fOut] at g
      cases ho : outsOf fs args ρ' with
      | none => rw [ho] at g; exact False.elim g
      | some outs =>
        rw [ho] at g
        intro v σ' H' c' s'
        exact g.2 _ _ (key (i0 := [(v, o)]) ho c' s')
theorem fnG_def {x qual : Str} {st : Stmt} {f : Addr} {fd : FuncData} {N ps : List Str} {k : Nat} {xh : XH} {fs : List Bool} {m : M Fl} (F : Fun K x qual st f fd) (S : FnScope N ps (defScope st)) (hfs : fs.length = ps.length)
    (hb : ∀ (cd : Value) (A : Around) (outer : List PySem.Env) (s : Shared) (H : Hp) (E : XK), Room k (A.deeper (envOfC qual (defScope st) s.heap.objs.size f cd)) → A.guards = some [] →
      DSs (cxOf CX P w K mg base N qual (defScope st) f cd A outer s H E) (BE xh E) (cpOf fs) (defBody st) m) : FnG P w K mg base CX (k + 1) f fd ps (spM xh ps.length (mDef N.length fs m)) := by
  have hN : ps.length ≤ N.length := by
    have := congrArg List.length S.pre
    rw [List.length_take] at this
    omega
  refine fnG_of F S (fun vs H Q E h => h.1) fun cd A outer s H vs Q E hr hg h => ⟨_, hb cd A outer s H E hr hg, body_of hfs hN h⟩
end
section
variable {X : Cx} {B : Bx}
theorem mDef_len {n : Nat} {fs : List Bool} {m : M Fl} {args : List O} : (∀ r outs, mDef n fs m args = .ok r outs → outs.length = args.length) ∧ (∀ x outs, mDef n fs m args = .ex x outs → outs.length = args.length) :=
  ⟨fun r outs h => fOut_ok h, fun x outs h => fOut_ex h⟩
/-- f keeps the number of its arguments -/
def FLen (f : FM) : Prop := ∀ args, (∀ r outs, f args = .ok r outs → outs.length = args.length) ∧ (∀ x outs, f args = .ex x outs → outs.length = args.length)
theorem de_call {CX : CXT} {k : Nat} {f : Addr} {fd : FuncData} {ps : List Str} {xh : XH} {fm : FM} {x : Str} {p pos : Pos} {e : Expr} {es : List Expr} {as : List Ag} (F : FnG X.prog X.w X.K X.mg X.base CX k f fd ps (spM xh ps.length fm)) (hfl : FLen fm)
    (hr : Room k X.A) (hgd : X.A.guards = some []) (hg : Gl X x) (hm : X.mg x = some (.ref f)) (hk : PySem.W.keepIn X.K (.ref f) = true) (hb : Binds X.K fd ps []) (hx : ∀ σ, PassesAt CX X σ (EB xh B σ)) (ha : PA X (e :: es) (tAg B (mArgs as)))
    (hal : as.length = ps.length) (hdb : (x == ("__debug__" : Str)) = false) (he : starEach (e :: es) X.env = (false, eval e X.env) :: starEach es X.env) (hpl : (backTo pos (starEach es X.env)).any (·.1) = false) :
    DE X B (.Call (.Name x p) (e :: es) [] pos) (mCall fm as) := by
  refine ⟨fun pins s σ H Q I ⟨pend, ρ, c, g⟩ => ?_⟩
  refine wpAny_Call_Name_kw (ld_glob I hg hm ?_ hdb)
  have ha2 : tAg B (mArgs as) σ H (fun vs H1 => spM xh ps.length fm vs H1 Q (EB xh B σ)) := by
    refine ⟨pend, ρ, c, Out.go_mono (go_bnd.mp g) (fun rs ρ1 er g1 vs H1 l1 c1 => ?_) fun _ _ _ z => z⟩
    have hrl : rs.length = ps.length := by
      have key : ∀ (as : List Ag) (ρ ρ1 : Sl) (rs : List (O × Option Nat)), mArgs as ρ = .ok rs ρ1 → rs.length = as.length := by
        intro as
        induction as with
        | nil => intro ρ ρ1 rs h; cases h; rfl
        | cons a as ih =>
          intro ρ ρ1 rs h
          cases a with
          | sl i =>
            simp only [mArgs, mHas, bnd, ret] at h
            split at h
            · split at h
              · rename_i rs' ρ3 e3
                split at h
                · cases h
                  simp [ih _ _ _ e3]
                · cases h
                · cases h
              · cases h
              · cases h
            · cases h
          | ev m =>
            simp only [mArgs, bnd, ret] at h
            split at h
            · split at h
              · rename_i rs' ρ3 e3
                cases h
                simp [ih _ _ _ e3]
              · cases h
              · cases h
            · cases h
            · cases h
      rw [key as ρ ρ1 rs er, hal]
    refine sp_of (as := as) hrl l1 c1 g1 (fun r outs h => ?_) (fun x outs h => ?_)
    · have := (hfl _).1 r outs h
      rwa [List.length_map] at this
    · have := (hfl _).2 x outs h
      rwa [List.length_map] at this
  refine PySem.W.callWith_K (h₀ := X.base) I.ok.mod.kin hk (thn (ha.run pos pins s σ H _ I ha2) fun us s1 ⟨vs, H1, I1, r, q⟩ => ⟨I1.kIn, ?_⟩) he hpl
  exact run_G F hr hgd hb (hx σ) I1 r q
end
end Dl

namespace Dl
variable [Kc]
open PySem L2

/-! ### data as the library has it -/
mutual
def toP : D → PyData
  | .non => .none
  | .bl b => .bool b
  | .int i => .int i
  | .str x => .str x
  | .tup l => .tuple (toPs l)
  | .lst l => .list (toPs l)
  | .dct _ _ => .none
  | .fl _ => .none
def toPs : List D → List PyData
  | [] => []
  | d :: l => toP d :: toPs l
end
theorem toPs_eq : ∀ l : List D, toPs l = l.map toP
  | [] => rfl
  | d :: l => by rw [toPs, List.map_cons, toPs_eq l]
mutual
/-- no dict, no script in it -/
def pl : D → Bool
  | .non | .bl _ | .int _ | .str _ => true
  | .tup l => pls l
  | .lst l => pls l
  | .dct _ _ => false
  | .fl _ => false
def pls : List D → Bool
  | [] => true
  | d :: l => pl d && pls l
end
theorem pls_eq : ∀ l : List D, pls l = l.all pl
  | [] => rfl
  | d :: l => by rw [pls, List.all_cons, pls_eq l]
mutual
theorem Rep.dp {K : PySem.W.Frag} {W : Addr → Prop} {H : Hp} : ∀ {v : V} {d : D}, Rep W H v d → pl d = true → Dp K H v (toP d)
  | _, _, .non, _ => by rw [toP]; exact .non
  | _, _, .bl b, _ => by rw [toP]; exact .bl b
  | _, _, .int i, _ => by rw [toP]; exact .int i
  | _, _, .str x, _ => by rw [toP]; exact .str x
  | _, _, .tup _ r q, h => by rw [toP]; exact .tup (sq_t r) (Reps.dp q (by simpa only [pl] using h))
  | _, _, .lst _ r q, h => by rw [toP]; exact .lst (sq_l r) (Reps.dp q (by simpa only [pl] using h))
  | _, _, .dct _ _ _, h => by simp [pl] at h
  | _, _, .fl _, h => by simp [pl] at h
theorem Reps.dp {K : PySem.W.Frag} {W : Addr → Prop} {H : Hp} : ∀ {vs : List V} {ds : List D}, Reps W H vs ds → pls ds = true → DpAll K H vs (toPs ds)
  | _, _, .nil, _ => by rw [toPs]; exact .nil
  | _, _, .cons a b, h => by
    rw [pls, Bool.and_eq_true] at h
    rw [toPs]
    exact .cons (Rep.dp a h.1) (Reps.dp b h.2)
end
theorem CG.rep2 {R : List Addr} {H : Hp} {x y : V} {d e : D} {b : List (V × O)} (c : CG R H ((x, .val d) :: (y, .val e) :: b)) : ∃ W, Rep W H x d ∧ Rep W H y e := by
  obtain ⟨fp, q, n⟩ := c
  cases q with
  | cons r s =>
    cases r with
    | val r =>
      cases s with
      | cons r' s' =>
        cases r' with
        | val r' => exact ⟨_, r, r'⟩
/-- an operator that looks at two values alone and gives a scalar -/
def Lk2 (r : R2) (f : D → D → Option D) : Prop := ∀ (d e d' : D), f d e = some d' → ∀ (W : Addr → Prop) (x y v : V) (H : Hp) (Q : VK), Rep W H x d → Rep W H y e → sc d' = some v → Q v H → r x y H Q
def scal1 (f : D → D → Option D) : Prop := ∀ d e d', f d e = some d' → ∃ v, sc d' = some v
theorem Lk2.op {r : R2} {f : D → D → Option D} (h : Lk2 r f) (hs : scal1 f) : Op2 r (fun d e => (f d e).map O.val) := fun d e o ho x y H its Q c k => by
  cases q : f d e with
  | none => simp only [q] at ho; cases ho
  | some d' =>
    simp only [q] at ho
    cases ho
    obtain ⟨v, hv⟩ := hs d e d' q
    obtain ⟨W, r1, r2⟩ := c.rep2
    exact h d e d' q W x y v H Q r1 r2 hv (k v H ((c.tail.tail).sc hv))
theorem Op2.or {r r' : R2} {f g : D → D → Option O} (h : Op2 r f) (h' : Op2 r' g) : Op2 (fun x y H Q => r x y H Q ∨ r' x y H Q) (fun d e => match f d e with
  | some o => some o
  | none => g d e) := fun d e o ho x y H its Q c k => by
  cases q : f d e with
  | none =>
    simp only [q] at ho
    exact .inr (h' d e o ho x y H its Q c k)
  | some o' =>
    simp only [q] at ho
    cases ho
    exact .inl (h d e _ q x y H its Q c k)
theorem Lk2.or {r r' : R2} {f g : D → D → Option D} (h : Lk2 r f) (h' : Lk2 r' g) : Lk2 (fun x y H Q => r x y H Q ∨ r' x y H Q) (fun d e => match f d e with
  | some o => some o
  | none => g d e) := fun d e o ho W x y v H Q r1 r2 hv k => by
  cases q : f d e with
  | none =>
    simp only [q] at ho
    exact .inr (h' d e o ho W x y v H Q r1 r2 hv k)
  | some o' =>
    simp only [q] at ho
    cases ho
    exact .inl (h d e _ q W x y v H Q r1 r2 hv k)
def iiI (p : Int → Int → Bool) (g : Int → Int → Int) (d e : D) : Option D := match d, e with
  | .int i, .int j => if p i j = true then some (.int (g i j)) else none
  | _, _ => none
def iiB (g : Int → Int → Bool) (d e : D) : Option D := match d, e with
  | .int i, .int j => some (.bl (g i j))
  | _, _ => none
theorem iiI_sc (p : Int → Int → Bool) (g : Int → Int → Int) : scal1 (iiI p g) := fun d e d' h => by
  unfold iiI at h
  split at h
  · split at h
    · cases h; exact ⟨_, rfl⟩
    · cases h
  · cases h
theorem iiB_sc (g : Int → Int → Bool) : scal1 (iiB g) := fun d e d' h => by
  unfold iiB at h
  split at h
  · cases h; exact ⟨_, rfl⟩
  · cases h
theorem lk_rI {C : Int → Int → Prop} {p : Int → Int → Bool} {g : Int → Int → Int} (hp : ∀ i j, p i j = true → C i j) : Lk2 (rI C fun i j => .int (g i j)) (iiI p g) := fun d e d' h W x y v H Q r1 r2 hv q => by
  unfold iiI at h
  split at h
  · split at h
    · rename_i c
      cases h; cases r1; cases r2; cases hv
      exact ⟨_, _, rfl, rfl, hp _ _ c, q⟩
    · cases h
  · cases h
theorem lk_rI0 {p : Int → Int → Bool} {g : Int → Int → Int} : Lk2 (rI0 fun i j => .int (g i j)) (iiI p g) := fun d e d' h W x y v H Q r1 r2 hv q => by
  unfold iiI at h
  split at h
  · split at h
    · cases h; cases r1; cases r2; cases hv
      exact ⟨_, _, rfl, rfl, q⟩
    · cases h
  · cases h
theorem lk_rB {g : Int → Int → Bool} : Lk2 (rI0 fun i j => .bl (g i j)) (iiB g) := fun d e d' h W x y v H Q r1 r2 hv q => by
  unfold iiB at h
  split at h
  · cases h; cases r1; cases r2; cases hv
    exact ⟨_, _, rfl, rfl, q⟩
  · cases h
/-- texts -/
def ssS (d e : D) : Option D := match d, e with
  | .str x, .str y => if x.length + y.length ≤ 1000000 then some (.str (x ++ y)) else none
  | _, _ => none
theorem lk_ss : Lk2 (fun x y H Q => ∃ i j, x = .str i ∧ y = .str j ∧ i.length + j.length ≤ sizeLine ∧ Q (.str (i ++ j)) H) ssS := fun d e d' h W x y v H Q r1 r2 hv q => by
  unfold ssS at h
  split at h
  · split at h
    · rename_i c
      cases h; cases r1; cases r2; cases hv
      exact ⟨_, _, rfl, rfl, le_line c, q⟩
    · cases h
  · cases h
theorem ssS_sc : scal1 ssS := fun d e d' h => by
  unfold ssS at h
  split at h
  · split at h
    · cases h; exact ⟨_, rfl⟩
    · cases h
  · cases h
/-- lists, tuples put together -/
def llL (d e : D) : Option O := match d, e with
  | .lst x, .lst y => if x.length + y.length ≤ 1000000 then some (.lst ((x ++ y).map O.val)) else none
  | _, _ => none
theorem zip_app {vs ws : List V} {x y : List D} (h : vs.length = x.length) : vs.zip (x.map O.val) ++ ws.zip (y.map O.val) = (vs ++ ws).zip ((x ++ y).map O.val) := by
  rw [List.map_append, List.zip_append (by simpa using h)]
theorem op_ll : Op2 rCat llL := fun d e o ho x y H its Q c k => by
  unfold llL at ho
  split at ho
  · rename_i xs ys
    split at ho
    · rename_i hz
      cases ho
      obtain ⟨p, vs, rfl, hp, hl, c2⟩ := c.openL
      have c3 : CI H ((y, .val (.lst ys)) :: (vs.zip (xs.map O.val) ++ its)) := (CG.mid (m := [_]) c2).perm List.perm_middle
      obtain ⟨q, ws, rfl, hq, hl2, c4⟩ := c3.openL
      have c5 : CI H (ws.zip (ys.map O.val) ++ (vs.zip (xs.map O.val) ++ its)) := CG.mid (m := [_]) c4
      have c6 : CI H ((vs ++ ws).zip ((xs ++ ys).map O.val) ++ its) := by
        rw [← zip_app hl, List.append_assoc]
        exact c5.perm (perm_in _ _ _)
      refine ⟨p, q, vs, ws, rfl, rfl, hp, hq, by rw [hl, hl2]; exact le_line hz, fun a ha => k _ _ ?_⟩
      have c7 := c6.newL ha (by simp)
      rw [zip_fst (by simp [hl, hl2]), zip_snd (by simp [hl, hl2])] at c7
      exact c7
    · cases ho
  · cases ho
def ttT (d e : D) : Option O := match d, e with
  | .tup x, .tup y => if x.length + y.length ≤ 1000000 then some (.val (.tup (x ++ y))) else none
  | _, _ => none
theorem op_tt {K : PySem.W.Frag} : Op2 (rCatA K) ttT := fun d e o ho x y H its Q c k => by
  unfold ttT at ho
  split at ho
  · rename_i xs ys
    split at ho
    · rename_i hz
      cases ho
      obtain ⟨p, vs, rfl, hp, hl, c2⟩ := c.openT
      have c3 : CI H ((y, .val (.tup ys)) :: (vs.zip (xs.map O.val) ++ ((.ref p, .val (.tup xs)) :: its))) := by
        refine c2.perm ?_
        have := List.perm_middle (l₁ := vs.zip (xs.map O.val) ++ [(V.ref p, O.val (.tup xs))]) (a := (y, O.val (.tup ys))) (l₂ := its)
        simpa using this
      obtain ⟨q, ws, rfl, hq, hl2, c4⟩ := c3.openT
      refine ⟨p, q, vs, ws, rfl, rfl, sq_t hp, sq_t hq, by rw [hl, hl2]; exact le_line hz, fun e1 => ?_, fun _ e2 => ?_, fun _ _ a ha => ?_⟩
      · have : xs = [] := List.length_eq_zero_iff.mp (by rw [← hl, e1]; rfl)
        subst this
        subst e1
        refine k _ _ ?_
        have c5 : CI H (ws.zip (ys.map O.val) ++ ((.ref q, .val (.tup ys)) :: (.ref p, .val (.tup [])) :: its)) := c4
        exact (CG.mid (a := [_]) (m := [_]) c5.drop)
      · have : ys = [] := List.length_eq_zero_iff.mp (by rw [← hl2, e2]; rfl)
        subst this
        rw [List.append_nil] at k
        exact k _ _ c4.drop.tail.drop
      · have c5 : CI H ((vs ++ ws).zip ((xs ++ ys).map O.val) ++ its) := by
          rw [← zip_app hl, List.append_assoc]
          have c6 : CI H (ws.zip (ys.map O.val) ++ (vs.zip (xs.map O.val) ++ its)) := by
            have c7 := CG.mid (m := [_]) c4
            have c8 : CI H ((ws.zip (ys.map O.val) ++ vs.zip (xs.map O.val)) ++ ([(V.ref p, O.val (.tup xs))] ++ its)) := by
              rw [List.append_assoc]
              exact c7
            have c9 := CG.mid c8
            rwa [List.append_assoc] at c9
          exact c6.perm (perm_in _ _ _)
        exact k _ _ (c5.newT (by simp [hl, hl2]) ha (by simp))
    · cases ho
  · cases ho
/-- a list times a number -/
def lnL (d e : D) : Option O := match d, e with
  | .lst x, .int k => if -1000000 ≤ k ∧ k ≤ 1000000 ∧ x.length * k.toNat ≤ 1000000 then some (.lst ((List.replicate k.toNat x).flatten.map O.val)) else none
  | _, _ => none
theorem zip_rep {vs : List V} {x : List D} (h : vs.length = x.length) : ∀ n : Nat, (List.replicate n vs).flatten.zip ((List.replicate n x).flatten.map O.val) = (List.replicate n (vs.zip (x.map O.val))).flatten
  | 0 => rfl
  | n + 1 => by
    rw [List.replicate_succ, List.flatten_cons, List.replicate_succ, List.flatten_cons, List.replicate_succ, List.flatten_cons, List.map_append, List.zip_append (by simpa using h), zip_rep h n]
theorem CG.many {R : List Addr} {H : Hp} {vs : List V} {x : List D} {its : List (V × O)} (c : CG R H (vs.zip (x.map O.val) ++ its)) : ∀ n : Nat, CG R H ((List.replicate n (vs.zip (x.map O.val))).flatten ++ (vs.zip (x.map O.val) ++ its))
  | 0 => c
  | n + 1 => by
    have ih := CG.many c n
    have key : ∀ (l b : List (V × O)), (∀ p ∈ l, ∃ d, p.2 = O.val d) → (∀ p ∈ l, p ∈ b) → CG R H b → CG R H (l ++ b) := by
      intro l
      induction l with
      | nil => intro b _ _ h; exact h
      | cons p l ih =>
        intro b hv hm h
        obtain ⟨d, hd⟩ := hv p List.mem_cons_self
        have h2 := ih b (fun q hq => hv q (List.mem_cons_of_mem _ hq)) (fun q hq => hm q (List.mem_cons_of_mem _ hq)) h
        obtain ⟨v, o⟩ := p
        simp only at hd
        subst hd
        exact h2.mem (List.mem_append_right _ (hm _ List.mem_cons_self))
    rw [List.replicate_succ, List.flatten_cons, List.append_assoc]
    refine key _ _ (fun p hp => ?_) (fun p hp => List.mem_append_right _ (List.mem_append_left _ hp)) ih
    have := (List.of_mem_zip (a := p.1) (b := p.2) hp).2
    obtain ⟨d, _, e⟩ := List.mem_map.mp this
    exact ⟨d, e.symm⟩
theorem flat_len {α : Type} (l : List α) : ∀ n : Nat, (List.replicate n l).flatten.length = n * l.length
  | 0 => by simp
  | n + 1 => by rw [List.replicate_succ, List.flatten_cons, List.length_append, flat_len l n]; rw [Nat.add_mul]; omega
theorem op_ln : Op2 rRep lnL := fun d e o ho x y H its Q c k => by
  unfold lnL at ho
  split at ho
  · rename_i xs n
    split at ho
    · rename_i hz
      cases ho
      have ey := (c.perm (.swap ..)).int
      obtain ⟨p, vs, rfl, hp, hl, c2⟩ := c.openL
      have c3 : CI H (vs.zip (xs.map O.val) ++ its) := by
        have c4 := CG.mid (m := [_]) c2
        exact CG.mid (m := [_]) c4
      refine ⟨p, n, vs, rfl, ey, hp, by omega, by omega, by rw [hl]; exact le_line hz.2.2, fun a ha => k _ _ ?_⟩
      have c5 := CG.mid (c3.many n.toNat)
      rw [← zip_rep hl] at c5
      have c7 := c5.newL ha (by simp)
      have he : (List.replicate n.toNat vs).flatten.length = ((List.replicate n.toNat xs).flatten.map O.val).length := by
        rw [List.length_map, flat_len, flat_len, hl]
      rw [zip_fst he, zip_snd he] at c7
      exact c7
    · cases ho
  · cases ho

/-! ### == and != -/
def eqD (d e : D) : Option D := if pl d = true ∧ pl e = true ∧ SeqAt.shaped (toP d) = true ∧ SeqAt.shaped (toP e) = true then some (.bl (PyData.eqv (toP d) (toP e))) else none
def neD (d e : D) : Option D := if pl d = true ∧ pl e = true ∧ SeqAt.shaped (toP d) = true ∧ SeqAt.shaped (toP e) = true then some (.bl (!PyData.eqv (toP d) (toP e))) else none
theorem lk_eq {K : PySem.W.Frag} : Lk2 (rEqD K) eqD := fun d e d' h W x y v H Q r1 r2 hv q => by
  unfold eqD at h
  split at h
  · rename_i c
    cases h; cases hv
    exact ⟨_, _, r1.dp c.1, r2.dp c.2.1, c.2.2.1, c.2.2.2, q⟩
  · cases h
theorem lk_ne {K : PySem.W.Frag} : Lk2 (rNeD K) neD := fun d e d' h W x y v H Q r1 r2 hv q => by
  unfold neD at h
  split at h
  · rename_i c
    cases h; cases hv
    exact ⟨_, _, r1.dp c.1, r2.dp c.2.1, c.2.2.1, c.2.2.2, q⟩
  · cases h
theorem eqD_sc : scal1 eqD := fun d e d' h => by
  unfold eqD at h
  split at h
  · cases h; exact ⟨_, rfl⟩
  · cases h
theorem neD_sc : scal1 neD := fun d e d' h => by
  unfold neD at h
  split at h
  · cases h; exact ⟨_, rfl⟩
  · cases h
/-- x is None -/
def isN (d e : D) : Option D := match e with
  | .non => some (.bl (match d with
    | .non => true
    | _ => false))
  | _ => none
def isNN (d e : D) : Option D := match e with
  | .non => some (.bl (match d with
    | .non => false
    | _ => true))
  | _ => none
theorem lk_isN : Lk2 (fun x y H Q => y = .non ∧ Q (.bl (decide (x = .non))) H) isN := fun d e d' h W x y v H Q r1 r2 hv q => by
  unfold isN at h
  split at h
  · cases h; cases r2; cases hv
    refine ⟨rfl, ?_⟩
    cases r1 <;> exact q
  · cases h
theorem lk_isNN : Lk2 (fun x y H Q => y = .non ∧ Q (.bl (!decide (x = .non))) H) isNN := fun d e d' h W x y v H Q r1 r2 hv q => by
  unfold isNN at h
  split at h
  · cases h; cases r2; cases hv
    refine ⟨rfl, ?_⟩
    cases r1 <;> exact q
  · cases h
theorem isN_sc : scal1 isN := fun d e d' h => by
  unfold isN at h
  split at h
  · cases h; exact ⟨_, rfl⟩
  · cases h
theorem isNN_sc : scal1 isNN := fun d e d' h => by
  unfold isNN at h
  split at h
  · cases h; exact ⟨_, rfl⟩
  · cases h

/-! ### a look at two things, a name's own thing left as it is -/
inductive Vw where
  | d (d : D)
  | s (i : Nat)
def opv : Ag → M Vw
  | .sl i => mHas i (ret (.s i))
  | .ev m => bnd m fun o => ret (.d (frz o))
def rdv (v : Vw) : M D := match v with
  | .d d => ret d
  | .s i => fun ρ => match ρ[i]? with
    | some (some o) => .ok (frz o) ρ
    | _ => .fail
def mLook (f : D → D → Option D) (a b : Ag) : M O := bnd (opv a) fun x => bnd (opv b) fun y => bnd (rdv x) fun d => bnd (rdv y) fun e => bnd (lift (f d e)) fun r => ret (.val r)
section
variable {X : Cx} {B : Bx}
/-- how an operand is read -/
def rdT (B : Bx) : Ag → TE
  | .sl i => tVar i
  | .ev m => tE B m
/-- the operand's value: pending, or a slot's -/
def VwOk (σ : St) (v : V) : Vw → List (V × O) → Prop
  | .d d, l => l = [(v, .val d)]
  | .s i, l => l = [] ∧ σ[i]? = some (some v)
theorem opv_read {α : Type} {a : Ag} {f : Vw → M α} {k : α → Sl → Prop} {σ : St} {H : Hp} {pend : List (V × O)} {ρ : Sl} {Q : VK} (c : Conf σ H pend ρ) (g : (bnd (opv a) f ρ).go k (fun x ρ' => B.p x ρ' pend σ))
    (hQ : ∀ w ρ' v H' l, VwOk σ v w l → Conf σ H' (l ++ pend) ρ' → (f w ρ').go k (fun x ρ' => B.p x ρ' pend σ) → Q v H') : rdT B a σ H Q := by
  cases a with
  | sl i =>
    have g1 := go_bnd.mp g
    obtain ⟨⟨o, e0⟩, g2⟩ := go_has (go_bnd.mp g)
    obtain ⟨v, hv⟩ := c.sh.has i o e0
    exact ⟨v, hv, hQ (.s i) ρ v H [] ⟨rfl, hv⟩ c g2⟩
  | ev m =>
    refine ⟨pend, ρ, c, Out.go_mono (go_bnd.mp (go_bnd.mp g)) (fun o ρ1 _ g1 v H1 c1 => ?_) fun _ _ _ z => z⟩
    exact hQ (.d (frz o)) ρ1 v H1 [(v, .val (frz o))] rfl c1.frz g1
def VwIs (ρ : Sl) (d : D) : Vw → Prop
  | .d e => d = e
  | .s i => ∃ o, ρ[i]? = some (some o) ∧ d = frz o
theorem go_rdv {α : Type} {w : Vw} {f : D → M α} {ρ : Sl} {k : α → Sl → Prop} {b : Ex → Sl → Prop} (g : (bnd (rdv w) f ρ).go k b) : ∃ d, VwIs ρ d w ∧ (f d ρ).go k b := by
  cases w with
  | d e => exact ⟨e, rfl, go_bnd.mp g⟩
  | s i =>
    have g1 := go_bnd.mp g
    simp only [rdv] at g1
    split at g1
    · rename_i o e
      exact ⟨_, ⟨o, e, rfl⟩, g1⟩
    · exact False.elim g1
theorem look1 {σ : St} {H : Hp} {pend : List (V × O)} {ρ : Sl} {w : Vw} {v : V} {l : List (V × O)} {d : D} (h : VwOk σ v w l) (c : Conf σ H (l ++ pend) ρ) (hd : VwIs ρ d w) : ∃ ρ', Conf σ H ((v, .val d) :: pend) ρ' ∧ ∀ j, (∀ i, w = .s i → i ≠ j) → ρ'[j]? = ρ[j]? := by
  cases w with
  | d e =>
    cases hd
    cases h
    exact ⟨ρ, c, fun _ _ => rfl⟩
  | s i =>
    obtain ⟨o, ho, rfl⟩ := hd
    obtain ⟨rfl, hv⟩ := h
    obtain ⟨v', hv', c'⟩ := c.take ho
    rw [hv] at hv'
    cases hv'
    exact ⟨_, c'.frz, fun j hj => List.getElem?_set_ne (hj i rfl)⟩
theorem look2 {σ : St} {H : Hp} {pend : List (V × O)} {ρ : Sl} {w1 w2 : Vw} {v1 v2 : V} {l1 l2 : List (V × O)} {d e : D} (h1 : VwOk σ v1 w1 l1) (h2 : VwOk σ v2 w2 l2) (c : Conf σ H (l2 ++ (l1 ++ pend)) ρ) (hd : VwIs ρ d w1) (he : VwIs ρ e w2) : ∃ W, Rep W H v1 d ∧ Rep W H v2 e := by
  have c0 : Conf σ H (l1 ++ (l2 ++ pend)) ρ := c.perm (perm_in _ _ _)
  obtain ⟨ρ1, c1, k1⟩ := look1 h1 c0 hd
  by_cases hs : ∃ i, w1 = .s i ∧ w2 = .s i
  · obtain ⟨i, rfl, rfl⟩ := hs
    obtain ⟨o, ho, rfl⟩ := hd
    obtain ⟨o', ho', rfl⟩ := he
    rw [ho] at ho'
    cases ho'
    have e1 := h1.2
    rw [h2.2] at e1
    cases e1
    obtain ⟨W, r⟩ := c1.out1.rep
    exact ⟨W, r, r⟩
  · have c2 : Conf σ H (l2 ++ ((v1, .val d) :: pend)) ρ1 := c1.perm List.perm_middle.symm
    have he' : VwIs ρ1 e w2 := by
      cases w2 with
      | d d => exact he
      | s j =>
        obtain ⟨o, ho, q⟩ := he
        refine ⟨o, ?_, q⟩
        rw [k1 j fun i z => fun z2 => hs ⟨i, z, by rw [z2]⟩]
        exact ho
    obtain ⟨ρ2, c3, _⟩ := look1 h2 c2 he'
    obtain ⟨W, r1, r2⟩ := (Conf.out (pre := [_, _]) c3).rep2
    exact ⟨W, r2, r1⟩
theorem de_look {e a b : Expr} {r : R2} {f : D → D → Option D} {ka kb : Ag} (hr : Lk2 r f) (hs : scal1 f) (ha : PE X a (rdT B ka)) (hb : PE X b (rdT B kb)) (he : ∀ {ta tb : TE}, PE X a ta → PE X b tb → PE X e (tOp r ta tb)) : DE X B e (mLook f ka kb) := by
  refine (he ha hb).imp fun σ H Q ⟨pend, ρ, c, g⟩ => ?_
  refine opv_read c g fun w1 ρ1 v1 H1 l1 k1 c1 g1 => ?_
  refine opv_read c1 (go_pend l1 g1) fun w2 ρ2 v2 H2 l2 k2 c2 g2 => ?_
  obtain ⟨d, hd, g3⟩ := go_rdv g2
  obtain ⟨e', he', g4⟩ := go_rdv g3
  obtain ⟨r', hr', g5⟩ := go_lift (go_bnd.mp g4)
  obtain ⟨W, q1, q2⟩ := look2 k1 k2 c2 hd he'
  obtain ⟨v, hv⟩ := hs _ _ _ hr'
  exact hr _ _ _ hr' W v1 v2 v H2 Q q1 q2 hv ((g5 : ∀ v H', Conf σ H' ((v, .val r') :: pend) ρ2 → Q v H') v H2 (c2.drop.drop.sc hv))
/-- as a test -/
def mLookB (f : D → D → Option D) (a b : Ag) : M Bool := mB (mLook f a b)
theorem dt_look {e a b : Expr} {r : R2} {f : D → D → Option D} {ka kb : Ag} (hr : Lk2 r f) (hs : scal1 f) (ha : PE X a (rdT B ka)) (hb : PE X b (rdT B kb)) (he : ∀ {ta tb : TE}, PE X a ta → PE X b tb → PT X e (tTest (tOp r ta tb))) : DT X B e (mLookB f ka kb) := by
  refine (he ha hb).imp fun σ H Q ⟨pend, ρ, c, g⟩ => ?_
  have g0 := go_bnd.mp g
  refine opv_read (α := O) c g0 fun w1 ρ1 v1 H1 l1 k1 c1 g1 => ?_
  refine opv_read c1 (go_pend l1 g1) fun w2 ρ2 v2 H2 l2 k2 c2 g2 => ?_
  obtain ⟨d, hd, g3⟩ := go_rdv g2
  obtain ⟨e', he', g4⟩ := go_rdv g3
  obtain ⟨r', hr', g5⟩ := go_lift (go_bnd.mp g4)
  obtain ⟨W, q1, q2⟩ := look2 k1 k2 c2 hd he'
  obtain ⟨v, hv⟩ := hs _ _ _ hr'
  obtain ⟨b, e1, g6⟩ := go_mB (σ := σ) (pend := pend) g5
  cases e1
  cases hv
  exact hr _ _ _ hr' W v1 v2 _ H2 _ q1 q2 rfl ⟨b, rfl, g6 H2 c2.drop.drop⟩
/-- a < b < c -/
def mChain (f g : D → D → Option D) (a b c : M O) : M O := bnd a fun x => bnd b fun y => bnd (lift (f (frz x) (frz y))) fun r => match r with
  | .bl true => bnd c fun z => bnd (lift (g (frz y) (frz z))) fun r => ret (.val r)
  | .bl false => ret (.val (.bl false))
  | _ => stop
theorem chain_of {r r' : R2} {f g : D → D → Option D} {ma mb mc : M O} (hr : Lk2 r f) (hs : scal1 f) (hr' : Lk2 r' g) (hs' : scal1 g) {σ : St} {H : Hp} {Q : VK} (h : tE B (mChain f g ma mb mc) σ H Q) : tChain r r' (tE B ma) (tE B mb) (tE B mc) σ H Q := by
  obtain ⟨pend, ρ, c, gg⟩ := h
  refine tE_bnd c gg fun x ρ1 v1 H1 c1 g1 => ?_
  refine tE_bnd2 [(v1, .val (frz x))] c1.frz g1 fun y ρ2 v2 H2 c2 g2 => ?_
  obtain ⟨d', hd', g3⟩ := go_lift (go_bnd.mp g2)
  obtain ⟨v, hv⟩ := hs _ _ _ hd'
  have c3 := c2.frz
  obtain ⟨W, q2, q1⟩ := (Conf.out (pre := [_, _]) c3).rep2
  refine hr _ _ _ hd' W v1 v2 v H2 _ q1 q2 hv ?_
  split at g3
  · cases hv
    refine ⟨true, rfl, iteT ?_⟩
    have c4 : Conf σ H2 ((v2, .val (frz y)) :: pend) ρ2 := .back1 c3.sh (CG.mid (a := [_]) (m := [_]) (Conf.out (pre := [_, _]) c3))
    refine tE_bnd2 [(v2, .val (frz y))] c4 g3 fun z ρ3 v3 H3 c5 g5 => ?_
    obtain ⟨d2, hd2, g6⟩ := go_lift (go_bnd.mp g5)
    obtain ⟨v', hv'⟩ := hs' _ _ _ hd2
    have c6 := c5.frz
    obtain ⟨W', q4, q3⟩ := (Conf.out (pre := [_, _]) c6).rep2
    exact hr' _ _ _ hd2 W' v2 v3 v' H3 _ q3 q4 hv' ((g6 : ∀ v H', Conf σ H' ((v, .val d2) :: pend) ρ3 → Q v H') v' H3 (c6.tail.tail.sc hv'))
  · cases hv
    exact ⟨false, rfl, iteF ((g3 : ∀ v H', Conf σ H' ((v, .val (.bl false)) :: pend) ρ2 → Q v H') _ H2 (c3.tail.tail.sc rfl))⟩
  · exact False.elim g3
end
end Dl

namespace Dv
open PySem PySem.Spec PyProof.Rows L2
/-- a list (false) or a tuple (true) -/
def SqX (t : Bool) (K : PySem.W.Frag) (H : Hp) (a : Addr) (xs : List V) : Prop := if t = true then SqT K H a xs else SqL K H a xs
def IsX (t : Bool) (h : Heap) (a : Addr) (its : Array Value) : Prop := if t = true then h.IsTuple a its else h.IsList a its
def ItX (t : Bool) (h : Heap) (it a : Addr) (i : Nat) : Prop := if t = true then h.IsTupleIter it a i else h.IsListIter it a i
def obX (t : Bool) (a : Addr) : Obj := if t = true then { cls := .type "tuple_iterator", data := .fields #[.ref a, .int 0 0] } else { cls := .type "list_iterator", data := .fields #[.ref a, .int 0 0] }
theorem drX {prog : Program} {w : World} {A : Around} (t : Bool) (hh : A.handled = none) (it a : Addr) (hne : a ≠ it) (items : Array Value) :
    Draws prog w A it [it, a] items.size (fun i v => items[i]? = some v) (fun i h => ItX t h it a i ∧ IsX t h a items) := by
  cases t with
  | true => exact Draws.tuple hh it a hne items
  | false => exact Draws.list hh it a hne items
theorem bgX (t : Bool) (a : Addr) (items : Array Value) : Begins (.ref a) (obX t a) fun h => IsX t h a items := by
  cases t with
  | true => exact begins_tuple a items
  | false => exact begins_list a items
theorem itX0 {t : Bool} {h : Heap} {it a : Addr} (e : h.get? it = some (obX t a)) : ItX t h it a 0 := by
  cases t with
  | true => exact ⟨_, e, rfl, rfl⟩
  | false => exact ⟨_, e, rfl, rfl⟩
theorem ItX.at {t : Bool} {h h' : Heap} {it a : Addr} {i : Nat} (x : ItX t h it a i) (e : ∀ o, h.get? it = some o → h'.get? it = some o) : ItX t h' it a i := by
  cases t with
  | true => exact Heap.IsTupleIter.at x e
  | false => exact Heap.IsListIter.at x e
theorem ItX.obj {t : Bool} {h : Heap} {it a : Addr} {i : Nat} (x : ItX t h it a i) : ∃ o, h.get? it = some o ∧ ∀ v, o.data ≠ .cell v := by
  cases t with
  | true =>
    obtain ⟨o, e, _, d⟩ := x
    exact ⟨o, e, fun v q => by rw [d] at q; cases q⟩
  | false =>
    obtain ⟨o, e, _, d⟩ := x
    exact ⟨o, e, fun v q => by rw [d] at q; cases q⟩
section
variable {X : Cx} {pins : List (Addr × Obj)} {σ : L2.St} {H : Hp} {s : Shared} {a : Addr} {xs ys : List V} {t : Bool}
theorem invX (I : Inv X pins σ H s) (h : SqX t X.K H a xs) : ∃ its : List Value, Vals xs its ∧ IsX t s.heap a its.toArray ∧ a < s.heap.objs.size := by
  cases t with
  | true =>
    obtain ⟨its, rv, p, _⟩ := I.tuple h
    obtain ⟨o, ho, _⟩ := id p
    exact ⟨its, rv, p, Heap.lt_size ho⟩
  | false =>
    obtain ⟨its, rv, p, _⟩ := I.list h
    exact ⟨its, rv, p.isList, p.lt⟩
theorem invX_inj (I : Inv X pins σ H s) (h : SqX t X.K H a xs) (h' : SqX t X.K H a ys) : xs = ys := by
  cases t with
  | true => exact I.tuple_inj h h'
  | false => exact I.list_inj h h'
end
/-! ### enumerate -/
def IteX (t : Bool) (K : PySem.W.Frag) (a : Addr) : It :=
  ⟨fun i H => ∃ (xs : List V) (x : V), SqX t K H a xs ∧ xs[i]? = some x, fun i H v H' => ∃ T x, v = .ref T ∧ H T = none ∧ H' = upd H T (.tup [.int (i : Nat), x]) ∧ ∀ xs, SqX t K H a xs → xs[i]? = some x, fun i H => ∃ xs : List V, SqX t K H a xs ∧ xs.length = i⟩
theorem turn_enumX {P : Program} {w : World} {K : PySem.W.Frag} {elts : List Expr} {kk : Nat} {tpos : Pos} (t : Bool) (a e it : Addr) (hae : a ≠ e) (hai : a ≠ it) (hei : e ≠ it) :
    Turn P w K (.Tuple elts kk tpos) (IteX t K a) [e, it] e (fun i h => (∃ old, IsEnum h e it ((i : Nat) : Int) old) ∧ ItX t h it a i) where
  mem := by simp
  obj := fun i h st b hb => by
    obtain ⟨⟨old, he⟩, hit⟩ := st
    have e' : b = e ∨ b = it := by simpa using hb
    rcases e' with z | z
    · rw [z]; exact ⟨_, he, fun v q => nomatch q⟩
    · rw [z]; exact hit.obj
  keep := fun i h h' st k => by
    obtain ⟨⟨old, he⟩, hit⟩ := st
    exact ⟨⟨old, k e (by simp) _ he⟩, hit.at fun o q => k it (by simp) o q⟩
  item := by
    intro X hP hw hK hc i pins s σ H E I hf st hg
    subst hP hw hK
    obtain ⟨⟨old, he⟩, hit⟩ := st
    obtain ⟨xs, x, hq, hx⟩ := hg
    obtain ⟨its, rv, p, hal⟩ := invX I hq
    obtain ⟨u, hu, ru⟩ := rv.get hx
    have hel : e < s.heap.objs.size := Heap.lt_size he
    have hil : it < s.heap.objs.size := by obtain ⟨o, q, _⟩ := hit.obj; exact Heap.lt_size q
    have hlt : i < its.toArray.size := by
      have := (List.getElem?_eq_some_iff.mp hu).1
      simpa using this
    refine wpAny_pyNext_enum_itemD (drX (A := X.A.in1) t (I.ok.hd hc) it a hai its.toArray) he ⟨hit, p⟩ hlt hei (by simp [hei, Ne.symm hae]) fun x' h' tk hx' ho hst' hT hsz hk => ?_
    have ex : x' = u := by
      have : its[i]? = some x' := by simpa using hx'
      rw [hu] at this
      exact (Option.some.inj this).symm
    subst ex
    refine ⟨_, rfl, wpAny_letOwnedTupleGo_enum (s := { s with heap := h', toks := tk + 1 }) ho fun h'' he' sb => ?_⟩
    have hT2 : h''.get? s.heap.objs.size = some { cls := .type "tuple", data := .seq #[.int i tk, x'] } := (sb.2 _ (Nat.ne_of_gt hel)).trans hT
    have new : ObjOk X.prog X.w (upd H s.heap.objs.size (.tup [.int (i : Nat), x])) h'' s.heap.objs.size (.tup [.int (i : Nat), x]) :=
      ⟨by show 2 ≤ sizeLine; decide, [.int i tk, x'], .cons ⟨_, rfl⟩ (.cons ru .nil), ⟨_, hT2, rfl, _, rfl⟩⟩
    have I1 : Inv X pins σ (upd H s.heap.objs.size (.tup [.int (i : Nat), x])) { s with heap := h'', toks := tk + 1 } :=
      I.turnedNew (ch := [e, it]) (fun b ob hb q => (sb.2 b (fun z => hb (by simp [z]))).trans (hk b ob (fun z => hb (by simp [z])) (fun z => hb (by simp [z])) q)) hf (Nat.le_refl _) new
    refine ⟨.ref s.heap.objs.size, _, I1, rfl, ⟨_, x, rfl, I.hok.fresh (Nat.le_refl _), rfl, fun ys hy => by rw [invX_inj I hy hq]; exact hx⟩, ⟨⟨x', ?_⟩, hst'.1.at fun o q => (sb.2 it (Ne.symm hei)).trans q⟩, fun b hb => ?_⟩
    · have e1 : ((i + 1 : Nat) : Int) = (i : Int) + 1 := by omega
      rw [e1]; exact he'
    · have hb' : b < s.heap.objs.size := by
        have e' : b = e ∨ b = it := by simpa using hb
        rcases e' with z | z
        · rw [z]; exact hel
        · rw [z]; exact hil
      rw [upd_ne (Nat.ne_of_lt hb')]
      exact (hf b hb).1
  done := by
    intro X hP hw hK hc i pins s σ H E I hf st hg
    subst hP hw hK
    obtain ⟨⟨old, he⟩, hit⟩ := st
    obtain ⟨xs, hq, hx⟩ := hg
    obtain ⟨its, rv, p, hal⟩ := invX I hq
    obtain ⟨f0, f1, f2, f3, f4, f5⟩ := hf it (by simp)
    have hl := rv.length
    have hi : i = its.toArray.size := by simp; omega
    subst hi
    exact wpAny_pyNext_enum_endD (drX (A := X.A.in1) t (I.ok.hd hc) it a hai its.toArray) he ⟨hit, p⟩ fun h' eb => ⟨rfl, I.turned (t' := s.toks) (fun b o hb q => eb b o hb q) f0 f1 f3 f4 f5⟩
  self := fun A i s Q E st h => let ⟨⟨_, he⟩, _⟩ := st; wpAny_pyIter_enum he h
set_option maxHeartbeats 1000000 in
theorem meets_enum1 {v : Value} {o : Obj} {H : Heap → Prop} (B : Begins v o H) :
    Meets (Builtin.«enumerate.__new__» ⟨[.type "enumerate", v], []⟩) (fun _ R s => H s.heap ∧
      R (.ok (.ret (.ref (s.heap.push o).objs.size))) { s with heap := (s.heap.push o).push { cls := .type "enumerate", data := .fields #[.none, .bool false, .ref s.heap.objs.size, rawInt 0, .none, .none] } }) :=
  .of_wp fun prog w A R s h => by
    obtain ⟨hp, g, d, tk, os⟩ := s; obtain ⟨h1, h⟩ := h
    have hsub := sub_enumerate
    have q1 : ∀ {A' : Around} {E : Value → Shared → Prop} {Q : Value → Shared → Prop}, Q (.ref hp.objs.size) ⟨hp.push o, g, d, tk, os⟩ → wpAny (model prog w) A' (pyIter v) Q E ⟨hp, g, d, tk, os⟩ :=
      fun q => B.iter prog w _ _ ⟨hp, g, d, tk, os⟩ _ h1 q
    wp_walk using q1
    refine wpAny_stack_any fun st => wpAny_pure ?_
    split
    · rename_i c _ _ _ _ _
      cases (c == Value.type "enumerate")
      · wp_walk using q1
        exact ⟨_, rfl, h⟩
      · wp_walk using q1
        exact ⟨_, rfl, h⟩
    · wp_walk using q1
      exact ⟨_, rfl, h⟩
section
variable {prog : Program} {w : World} {A : Around} {E : Value → Shared → Prop} {s : Shared}
theorem enum_begins1 {v : Value} {o : Obj} {H : Heap → Prop} {Q : Value → Shared → Prop} (B : Begins v o H) (h1 : H s.heap)
    (h : ∀ h', IsEnum h' (s.heap.objs.size + 1) s.heap.objs.size 0 .none → h'.get? s.heap.objs.size = some o → h'.objs.size = s.heap.objs.size + 2 →
      (∀ b o, s.heap.get? b = some o → h'.get? b = some o) → Q (.ref (s.heap.objs.size + 1)) { s with heap := h' }) :
    wpAny (model prog w) A (call (.type "enumerate") [v]) Q E s := by
  refine callType_new F.called_enumerate (by decide) (F.typeCall_enumerate_1 _) (F.newCall_enumerate_1 _) (fun obj => F.args_object_init_2 obj _) F.entry_enumerate_new
    (meets_enum1 B) ⟨h1, ?_⟩
  have hz : (s.heap.push o).objs.size = s.heap.objs.size + 1 := Heap.size_push ..
  show _ ∧ _
  rw [hz]
  have he : IsEnum ((s.heap.push o).push { cls := .type "enumerate", data := .fields #[.none, .bool false, .ref s.heap.objs.size, rawInt 0, .none, .none] }) (s.heap.objs.size + 1) s.heap.objs.size 0 .none := by
    have := Heap.get?_push_size (s.heap.push o) (o := { cls := .type "enumerate", data := .fields #[.none, .bool false, .ref s.heap.objs.size, rawInt 0, .none, .none] }) rfl
    rw [hz] at this; exact this
  refine ⟨⟨_, he, rfl⟩, h _ he (Heap.get?_push_of_some _ (Heap.get?_push_size _ B.free)) (by rw [Heap.size_push, hz]) fun b o x => Heap.get?_push_of_some _ (Heap.get?_push_of_some _ x)⟩
end
def iEnumX (K : PySem.W.Frag) (ta : TA) : TI := fun σ H R => ta σ H fun vs H1 => ∃ t a xs, vs = [.ref a] ∧ SqX t K H1 a xs ∧ R (IteX t K a) H1
theorem pi_enumX {X : Cx} {e : Expr} {ta : TA} {p pos tpos : Pos} {elts : List Expr} {kk : Nat} (hg : Gl X "enumerate") (hm : X.mg "enumerate" = none) (ha : PA X [e] ta) (hs : starEach [e] X.env = (false, eval e X.env) :: starEach [] X.env) :
    PI X (.Tuple elts kk tpos) (.Call (.Name "enumerate" p) [e] [] pos) (iEnumX X.K ta) := by
  refine ⟨fun pins s σ H R I h => ?_⟩
  refine Call_ (ld_blt I hg hm boot_enumerate (PyProof.Rows.callWith_type1 (thn (ha.run pos pins s σ H _ I h) fun us s1 ⟨vs, H1, I1, r1, q1⟩ => ?_) hs rfl))
  obtain ⟨t, a, xs, ex, hq, q⟩ := q1
  subst ex
  cases r1 with
  | cons r rr =>
    cases rr
    cases r
    obtain ⟨its, rv, p', hal⟩ := invX I1 hq
    refine enum_begins1 (bgX t a its.toArray) p' fun h' he hit hsz hk => wpAny_pyIter_enum he ?_
    have I2 : Inv X pins σ H1 { s1 with heap := h' } := I1.kept (t' := s1.toks) hk
    refine ⟨s1.heap.objs.size + 1, [s1.heap.objs.size + 1, s1.heap.objs.size], _, _, H1, rfl, I2, turn_enumX t a (s1.heap.objs.size + 1) s1.heap.objs.size (Nat.ne_of_lt (Nat.lt_succ_of_lt hal)) (Nat.ne_of_lt hal) (Nat.succ_ne_self _), ⟨⟨.none, he⟩, itX0 hit⟩, fun b hb => ?_, q⟩
    have e' : b = s1.heap.objs.size + 1 ∨ b = s1.heap.objs.size := by simpa using hb
    have hle : s1.heap.objs.size ≤ b := by
      rcases e' with z | z
      · rw [z]; exact Nat.le_add_right _ _
      · rw [z]; exact Nat.le_refl _
    exact I1.fpOk hle (I1.hok.fresh hle)
/-! ### zip -/
def ItzX (t t2 : Bool) (K : PySem.W.Frag) (a b : Addr) : It :=
  ⟨fun i H => ∃ (xs ys : List V) (x y : V), SqX t K H a xs ∧ SqX t2 K H b ys ∧ xs[i]? = some x ∧ ys[i]? = some y,
    fun i H v H' => ∃ T x y, v = .ref T ∧ H T = none ∧ H' = upd H T (.tup [x, y]) ∧ (∀ xs, SqX t K H a xs → xs[i]? = some x) ∧ ∀ ys, SqX t2 K H b ys → ys[i]? = some y,
    fun i H => ∃ xs ys : List V, SqX t K H a xs ∧ SqX t2 K H b ys ∧ i ≤ xs.length ∧ i ≤ ys.length ∧ (i = xs.length ∨ i = ys.length)⟩
theorem turn_zipX {P : Program} {w : World} {K : PySem.W.Frag} {elts : List Expr} {kk : Nat} {tpos : Pos} (t t2 : Bool) {a b z TI TO i1 i2 : Addr} (D : ZipSep2 z TI TO i1 i2 [i1, a] [i2, b]) (ha : a ≠ i1) (hb : b ≠ i2) :
    Turn P w K (.Tuple elts kk tpos) (ItzX t t2 K a b) [z, TI, TO, i1, i2] z (fun i h => IsZip h z TI TO .none ∧ IsTupOf2 h TI (.ref i1) (.ref i2) ∧ (∃ x y, IsTupOf2 h TO x y) ∧ ItX t h i1 a i ∧ ItX t2 h i2 b i) where
  mem := by simp
  obj := fun i h st c hc => by
    obtain ⟨hz, hTI, ⟨x, y, hTO⟩, h1, h2⟩ := st
    have e' : c = z ∨ c = TI ∨ c = TO ∨ c = i1 ∨ c = i2 := by simpa using hc
    rcases e' with q | q | q | q | q
    · rw [q]; exact ⟨_, hz, fun v q => nomatch q⟩
    · rw [q]; exact ⟨_, hTI, fun v q => nomatch q⟩
    · rw [q]; exact ⟨_, hTO, fun v q => nomatch q⟩
    · rw [q]; exact h1.obj
    · rw [q]; exact h2.obj
  keep := fun i h h' st k => by
    obtain ⟨hz, hTI, ⟨x, y, hTO⟩, h1, h2⟩ := st
    exact ⟨k z (by simp) _ hz, k TI (by simp) _ hTI, ⟨x, y, k TO (by simp) _ hTO⟩, h1.at fun o q => k i1 (by simp) o q, h2.at fun o q => k i2 (by simp) o q⟩
  item := by
    intro X hP hw hK hc i pins s σ H E I hf st hg
    subst hP hw hK
    obtain ⟨hz, hTI, ⟨x0, y0, hTO⟩, h1, h2⟩ := st
    obtain ⟨xs, ys, x, y, hqx, hqy, hx, hy⟩ := hg
    obtain ⟨its, rv, p, _⟩ := invX I hqx
    obtain ⟨its2, rv2, p2, _⟩ := invX I hqy
    obtain ⟨u, hu, ru⟩ := rv.get hx
    obtain ⟨u2, hu2, ru2⟩ := rv2.get hy
    have hzl : z < s.heap.objs.size := Heap.lt_size hz
    have hlt : i < its.toArray.size := by
      have := (List.getElem?_eq_some_iff.mp hu).1
      simpa using this
    have hlt2 : i < its2.toArray.size := by
      have := (List.getElem?_eq_some_iff.mp hu2).1
      simpa using this
    refine wpAny_pyNext_zipD2_item D (drX (A := X.A.in1) t (I.ok.hd hc) i1 a ha its.toArray) (drX (A := X.A.in1) t2 (I.ok.hd hc) i2 b hb its2.toArray) hz hTI hTO ⟨h1, p⟩ ⟨h2, p2⟩ hlt hlt2 fun v1 v2 h' tk hv1 hv2 z' TO' h1' h2' hT hsz hk => ?_
    have ex : v1 = u := by
      have : its[i]? = some v1 := by simpa using hv1
      rw [hu] at this
      exact (Option.some.inj this).symm
    have ex2 : v2 = u2 := by
      have : its2[i]? = some v2 := by simpa using hv2
      rw [hu2] at this
      exact (Option.some.inj this).symm
    subst ex ex2
    refine ⟨_, rfl, wpAny_letOwnedTupleGo_zip (s := { s with heap := h', toks := tk }) z' fun h'' z'' sb => ?_⟩
    have hT2 : h''.get? s.heap.objs.size = some { cls := .type "tuple", data := .seq #[v1, v2] } := (sb.2 _ (Nat.ne_of_gt hzl)).trans hT
    have new : ObjOk X.prog X.w (upd H s.heap.objs.size (.tup [x, y])) h'' s.heap.objs.size (.tup [x, y]) :=
      ⟨by show 2 ≤ sizeLine; decide, [v1, v2], .cons ru (.cons ru2 .nil), ⟨_, hT2, rfl, _, rfl⟩⟩
    have I1 : Inv X pins σ (upd H s.heap.objs.size (.tup [x, y])) { s with heap := h'', toks := tk } :=
      I.turnedNew (t' := tk) (ch := [z, TI, TO, i1, i2]) (fun c o hb q => (sb.2 c (fun q' => hb (by simp [q']))).trans (hk c o (fun q' => hb (by simp [q'])) (fun q' => hb (by simp [q'])) (fun q' => hb (by simp [q'])) (fun q' => hb (by simp [q'])) q)) hf (Nat.le_refl _) new
    refine ⟨.ref s.heap.objs.size, _, I1, rfl, ⟨_, x, y, rfl, I.hok.fresh (Nat.le_refl _), rfl, fun l hl => by rw [invX_inj I hl hqx]; exact hx, fun l hl => by rw [invX_inj I hl hqy]; exact hy⟩, ⟨z'', ?_, ⟨v1, v2, ?_⟩, ?_, ?_⟩, fun c hcm => ?_⟩
    · exact (sb.2 _ D.TIz).trans (hk _ _ D.TIz D.TITO D.TIi1 D.TIi2 hTI)
    · exact (sb.2 _ D.TOz).trans TO'
    · exact h1'.1.at fun o q => (sb.2 _ (Ne.symm D.zi1)).trans q
    · exact h2'.1.at fun o q => (sb.2 _ (Ne.symm D.zi2)).trans q
    · have hlt : c < s.heap.objs.size := by
        have e' : c = z ∨ c = TI ∨ c = TO ∨ c = i1 ∨ c = i2 := by simpa using hcm
        rcases e' with q | q | q | q | q
        · rw [q]; exact hzl
        · rw [q]; exact Heap.lt_size hTI
        · rw [q]; exact Heap.lt_size hTO
        · rw [q]; obtain ⟨_, e1, _⟩ := h1.obj; exact Heap.lt_size e1
        · rw [q]; obtain ⟨_, e2, _⟩ := h2.obj; exact Heap.lt_size e2
      rw [upd_ne (Nat.ne_of_lt hlt)]
      exact (hf c hcm).1
  done := by
    intro X hP hw hK hc i pins s σ H E I hf st hg
    subst hP hw hK
    obtain ⟨hz, hTI, ⟨x0, y0, hTO⟩, h1, h2⟩ := st
    obtain ⟨xs, ys, hqx, hqy, le1, le2, hend⟩ := hg
    obtain ⟨its, rv, p, _⟩ := invX I hqx
    obtain ⟨its2, rv2, p2, _⟩ := invX I hqy
    have l1 := rv.length
    have l2 := rv2.length
    refine wpAny_pyNext_zipD2_end D (drX (A := X.A.in1) t (I.ok.hd hc) i1 a ha its.toArray) (drX (A := X.A.in1) t2 (I.ok.hd hc) i2 b hb its2.toArray) hz hTI hTO ⟨h1, p⟩ ⟨h2, p2⟩ (by simp; omega) (by simp; omega) (by simp; omega) fun h' tk hk => ⟨rfl, I.turnedL (t' := tk) (ch := [z, TI, TO, i1, i2]) (fun c o hb q =>
      hk c o (fun q' => hb (by simp [q'])) (fun q' => hb (by simp [q'])) (fun q' => hb (by simp [q'])) (fun q' => hb (by simp [q'])) q) hf⟩
  self := fun A i s Q E st h => wpAny_pyIter_zip st.1 h
theorem sepZ (n a b : Nat) (la : a < n) (lb : b < n) : ZipSep2 (n + 4) (n + 2) (n + 3) n (n + 1) [n, a] [n + 1, b] := by
  have q2 : ∀ (x y z : Nat), x ≠ y → x ≠ z → x ∉ [y, z] := fun x y z h h' hm => by
    rcases List.mem_cons.mp hm with e | hm
    · exact h e
    · exact h' (List.mem_singleton.mp hm)
  exact ⟨show n + 2 ≠ n + 4 by omega, show n + 3 ≠ n + 4 by omega, show n + 2 ≠ n + 3 by omega, show n + 2 ≠ n by omega, List.mem_cons_self, q2 (n + 4) n a (by omega) (by omega), q2 (n + 3) n a (by omega) (by omega), show n + 2 ≠ n + 1 by omega, List.mem_cons_self, q2 (n + 4) (n + 1) b (by omega) (by omega), q2 (n + 3) (n + 1) b (by omega) (by omega), q2 n (n + 1) b (by omega) (by omega), q2 (n + 1) n a (by omega) (by omega)⟩
def iZipX (K : PySem.W.Frag) (ta : TA) : TI := fun σ H R => ta σ H fun vs H1 => ∃ t t2 a b xs ys, vs = [.ref a, .ref b] ∧ SqX t K H1 a xs ∧ SqX t2 K H1 b ys ∧ R (ItzX t t2 K a b) H1
theorem pi_zipX {X : Cx} {e e2 : Expr} {ta : TA} {p pos tpos : Pos} {elts : List Expr} {kk : Nat} (hg : Gl X "zip") (hm : X.mg "zip" = none) (ha : PA X [e, e2] ta)
    (hs : starEach [e, e2] X.env = (false, eval e X.env) :: starEach [e2] X.env) (hpl : (backTo pos (starEach [e2] X.env)).any (·.1) = false) :
    PI X (.Tuple elts kk tpos) (.Call (.Name "zip" p) [e, e2] [] pos) (iZipX X.K ta) := by
  refine ⟨fun pins s σ H R I h => ?_⟩
  refine Call_ (ld_blt I hg hm PyProof.Rows.boot_zip (PyProof.Rows.callWith_type1 (thn (ha.run pos pins s σ H _ I h) fun us s1 ⟨vs, H1, I1, r1, q1⟩ => ?_) hs hpl))
  obtain ⟨t, t2, a, b, xs, ys, ex, hqx, hqy, q⟩ := q1
  subst ex
  cases r1 with
  | cons r rr =>
    cases rr with
    | cons r' rr =>
      cases rr
      cases r
      cases r'
      obtain ⟨its, rv, p1, la⟩ := invX I1 hqx
      obtain ⟨its2, rv2, p2, lb⟩ := invX I1 hqy
      refine zip_begins2 (bgX t a its.toArray) (bgX t2 b its2.toArray) p1 p2 fun h' hz hTI hTO h1 h2 hsz hk => wpAny_pyIter_zip hz ?_
      have I2 : Inv X pins σ H1 { s1 with heap := h' } := I1.kept (t' := s1.toks) hk
      have sep := sepZ s1.heap.objs.size a b la lb
      refine ⟨s1.heap.objs.size + 4, [s1.heap.objs.size + 4, s1.heap.objs.size + 2, s1.heap.objs.size + 3, s1.heap.objs.size, s1.heap.objs.size + 1], _, _, H1, rfl, I2, turn_zipX t t2 sep (Nat.ne_of_lt la) (Nat.ne_of_lt (Nat.lt_succ_of_lt lb)), ⟨hz, hTI, ⟨_, _, hTO⟩, itX0 h1, itX0 h2⟩, fun c hcm => ?_, q⟩
      have e' : c = s1.heap.objs.size + 4 ∨ c = s1.heap.objs.size + 2 ∨ c = s1.heap.objs.size + 3 ∨ c = s1.heap.objs.size ∨ c = s1.heap.objs.size + 1 := by simpa using hcm
      have hle : s1.heap.objs.size ≤ c := by
        rcases e' with z | z | z | z | z <;> rw [z] <;> first | exact Nat.le_add_right _ _ | exact Nat.le_refl _
      exact I1.fpOk hle (I1.hok.fresh hle)
end Dv

namespace Dl
variable [Kc]
open PySem L2

/-! ### a built-in that looks at one thing and gives a scalar -/
def Lk1 (r : List V → Hp → VK → Prop) (f : D → Option D) : Prop := ∀ (d d' : D), f d = some d' → ∀ (W : Addr → Prop) (x v : V) (H : Hp) (Q : VK), Rep W H x d → sc d' = some v → Q v H → r [x] H Q
def sca1 (f : D → Option D) : Prop := ∀ d d', f d = some d' → ∃ v, sc d' = some v
def mLook1 (f : D → Option D) (a : Ag) : M O := bnd (opv a) fun x => bnd (rdv x) fun d => bnd (lift (f d)) fun r => ret (.val r)
section
variable {X : Cx} {B : Bx}
theorem de_look1 {e a : Expr} {r : List V → Hp → VK → Prop} {f : D → Option D} {ka : Ag} (hr : Lk1 r f) (hs : sca1 f) (ha : PE X a (rdT B ka)) (he : ∀ {ta : TE}, PE X a ta → PE X e (tCB r (tCons ta tNil))) : DE X B e (mLook1 f ka) := by
  refine (he ha).imp fun σ H Q ⟨pend, ρ, c, g⟩ => ?_
  refine opv_read c g fun w1 ρ1 v1 H1 l1 k1 c1 g1 => ?_
  obtain ⟨d, hd, g3⟩ := go_rdv g1
  obtain ⟨r', hr', g5⟩ := go_lift (go_bnd.mp g3)
  obtain ⟨ρ2, c2, _⟩ := look1 k1 c1 hd
  obtain ⟨W, q⟩ := c2.out1.rep
  obtain ⟨v, hv⟩ := hs _ _ hr'
  exact hr _ _ hr' W v1 v H1 Q q hv ((g5 : ∀ v H', Conf σ H' ((v, .val r') :: pend) ρ1 → Q v H') v H1 (c1.drop.sc hv))
theorem Lk1.or {r r' : List V → Hp → VK → Prop} {f g : D → Option D} (h : Lk1 r f) (h' : Lk1 r' g) : Lk1 (fun x H Q => r x H Q ∨ r' x H Q) (fun d => match f d with
  | some o => some o
  | none => g d) := fun d o ho W x v H Q r1 hv k => by
  cases q : f d with
  | none =>
    simp only [q] at ho
    exact .inr (h' d o ho W x v H Q r1 hv k)
  | some o' =>
    simp only [q] at ho
    cases ho
    exact .inl (h d _ q W x v H Q r1 hv k)
/-- len -/
def lenD (d : D) : Option D := match d with
  | .tup l => some (.int l.length)
  | .lst l => some (.int l.length)
  | .fl l => some (.int l.length)
  | .str x => if x.length ≤ 1000000 then some (.int x.length) else none
  | _ => none
theorem lenD_sc : sca1 lenD := fun d d' h => by
  unfold lenD at h
  split at h <;> first
    | (cases h; exact ⟨_, rfl⟩)
    | (split at h <;> cases h; exact ⟨_, rfl⟩)
    | cases h
theorem lk_len : Lk1 (fun xs H Q => (∃ p ys, xs = [.ref p] ∧ (SqL Kc.k H p ys ∨ SqT Kc.k H p ys) ∧ Q (.int ys.length) H) ∨ (∃ z, xs = [.str z] ∧ z.length ≤ sizeLine ∧ Q (.int z.length) H)) lenD := fun d d' h W x v H Q r hv q => by
  unfold lenD at h
  split at h
  · cases h; cases hv
    cases r with
    | tup _ e z => exact .inl ⟨_, _, rfl, .inr (sq_t e), by rw [z.len]; exact q⟩
  · cases h; cases hv
    cases r with
    | lst _ e z => exact .inl ⟨_, _, rfl, .inl (sq_l e), by rw [z.len]; exact q⟩
  · cases h; cases hv
    obtain ⟨p, rfl, s⟩ := rep_fl r
    exact .inl ⟨_, _, rfl, .inl s, by rw [List.length_map]; exact q⟩
  · split at h
    · rename_i hz
      cases h; cases hv; cases r
      exact .inr ⟨_, rfl, le_line hz, q⟩
    · cases h
  · cases h
/-- the intsD, the bools of a list -/
def intsD : List D → Option (List Int)
  | [] => some []
  | .int i :: l => (intsD l).map (i :: ·)
  | _ :: _ => none
def bls : List D → Option (List Bool)
  | [] => some []
  | .bl i :: l => (bls l).map (i :: ·)
  | _ :: _ => none
theorem ints_of : ∀ (ns : List Int), intsD (ns.map D.int) = some ns
  | [] => rfl
  | n :: ns => by rw [List.map_cons, intsD, ints_of ns]; rfl
theorem bls_of : ∀ (ns : List Bool), bls (ns.map D.bl) = some ns
  | [] => rfl
  | n :: ns => by rw [List.map_cons, bls, bls_of ns]; rfl
theorem ints_eq : ∀ {ds : List D} {ns : List Int}, intsD ds = some ns → ds = ns.map D.int
  | [], _, h => by cases h; rfl
  | .int i :: l, ns, h => by
    rw [intsD] at h
    cases q : intsD l with
    | none => rw [q] at h; cases h
    | some m => rw [q] at h; cases h; rw [List.map_cons, ints_eq q]
  | .non :: _, _, h => by cases h
  | .bl _ :: _, _, h => by cases h
  | .str _ :: _, _, h => by cases h
  | .tup _ :: _, _, h => by cases h
  | .lst _ :: _, _, h => by cases h
  | .dct _ _ :: _, _, h => by cases h
  | .fl _ :: _, _, h => by cases h
theorem bls_eq : ∀ {ds : List D} {ns : List Bool}, bls ds = some ns → ds = ns.map D.bl
  | [], _, h => by cases h; rfl
  | .bl i :: l, ns, h => by
    rw [bls] at h
    cases q : bls l with
    | none => rw [q] at h; cases h
    | some m => rw [q] at h; cases h; rw [List.map_cons, bls_eq q]
  | .non :: _, _, h => by cases h
  | .int _ :: _, _, h => by cases h
  | .str _ :: _, _, h => by cases h
  | .tup _ :: _, _, h => by cases h
  | .lst _ :: _, _, h => by cases h
  | .dct _ _ :: _, _, h => by cases h
  | .fl _ :: _, _, h => by cases h
theorem Reps.ints_ {W : Addr → Prop} {H : Hp} : ∀ {ns : List Int} {vs : List V}, Reps W H vs (ns.map D.int) → vs = ns.map V.int
  | [], _, .nil => rfl
  | n :: ns, _, .cons a b => by
    cases a
    rw [List.map_cons, Reps.ints_ b]
theorem Reps.bls {W : Addr → Prop} {H : Hp} : ∀ {ns : List Bool} {vs : List V}, Reps W H vs (ns.map D.bl) → vs = ns.map V.bl
  | [], _, .nil => rfl
  | n :: ns, _, .cons a b => by
    cases a
    rw [List.map_cons, Reps.bls b]
def lstI (d : D) : Option (List Int) := match d with
  | .lst l => intsD l
  | _ => none
def lstB (d : D) : Option (List Bool) := match d with
  | .lst l => bls l
  | _ => none
theorem rep_lstI {K : PySem.W.Frag} {W : Addr → Prop} {H : Hp} {v : V} {d : D} {ns : List Int} (r : Rep W H v d) (h : lstI d = some ns) : ∃ p, v = .ref p ∧ SqL K H p (ns.map V.int) := by
  unfold lstI at h
  split at h
  · have e := ints_eq h
    subst e
    cases r with
    | lst _ e z => exact ⟨_, rfl, by rw [← z.ints_]; exact sq_l e⟩
  · cases h
theorem rep_lstB {K : PySem.W.Frag} {W : Addr → Prop} {H : Hp} {v : V} {d : D} {ns : List Bool} (r : Rep W H v d) (h : lstB d = some ns) : ∃ p, v = .ref p ∧ SqL K H p (ns.map V.bl) := by
  unfold lstB at h
  split at h
  · have e := bls_eq h
    subst e
    cases r with
    | lst _ e z => exact ⟨_, rfl, by rw [← z.bls]; exact sq_l e⟩
  · cases h
def maxI : List Int → Option Int
  | [] => none
  | n :: l => match maxI l with
    | none => some n
    | some m => some (if n ≤ m then m else n)
def minI : List Int → Option Int
  | [] => none
  | n :: l => match minI l with
    | none => some n
    | some m => some (if m ≤ n then m else n)
theorem maxI_spec : ∀ {l : List Int} {m : Int}, maxI l = some m → m ∈ l ∧ ∀ y ∈ l, y ≤ m
  | [], _, h => by cases h
  | n :: l, m, h => by
    rw [maxI] at h
    cases q : maxI l with
    | none =>
      rw [q] at h; cases h
      cases l with
      | nil => simp
      | cons a l =>
        rw [maxI] at q
        split at q <;> cases q
    | some k =>
      rw [q] at h
      obtain ⟨h1, h2⟩ := maxI_spec q
      cases h
      constructor
      · split
        · exact List.mem_cons_of_mem _ h1
        · exact List.mem_cons_self
      · intro y hy
        rcases List.mem_cons.mp hy with e | e
        · subst e; split <;> omega
        · have := h2 y e
          split <;> omega
theorem minI_spec : ∀ {l : List Int} {m : Int}, minI l = some m → m ∈ l ∧ ∀ y ∈ l, m ≤ y
  | [], _, h => by cases h
  | n :: l, m, h => by
    rw [minI] at h
    cases q : minI l with
    | none =>
      rw [q] at h; cases h
      cases l with
      | nil => simp
      | cons a l =>
        rw [minI] at q
        split at q <;> cases q
    | some k =>
      rw [q] at h
      obtain ⟨h1, h2⟩ := minI_spec q
      cases h
      constructor
      · split
        · exact List.mem_cons_of_mem _ h1
        · exact List.mem_cons_self
      · intro y hy
        rcases List.mem_cons.mp hy with e | e
        · subst e; split <;> omega
        · have := h2 y e
          split <;> omega
def sumD (d : D) : Option D := (lstI d).map fun l => .int l.sum
def maxD (d : D) : Option D := ((lstI d).bind maxI).map .int
def minD (d : D) : Option D := ((lstI d).bind minI).map .int
def allD (d : D) : Option D := (lstB d).map fun l => .bl (l.all id)
def anyD (d : D) : Option D := (lstB d).map fun l => .bl (l.any id)
theorem map_sc {α : Type} {o : Option α} {g : α → D} {d' : D} (h : o.map g = some d') (hg : ∀ a, ∃ v, sc (g a) = some v) : ∃ v, sc d' = some v := by
  cases o with
  | none => cases h
  | some a => cases h; exact hg a
theorem sumD_sc : sca1 sumD := fun d d' h => map_sc h fun a => ⟨_, rfl⟩
theorem maxD_sc : sca1 maxD := fun d d' h => map_sc h fun a => ⟨_, rfl⟩
theorem minD_sc : sca1 minD := fun d d' h => map_sc h fun a => ⟨_, rfl⟩
theorem allD_sc : sca1 allD := fun d d' h => map_sc h fun a => ⟨_, rfl⟩
theorem anyD_sc : sca1 anyD := fun d d' h => map_sc h fun a => ⟨_, rfl⟩
theorem map_some {α β : Type} {o : Option α} {g : α → β} {b : β} (h : o.map g = some b) : ∃ a, o = some a ∧ g a = b := by
  cases o with
  | none => cases h
  | some a => exact ⟨a, rfl, Option.some.inj h⟩
theorem lk_sum {K : PySem.W.Frag} : Lk1 (rSum K) sumD := fun d d' h W x v H Q r hv q => by
  obtain ⟨l, h1, rfl⟩ := map_some h
  cases hv
  obtain ⟨p, rfl, s⟩ := rep_lstI r h1
  exact ⟨p, l, rfl, s, q⟩
theorem lk_all {K : PySem.W.Frag} : Lk1 (rAll K) allD := fun d d' h W x v H Q r hv q => by
  obtain ⟨l, h1, rfl⟩ := map_some h
  cases hv
  obtain ⟨p, rfl, s⟩ := rep_lstB r h1
  exact ⟨p, l, rfl, s, q⟩
theorem lk_any {K : PySem.W.Frag} : Lk1 (rAny K) anyD := fun d d' h W x v H Q r hv q => by
  obtain ⟨l, h1, rfl⟩ := map_some h
  cases hv
  obtain ⟨p, rfl, s⟩ := rep_lstB r h1
  exact ⟨p, l, rfl, s, q⟩
theorem lk_max {K : PySem.W.Frag} : Lk1 (rMax K) maxD := fun d d' h W x v H Q r hv q => by
  obtain ⟨m, h1, rfl⟩ := map_some h
  cases hv
  obtain ⟨l, h2, h3⟩ := Option.bind_eq_some_iff.mp h1
  obtain ⟨p, rfl, s⟩ := rep_lstI r h2
  obtain ⟨m1, m2⟩ := maxI_spec h3
  refine ⟨p, l, rfl, s, List.length_pos_of_mem m1, fun k k1 k2 => ?_⟩
  have e : k = m := Int.le_antisymm (m2 k k1) (k2 m m1)
  rw [e]; exact q
theorem lk_min {K : PySem.W.Frag} : Lk1 (rMin K) minD := fun d d' h W x v H Q r hv q => by
  obtain ⟨m, h1, rfl⟩ := map_some h
  cases hv
  obtain ⟨l, h2, h3⟩ := Option.bind_eq_some_iff.mp h1
  obtain ⟨p, rfl, s⟩ := rep_lstI r h2
  obtain ⟨m1, m2⟩ := minI_spec h3
  refine ⟨p, l, rfl, s, List.length_pos_of_mem m1, fun k k1 k2 => ?_⟩
  have e : k = m := Int.le_antisymm (k2 m m1) (m2 k k1)
  rw [e]; exact q
def absD (d : D) : Option D := match d with
  | .int i => some (.int (if i < 0 then -i else i))
  | _ => none
theorem absD_sc : sca1 absD := fun d d' h => by
  unfold absD at h
  split at h
  · cases h; exact ⟨_, rfl⟩
  · cases h
theorem lk_abs : Lk1 (fun xs H Q => ∃ i, xs = [.int i] ∧ Q (.int (if i < 0 then -i else i)) H) absD := fun d d' h W x v H Q r hv q => by
  unfold absD at h
  split at h
  · cases h; cases r; cases hv
    exact ⟨_, rfl, q⟩
  · cases h
def intD (d : D) : Option D := match d with
  | .int i => some (.int i)
  | .bl b => some (.int (if b then 1 else 0))
  | _ => none
theorem intD_sc : sca1 intD := fun d d' h => by
  unfold intD at h
  split at h
  · cases h; exact ⟨_, rfl⟩
  · cases h; exact ⟨_, rfl⟩
  · cases h
theorem lk_int : Lk1 (fun xs H Q => (∃ i, xs = [.int i] ∧ Q (.int i) H) ∨ ∃ k, xs = [.bl k] ∧ Q (.int (if k then 1 else 0)) H) intD := fun d d' h W x v H Q r hv q => by
  unfold intD at h
  split at h
  · cases h; cases r; cases hv
    exact .inl ⟨_, rfl, q⟩
  · cases h; cases r; cases hv
    exact .inr ⟨_, rfl, q⟩
  · cases h

/-! ### repr -/
def rReprD (K : PySem.W.Frag) : List V → Hp → VK → Prop := fun xs H Q => ∃ x d, xs = [x] ∧ Dp K H x d ∧ d.showable = true ∧ d.hasDict = false ∧ d.depth ≤ 60 ∧ d.shown.length ≤ sizeLine ∧ Q (.str d.shown) H
theorem cr_repr (hg : X.A.guards = some []) (hu : X.A.units + 64 < cLine) : CallR X (.builtin "repr") (rReprD X.K) := by
  intro pins s σ H xs us Q I r h
  obtain ⟨x, d, rfl, hd, hs, hh, hdp, hz, q⟩ := h
  obtain ⟨u, rfl, ru⟩ := vals1 r
  have hd0 := hd
  cases hd with
  | non =>
    cases ru
    exact PySem.P.repr_of_none ⟨.str _, H, I.tok _, ⟨_, rfl⟩, q⟩
  | bl b =>
    cases ru
    exact PySem.P.repr_of_bool ⟨.str _, H, I.tok _, ⟨_, rfl⟩, q⟩
  | int i =>
    obtain ⟨t, rfl⟩ := ru
    exact PySem.P.repr_of_int (by simpa [PyData.showable] using hs) ⟨.str _, H, I.tok _, ⟨_, rfl⟩, q⟩
  | str z =>
    obtain ⟨t, rfl⟩ := ru
    exact PySem.P.repr_of_str ⟨.str _, H, I.tok _, ⟨_, rfl⟩, q⟩ hz
  | lst h1 h2 =>
    cases ru
    obtain ⟨as, rd⟩ := Dp.reads I _ _ _ hd0 rfl
    exact PySem.repr_of_reads' rd hs (fun z => by rw [hh] at z; cases z) hg (by omega) (fun _ _ e => e) (fun h' u tk hk => ⟨.str _, H, I.kept hk, ⟨_, rfl⟩, q⟩) hz
  | tup h1 h2 =>
    cases ru
    obtain ⟨as, rd⟩ := Dp.reads I _ _ _ hd0 rfl
    exact PySem.repr_of_reads' rd hs (fun z => by rw [hh] at z; cases z) hg (by omega) (fun _ _ e => e) (fun h' u tk hk => ⟨.str _, H, I.kept hk, ⟨_, rfl⟩, q⟩) hz
def reprD (d : D) : Option D := if pl d = true ∧ (toP d).showable = true ∧ (toP d).hasDict = false ∧ (toP d).depth ≤ 60 ∧ (toP d).shown.length ≤ 1000000 then some (.str (toP d).shown) else none
theorem reprD_sc : sca1 reprD := fun d d' h => by
  unfold reprD at h
  split at h
  · cases h; exact ⟨_, rfl⟩
  · cases h
theorem lk_repr {K : PySem.W.Frag} : Lk1 (rReprD K) reprD := fun d d' h W x v H Q r hv q => by
  unfold reprD at h
  split at h
  · rename_i c
    cases h; cases hv
    exact ⟨_, _, rfl, r.dp c.1, c.2.1, c.2.2.1, c.2.2.2.1, le_line c.2.2.2.2, q⟩
  · cases h

/-! ### several arguments, a scalar -/
def mScN (f : List D → Option D) (ms : M (List O)) : M O := mOpN (fun ds => (f ds).map O.val) ms
def max2 (ds : List D) : Option D := match ds with
  | [.int i, .int j] => some (.int (if j > i then j else i))
  | _ => none
def min2 (ds : List D) : Option D := match ds with
  | [.int i, .int j] => some (.int (if j < i then j else i))
  | _ => none
theorem op_max2 : OpN (fun xs H Q => ∃ i j, xs = [.int i, .int j] ∧ Q (.int (if j > i then j else i)) H) (fun ds => (max2 ds).map O.val) := fun ds o ho vs H its Q hl c k => by
  obtain ⟨d, h1, rfl⟩ := map_some ho
  unfold max2 at h1
  split at h1
  · rename_i i j
    cases h1
    match vs, hl with
    | [a, b], _ =>
      have c1 : CI H ((a, .val (.int i)) :: (b, .val (.int j)) :: its) := c
      have e1 := c1.int
      have e2 := c1.tail.int
      subst e1 e2
      exact ⟨i, j, rfl, k _ _ (c1.tail.tail.sc rfl)⟩
  · cases h1
theorem op_min2 : OpN (fun xs H Q => ∃ i j, xs = [.int i, .int j] ∧ Q (.int (if j < i then j else i)) H) (fun ds => (min2 ds).map O.val) := fun ds o ho vs H its Q hl c k => by
  obtain ⟨d, h1, rfl⟩ := map_some ho
  unfold min2 at h1
  split at h1
  · rename_i i j
    cases h1
    match vs, hl with
    | [a, b], _ =>
      have c1 : CI H ((a, .val (.int i)) :: (b, .val (.int j)) :: its) := c
      have e1 := c1.int
      have e2 := c1.tail.int
      subst e1 e2
      exact ⟨i, j, rfl, k _ _ (c1.tail.tail.sc rfl)⟩
  · cases h1
/-- tuple(x), list(x) -/
def tupN (ds : List D) : Option O := match ds with
  | [.lst l] => some (.val (.tup l))
  | [.tup l] => some (.val (.tup l))
  | _ => none
def lstN (ds : List D) : Option O := match ds with
  | [.lst l] => some (.lst (l.map O.val))
  | [.tup l] => some (.lst (l.map O.val))
  | _ => none
theorem op_tupN {K : PySem.W.Frag} : OpN (fun xs H Q => ∃ p ys, xs = [.ref p] ∧ ((SqL K H p ys ∧ ∀ l, H l = none → Q (.ref l) (upd H l (.tup ys))) ∨ (SqT K H p ys ∧ Q (.ref p) H))) tupN := fun ds o ho vs H its Q hl c k => by
  unfold tupN at ho
  split at ho
  · rename_i l
    cases ho
    match vs, hl with
    | [a], _ =>
      have c1 : CI H ((a, .val (.lst l)) :: its) := c
      obtain ⟨p, vs, rfl, hp, hl, c2⟩ := c1.openL
      refine ⟨p, vs, rfl, .inl ⟨sq_l hp, fun q hq => k _ _ ?_⟩⟩
      exact CG.newT (CG.mid (m := [_]) c2) hl hq (by simp)
  · rename_i l
    cases ho
    match vs, hl with
    | [a], _ =>
      have c1 : CI H ((a, .val (.tup l)) :: its) := c
      obtain ⟨p, vs, rfl, hp, hl, c2⟩ := c1.openT
      exact ⟨p, vs, rfl, .inr ⟨sq_t hp, k _ _ c1⟩⟩
  · cases ho
theorem op_lstN {K : PySem.W.Frag} : OpN (fun xs H Q => ∃ p ys, xs = [.ref p] ∧ (SqL K H p ys ∨ SqT K H p ys) ∧ ∀ l, H l = none → Q (.ref l) (upd H l (.lst ys))) lstN := fun ds o ho vs H its Q hl c k => by
  unfold lstN at ho
  split at ho
  · rename_i l
    cases ho
    match vs, hl with
    | [a], _ =>
      have c1 : CI H ((a, .val (.lst l)) :: its) := c
      obtain ⟨p, vs, rfl, hp, hl, c2⟩ := c1.openL
      refine ⟨p, vs, rfl, .inl (sq_l hp), fun q hq => k _ _ ?_⟩
      have c7 := CG.newL (CG.mid (m := [_]) c2) hq (by simp)
      rw [zip_fst (by simp [hl]), zip_snd (by simp [hl])] at c7
      exact c7
  · rename_i l
    cases ho
    match vs, hl with
    | [a], _ =>
      have c1 : CI H ((a, .val (.tup l)) :: its) := c
      obtain ⟨p, vs, rfl, hp, hl, c2⟩ := c1.openT
      refine ⟨p, vs, rfl, .inr (sq_t hp), fun q hq => k _ _ ?_⟩
      have c7 := CG.newL (CG.mid (m := [_]) c2) hq (by simp)
      rw [zip_fst (by simp [hl]), zip_snd (by simp [hl])] at c7
      exact c7
  · cases ho

/-! ### what a loop walks -/
def seqOf (d : D) : Option (List D) := match d with
  | .tup l => some l
  | .lst l => some l
  | _ => none
def mSeqI (m : M O) : M (List D) := bnd m fun o => lift (seqOf (frz o))
theorem walk_l {K : PySem.W.Frag} {p : Addr} {vs : List V} {l : List D} (hl : vs.length = l.length) : WalkD (Itl K p) [(.ref p, .val (.lst l))] l := by
  refine ⟨fun i H its hi c => ?_, fun i H its x H' d hd c y => ?_, fun H its c => ?_⟩
  · obtain ⟨q, ws, e, hq, hw, _⟩ := c.openL
    cases e
    exact ⟨ws, ws[i]'(by omega), sq_l hq, by simp [show i < ws.length by omega]⟩
  · obtain ⟨q, ws, e, hq, hw, c2⟩ := c.openL
    cases e
    obtain ⟨rfl, y⟩ := y
    have hx := y ws (sq_l hq)
    have hm : (x, O.val d) ∈ ws.zip (l.map O.val) := by
      apply List.mem_of_getElem? (i := i)
      rw [List.getElem?_zip_eq_some]
      exact ⟨hx, by simp [hd]⟩
    exact CG.mid (a := [_]) (c2.mem (List.mem_append_left _ hm))
  · obtain ⟨q, ws, e, hq, hw, _⟩ := c.openL
    cases e
    exact ⟨ws, sq_l hq, by omega⟩
theorem walk_t {K : PySem.W.Frag} {p : Addr} {vs : List V} {l : List D} (hl : vs.length = l.length) : WalkD (Itt K p) [(.ref p, .val (.tup l))] l := by
  refine ⟨fun i H its hi c => ?_, fun i H its x H' d hd c y => ?_, fun H its c => ?_⟩
  · obtain ⟨q, ws, e, hq, hw, _⟩ := c.openT
    cases e
    exact ⟨ws, ws[i]'(by omega), sq_t hq, by simp [show i < ws.length by omega]⟩
  · obtain ⟨q, ws, e, hq, hw, c2⟩ := c.openT
    cases e
    obtain ⟨rfl, y⟩ := y
    have hx := y ws (sq_t hq)
    have hm : (x, O.val d) ∈ ws.zip (l.map O.val) := by
      apply List.mem_of_getElem? (i := i)
      rw [List.getElem?_zip_eq_some]
      exact ⟨hx, by simp [hd]⟩
    exact CG.mid (a := [_]) (c2.mem (List.mem_append_left _ hm))
  · obtain ⟨q, ws, e, hq, hw, _⟩ := c.openT
    cases e
    exact ⟨ws, sq_t hq, by omega⟩
theorem di_seq {tg e : Expr} {m : M O} (h : DE X B e m) : DI X B tg e (mSeqI m) := by
  have h1 : PI X tg e (iList X.K (tE B m)) := pi_list h
  have h2 : PI X tg e (iTup X.K (tE B m)) := pi_tup h
  refine ⟨fun pins s σ H R I ⟨pend, ρ, c, g⟩ => ?_⟩
  cases r : m ρ with
  | fail => exact False.elim (by have g0 := go_bnd.mp g; rw [r] at g0; exact g0)
  | ex x ρ' =>
    refine h1.run pins s σ H R I ⟨pend, ρ, c, ?_⟩
    have g0 := go_bnd.mp g
    rw [r] at g0 ⊢
    exact g0
  | ok o ρ1 =>
    have g0 := go_bnd.mp g
    rw [r] at g0
    obtain ⟨l, hl, g1⟩ := go_lift (show (lift (seqOf (frz o)) ρ1).go _ _ from g0)
    unfold seqOf at hl
    generalize ed : frz o = d at hl
    cases d with
    | tup l' =>
      have el : l' = l := Option.some.inj hl
      subst el
      refine h2.run pins s σ H R I ⟨pend, ρ, c, ?_⟩
      rw [r]
      intro v H' c1
      have c2 := c1.frz
      rw [ed] at c2
      obtain ⟨p, vs, rfl, hp, hv, c3⟩ := c2.out1.openT
      exact ⟨p, rfl, ⟨vs, sq_t hp⟩, g1 (Itt X.K p) H' [(.ref p, .val (.tup l'))] (walk_t hv) c2⟩
    | lst l' =>
      have el : l' = l := Option.some.inj hl
      subst el
      refine h1.run pins s σ H R I ⟨pend, ρ, c, ?_⟩
      rw [r]
      intro v H' c1
      have c2 := c1.frz
      rw [ed] at c2
      obtain ⟨p, vs, rfl, hp, hv, c3⟩ := c2.out1.openL
      exact ⟨p, rfl, ⟨vs, sq_l hp⟩, g1 (Itl X.K p) H' [(.ref p, .val (.lst l'))] (walk_l hv) c2⟩
    | _ => cases hl
def rngL (lo : Int) (n : Nat) : List D := (List.range n).map fun i => .int (lo + (i : Nat))
def rng (ds : List D) : Option (List D) := match ds with
  | [.int j] => if -1000000000 ≤ j ∧ j ≤ 1000000000 then some (rngL 0 j.toNat) else none
  | [.int i, .int j] => if -1000000000 ≤ i ∧ i ≤ 1000000000 ∧ -1000000000 ≤ j ∧ j ≤ 1000000000 then some (rngL i (j - i).toNat) else none
  | _ => none
theorem walk_r (lo : Int) (n : Nat) : WalkD (Itr lo n) [] (rngL lo n) := by
  refine ⟨fun i H its hi c => ?_, fun i H its x H' d hd c y => ?_, fun H its c => ?_⟩
  · show i < n
    simpa [rngL] using hi
  · obtain ⟨rfl, rfl⟩ := y
    have : d = .int (lo + (i : Nat)) := by
      rw [rngL, List.getElem?_map] at hd
      cases e : (List.range n)[i]? with
      | none => rw [e] at hd; cases hd
      | some j =>
        rw [e] at hd
        cases hd
        have := List.getElem?_eq_some_iff.mp e
        obtain ⟨h1, h2⟩ := this
        simp at h2
        rw [h2]
    subst this
    exact c.sc rfl
  · show n ≤ (rngL lo n).length
    simp [rngL]
def mRng (ms : M (List O)) : M (List D) := bnd ms fun os => lift (rng (frzs os))
theorem di_rng1 {tg it e : Expr} {ms : M (List O)} (h : DA X B [e] ms) (hp : ∀ {t : TA}, PA X [e] t → PI X tg it (iRng1 t)) (hl : ∀ ρ os ρ', ms ρ = .ok os ρ' → os.length = 1) : DI X B tg it (mRng ms) := by
  refine (hp h).imp fun σ H R ⟨pend, ρ, c, g⟩ => ?_
  refine ⟨pend, ρ, c, Out.go_mono (go_bnd.mp g) (fun os ρ1 eo g1 vs H1 hv c1 => ?_) fun _ _ _ z => z⟩
  have hlen := hl ρ os ρ1 eo
  obtain ⟨l, h1, g2⟩ := go_lift g1
  match os, hlen, vs, hv with
  | [o], _, [v], _ =>
    unfold rng at h1
    generalize ed : frzs [o] = ds at h1
    have e1 : ds = [frz o] := by rw [← ed]; rfl
    subst e1
    split at h1
    · rename_i j e2
      split at h1
      · rename_i hz
        cases h1
        have e3 : frz o = .int j := (List.cons.inj e2).1
        have c2 : Conf σ H1 ((v, .val (frz o)) :: pend) ρ1 := Conf.frz c1
        rw [e3] at c2
        refine ⟨j, by rw [c2.out1.int], by omega, by omega, g2 (Itr 0 j.toNat) H1 [] (walk_r 0 j.toNat) c2.tail⟩
      · cases h1
    · rename_i i j e2
      exact absurd (congrArg List.length e2) (by simp)
    · cases h1
theorem di_rng2 {tg it e e' : Expr} {ms : M (List O)} (h : DA X B [e, e'] ms) (hp : ∀ {t : TA}, PA X [e, e'] t → PI X tg it (iRng2 t)) (hl : ∀ ρ os ρ', ms ρ = .ok os ρ' → os.length = 2) : DI X B tg it (mRng ms) := by
  refine (hp h).imp fun σ H R ⟨pend, ρ, c, g⟩ => ?_
  refine ⟨pend, ρ, c, Out.go_mono (go_bnd.mp g) (fun os ρ1 eo g1 vs H1 hv c1 => ?_) fun _ _ _ z => z⟩
  have hlen := hl ρ os ρ1 eo
  obtain ⟨l, h1, g2⟩ := go_lift g1
  match os, hlen, vs, hv with
  | [o, o'], _, [v, v'], _ =>
    unfold rng at h1
    generalize ed : frzs [o, o'] = ds at h1
    have e1 : ds = [frz o, frz o'] := by rw [← ed]; rfl
    subst e1
    split at h1
    · rename_i j e2
      exact absurd (congrArg List.length e2) (by simp)
    · rename_i i j e2
      split at h1
      · rename_i hz
        cases h1
        have e3 : frz o = .int i := (List.cons.inj e2).1
        have e4 : frz o' = .int j := (List.cons.inj (List.cons.inj e2).2).1
        have c2 : Conf σ H1 ([v, v'].zip ((frzs [o, o']).map O.val) ++ pend) ρ1 := Conf.frzAll c1 rfl
        have c3 : Conf σ H1 ((v, .val (frz o)) :: (v', .val (frz o')) :: pend) ρ1 := c2
        rw [e3, e4] at c3
        refine ⟨i, j, by rw [c3.out1.int, c3.tail.out1.int], by omega, g2 (Itr i (j - i).toNat) H1 [] (walk_r i _) c3.tail.tail⟩
      · cases h1
    · cases h1

/-! ### enumerate, zip, stars -/
open Dv
def enumL : Nat → List D → List D
  | _, [] => []
  | k, d :: l => .tup [.int (k : Nat), d] :: enumL (k + 1) l
theorem enumL_len : ∀ (k : Nat) (l : List D), (enumL k l).length = l.length
  | _, [] => rfl
  | k, d :: l => by rw [enumL, List.length_cons, List.length_cons, enumL_len]
theorem enumL_get : ∀ (k : Nat) (l : List D) (i : Nat), (enumL k l)[i]? = (l[i]?).map fun d => .tup [.int ((k + i : Nat) : Int), d]
  | _, [], i => by simp [enumL]
  | k, d :: l, 0 => by simp [enumL]
  | k, d :: l, i + 1 => by
    rw [enumL, List.getElem?_cons_succ, List.getElem?_cons_succ, enumL_get]
    rw [show k + 1 + i = k + (i + 1) by omega]
def mEnum (m : M O) : M (List D) := bnd m fun o => bnd (lift (seqOf (frz o))) fun l => ret (enumL 0 l)
def zipL : List D → List D → List D
  | a :: l, b :: r => .tup [a, b] :: zipL l r
  | _, _ => []
theorem zipL_len : ∀ (l r : List D), (zipL l r).length = min l.length r.length
  | [], r => by simp [zipL]
  | a :: l, [] => by simp [zipL]
  | a :: l, b :: r => by simp only [zipL, List.length_cons, zipL_len l r]; omega
theorem zipL_get : ∀ (l r : List D) (i : Nat) (d : D), (zipL l r)[i]? = some d → ∃ a b, l[i]? = some a ∧ r[i]? = some b ∧ d = .tup [a, b]
  | [], r, i, d, h => by simp [zipL] at h
  | a :: l, [], i, d, h => by simp [zipL] at h
  | a :: l, b :: r, 0, d, h => by simp [zipL] at h; exact ⟨a, b, rfl, rfl, h.symm⟩
  | a :: l, b :: r, i + 1, d, h => by
    rw [zipL, List.getElem?_cons_succ] at h
    simpa using zipL_get l r i d h
def zipD (ds : List D) : Option (List D) := match ds with
  | [a, b] => (match seqOf a, seqOf b with
    | some l, some r => some (zipL l r)
    | _, _ => none)
  | _ => none
def mZip (ms : M (List O)) : M (List D) := bnd ms fun os => lift (zipD (frzs os))
def sqD (t : Bool) (l : List D) : D := if t = true then .tup l else .lst l
theorem seqOf_sq {d : D} {l : List D} (h : seqOf d = some l) : ∃ t, d = sqD t l := by
  unfold seqOf at h
  split at h
  · cases h; exact ⟨true, rfl⟩
  · cases h; exact ⟨false, rfl⟩
  · cases h
theorem CG.openX {R : List Addr} {H : Hp} {v : V} {t : Bool} {ds : List D} {b : List (V × O)} {K : PySem.W.Frag} (c : CG R H ((v, .val (sqD t ds)) :: b)) :
    ∃ p vs, v = .ref p ∧ SqX t K H p vs ∧ vs.length = ds.length ∧ CG R H (vs.zip (ds.map O.val) ++ (v, .val (sqD t ds)) :: b) := by
  cases t with
  | true =>
    obtain ⟨p, vs, e, h1, h2, h3⟩ := CG.openT c
    exact ⟨p, vs, e, sq_t h1, h2, h3⟩
  | false =>
    obtain ⟨p, vs, e, h1, h2, h3⟩ := CG.openL c
    exact ⟨p, vs, e, sq_l h1, h2, h3⟩
theorem zip_mem {vs : List V} {l : List D} {i : Nat} {x : V} {d : D} (h1 : vs[i]? = some x) (h2 : l[i]? = some d) : (x, O.val d) ∈ vs.zip (l.map O.val) := by
  apply List.mem_of_getElem? (i := i)
  rw [List.getElem?_zip_eq_some]
  exact ⟨h1, by simp [h2]⟩
theorem CG.pick {R : List Addr} {H : Hp} {vs : List V} {l : List D} {i : Nat} {x : V} {d : D} {b : List (V × O)} (c : CG R H (vs.zip (l.map O.val) ++ b)) (h1 : vs[i]? = some x) (h2 : l[i]? = some d) : CG R H ((x, .val d) :: b) :=
  CG.mid (a := [_]) (c.mem (List.mem_append_left _ (zip_mem h1 h2)))
theorem walk_e {K : PySem.W.Frag} {p : Addr} {t : Bool} {l : List D} : WalkD (IteX t K p) [(.ref p, .val (sqD t l))] (enumL 0 l) := by
  refine ⟨fun i H its hi c => ?_, fun i H its x H' d hd c y => ?_, fun H its c => ?_⟩
  · obtain ⟨q, ws, e, hq, hw, _⟩ := CG.openX (K := K) c
    cases e
    rw [enumL_len] at hi
    exact ⟨ws, ws[i]'(by omega), hq, by simp [show i < ws.length by omega]⟩
  · obtain ⟨q, ws, e, hq, hw, c2⟩ := CG.openX (K := K) c
    cases e
    obtain ⟨T, x', rfl, hT, rfl, y⟩ := y
    have hx := y ws hq
    rw [enumL_get] at hd
    cases h0 : l[i]? with
    | none => rw [h0] at hd; cases hd
    | some d0 =>
      rw [h0] at hd
      cases hd
      have c3 := c2.pick hx h0
      have c4 : CI H ([V.int (i : Nat), x'].zip ([D.int (i : Nat), d0].map O.val) ++ ((.ref p, .val (sqD t l)) :: its)) := c3.sc rfl
      have c5 := c4.newT rfl hT (by simp)
      simpa using c5
  · obtain ⟨q, ws, e, hq, hw, _⟩ := CG.openX (K := K) c
    cases e
    exact ⟨ws, hq, by rw [enumL_len]; exact hw⟩
theorem walk_z {K : PySem.W.Frag} {p q : Addr} {t t2 : Bool} {l r : List D} : WalkD (ItzX t t2 K p q) [(.ref p, .val (sqD t l)), (.ref q, .val (sqD t2 r))] (zipL l r) := by
  have op : ∀ (H : Hp) (its : List (V × O)), CI H ([(V.ref p, O.val (sqD t l)), (.ref q, .val (sqD t2 r))] ++ its) → ∃ ws us, SqX t K H p ws ∧ SqX t2 K H q us ∧ ws.length = l.length ∧ us.length = r.length ∧
      CI H (us.zip (r.map O.val) ++ (ws.zip (l.map O.val) ++ ([(V.ref p, O.val (sqD t l)), (.ref q, .val (sqD t2 r))] ++ its))) := fun H its c => by
    obtain ⟨p', ws, e, hq, hw, c2⟩ := CG.openX (K := K) (show CI H ((V.ref p, O.val (sqD t l)) :: ((.ref q, .val (sqD t2 r)) :: its)) from c)
    cases e
    have c3 : CI H ((V.ref q, O.val (sqD t2 r)) :: (ws.zip (l.map O.val) ++ ((V.ref p, O.val (sqD t l)) :: its))) := c2.perm (by
      refine List.Perm.trans ?_ (List.perm_middle (a := (V.ref q, O.val (sqD t2 r))))
      exact ((List.Perm.swap _ _ _).append_left _))
    obtain ⟨q', us, e, hq2, hu, c4⟩ := CG.openX (K := K) c3
    cases e
    refine ⟨ws, us, hq, hq2, hw, hu, c4.perm (List.Perm.append_left _ ?_)⟩
    refine (List.perm_middle (a := (V.ref q, O.val (sqD t2 r)))).symm.trans ?_
    exact (List.Perm.swap _ _ _).append_left _
  refine ⟨fun i H its hi c => ?_, fun i H its x H' d hd c y => ?_, fun H its c => ?_⟩
  · obtain ⟨ws, us, h1, h2, l1, l2, _⟩ := op H its c
    rw [zipL_len] at hi
    exact ⟨ws, us, ws[i]'(by omega), us[i]'(by omega), h1, h2, by simp [show i < ws.length by omega], by simp [show i < us.length by omega]⟩
  · obtain ⟨ws, us, h1, h2, l1, l2, c2⟩ := op H its c
    obtain ⟨T, x', y', rfl, hT, rfl, y1, y2⟩ := y
    obtain ⟨a, b, ha, hb, rfl⟩ := zipL_get _ _ _ _ hd
    have c3 := c2.pick (y2 us h2) hb
    have c4 : CI H (ws.zip (l.map O.val) ++ ((y', .val b) :: ([(V.ref p, O.val (sqD t l)), (.ref q, .val (sqD t2 r))] ++ its))) := c3.perm List.perm_middle.symm
    have c5 := c4.pick (y1 ws h1) ha
    have c6 : CI H ([x', y'].zip ([a, b].map O.val) ++ ([(V.ref p, O.val (sqD t l)), (.ref q, .val (sqD t2 r))] ++ its)) := c5
    exact c6.newT rfl hT (by simp)
  · obtain ⟨ws, us, h1, h2, l1, l2, _⟩ := op H its c
    refine ⟨ws, us, h1, h2, ?_, ?_, ?_⟩ <;> (rw [zipL_len]; omega)
theorem di_enum {e : Expr} {m : M O} {p pos tpos : Pos} {elts : List Expr} {kk : Nat} (hg : Gl X "enumerate") (hm : X.mg "enumerate" = none) (h : DE X B e m) (hs : starEach [e] X.env = (false, eval e X.env) :: starEach [] X.env) :
    DI X B (.Tuple elts kk tpos) (.Call (.Name "enumerate" p) [e] [] pos) (mEnum m) := by
  have ha : DA X B [e] (mCons m (ret [])) := da_cons h da_nil hs
  refine (pi_enumX hg hm ha hs).imp fun σ H R ⟨pend, ρ, c, g⟩ => ?_
  refine ⟨pend, ρ, c, ?_⟩
  have g0 := go_bnd.mp g
  show (bnd m (fun o => bnd (ret []) fun os => ret (o :: os)) ρ).go _ _
  refine go_bnd.mpr (Out.go_mono g0 (fun o ρ1 _ g1 => ?_) fun _ _ _ z => z)
  obtain ⟨l, hl, g2⟩ := go_lift (go_bnd.mp g1)
  obtain ⟨t, et⟩ := seqOf_sq hl
  intro vs H' hv c1
  match vs, hv with
  | [v], _ =>
    have c2 : Conf σ H' ((v, .val (frz o)) :: pend) ρ1 := Conf.frz c1
    rw [et] at c2
    obtain ⟨q, ws, rfl, hq, hw, c3⟩ := CG.openX (K := X.K) c2.out1
    exact ⟨t, q, ws, rfl, hq, g2 (IteX t X.K q) H' [(.ref q, .val (sqD t l))] walk_e c2⟩
theorem di_zip {e e2 : Expr} {ms : M (List O)} {p pos tpos : Pos} {elts : List Expr} {kk : Nat} (hg : Gl X "zip") (hm : X.mg "zip" = none) (ha : DA X B [e, e2] ms) (hlen : ∀ ρ os ρ', ms ρ = .ok os ρ' → os.length = 2)
    (hs : starEach [e, e2] X.env = (false, eval e X.env) :: starEach [e2] X.env) (hpl : (backTo pos (starEach [e2] X.env)).any (·.1) = false) :
    DI X B (.Tuple elts kk tpos) (.Call (.Name "zip" p) [e, e2] [] pos) (mZip ms) := by
  refine (pi_zipX hg hm ha hs hpl).imp fun σ H R ⟨pend, ρ, c, g⟩ => ?_
  refine ⟨pend, ρ, c, Out.go_mono (go_bnd.mp g) (fun os ρ1 eo g1 => ?_) fun _ _ _ z => z⟩
  obtain ⟨ds, hd, g2⟩ := go_lift g1
  have hl := hlen _ _ _ eo
  match os, hl with
  | [o1, o2], _ =>
    have hd : zipD [frz o1, frz o2] = some ds := hd
    unfold zipD at hd
    dsimp only at hd
    cases s1 : seqOf (frz o1) with
    | none => rw [s1] at hd; cases hd
    | some l =>
      cases s2 : seqOf (frz o2) with
      | none => rw [s1, s2] at hd; cases hd
      | some r =>
        rw [s1, s2] at hd
        cases hd
        obtain ⟨t, et⟩ := seqOf_sq s1
        obtain ⟨t2, et2⟩ := seqOf_sq s2
        intro vs H' hv c1
        match vs, hv with
        | [v, w], _ =>
          have c2 : Conf σ H' ((v, .val (frz o1)) :: (w, o2) :: pend) ρ1 := Conf.frz c1
          have c3 : Conf σ H' ((w, .val (frz o2)) :: (v, .val (frz o1)) :: pend) ρ1 := Conf.frz (c2.perm (.swap ..))
          rw [et, et2] at c3
          obtain ⟨q2, us, rfl, hq2, _, _⟩ := CG.openX (K := X.K) c3.out1
          have c4 : Conf σ H' ((v, .val (sqD t l)) :: (.ref q2, .val (sqD t2 r)) :: pend) ρ1 := c3.perm (.swap ..)
          obtain ⟨q, ws, rfl, hq, _, _⟩ := CG.openX (K := X.K) c4.out1
          exact ⟨t, t2, q, q2, ws, us, rfl, hq, hq2, g2 (ItzX t t2 X.K q q2) H' [(.ref q, .val (sqD t l)), (.ref q2, .val (sqD t2 r))] walk_z c4⟩
/-- *e in a display -/
def mStar (m : M O) (ms : M (List O)) : M (List O) := bnd m fun o => bnd (lift (seqOf (frz o))) fun l => bnd ms fun os => ret (l.map O.val ++ os)
theorem da_star {e : Expr} {p : Pos} {es : List Expr} {m : M O} {ms : M (List O)} (h1 : DE X B e m) (h2 : DA X B es ms) : DA X B (.Starred e p :: es) (mStar m ms) := by
  refine (StX.pa_star (p := p) h1 h2 rfl).imp fun σ H Q ⟨pend, ρ, c, g⟩ => ?_
  refine tE_bnd c g fun o ρ1 v H1 c1 g1 => ?_
  obtain ⟨l, hl, g2⟩ := go_lift (go_bnd.mp g1)
  obtain ⟨t, et⟩ := seqOf_sq hl
  have c2 := c1.frz
  rw [et] at c2
  obtain ⟨q, ws, rfl, hq, hw, c3⟩ := CG.openX (K := X.K) c2.out1
  refine ⟨q, ws, rfl, ?_, ?_⟩
  · cases t with
    | true => exact .inl hq
    | false => exact .inr hq
  have c4 : Conf σ H1 (ws.zip (l.map O.val) ++ pend) ρ1 := .back c2.sh (CG.mid (m := [_]) c3)
  refine tA_bnd (pend := ws.zip (l.map O.val) ++ pend) c4 (go_pend _ g2) fun os ρ2 vs H2 hl2 c5 g3 => ?_
  refine (g3 : ∀ us H', us.length = (l.map O.val ++ os).length → Conf σ H' (us.zip (l.map O.val ++ os) ++ pend) ρ2 → Q us H') (ws ++ vs) H2 (by simp [hw, hl2]) ?_
  rw [List.zip_append (by simp [hw]), List.append_assoc]
  exact c5.perm (perm_in _ _ _)
end
end Dl

namespace Dl
variable [Kc]
open PySem L2

/-- what is known of a def's text as it runs -/
structure Gm where
  N : List Str
  sc : Scope
  F : List (Str × FM × Nat)
  cst : List (Str × D)
  blt : List Str
  ok : Nat → Bool
  top : Bool
def ixIn (N : List Str) (x : Str) : Option Nat := match N with
  | [] => none
  | y :: N => if y = x then some 0 else (ixIn N x).map (· + 1)
theorem ixIn_get : ∀ {N : List Str} {x : Str} {i : Nat}, ixIn N x = some i → N[i]? = some x
  | [], _, _, h => by cases h
  | y :: N, x, i, h => by
    rw [ixIn] at h
    split at h
    · rename_i e
      cases h
      rw [e]; rfl
    · obtain ⟨j, h1, rfl⟩ := map_some h
      simpa using ixIn_get h1
def isVis (sc : Scope) (x : Str) : Bool := match sc.names.lookup x with
  | some .local => true
  | some .cell => true
  | some .free => true
  | _ => false
def isLoc (sc : Scope) (x : Str) : Bool := match sc.names.lookup x with
  | some .local => true
  | some .cell => true
  | _ => false
def isGl (sc : Scope) (x : Str) : Bool := match sc.names.lookup x with
  | some .globalImplicit => true
  | _ => false
def isLcl (sc : Scope) (x : Str) : Bool := match sc.names.lookup x with
  | some .local => true
  | _ => false
theorem isVis_ok {sc : Scope} {x : Str} (h : isVis sc x = true) : Vis sc x := by
  unfold isVis at h
  split at h
  · rename_i e; exact .inl e
  · rename_i e; exact .inr (.inl e)
  · rename_i e; exact .inr (.inr e)
  · cases h
theorem isLoc_ok {sc : Scope} {x : Str} (h : isLoc sc x = true) : Loc sc x := by
  unfold isLoc at h
  split at h
  · rename_i e; exact .inl e
  · rename_i e; exact .inr e
  · cases h
theorem isGl_ok {sc : Scope} {x : Str} (h : isGl sc x = true) : sc.names.lookup x = some .globalImplicit := by
  unfold isGl at h
  split at h
  · assumption
  · cases h
theorem isLcl_ok {sc : Scope} {x : Str} (h : isLcl sc x = true) : sc.names.lookup x = some .local := by
  unfold isLcl at h
  split at h
  · assumption
  · cases h
def bad (x : Str) : Bool := (x == ("__debug__" : Str)) || (x == ("__classdict__" : Str)) || (x == ("__name__" : Str))
theorem bad_no {x : Str} (h : bad x = false) : (x == ("__debug__" : Str)) = false ∧ (x == ("__classdict__" : Str)) = false ∧ x ≠ "__name__" := by
  unfold bad at h
  simp only [Bool.or_eq_false_iff] at h
  exact ⟨h.1.1, h.1.2, fun e => by rw [e] at h; simp at h⟩
/-- a slot of this name -/
def slot (Γ : Gm) (x : Str) : Option Nat := match ixIn Γ.N x with
  | some i => if isVis Γ.sc x = true ∧ bad x = false then some i else none
  | none => none
def fnOf (Γ : Gm) (x : Str) : Option (FM × Nat) := match Γ.F.lookup x with
  | some q => if isGl Γ.sc x = true ∧ bad x = false then some q else none
  | none => none
def isB (Γ : Gm) (x : Str) : Bool := decide (x ∈ Γ.blt) && isGl Γ.sc x && !bad x

structure FHas (X : Cx) (B : Bx) (x : Str) (fm : FM) (n : Nat) : Prop where
  fl : FLen fm
  ex : ∃ (k : Nat) (f : Addr) (fd : FuncData) (ps : List Str) (xh : XH), ps.length = n ∧ FnG X.prog X.w X.K X.mg X.base (L2.CX X.prog X.w) k f fd ps (spM xh ps.length fm) ∧ Room k X.A ∧ X.mg x = some (.ref f) ∧
    PySem.W.keepIn X.K (.ref f) = true ∧ Binds X.K fd ps [] ∧ ∀ σ, PassesAt (L2.CX X.prog X.w) X σ (EB xh B σ)
structure CtxOk (X : Cx) (Γ : Gm) (B : Bx) : Prop where
  N : X.N = Γ.N
  nd : Γ.N.Nodup
  scp : X.env.scope = Γ.sc
  kind : Γ.sc.kind = .function
  calm : X.calm = true
  K : X.K = Kc.k
  gd : X.A.guards = some []
  un : X.A.units + 64 < cLine
  fn : Γ.top = true → ∀ x, X.fn x = true
  po : PassesOwn (model X.prog X.w) X.A X.env X.xe
  F : ∀ x q, Γ.F.lookup x = some q → FHas X B x q.1 q.2
  cst : ∀ x d, Γ.cst.lookup x = some d → ∃ u v, X.mg x = some u ∧ sc d = some v ∧ RelV v u
  blt : ∀ x, x ∈ Γ.blt → X.mg x = none
section
variable {X : Cx} {Γ : Gm} {B : Bx}
theorem slot_pe (C : CtxOk X Γ B) {x : Str} {i : Nat} {pos : Pos} (h : slot Γ x = some i) : PE X (.Name x pos) (tVar i) := by
  unfold slot at h
  split at h
  · rename_i j e
    split at h
    · rename_i c
      cases h
      obtain ⟨b1, b2, b3⟩ := bad_no c.2
      refine pe_var (by rw [C.N]; exact ixIn_get e) ?_ b1 b2
      rw [C.scp]
      exact isVis_ok c.1
    · cases h
  · cases h
theorem gl_of (C : CtxOk X Γ B) {x : Str} (h : isGl Γ.sc x = true) : Gl X x := by
  show X.env.scope.names.lookup x = _
  rw [C.scp]
  exact isGl_ok h

/-! ### the operators -/
def sumF : D → D → Option O := fun d e => match (iiI (fun _ _ => true) (fun i j => i + j) d e).map O.val with
  | some o => some o
  | none => match (ssS d e).map O.val with
    | some o => some o
    | none => match llL d e with
      | some o => some o
      | none => ttT d e
def lim4 : Nat := 2 ^ 4000
def okMul (i j : Int) : Bool := decide (i.natAbs < lim4) && decide (j.natAbs < lim4)
def okDiv (_ j : Int) : Bool := decide (0 < j) && decide (j.natAbs < lim4)
def okPow (i j : Int) : Bool := decide (0 ≤ j) && decide (j ≤ 1000) && decide (i.natAbs < 2 ^ 64)
def mulF : D → D → Option O := fun d e => match (iiI okMul (fun i j => i * j) d e).map O.val with
  | some o => some o
  | none => lnL d e
def binF (op : Operator) : D → D → Option O := match op with
  | .Add => sumF
  | .Sub => fun d e => (iiI (fun _ _ => true) (fun i j => i - j) d e).map O.val
  | .Mult => mulF
  | .FloorDiv => fun d e => (iiI okDiv (fun i j => i / j) d e).map O.val
  | .Mod => fun d e => (iiI (fun _ j => decide (0 < j)) (fun i j => i % j) d e).map O.val
  | .Pow => fun d e => (iiI okPow (fun i j => i ^ j.toNat) d e).map O.val
  | _ => fun _ _ => none
theorem de_bin {a b : Expr} {op : Operator} {pos : Pos} {ma mb : M O} (ha : DE X B a ma) (hb : DE X B b mb) : DE X B (.BinOp a op b pos) (mOp2 (binF op) ma mb) := by
  have nothing : DE X B (.BinOp a op b pos) (mOp2 (fun _ _ => none) ma mb) := by
    refine de_op2 (r := fun _ _ _ _ => False) (fun d e o ho => by cases ho) ha hb fun {ta tb} h1 h2 => pe_op (fun pins s σ H x y v u Q I r1 r2 h => h.elim) h1 h2
  cases op with
  | Add =>
    refine de_op2 (r := fun x y H Q => rI0 (fun i j => .int (i + j)) x y H Q ∨ (fun x y H Q => (∃ i j, x = .str i ∧ y = .str j ∧ i.length + j.length ≤ sizeLine ∧ Q (.str (i ++ j)) H) ∨ (rCat x y H Q ∨ rCatA X.K x y H Q)) x y H Q) ?_ ha hb fun {ta tb} h1 h2 => pe_op (op_add.or (op_add_str.or (op_cat.or op_catA))) h1 h2
    exact Op2.or (Lk2.op lk_rI0 (iiI_sc _ _)) (Op2.or (Lk2.op lk_ss ssS_sc) (Op2.or op_ll op_tt))
  | Sub => exact de_op2 (Lk2.op lk_rI0 (iiI_sc _ _)) ha hb fun {ta tb} h1 h2 => pe_op op_sub h1 h2
  | Mult =>
    refine de_op2 (r := fun x y H Q => rI CMulW (fun i j => .int (i * j)) x y H Q ∨ rRep x y H Q) ?_ ha hb fun {ta tb} h1 h2 => pe_op (op_mulW.or op_rep) h1 h2
    refine Op2.or (Lk2.op (lk_rI fun i j h => ?_) (iiI_sc _ _)) op_ln
    unfold okMul at h
    simp only [Bool.and_eq_true, decide_eq_true_eq] at h
    exact wide_mul (a := 4000) (b := 4000) h.1 h.2 (by decide) (by decide) (by decide)
  | FloorDiv =>
    refine de_op2 (Lk2.op (lk_rI (C := CDivW) fun i j h => ?_) (iiI_sc _ _)) ha hb fun {ta tb} h1 h2 => pe_op op_fdivW h1 h2
    unfold okDiv at h
    simp only [Bool.and_eq_true, decide_eq_true_eq] at h
    exact wide_div (b := 4000) h.1 h.2 (by decide) (by decide)
  | Mod =>
    refine de_op2 (Lk2.op (lk_rI (C := fun _ j => 0 < j) fun i j h => ?_) (iiI_sc _ _)) ha hb fun {ta tb} h1 h2 => pe_op op_mod h1 h2
    exact of_decide_eq_true h
  | Pow =>
    refine de_op2 (Lk2.op (lk_rI (C := CPow) fun i j h => ?_) (iiI_sc _ _)) ha hb fun {ta tb} h1 h2 => pe_op op_pow h1 h2
    unfold okPow at h
    simp only [Bool.and_eq_true, decide_eq_true_eq] at h
    exact ⟨h.1.1, by omega, h.2⟩
  | _ => exact nothing
def negF (d : D) : Option O := match d with
  | .int i => some (.val (.int (-i)))
  | _ => none
theorem de_neg {a : Expr} {pos : Pos} {ma : M O} (ha : DE X B a ma) : DE X B (.UnaryOp .USub a pos) (mOp1 negF ma) := by
  refine de_op1 (r := rU fun i => .int (-i)) (fun d o ho x H its Q c k => ?_) ha fun {ta} h1 => pe_un un_neg h1
  unfold negF at ho
  split at ho
  · cases ho
    exact ⟨_, c.int, k _ _ (c.tail.sc rfl)⟩
  · cases ho
def notF (d : D) : Option O := match d with
  | .bl b => some (.val (.bl (!b)))
  | _ => none
theorem de_notV {a : Expr} {pos : Pos} {ma : M O} (ha : DE X B a ma) : DE X B (.UnaryOp .Not a pos) (mOp1 notF ma) := by
  refine de_op1 (r := fun x H Q => ∃ c, x = .bl c ∧ Q (.bl (!c)) H) (fun d o ho x H its Q c k => ?_) ha fun {ta} h1 => pe_not h1
  unfold notF at ho
  split at ho
  · cases ho
    exact ⟨_, c.bl, k _ _ (c.tail.sc rfl)⟩
  · cases ho
def cmpF (op : CmpOp) : D → D → Option D := match op with
  | .Lt => iiB fun i j => decide (i < j)
  | .LtE => iiB fun i j => decide (i ≤ j)
  | .Gt => iiB fun i j => decide (j < i)
  | .GtE => iiB fun i j => decide (j ≤ i)
  | .Eq => eqD
  | .NotEq => neD
  | .Is => isN
  | .IsNot => isNN
  | _ => fun _ _ => none
def cmpR (K : PySem.W.Frag) (op : CmpOp) : R2 := match op with
  | .Lt => rI0 fun i j => .bl (decide (i < j))
  | .LtE => rI0 fun i j => .bl (decide (i ≤ j))
  | .Gt => rI0 fun i j => .bl (decide (j < i))
  | .GtE => rI0 fun i j => .bl (decide (j ≤ i))
  | .Eq => rEqD K
  | .NotEq => rNeD K
  | .Is => fun x y H Q => y = .non ∧ Q (.bl (decide (x = .non))) H
  | .IsNot => fun x y H Q => y = .non ∧ Q (.bl (!decide (x = .non))) H
  | _ => fun _ _ _ _ => False
theorem cmp_ok (C : CtxOk X Γ B) (op : CmpOp) : OpR X (compareOp op) (cmpR X.K op) ∧ Lk2 (cmpR X.K op) (cmpF op) ∧ scal1 (cmpF op) := by
  cases op with
  | Lt => exact ⟨op_lt, lk_rB, iiB_sc _⟩
  | LtE => exact ⟨op_le, lk_rB, iiB_sc _⟩
  | Gt => exact ⟨op_gt, lk_rB, iiB_sc _⟩
  | GtE => exact ⟨op_ge, lk_rB, iiB_sc _⟩
  | Eq => exact ⟨op_eqD C.un, lk_eq, eqD_sc⟩
  | NotEq => exact ⟨op_neD C.un, lk_ne, neD_sc⟩
  | Is => exact ⟨op_isN, lk_isN, isN_sc⟩
  | IsNot => exact ⟨op_notN, lk_isNN, isNN_sc⟩
  | In => exact ⟨fun pins s σ H x y v u Q I r1 r2 h => h.elim, (by intro d e d' h; cases h), (by intro d e d' h; cases h)⟩
  | NotIn => exact ⟨fun pins s σ H x y v u Q I r1 r2 h => h.elim, (by intro d e d' h; cases h), (by intro d e d' h; cases h)⟩
def isIn (op : CmpOp) : Bool := match op with
  | .In => true
  | .NotIn => true
  | _ => false
theorem marks_ok {op : CmpOp} (h : isIn op = false) (b : Expr) : behindInMarks op b = false := nobehind b (fun e => by rw [e] at h; cases h) (fun e => by rw [e] at h; cases h)
theorem de_cmp (C : CtxOk X Γ B) {a b : Expr} {op : CmpOp} {pos : Pos} {ka kb : Ag} (hi : isIn op = false) (ha : PE X a (rdT B ka)) (hb : PE X b (rdT B kb)) : DE X B (.Compare a [op] [b] pos) (mLook (cmpF op) ka kb) :=
  de_look (cmp_ok C op).2.1 (cmp_ok C op).2.2 ha hb fun {ta tb} h1 h2 => pe_cmpR (cmp_ok C op).1 h1 h2 (marks_ok hi b)
theorem dt_cmp (C : CtxOk X Γ B) {a b : Expr} {op : CmpOp} {pos : Pos} {ka kb : Ag} (hi : isIn op = false) (ha : PE X a (rdT B ka)) (hb : PE X b (rdT B kb)) : DT X B (.Compare a [op] [b] pos) (mLookB (cmpF op) ka kb) :=
  dt_look (cmp_ok C op).2.1 (cmp_ok C op).2.2 ha hb fun {ta tb} h1 h2 => pt_cmpR (cmp_ok C op).1 h1 h2 (marks_ok hi b)
end
end Dl

namespace Dl
variable [Kc]
open PySem L2

/-- the ways down -/
structure Rc where
  e : Gm → Expr → M O
  t : Gm → Expr → M Bool
  g : Gm → Expr → O → M Unit
  s : Gm → List Stmt → M Fl
def isStar (e : Expr) : Bool := match e with
  | .Starred _ _ => true
  | _ => false
theorem star_no {e : Expr} (h : isStar e = false) (es : List Expr) (env : PySem.Env) : starEach (e :: es) env = (false, eval e env) :: starEach es env := by
  cases e <;> first
    | rfl
    | cases h
theorem star_any {es : List Expr} (h : es.all (fun e => !isStar e) = true) (env : PySem.Env) (pos : Pos) : (backTo pos (starEach es env)).any (·.1) = false := by
  induction es with
  | nil => rfl
  | cons e es ih =>
    rw [List.all_cons, Bool.and_eq_true] at h
    rw [star_no (by simpa using h.1)]
    show (false || _) = false
    exact ih h.2
def evA (R : Rc) (Γ : Gm) : List Expr → M (List O)
  | [] => ret []
  | e :: es => if isStar e = true then stop else mCons (R.e Γ e) (evA R Γ es)
/-- with stars -/
def evAs (R : Rc) (Γ : Gm) : List Expr → M (List O)
  | [] => ret []
  | .Starred e _ :: es => mStar (R.e Γ e) (evAs R Γ es)
  | e :: es => if isStar e = true then stop else mCons (R.e Γ e) (evAs R Γ es)
def isTupE (e : Expr) : Bool := match e with
  | .Tuple _ _ _ => true
  | _ => false
def agOf (R : Rc) (Γ : Gm) (e : Expr) : Ag := match e with
  | .Name x p => match slot Γ x with
    | some i => .sl i
    | none => .ev (R.e Γ (.Name x p))
  | e => .ev (R.e Γ e)
def evName (Γ : Gm) (x : Str) : M O := match slot Γ x with
  | some i => mVar i
  | none => match Γ.cst.lookup x with
    | some d => if isGl Γ.sc x = true ∧ bad x = false then ret (.val d) else stop
    | none => stop
def isOne (es : List Expr) : Bool := es.length == 1
def evB (R : Rc) (Γ : Gm) (f : Str) (args : List Expr) : M O := match args with
  | [a] =>
    if isStar a = true then stop
    else if f = "len" then mLook1 lenD (agOf R Γ a)
    else if f = "abs" then mLook1 absD (agOf R Γ a)
    else if f = "sum" then mLook1 sumD (agOf R Γ a)
    else if f = "all" then mLook1 allD (agOf R Γ a)
    else if f = "any" then mLook1 anyD (agOf R Γ a)
    else if f = "max" then mLook1 maxD (agOf R Γ a)
    else if f = "min" then mLook1 minD (agOf R Γ a)
    else if f = "repr" then mLook1 reprD (agOf R Γ a)
    else if f = "int" then mLook1 intD (agOf R Γ a)
    else if f = "tuple" then mOpN tupN (evA R Γ [a])
    else if f = "list" then mOpN lstN (evA R Γ [a])
    else stop
  | [a, b] =>
    if isStar a = true ∨ isStar b = true then stop
    else if f = "max" then mScN max2 (evA R Γ [a, b])
    else if f = "min" then mScN min2 (evA R Γ [a, b])
    else stop
  | _ => stop
def evC (R : Rc) (Γ : Gm) (f : Str) (args : List Expr) : M O := match fnOf Γ f with
  | some (fm, n) => if args.length = n ∧ args ≠ [] ∧ args.all (fun e => !isStar e) = true then mCall fm (args.map (agOf R Γ)) else stop
  | none => if isB Γ f = true then evB R Γ f args else stop
def evI (R : Rc) (Γ : Gm) (tg it : Expr) : M (List D) := match it with
  | .Call (.Name f p) args [] q =>
    if f = "range" ∧ fnOf Γ f = none ∧ isB Γ f = true then (match args with
      | [a] => if isStar a = true then stop else mRng (evA R Γ [a])
      | [a, b] => if isStar a = true ∨ isStar b = true then stop else mRng (evA R Γ [a, b])
      | _ => stop)
    else if f = "enumerate" ∧ fnOf Γ f = none ∧ isB Γ f = true then (match args with
      | [a] => if isStar a = true ∨ isTupE tg = false then stop else mEnum (R.e Γ a)
      | _ => stop)
    else if f = "zip" ∧ fnOf Γ f = none ∧ isB Γ f = true then (match args with
      | [a, b] => if isStar a = true ∨ isStar b = true ∨ isTupE tg = false then stop else mZip (evA R Γ [a, b])
      | _ => stop)
    else mSeqI (R.e Γ (.Call (.Name f p) args [] q))
  | .Set _ _ _ => stop
  | e => mSeqI (R.e Γ e)
/-- the names that a target stores -/
def tgNames : Nat → Expr → List Str
  | 0, _ => []
  | _, .Name x _ => [x]
  | n + 1, .Tuple es _ _ => es.flatMap (tgNames n)
  | _, _ => []
def ixs (N : List Str) : List Str → Option (List (Str × Nat))
  | [] => some []
  | x :: xs => match ixIn N x, ixs N xs with
    | some i, some l => some ((x, i) :: l)
    | _, _ => none
def blkG (Γ : Gm) (scope : Scope) (own : List (Str × Nat)) : Gm := { Γ with sc := relS scope Γ.sc, ok := fun i => decide (i ∈ own.map (·.2)), top := false }
def evIfs (R : Rc) (Γ : Gm) : List Expr → M Bool
  | [] => ret true
  | [c] => R.t Γ c
  | _ => stop
def evLc (R : Rc) (Γ : Gm) (elt tg it : Expr) (ifs : List Expr) (scope : Scope) : M O := match ixs Γ.N (tgNames 4 tg) with
  | some own => if blkC Γ.N Γ.sc scope own = true then mComp (own.map (·.2)) (evI R Γ tg it) (R.g (blkG Γ scope own) tg) (evIfs R (blkG Γ scope own) ifs) (R.e (blkG Γ scope own) elt) else stop
  | none => stop
def evE1 (R : Rc) (Γ : Gm) (e : Expr) : M O := match e with
  | .Constant (.int i) _ _ => ret (.val (.int i))
  | .Constant (.bool b) _ _ => ret (.val (.bl b))
  | .Constant .none _ _ => ret (.val .non)
  | .Constant (.str x) _ _ => ret (.val (.str x))
  | .Name x _ => evName Γ x
  | .BinOp a op b _ => mOp2 (binF op) (R.e Γ a) (R.e Γ b)
  | .UnaryOp .USub a _ => mOp1 negF (R.e Γ a)
  | .UnaryOp .Not a _ => mOp1 notF (R.e Γ a)
  | .Compare a [op] [b] _ => if isIn op = true then stop else mLook (cmpF op) (agOf R Γ a) (agOf R Γ b)
  | .Compare a [op, op'] [b, c] _ => if isIn op = true ∨ isIn op' = true then stop else mChain (cmpF op) (cmpF op') (R.e Γ a) (R.e Γ b) (R.e Γ c)
  | .BoolOp .And (a :: b :: rest) pos => mAndV (R.e Γ a) (R.e Γ (.BoolOp .And (b :: rest) pos))
  | .BoolOp .Or (a :: b :: rest) pos => mOrV (R.e Γ a) (R.e Γ (.BoolOp .Or (b :: rest) pos))
  | .BoolOp _ [a] _ => R.e Γ a
  | .IfExp c a b _ => mIf (R.t Γ c) (R.e Γ a) (R.e Γ b)
  | .Tuple es _ _ => mTup (evAs R Γ es)
  | .List es _ => mLst (evAs R Γ es)
  | .Subscript a b _ => (match b with
    | .Slice _ _ _ _ => stop
    | b => match agOf R Γ a with
      | .sl i => mIxS i (R.e Γ b)
      | .ev m => mOp2 ixD m (R.e Γ b))
  | .Call (.Name f _) args [] _ => evC R Γ f args
  | .Call (.Attribute (.Name x _) m apos) [a] [] pos => (match slot Γ x with
    | some i => if m = "append" ∧ isStar a = false ∧ (apos.endLine == pos.line) = true then mApp i (R.e Γ a) else stop
    | none => stop)
  | .ListComp elt [⟨tg, it, ifs, 0⟩] scope _ => evLc R Γ elt tg it ifs scope
  | _ => stop

/-- what is to be shown of the ways down -/
structure RcOk (R : Rc) : Prop where
  e : ∀ {X Γ B} (e : Expr), CtxOk X Γ B → DE X B e (R.e Γ e)
  t : ∀ {X Γ B} (e : Expr), CtxOk X Γ B → DT X B e (R.t Γ e)
  g : ∀ {X Γ B} {S : SR} (e : Expr), CtxOk X Γ B → (∀ i, Γ.ok i = true → ∀ σ v, S.r σ (σ.set i (some v))) → DG X B S e (R.g Γ e)
  s : ∀ {X Γ B} {cp : List Nat} (e : List Stmt), CtxOk X Γ B → (∀ i, Γ.ok i = true → i ∉ cp) → DSs X B cp e (R.s Γ e)
section
variable {X : Cx} {Γ : Gm} {B : Bx} {R : Rc}
theorem da_of (K : RcOk R) (C : CtxOk X Γ B) : ∀ es : List Expr, DA X B es (evA R Γ es)
  | [] => da_nil
  | e :: es => by
    rw [evA]
    split
    · exact da_stop
    · rename_i h
      exact da_cons (K.e e C) (da_of K C es) (star_no (by simpa using h) _ _)
theorem das_of (K : RcOk R) (C : CtxOk X Γ B) : ∀ es : List Expr, DA X B es (evAs R Γ es)
  | [] => da_nil
  | e :: es => by
    have ih := das_of K C es
    cases e with
    | Starred a p => exact da_star (K.e a C) ih
    | _ => exact da_cons (K.e _ C) ih rfl
theorem ag_of (K : RcOk R) (C : CtxOk X Γ B) (e : Expr) : PE X e (rdT B (agOf R Γ e)) := by
  unfold agOf
  split
  · split
    · rename_i i h
      exact slot_pe C h
    · exact K.e _ C
  · exact K.e _ C
theorem ags_of (K : RcOk R) (C : CtxOk X Γ B) : ∀ es : List Expr, es.all (fun e => !isStar e) = true → PA X es (tAg B (mArgs (es.map (agOf R Γ))))
  | [], _ => dx_nil
  | e :: es, h => by
    rw [List.all_cons, Bool.and_eq_true] at h
    have q1 := ag_of K C e
    have q2 := ags_of K C es h.2
    have q3 := star_no (es := es) (by simpa using h.1) X.env
    rw [List.map_cons]
    cases q : agOf R Γ e with
    | sl i => rw [q] at q1; exact dx_csl q1 q2 q3
    | ev m => rw [q] at q1; exact dx_cev q1 q2 q3
theorem name_of (C : CtxOk X Γ B) (x : Str) (pos : Pos) : DE X B (.Name x pos) (evName Γ x) := by
  unfold evName
  split
  · rename_i i h
    exact de_var (slot_pe C h)
  · split
    · rename_i d h
      split
      · rename_i c
        obtain ⟨u, v, h1, h2, h3⟩ := C.cst x d h
        exact de_sc h2 (pe_glob (gl_of C c.1) h1 h3 (bad_no c.2).1)
      · exact de_stop
    · exact de_stop
theorem isB_ok (C : CtxOk X Γ B) {x : Str} (h : isB Γ x = true) : Gl X x ∧ X.mg x = none ∧ x ≠ "__name__" ∧ (x == ("__debug__" : Str)) = false := by
  unfold isB at h
  simp only [Bool.and_eq_true, decide_eq_true_eq, Bool.not_eq_true'] at h
  obtain ⟨⟨h1, h2⟩, h3⟩ := h
  exact ⟨gl_of C h2, C.blt x h1, (bad_no h3).2.2, (bad_no h3).1⟩
theorem lk1_of (K : RcOk R) (C : CtxOk X Γ B) {f : Str} {id : String} {a : Expr} {p pos : Pos} {r : List V → Hp → VK → Prop} {fd : D → Option D} (hs : isStar a = false) (hb : isB Γ f = true) (hv : bootBuiltins f = some (.builtin id)) (hc : CallR X (.builtin id) r) (h1 : Lk1 r fd) (h2 : sca1 fd) :
    DE X B (.Call (.Name f p) [a] [] pos) (mLook1 fd (agOf R Γ a)) := by
  obtain ⟨b1, b2, b3, b4⟩ := isB_ok C hb
  exact de_look1 h1 h2 (ag_of K C a) fun {ta} h => pe_callB hc b1 b2 hv (pa_cons h pa_nil (star_no hs _ _)) b3 b4 (star_no hs _ _)
theorem lk1T_of (K : RcOk R) (C : CtxOk X Γ B) {f : Str} {T : String} {a : Expr} {p pos : Pos} {r : List V → Hp → VK → Prop} {fd : D → Option D} (hs : isStar a = false) (hb : isB Γ f = true) (hv : bootBuiltins f = some (.type T)) (hc : CallR X (.type T) r) (h1 : Lk1 r fd) (h2 : sca1 fd) :
    DE X B (.Call (.Name f p) [a] [] pos) (mLook1 fd (agOf R Γ a)) := by
  obtain ⟨b1, b2, b3, b4⟩ := isB_ok C hb
  exact de_look1 h1 h2 (ag_of K C a) fun {ta} h => pe_callTy hc b1 b2 hv (pa_cons h pa_nil (star_no hs _ _)) b3 b4 (star_no hs _ _)
theorem opN_of (K : RcOk R) (C : CtxOk X Γ B) {f : Str} {id : String} {a : Expr} {es : List Expr} {p pos : Pos} {r : List V → Hp → VK → Prop} {fd : List D → Option O} (hs : isStar a = false) (hss : es.all (fun e => !isStar e) = true) (hb : isB Γ f = true) (hv : bootBuiltins f = some (.builtin id)) (hc : CallR X (.builtin id) r) (h1 : OpN r fd) :
    DE X B (.Call (.Name f p) (a :: es) [] pos) (mOpN fd (evA R Γ (a :: es))) := by
  obtain ⟨b1, b2, b3, b4⟩ := isB_ok C hb
  exact de_opN h1 (da_of K C _) fun {t} h => pe_callB hc b1 b2 hv h b3 b4 (star_no hs _ _) (star_any hss _ _)
theorem opT_of (K : RcOk R) (C : CtxOk X Γ B) {f : Str} {T : String} {a : Expr} {es : List Expr} {p pos : Pos} {r : List V → Hp → VK → Prop} {fd : List D → Option O} (hs : isStar a = false) (hss : es.all (fun e => !isStar e) = true) (hb : isB Γ f = true) (hv : bootBuiltins f = some (.type T)) (hc : CallR X (.type T) r) (h1 : OpN r fd) :
    DE X B (.Call (.Name f p) (a :: es) [] pos) (mOpN fd (evA R Γ (a :: es))) := by
  obtain ⟨b1, b2, b3, b4⟩ := isB_ok C hb
  exact de_opN h1 (da_of K C _) fun {t} h => pe_callTy hc b1 b2 hv h b3 b4 (star_no hs _ _) (star_any hss _ _)
theorem lenR (C : CtxOk X Γ B) : CallR X (.builtin "len") (fun xs H Q => (∃ p ys, xs = [.ref p] ∧ (SqL Kc.k H p ys ∨ SqT Kc.k H p ys) ∧ Q (.int ys.length) H) ∨ (∃ z, xs = [.str z] ∧ z.length ≤ sizeLine ∧ Q (.int z.length) H)) := by
  have h := (call_len_seq (X := X)).or call_len_str
  rw [C.K] at h
  exact h
end
end Dl

namespace Dl
variable [Kc]
open PySem L2

/-! ### slices -/
def cutD (ds : List D) (lo hi : Option Int) : List D := (ds.drop (HT.sIx ds.length 0 lo)).take (HT.sIx ds.length ds.length hi - HT.sIx ds.length 0 lo)
def slF (d : D) (lo hi : Option Int) : Option O := match d with
  | .lst l => some (.lst ((cutD l lo hi).map O.val))
  | .tup l => some (.val (.tup (cutD l lo hi)))
  | _ => none
theorem CG.cut {R : List Addr} {H : Hp} {vs : List V} {ds : List D} {lo hi : Option Int} {its : List (V × O)} (hl : vs.length = ds.length) (c : CG R H (vs.zip (ds.map O.val) ++ its)) :
    (cutV vs lo hi).length = (cutD ds lo hi).length ∧ CG R H ((cutV vs lo hi).zip ((cutD ds lo hi).map O.val) ++ its) := by
  unfold cutV cutD
  rw [hl]
  generalize HT.sIx ds.length 0 lo = a
  generalize HT.sIx ds.length ds.length hi - a = b
  refine ⟨by simp [hl], ?_⟩
  rw [List.map_take, List.map_drop, List.zip_eq_zipWith, ← List.take_zipWith, ← List.drop_zipWith, ← List.zip_eq_zipWith]
  generalize vs.zip (ds.map O.val) = l at c
  have c1 : CG R H (l.take a ++ (l.drop a ++ its)) := by
    rw [← List.append_assoc, List.take_append_drop]
    exact c
  have c2 := c1.drop
  have c3 : CG R H ((l.drop a).take b ++ ((l.drop a).drop b ++ its)) := by
    rw [← List.append_assoc, List.take_append_drop]
    exact c2
  exact CG.mid c3
def Sl3 (r : V → Option Int → Option Int → Hp → VK → Prop) (f : D → Option Int → Option Int → Option O) : Prop := ∀ d l h o, f d l h = some o → ∀ x H its Q, CI H ((x, .val d) :: its) → (∀ v H', CI H' ((v, o) :: its) → Q v H') → r x l h H Q
theorem sl3_of {K : PySem.W.Frag} : Sl3 (fun x lo hi H Q => rSlL K x lo hi H Q ∨ rSlA K x lo hi H Q) slF := fun d l h o ho x H its Q c k => by
  unfold slF at ho
  split at ho
  · cases ho
    obtain ⟨p, vs, rfl, hp, hl, c2⟩ := c.openL
    refine .inl ⟨p, vs, rfl, sq_l hp, fun q hq => k _ _ ?_⟩
    obtain ⟨e1, c3⟩ := CG.cut (lo := l) (hi := h) hl (CG.mid (m := [_]) c2)
    have c7 := c3.newL hq (by simp)
    rw [zip_fst (by simp [e1]), zip_snd (by simp [e1])] at c7
    exact c7
  · rename_i ds
    cases ho
    obtain ⟨p, vs, rfl, hp, hl, c2⟩ := c.openT
    refine .inr ⟨p, vs, rfl, sq_t hp, fun e => ?_, fun _ q hq => k _ _ ?_⟩
    · have e1 : cutD ds l h = ds := by
        unfold cutD
        rw [← hl, e.1, e.2]
        simp [hl]
      rw [e1] at k
      exact k _ _ c
    · obtain ⟨e1, c3⟩ := CG.cut (lo := l) (hi := h) hl (CG.mid (m := [_]) c2)
      exact c3.newT e1 hq (by simp)
  · cases ho
def tO (B : Bx) (m : M (Option Int)) : St → Hp → (Option Int → Hp → Prop) → Prop := fun σ H Q => ∃ pend ρ, Conf σ H pend ρ ∧ (m ρ).go (fun r ρ' => ∀ H', Conf σ H' pend ρ' → Q r H') (fun x ρ' => B.p x ρ' pend σ)
def mPart (m : M O) : M (Option Int) := bnd m fun o => match frz o with
  | .int i => ret (some i)
  | _ => stop
def mSlc (a : M O) (l h : M (Option Int)) : M O := bnd a fun x => bnd l fun lo => bnd h fun hi => lift (slF (frz x) lo hi)
def evP (R : Rc) (Γ : Gm) (o : Option Expr) : M (Option Int) := match o with
  | none => ret none
  | some e => mPart (R.e Γ e)
section
variable {X : Cx} {Γ : Gm} {B : Bx} {R : Rc}
theorem part_of (K : RcOk R) (C : CtxOk X Γ B) (o : Option Expr) : ∃ t : St → Hp → (Option Int → Hp → Prop) → Prop, PO X o t ∧ ∀ σ H Q, tO B (evP R Γ o) σ H Q → t σ H Q := by
  cases o with
  | none => exact ⟨_, po_none, fun σ H Q ⟨pend, ρ, c, g⟩ => (g : ∀ H', Conf σ H' pend ρ → Q none H') H c⟩
  | some e =>
    refine ⟨_, po_some (K.e e C), fun σ H Q ⟨pend, ρ, c, g⟩ => ?_⟩
    refine tE_bnd c g fun o ρ1 v H1 c1 g1 => ?_
    have c2 := c1.frz
    cases q : frz o with
    | int i =>
      rw [q] at c2 g1
      exact ⟨i, c2.out1.int, (g1 : ∀ H', Conf σ H' pend ρ1 → Q (some i) H') H1 c2.tail⟩
    | _ => rw [q] at g1; exact False.elim g1
theorem slc_of (K : RcOk R) (C : CtxOk X Γ B) {a : Expr} {lo hi : Option Expr} {p2 pos : Pos} : DE X B (.Subscript a (.Slice lo hi none p2) pos) (mSlc (R.e Γ a) (evP R Γ lo) (evP R Γ hi)) := by
  obtain ⟨t1, h1, k1⟩ := part_of K C lo
  obtain ⟨t2, h2, k2⟩ := part_of K C hi
  refine (pe_slice (sl_list.or sl_tupA) (K.e a C) h1 h2).imp fun σ H Q ⟨pend, ρ, c, g⟩ => ?_
  refine tE_bnd c g fun x ρ1 v H1 c1 g1 => ?_
  refine k1 _ _ _ ⟨(v, .val (frz x)) :: pend, ρ1, c1.frz, Out.go_mono (go_bnd.mp g1) (fun l ρ2 _ g2 H2 c2 => ?_) fun x ρ2 _ z => B.mono _ _ _ _ _ z⟩
  refine k2 _ _ _ ⟨(v, .val (frz x)) :: pend, ρ2, c2, Out.go_mono (go_bnd.mp g2) (fun h ρ3 _ g3 H3 c3 => ?_) fun x ρ2 _ z => B.mono _ _ _ _ _ z⟩
  obtain ⟨o, ho, g4⟩ := go_lift g3
  exact sl3_of _ _ _ _ ho _ _ _ _ c3.out1 fun v H' c4 => g4 v H' (.back1 c3.sh c4)
/-! ### built-ins -/
theorem sizeOk : (1000000 : Nat) ≤ sizeLine := Nat.le_of_lt big
theorem de_ite {e : Expr} {c : Prop} [Decidable c] {m1 m2 : M O} (h1 : c → DE X B e m1) (h2 : ¬ c → DE X B e m2) : DE X B e (if c then m1 else m2) := by
  by_cases h : c
  · rw [if_pos h]; exact h1 h
  · rw [if_neg h]; exact h2 h
theorem no_star {e : Expr} (h : ¬ isStar e = true) : isStar e = false := by
  cases q : isStar e with
  | false => rfl
  | true => exact absurd q h
theorem b_of (K : RcOk R) (C : CtxOk X Γ B) {f : Str} {args : List Expr} {p pos : Pos} (hb : isB Γ f = true) : DE X B (.Call (.Name f p) args [] pos) (evB R Γ f args) := by
  unfold evB
  match args with
  | [] => exact de_stop
  | [a] =>
    refine de_ite (fun _ => de_stop) fun hs => ?_
    have hs := no_star hs
    refine de_ite (fun e => ?_) fun _ => ?_
    · subst e
      exact lk1_of K C hs hb PySem.boot_len (lenR C) lk_len lenD_sc
    refine de_ite (fun e => ?_) fun _ => ?_
    · subst e
      exact lk1_of K C hs hb (by decide +kernel) call_abs lk_abs absD_sc
    refine de_ite (fun e => ?_) fun _ => ?_
    · subst e
      exact lk1_of K C hs hb (by decide +kernel) (cr_sum C.calm) lk_sum sumD_sc
    refine de_ite (fun e => ?_) fun _ => ?_
    · subst e
      exact lk1_of K C hs hb (by decide +kernel) (cr_all C.calm) lk_all allD_sc
    refine de_ite (fun e => ?_) fun _ => ?_
    · subst e
      exact lk1_of K C hs hb (by decide +kernel) (cr_any C.calm) lk_any anyD_sc
    refine de_ite (fun e => ?_) fun _ => ?_
    · subst e
      exact lk1_of K C hs hb (by decide +kernel) (cr_max C.calm) lk_max maxD_sc
    refine de_ite (fun e => ?_) fun _ => ?_
    · subst e
      exact lk1_of K C hs hb (by decide +kernel) (cr_min C.calm) lk_min minD_sc
    refine de_ite (fun e => ?_) fun _ => ?_
    · subst e
      exact lk1_of K C hs hb (by decide +kernel) (cr_repr C.gd C.un) lk_repr reprD_sc
    refine de_ite (fun e => ?_) fun _ => ?_
    · subst e
      exact lk1T_of K C hs hb (by decide +kernel) call_int1 lk_int intD_sc
    refine de_ite (fun e => ?_) fun _ => ?_
    · subst e
      exact opT_of K C hs rfl hb (by decide +kernel) call_tuple_of op_tupN
    refine de_ite (fun e => ?_) fun _ => de_stop
    · subst e
      exact opT_of K C hs rfl hb (by decide +kernel) call_list_of op_lstN
  | [a, b] =>
    refine de_ite (fun _ => de_stop) fun hs => ?_
    have hs1 := no_star fun z => hs (.inl z)
    have hs2 := no_star fun z => hs (.inr z)
    refine de_ite (fun e => ?_) fun _ => ?_
    · subst e
      exact opN_of K C hs1 (by simp [hs2]) hb (by decide +kernel) (call_max2 C.calm) op_max2
    refine de_ite (fun e => ?_) fun _ => de_stop
    · subst e
      exact opN_of K C hs1 (by simp [hs2]) hb (by decide +kernel) (call_min2 C.calm) op_min2
  | _ :: _ :: _ :: _ => exact de_stop
theorem c_of (K : RcOk R) (C : CtxOk X Γ B) {f : Str} {args : List Expr} {p pos : Pos} : DE X B (.Call (.Name f p) args [] pos) (evC R Γ f args) := by
  unfold evC
  split
  · rename_i fm n h
    split
    · rename_i hh
      obtain ⟨h1, h2, h3⟩ := hh
      unfold fnOf at h
      split at h
      · rename_i q hq
        split at h
        · rename_i hg
          cases h
          obtain ⟨fl, k, fa, fd, ps, xh, e1, F, hr, hm, hk, hb, hx⟩ := C.F f _ hq
          cases args with
          | nil => exact absurd rfl h2
          | cons a es =>
            have h4 := h3
            rw [List.all_cons, Bool.and_eq_true] at h4
            exact de_call F fl hr C.gd (gl_of C hg.1) hm hk hb hx (ags_of K C _ h3) (by rw [List.length_map]; exact h1.trans e1.symm) (bad_no hg.2).1 (star_no (by simpa using h4.1) _ _) (star_any h4.2 _ _)
        · cases h
      · cases h
    · exact de_stop
  · split
    · rename_i hb
      exact b_of K C hb
    · exact de_stop
theorem evA_len : ∀ (es : List Expr) (ρ : Sl) (os : List O) (ρ' : Sl), evA R Γ es ρ = .ok os ρ' → os.length = es.length
  | [], ρ, os, ρ', h => by cases h; rfl
  | e :: es, ρ, os, ρ', h => by
    rw [evA] at h
    split at h
    · cases h
    · simp only [mCons, bnd] at h
      split at h
      · split at h
        · rename_i os' ρ2 h2
          cases h
          simp [evA_len es _ _ _ h2]
        · cases h
        · cases h
      · cases h
      · cases h
theorem i_of (K : RcOk R) (C : CtxOk X Γ B) (tg it : Expr) : DI X B tg it (evI R Γ tg it) := by
  unfold evI
  split
  · rename_i f p args q
    split
    · rename_i h
      obtain ⟨rfl, h1, h2⟩ := h
      obtain ⟨b1, b2, b3, b4⟩ := isB_ok C h2
      split
      · rename_i a
        split
        · exact di_stop
        · rename_i hs
          exact di_rng1 (da_of K C [a]) (fun {t} h => pi_range1 b1 b2 h (star_no (by simpa using hs) _ _)) fun ρ os ρ' h => evA_len _ _ _ _ h
      · rename_i a b
        split
        · exact di_stop
        · rename_i hs
          have hs1 : isStar a = false := by cases h : isStar a <;> simp_all
          have hs2 : isStar b = false := by cases h : isStar b <;> simp_all
          exact di_rng2 (da_of K C [a, b]) (fun {t} h => pi_range2 b1 b2 h (by rw [star_no hs1, star_no hs2]; rfl) (star_no hs2 _ _)) fun ρ os ρ' h => evA_len _ _ _ _ h
      · exact di_stop
    · split
      · rename_i h
        obtain ⟨rfl, h1, h2⟩ := h
        obtain ⟨b1, b2, b3, b4⟩ := isB_ok C h2
        split
        · rename_i a
          split
          · exact di_stop
          · rename_i hs
            have hs1 : isStar a = false := by cases h : isStar a <;> simp_all
            cases tg with
            | Tuple elts kk tpos => exact di_enum b1 b2 (K.e a C) (star_no hs1 _ _)
            | _ => exact absurd (.inr rfl) hs
        · exact di_stop
      · split
        · rename_i h
          obtain ⟨rfl, h1, h2⟩ := h
          obtain ⟨b1, b2, b3, b4⟩ := isB_ok C h2
          split
          · rename_i a b
            split
            · exact di_stop
            · rename_i hs
              have hs1 : isStar a = false := by cases h : isStar a <;> simp_all
              have hs2 : isStar b = false := by cases h : isStar b <;> simp_all
              cases tg with
              | Tuple elts kk tpos => exact di_zip b1 b2 (da_of K C [a, b]) (fun ρ os ρ' h => evA_len _ _ _ _ h) (star_no hs1 _ _) (star_any (by simp [hs2]) _ _)
              | _ => exact absurd (.inr (.inr rfl)) hs
          · exact di_stop
        · exact di_seq (K.e _ C)
  · exact di_stop
  · exact di_seq (K.e _ C)
theorem set_no {it : Expr} (h : ∀ a b c, it ≠ .Set a b c) (env : PySem.Env) (x : Value) : foldedSetIterable it env x = pure x := by
  cases it <;> first
    | rfl
    | exact absurd rfl (h _ _ _)
theorem ixs_ok {N : List Str} : ∀ {l : List Str} {own : List (Str × Nat)}, ixs N l = some own → ∀ p ∈ own, N[p.2]? = some p.1
  | [], _, h, p, hp => by cases h; simp at hp
  | x :: l, own, h, p, hp => by
    rw [ixs] at h
    split at h
    · rename_i i l' h1 h2
      cases h
      rcases List.mem_cons.mp hp with e | e
      · subst e; exact ixIn_get h1
      · exact ixs_ok h2 p e
    · cases h
/-- within a comprehension's block -/
theorem blk_ok (C : CtxOk X Γ B) {scope : Scope} {own : List (Str × Nat)} (hk : blkC Γ.N Γ.sc scope own = true) (s : Shared) (H : Hp) (A : Addr) (cl : List (Str × Addr)) (fp : List Addr) :
    CtxOk (X.blk s H scope (compEnvC scope cl A X.env) fp) (blkG Γ scope own) B0 := by
  have bo := blkOk_by hk
  have hsc : (compEnvC scope cl A X.env).scope = relS scope Γ.sc := by rw [← C.scp]; rfl
  refine ⟨C.N, C.nd, hsc, bo.kind, C.calm, C.K, C.gd, C.un, (fun h => by cases h), PassesOwn.never, fun x q hq => ?_, C.cst, C.blt⟩
  · obtain ⟨fl, k, fa, fd, ps, xh, e1, F, hr, hm, hkp, hb, hx⟩ := C.F x q hq
    refine ⟨fl, k, fa, fd, ps, xh, e1, F, hr, hm, hkp, hb, fun σ => ?_⟩
    intro pins H' s' e s'' I cx
    exact passes_call (X := X.blk s H scope (compEnvC scope cl A X.env) fp) takes0 (E := EB xh B0 σ) (fun cls d σ' H z => by obtain ⟨_, _, _, z, _⟩ := z; exact z) pins σ H' s' e s'' I cx
end
end Dl

namespace Dl
variable [Kc]
open PySem L2

section
variable {X : Cx} {Γ : Gm} {B : Bx} {R : Rc}
theorem ifs_of (K : RcOk R) (C : CtxOk X Γ B) (ifs : List Expr) : PTs X ifs (tT B (evIfs R Γ ifs)) := by
  unfold evIfs
  match ifs with
  | [] => exact ⟨fun pins s σ H Q I ⟨pend, ρ, c, g⟩ => pts_nil.run pins s σ H Q I ((g : ∀ H', Conf σ H' pend ρ → Q true H') H c)⟩
  | [c] => exact pts_one (K.t c C)
  | _ :: _ :: _ => exact ⟨fun _ _ _ _ _ _ ⟨_, _, _, h⟩ => False.elim h⟩
theorem noset {tg it : Expr} (h : evI R Γ tg it ≠ stop) : ∀ a b c, it ≠ .Set a b c := fun a b c e => by
  subst e
  exact h rfl
def isSet (e : Expr) : Bool := match e with
  | .Set _ _ _ => true
  | _ => false
theorem isSet_no {it : Expr} (h : isSet it = false) (env : PySem.Env) (x : Value) : foldedSetIterable it env x = pure x := set_no (fun a b c e => by subst e; cases h) env x
theorem lcs_of (K : RcOk R) (C : CtxOk X Γ B) {elt tg it : Expr} {ifs : List Expr} {scope : Scope} : (∀ {pos : Pos}, DE X B (.ListComp elt [⟨tg, it, ifs, 0⟩] scope pos) (if isSet it = true then stop else evLc R Γ elt tg it ifs scope)) ∧
    (∀ {ok : Nat → Bool} {i : Nat} {y : Str} {py pos spos : Pos} {cp : List Nat}, X.N[i]? = some y → X.env.scope.names.lookup y = some .local → swapsWith (.ListComp elt [⟨tg, it, ifs, 0⟩] scope pos) (some (.Name y py)) spos.line X.env = pure true → (∀ i, ok i = true → ∀ σ v, CP cp σ (σ.set i (some v))) →
      DS X B cp (.Assign [.Name y py] (.ListComp elt [⟨tg, it, ifs, 0⟩] scope pos) spos) (mAsg (if isSet it = true then stop else evLc R Γ elt tg it ifs scope) (mSet ok i))) := by
  by_cases hs : isSet it = true
  · rw [if_pos hs]
    refine ⟨de_stop, fun _ _ _ _ => ⟨fun _ _ _ _ _ _ ⟨_, _, _, h⟩ => False.elim h⟩⟩
  rw [if_neg hs]
  have hs : isSet it = false := by simpa using hs
  unfold evLc
  split
  · rename_i own ho
    split
    · rename_i hk
      have bo : BlkOk X.N X.env.scope scope own := by rw [C.N, C.scp]; exact blkOk_by hk
      have nd : X.N.Nodup := by rw [C.N]; exact C.nd
      have hg : ∀ (s : Shared) (H : Hp) (A : Addr) (cl : List (Str × Addr)) (fp : List Addr), PG (X.blk s H scope (compEnvC scope cl A X.env) fp) tg (tGr B0 (srW (own.map (·.2))) (R.g (blkG Γ scope own) tg)) :=
        fun s H A cl fp => K.g tg (blk_ok C hk s H A cl fp) fun i hi σ v => wipe_set i (some v) (of_decide_eq_true hi)
      have ht : ∀ (s : Shared) (H : Hp) (A : Addr) (cl : List (Str × Addr)) (fp : List Addr), PTs (X.blk s H scope (compEnvC scope cl A X.env) fp) ifs (tT B0 (evIfs R (blkG Γ scope own) ifs)) := fun s H A cl fp => ifs_of K (blk_ok C hk s H A cl fp) ifs
      have he : ∀ (s : Shared) (H : Hp) (A : Addr) (cl : List (Str × Addr)) (fp : List Addr), PE (X.blk s H scope (compEnvC scope cl A X.env) fp) elt (tE B0 (R.e (blkG Γ scope own) elt)) := fun s H A cl fp => K.e elt (blk_ok C hk s H A cl fp)
      refine ⟨fun {pos} => ?_, fun {ok i y py pos spos cp} hy hyl hsw hS => ?_⟩
      · exact (pe_lc (pos := pos) C.calm nd (i_of K C tg it) bo hg ht he (isSet_no hs _)).imp fun σ H Q h => lc_of h
      · have base := ps_setLc (py := py) (spos := spos) (pos := pos) C.calm nd hy hyl hsw (i_of K C tg it) bo hg ht he (isSet_no hs _)
        refine base.imp fun D σ H ⟨pend, ρ, c, g⟩ => ?_
        show tLc _ _ _ _ _ σ H _
        refine lc_of (tE_st c g fun r ρ1 v H1 c1 g1 => ?_)
        have g2 := go_bnd.mp g1
        unfold mSet at g2
        split at g2
        · rename_i h
          exact g2 _ _ (c1.put (by rw [c1.sh.len]; exact h.2)) (hS i h.1 σ v)
        · exact False.elim g2
    · refine ⟨de_stop, fun _ _ _ _ => ⟨fun _ _ _ _ _ _ ⟨_, _, _, h⟩ => False.elim h⟩⟩
  · refine ⟨de_stop, fun _ _ _ _ => ⟨fun _ _ _ _ _ _ ⟨_, _, _, h⟩ => False.elim h⟩⟩

def isSlice (e : Expr) : Bool := match e with
  | .Slice _ _ _ _ => true
  | _ => false
theorem plainIx {b : Expr} (h : isSlice b = false) : PlainIx b := by
  intro o i
  cases b <;> first
    | rfl
    | cases h
def evSub (R : Rc) (Γ : Gm) (a b : Expr) : M O := match b with
  | .Slice lo hi none _ => mSlc (R.e Γ a) (evP R Γ lo) (evP R Γ hi)
  | .Slice _ _ _ _ => stop
  | b => match agOf R Γ a with
    | .sl i => mIxS i (R.e Γ b)
    | .ev m => mOp2 ixD m (R.e Γ b)
theorem sub_of (K : RcOk R) (C : CtxOk X Γ B) {a b : Expr} {pos : Pos} : DE X B (.Subscript a b pos) (evSub R Γ a b) := by
  have base : isSlice b = false → DE X B (.Subscript a b pos) (match agOf R Γ a with
    | .sl i => mIxS i (R.e Γ b)
    | .ev m => mOp2 ixD m (R.e Γ b)) := fun hs => by
    have h := ag_of K C a
    cases q : agOf R Γ a with
    | sl i =>
      rw [q] at h
      exact de_ixS C.K h (K.e b C) fun {ta tb} h1 h2 => pe_ix ix_seq h1 h2 (plainIx hs)
    | ev m =>
      rw [q] at h
      refine de_op2 (r := rIx X.K) ?_ h (K.e b C) fun {ta tb} h1 h2 => pe_ix ix_seq h1 h2 (plainIx hs)
      rw [C.K]
      exact op2_ix
  unfold evSub
  split
  · exact slc_of K C
  · exact de_stop
  · rename_i h1 h2
    refine base ?_
    cases b <;> first
      | rfl
      | exact absurd rfl (h2 _ _ _ _)
def evM (R : Rc) (Γ : Gm) (o : Expr) (m : Str) (apos : Pos) (args : List Expr) (pos : Pos) : M O := match o, args with
  | .Name x _, [a] => (match slot Γ x with
    | some i => if m = "append" ∧ isStar a = false ∧ (apos.endLine == pos.line) = true then mApp i (R.e Γ a) else stop
    | none => stop)
  | _, _ => stop
theorem m_of (K : RcOk R) (C : CtxOk X Γ B) {o : Expr} {m : Str} {apos pos : Pos} {args : List Expr} : DE X B (.Call (.Attribute o m apos) args [] pos) (evM R Γ o m apos args pos) := by
  unfold evM
  split
  · rename_i x px a
    split
    · rename_i i hi
      refine de_ite (fun h => ?_) fun _ => de_stop
      obtain ⟨rfl, hs, hl⟩ := h
      refine de_app (slot_pe (pos := px) C hi) (K.e a C) fun {ta tb} h1 h2 => ?_
      exact pe_bm PySem.F.plainAttrs_list PySem.F.slot_list_append PySem.F.type_list_append mt_append h1 (pa_cons h2 pa_nil (star_no hs _ _)) rfl (by rw [star_no hs]; rfl) hl (star_no hs _ _)
    · exact de_stop
  · exact de_stop
def evE1' (R : Rc) (Γ : Gm) (e : Expr) : M O := match e with
  | .Constant (.int i) _ _ => ret (.val (.int i))
  | .Constant (.bool b) _ _ => ret (.val (.bl b))
  | .Constant .none _ _ => ret (.val .non)
  | .Constant (.str x) _ _ => ret (.val (.str x))
  | .Name x _ => evName Γ x
  | .BinOp a op b _ => mOp2 (binF op) (R.e Γ a) (R.e Γ b)
  | .UnaryOp .USub a _ => mOp1 negF (R.e Γ a)
  | .UnaryOp .Not a _ => mOp1 notF (R.e Γ a)
  | .Compare a [op] [b] _ => if isIn op = true then stop else mLook (cmpF op) (agOf R Γ a) (agOf R Γ b)
  | .Compare a [op, op'] [b, c] _ => if isIn op = true ∨ isIn op' = true then stop else mChain (cmpF op) (cmpF op') (R.e Γ a) (R.e Γ b) (R.e Γ c)
  | .BoolOp .And (a :: b :: rest) pos => mAndV (R.e Γ a) (R.e Γ (.BoolOp .And (b :: rest) pos))
  | .BoolOp .Or (a :: b :: rest) pos => mOrV (R.e Γ a) (R.e Γ (.BoolOp .Or (b :: rest) pos))
  | .BoolOp _ [a] _ => R.e Γ a
  | .IfExp c a b _ => mIf (R.t Γ c) (R.e Γ a) (R.e Γ b)
  | .Tuple es _ _ => mTup (evAs R Γ es)
  | .List es _ => mLst (evAs R Γ es)
  | .Subscript a b _ => evSub R Γ a b
  | .Call (.Name f _) args [] _ => evC R Γ f args
  | .Call (.Attribute o m apos) args [] pos => evM R Γ o m apos args pos
  | .ListComp elt [⟨tg, it, ifs, 0⟩] scope _ => if isSet it = true then stop else evLc R Γ elt tg it ifs scope
  | _ => stop
theorem isIn_no {op : CmpOp} (h : ¬ isIn op = true) : isIn op = false := by
  cases q : isIn op with
  | false => rfl
  | true => exact absurd q h
theorem last_ok {op op' : CmpOp} {b c : Expr} (h : isIn op' = false) : lastMarks [op, op'] [b, c] = false := marks_ok h c
theorem e1_of (K : RcOk R) (C : CtxOk X Γ B) (e : Expr) : DE X B e (evE1' R Γ e) := by
  unfold evE1'
  split
  · exact de_sc rfl pe_int
  · exact de_sc rfl pe_bl
  · exact de_sc rfl pe_non
  · exact de_sc rfl pe_str
  · exact name_of C _ _
  · exact de_bin (K.e _ C) (K.e _ C)
  · exact de_neg (K.e _ C)
  · exact de_notV (K.e _ C)
  · exact de_ite (fun _ => de_stop) fun h => de_cmp C (isIn_no h) (ag_of K C _) (ag_of K C _)
  · refine de_ite (fun _ => de_stop) fun h => ?_
    have h2 := isIn_no fun z => h (.inr z)
    exact (pe_chain (cmp_ok C _).1 (cmp_ok C _).1 (K.e _ C) (K.e _ C) (K.e _ C) (last_ok h2)).imp fun σ H Q q => chain_of (cmp_ok C _).2.1 (cmp_ok C _).2.2 (cmp_ok C _).2.1 (cmp_ok C _).2.2 q
  · exact de_and (K.e _ C) (K.e _ C)
  · exact de_or (K.e _ C) (K.e _ C)
  · exact pe_one (K.e _ C)
  · exact de_ifE (K.t _ C) (K.e _ C) (K.e _ C)
  · exact de_tup (das_of K C _)
  · exact de_lst (das_of K C _)
  · exact sub_of K C
  · exact c_of K C
  · exact m_of K C
  · exact (lcs_of K C).1
  · exact de_stop

/-! ### tests -/
def evAll (R : Rc) (Γ : Gm) : List Expr → M Bool
  | [] => stop
  | [a] => R.t Γ a
  | a :: rest => mAnd (R.t Γ a) (evAll R Γ rest)
def evAny (R : Rc) (Γ : Gm) : List Expr → M Bool
  | [] => stop
  | [a] => R.t Γ a
  | a :: rest => mOr (R.t Γ a) (evAny R Γ rest)
theorem all_of (K : RcOk R) (C : CtxOk X Γ B) : ∀ (es : List Expr) (pos : Pos), PW X (.BoolOp .And es pos) (tT B (evAll R Γ es))
  | [], pos => ⟨fun _ _ _ _ _ _ _ ⟨_, _, _, h⟩ => False.elim h⟩
  | [a], pos => pw_and1 (K.t a C)
  | a :: b :: rest, pos => (pw_and (K.t a C) (all_of K C (b :: rest) pos)).imp fun σ H Q h => tAnd_of h
theorem any_of (K : RcOk R) (C : CtxOk X Γ B) : ∀ (es : List Expr) (pos : Pos), PW X (.BoolOp .Or es pos) (tT B (evAny R Γ es))
  | [], pos => ⟨fun _ _ _ _ _ _ _ ⟨_, _, _, h⟩ => False.elim h⟩
  | [a], pos => pw_or1 (K.t a C)
  | a :: b :: rest, pos => (pw_or (K.t a C) (any_of K C (b :: rest) pos)).imp fun σ H Q h => tOr_of h
def evT1 (R : Rc) (Γ : Gm) (e : Expr) : M Bool := match e with
  | .UnaryOp .Not a _ => mNot (R.t Γ a)
  | .BoolOp .And es _ => evAll R Γ es
  | .BoolOp .Or es _ => evAny R Γ es
  | .Compare a [op] [b] _ => if isIn op = true then stop else mLookB (cmpF op) (agOf R Γ a) (agOf R Γ b)
  | .Compare a [op, op'] [b, c] _ => if isIn op = true ∨ isIn op' = true then stop else mB (mChain (cmpF op) (cmpF op') (R.e Γ a) (R.e Γ b) (R.e Γ c))
  | .Compare _ _ _ _ => stop
  | .IfExp _ _ _ _ => stop
  | e => mB (R.e Γ e)
theorem dt_ite {e : Expr} {c : Prop} [Decidable c] {m1 m2 : M Bool} (h1 : c → DT X B e m1) (h2 : ¬ c → DT X B e m2) : DT X B e (if c then m1 else m2) := by
  by_cases h : c
  · rw [if_pos h]; exact h1 h
  · rw [if_neg h]; exact h2 h
theorem tB_of {t : TE} {σ : St} {H : Hp} {Q : Bool → Hp → Prop} {m : M O} (k : ∀ Q, tE B m σ H Q → t σ H Q) (h : tT B (mB m) σ H Q) : tTest t σ H Q := by
  obtain ⟨pend, ρ, c, g⟩ := h
  refine k _ (tE_bnd c g fun o ρ1 v H1 c1 g1 => ?_)
  obtain ⟨b, rfl, g2⟩ := go_mB (σ := σ) (pend := pend) g1
  exact ⟨b, c1.out1.bl, g2 H1 c1.tail⟩
theorem t1_of (K : RcOk R) (C : CtxOk X Γ B) (e : Expr) : DT X B e (evT1 R Γ e) := by
  unfold evT1
  split
  · exact dt_not (K.t _ C)
  · exact (all_of K C _ _).pt
  · exact (any_of K C _ _).pt
  · exact dt_ite (fun _ => dt_stop) fun h => dt_cmp C (isIn_no h) (ag_of K C _) (ag_of K C _)
  · refine dt_ite (fun _ => dt_stop) fun h => ?_
    have h2 := isIn_no fun z => h (.inr z)
    exact (pt_chain (cmp_ok C _).1 (cmp_ok C _).1 (K.e _ C) (K.e _ C) (K.e _ C) (last_ok h2)).imp fun σ H Q q => tB_of (fun Q q => chain_of (cmp_ok C _).2.1 (cmp_ok C _).2.2 (cmp_ok C _).2.1 (cmp_ok C _).2.2 q) q
  · exact dt_stop
  · exact dt_stop
  · rename_i n1 n2 n3 n4 n5 n6 n7
    refine dt_val (K.e _ C) fun {t} h => pt_val h fun whole => ?_
    cases e with
    | UnaryOp op a p =>
      cases op with
      | Not => exact absurd rfl (n1 _ _)
      | _ => rfl
    | BoolOp op es p =>
      cases op with
      | And => exact absurd rfl (n2 _ _)
      | Or => exact absurd rfl (n3 _ _)
    | Compare a b c p => exact absurd rfl (n6 _ _ _ _)
    | IfExp a b c p => exact absurd rfl (n7 _ _ _ _)
    | _ => rfl
end
end Dl

namespace Dl
variable [Kc]
open PySem L2

/-! ### targets -/
def evGs (R : Rc) (Γ : Gm) : List Expr → List O → M Unit
  | [] => mGNil
  | e :: es => mGCons (R.g Γ e) (evGs R Γ es)
def setOk (Γ : Gm) (x : Str) : Bool := isLcl Γ.sc x || (Γ.top && isLoc Γ.sc x)
def evG1 (R : Rc) (Γ : Gm) (e : Expr) : O → M Unit := match e with
  | .Name x _ => (match ixIn Γ.N x with
    | some i => if setOk Γ x = true then mSet Γ.ok i else fun _ => stop
    | none => fun _ => stop)
  | .Tuple es _ _ => if es.all (fun e => !isStar e) = true then mGTup es.length (evGs R Γ es) else fun _ => stop
  | .Subscript a b _ => (match agOf R Γ a with
    | .sl i => if isSlice b = true then fun _ => stop else mPut i (R.e Γ b)
    | .ev _ => fun _ => stop)
  | _ => fun _ => stop
section
variable {X : Cx} {Γ : Gm} {B : Bx} {R : Rc} {S : SR}
theorem ae_no {e : Expr} (h : isStar e = false) (es : List Expr) (env : PySem.Env) : assignEach (e :: es) env = (false, assign e env) :: assignEach es env := by
  cases e <;> first
    | rfl
    | cases h
theorem ae_len : ∀ {es : List Expr} {env : PySem.Env}, es.all (fun e => !isStar e) = true → (assignEach es env).length = es.length ∧ (assignEach es env).findIdx? (·.1) = none
  | [], _, _ => ⟨rfl, rfl⟩
  | e :: es, env, h => by
    rw [List.all_cons, Bool.and_eq_true] at h
    obtain ⟨h1, h2⟩ := ae_len (es := es) (env := env) h.2
    rw [ae_no (by simpa using h.1)]
    refine ⟨by simp [h1], ?_⟩
    rw [List.findIdx?_cons, h2]
    rfl
theorem gs_of (K : RcOk R) (C : CtxOk X Γ B) (hS : ∀ i, Γ.ok i = true → ∀ σ v, S.r σ (σ.set i (some v))) : ∀ es : List Expr, es.all (fun e => !isStar e) = true → DGs X B S es (evGs R Γ es)
  | [], _ => dgs_nil
  | e :: es, h => by
    rw [List.all_cons, Bool.and_eq_true] at h
    exact dgs_cons (K.g e C hS) (gs_of K C hS es h.2) (by rw [ae_no (by simpa using h.1)]; rfl)
theorem setOk_ok (C : CtxOk X Γ B) {x : Str} (h : setOk Γ x = true) : Loc X.env.scope x ∧ (X.fn x = true ∨ X.env.scope.names.lookup x = some .local) := by
  rw [C.scp]
  unfold setOk at h
  rw [Bool.or_eq_true, Bool.and_eq_true] at h
  rcases h with h | h
  · exact ⟨.inl (isLcl_ok h), .inr (isLcl_ok h)⟩
  · exact ⟨isLoc_ok h.2, .inl (C.fn h.1 x)⟩
theorem dg_ite {e : Expr} {c : Prop} [Decidable c] {m1 m2 : O → M Unit} (h1 : c → DG X B S e m1) (h2 : ¬ c → DG X B S e m2) : DG X B S e (if c then m1 else m2) := by
  by_cases h : c
  · rw [if_pos h]; exact h1 h
  · rw [if_neg h]; exact h2 h
theorem g1_of (K : RcOk R) (C : CtxOk X Γ B) (hS : ∀ i, Γ.ok i = true → ∀ σ v, S.r σ (σ.set i (some v))) (e : Expr) : DG X B S e (evG1 R Γ e) := by
  unfold evG1
  split
  · split
    · rename_i i h
      refine dg_ite (fun hk => ?_) fun _ => dg_stop
      obtain ⟨h1, h2⟩ := setOk_ok C hk
      exact dg_name (pg_name (by rw [C.N]; exact C.nd) (by rw [C.N]; exact ixIn_get h) h1 h2) hS
    · exact dg_stop
  · refine dg_ite (fun h => ?_) fun _ => dg_stop
    exact dg_tup C.calm (gs_of K C hS _ h) (ae_len h).1 (ae_len h).2
  · rename_i a b p
    have h := ag_of K C a
    cases q : agOf R Γ a with
    | sl i =>
      rw [q] at h
      refine dg_ite (fun _ => dg_stop) fun hs => ?_
      refine dg_put h (K.e b C) fun {ta tb} h1 h2 => pg_sub h1 h2 set_list fun v => ?_
      cases b <;> first
        | rfl
        | exact absurd rfl hs
    | ev m => exact dg_stop
  · exact dg_stop
end

/-! ### statements -/
def isCmp (e : Expr) : Bool := match e with
  | .ListComp _ _ _ _ => true
  | .SetComp _ _ _ _ => true
  | .DictComp _ _ _ _ _ => true
  | _ => false
theorem sw_no {e : Expr} (h : isCmp e = false) (t : Option Expr) (l : Nat) (env : PySem.Env) : swapsWith e t l env = pure false := by
  cases e <;> first
    | rfl
    | cases h
/-- which names are stored from the right -/
def swv (sc : Scope) (ts vs : List Expr) : Option (Option (List Str)) :=
  if (!(ts.length == 2 || ts.length == 3) || vs.length != ts.length) = true then some none
  else if (vs.any fun | .Starred .. => true | _ => false) = true then some none
  else
    let line := (ts.head?.map (·.pos.line)).getD 0
    let names := ts.filterMap fun
      | .Name id pos => if sc.names.lookup id == some .local && pos.line == line then some id else none
      | _ => none
    if (names.length != ts.length || names.eraseDups.length != names.length) = true then some none
    else if vs.all (foldedForSure 8) = true then some none
    else if vs.all (constantsAlone 8) = true then none
    else some (some names)
theorem swv_ok {sc : Scope} {ts vs : List Expr} {k1 k2 : Nat} {p1 p2 : Pos} {env : PySem.Env} {r : Option (List Str)} (hs : env.scope = sc) (hk : sc.kind = .function) (h : swv sc ts vs = some r) : swappedStores [.Tuple ts k1 p1] (.Tuple vs k2 p2) env = pure r := by
  have hb : env.blockKind = .function := by
    unfold Env.blockKind
    rw [hs, hk]
    rfl
  unfold swv at h
  unfold swappedStores Env.kindOf
  rw [hb, hs]
  simp only [bne_self_eq_false, Bool.or_false]
  split at h
  · rename_i c
    cases h
    exact if_pos c
  · rename_i c
    refine (if_neg c).trans ?_
    split at h
    · rename_i c2
      cases h
      exact if_pos c2
    · rename_i c2
      refine (if_neg c2).trans ?_
      dsimp only at h
      split at h
      · rename_i c3
        cases h
        exact if_pos c3
      · rename_i c3
        refine (if_neg c3).trans ?_
        split at h
        · rename_i c4
          cases h
          exact if_pos c4
        · rename_i c4
          refine (if_neg c4).trans ?_
          split at h
          · cases h
          · rename_i c5
            cases h
            exact if_neg c5
end Dl

namespace Dl
variable [Kc]
open PySem L2

def mPar2 (ok : Nat → Bool) (i j : Nat) (ms : M (List O)) : M Fl := bnd ms fun os => match os with
  | [a, b] => bnd (mSet ok i a) fun _ => bnd (mSet ok j b) fun _ => ret .nx
  | _ => stop
def mPar3 (ok : Nat → Bool) (i j l : Nat) (ms : M (List O)) : M Fl := bnd ms fun os => match os with
  | [a, b, c] => bnd (mSet ok i a) fun _ => bnd (mSet ok j b) fun _ => bnd (mSet ok l c) fun _ => ret .nx
  | _ => stop
/-- a, b = x, y through a tuple -/
def mUnp (n : Nat) (ms : M (List O)) (mg : List O → M Unit) : M Fl := bnd ms fun os => if os.length ≤ 1000 ∧ os.length = n then bnd (mg os) fun _ => ret .nx else stop
theorem CG.weak {R : List Addr} {H : Hp} {b : List (V × O)} {p : Addr} (c : CG (p :: R) H b) : CG R H b := by
  obtain ⟨fp, q, n⟩ := c
  have st : Stay (fun a => a ∈ p :: R ++ fp) H (fun a => a ∈ R ++ fp) H := fun a u hn e => ⟨e, fun z => hn (List.mem_cons_of_mem _ z)⟩
  exact ⟨fp, q.stay st fun _ _ => rfl, (List.nodup_cons.mp n).2⟩
def wfuel : Nat := 100000000
def evNm (Γ : Gm) (x : Str) : Option Nat := match ixIn Γ.N x with
  | some i => if setOk Γ x = true then some i else none
  | none => none
def evLn (Γ : Gm) (x : Str) : Option Nat := match ixIn Γ.N x with
  | some i => if isLcl Γ.sc x = true then some i else none
  | none => none
def evPar (R : Rc) (Γ : Gm) (ts vs : List Expr) : M Fl := match ts, vs with
  | [.Name x _, .Name y _], [a, b] => (match evLn Γ x, evLn Γ y with
    | some i, some j => if i ≠ j ∧ isStar a = false ∧ isStar b = false ∧ swv Γ.sc ts vs = some (some [x, y]) then mPar2 Γ.ok i j (evA R Γ [a, b]) else stop
    | _, _ => stop)
  | [.Name x _, .Name y _, .Name z _], [a, b, c] => (match evLn Γ x, evLn Γ y, evLn Γ z with
    | some i, some j, some l => if i ≠ j ∧ i ≠ l ∧ j ≠ l ∧ isStar a = false ∧ isStar b = false ∧ isStar c = false ∧ swv Γ.sc ts vs = some (some [x, y, z]) then mPar3 Γ.ok i j l (evA R Γ [a, b, c]) else stop
    | _, _, _ => stop)
  | _, _ => stop
def evAsg (R : Rc) (Γ : Gm) (ts : List Expr) (e : Expr) : M Fl := match ts, e with
  | [.Name x _], .ListComp elt [⟨tg, it, ifs, 0⟩] scope _ => (match evNm Γ x with
    | some i => mAsg (if isSet it = true then stop else evLc R Γ elt tg it ifs scope) (mSet Γ.ok i)
    | none => stop)
  | [.Tuple ts k p], .Tuple vs k2 p2 => (match swv Γ.sc ts vs with
    | some (some _) => evPar R Γ ts vs
    | some none => if ts.all (fun e => !isStar e) = true then mUnp ts.length (evAs R Γ vs) (evGs R Γ ts) else stop
    | none => stop)
  | [.Name x _], e => if isCmp e = true then stop else (match evNm Γ x with
    | some i => mAsg (R.e Γ e) (mSet Γ.ok i)
    | none => stop)
  | [.Tuple ts k p], e => if isCmp e = true then stop else mAsg (R.e Γ e) (R.g Γ (.Tuple ts k p))
  | [.Subscript a b p], e => if isCmp e = true then stop else mAsg (R.e Γ e) (R.g Γ (.Subscript a b p))
  | _, _ => stop
def evS1 (R : Rc) (Γ : Gm) (s : Stmt) : M Fl := match s with
  | .Expr e _ => if isCmp e = true then stop else mDo (R.e Γ e)
  | .Return (some e) _ => mRet (R.e Γ e)
  | .Return none _ => ret (.rt (.val .non))
  | .Pass _ => ret .nx
  | .Break _ => ret .bk
  | .Continue _ => ret .ct
  | .If c a b _ => mIfS (R.t Γ c) (R.s Γ a) (R.s Γ b)
  | .For tg it body [] _ => if isSet it = true then stop else mFor (evI R Γ tg it) (R.g Γ tg) (R.s Γ body)
  | .While c body [] _ => mWhile (R.t Γ c) (R.s Γ body) wfuel
  | .Assign ts e _ => evAsg R Γ ts e
  | _ => stop
def evSs (R : Rc) (Γ : Gm) : List Stmt → M Fl
  | [] => ret .nx
  | s :: ss => mSeq (evS1 R Γ s) (evSs R Γ ss)
section
variable {X : Cx} {Γ : Gm} {B : Bx} {R : Rc} {cp : List Nat}
theorem ds_ite {e : Stmt} {c : Prop} [Decidable c] {m1 m2 : M Fl} (h1 : c → DS X B cp e m1) (h2 : ¬ c → DS X B cp e m2) : DS X B cp e (if c then m1 else m2) := by
  by_cases h : c
  · rw [if_pos h]; exact h1 h
  · rw [if_neg h]; exact h2 h
theorem bfalse {b : Bool} (h : ¬ b = true) : b = false := by
  cases b with
  | false => rfl
  | true => exact absurd rfl h
theorem evNm_ok (C : CtxOk X Γ B) {x : Str} {i : Nat} (h : evNm Γ x = some i) : X.N[i]? = some x ∧ Loc X.env.scope x ∧ (X.fn x = true ∨ X.env.scope.names.lookup x = some .local) := by
  unfold evNm at h
  split at h
  · rename_i j e
    split at h
    · rename_i hk
      cases h
      exact ⟨by rw [C.N]; exact ixIn_get e, setOk_ok C hk⟩
    · cases h
  · cases h
theorem evLn_ok (C : CtxOk X Γ B) {x : Str} {i : Nat} (h : evLn Γ x = some i) : X.N[i]? = some x ∧ X.env.scope.names.lookup x = some .local := by
  unfold evLn at h
  split at h
  · rename_i j e
    split at h
    · rename_i hk
      cases h
      exact ⟨by rw [C.N]; exact ixIn_get e, by rw [C.scp]; exact isLcl_ok hk⟩
    · cases h
  · cases h
theorem cp_set (hc : ∀ i, Γ.ok i = true → i ∉ cp) : ∀ i, Γ.ok i = true → ∀ (σ : St) (v : V), CP cp σ (σ.set i (some v)) := fun i hi σ v j hj => by
  rw [List.getElem?_set_ne]
  intro e
  exact hc i hi (by rw [e]; exact hj)
theorem nd_of (C : CtxOk X Γ B) : X.N.Nodup := by rw [C.N]; exact C.nd
theorem go_set {ok : Nat → Bool} {i : Nat} {o : O} {ρ : Sl} {α : Type} {f : Unit → M α} {k : α → Sl → Prop} {b : Ex → Sl → Prop} (h : (bnd (mSet ok i o) f ρ).go k b) : ok i = true ∧ i < ρ.length ∧ (f () (ρ.set i (some o))).go k b := by
  have g := go_bnd.mp h
  unfold mSet at g
  split at g
  · rename_i c
    exact ⟨c.1, c.2, g⟩
  · exact False.elim g
theorem tA_st {α : Type} {m : M (List O)} {f : List O → M α} {k : α → Sl → Prop} {σ : St} {H : Hp} {pend : List (V × O)} {ρ : Sl} {Q : List V → Hp → Prop} (c : Conf σ H pend ρ) (h : (bnd m f ρ).go k (fun x ρ' => ∀ σ', CP cp σ σ' → B.p x ρ' pend σ'))
    (hQ : ∀ r ρ' vs H', vs.length = r.length → Conf σ H' (vs.zip r ++ pend) ρ' → (f r ρ').go k (fun x ρ' => ∀ σ', CP cp σ σ' → B.p x ρ' pend σ') → Q vs H') : tA B m σ H Q :=
  ⟨pend, ρ, c, Out.go_mono (go_bnd.mp h) (fun r ρ' _ g v H' hl c' => hQ r ρ' v H' hl c' g) fun _ _ _ g => g σ (CP.refl _ _)⟩
theorem ds_unp {s : Stmt} {ts vs : List Expr} {k k2 n : Nat} {p p2 : Pos} {ms : M (List O)} {mg : List O → M Unit} (hc : X.calm = true) (ha : DA X B vs ms) (hg : DGs X B (srC cp) ts mg) (hn : (assignEach ts X.env).length = n) (hst : (assignEach ts X.env).findIdx? (·.1) = none)
    (hp : ∀ {te : TE} {g : TG}, PE X (.Tuple vs k2 p2) te → PG X (.Tuple ts k p) g → PS X s (tAsg te g)) : DS X B cp s (mUnp n ms mg) := by
  refine (hp (pe_tup ha) (pg_tup hc hg hn hst)).imp fun D σ H ⟨pend, ρ, c, g⟩ => ?_
  refine tA_st c g fun os ρ1 vs H1 hl c1 g1 => ?_
  split at g1
  · rename_i hz
    refine ⟨by rw [hl]; exact sz1000 hz.1, fun q hq => ?_⟩
    have c2 : Conf σ (upd H1 q (.tup vs)) (vs.zip os ++ pend) ρ1 := ⟨c1.sh, ((c1.ci.fresh hq (by simp)).write (.tup vs)).weak⟩
    exact ⟨q, vs, rfl, sq_t upd_same, hl.trans hz.2, pend, ρ1, os, hl, c2, Out.go_mono (go_bnd.mp g1) (fun _ ρ2 _ g2 => g2) fun x ρ2 _ g2 => g2⟩
  · exact False.elim g1
theorem par_of (K : RcOk R) (C : CtxOk X Γ B) (hc : ∀ i, Γ.ok i = true → i ∉ cp) {ts vs : List Expr} {k k2 : Nat} {p p2 pos : Pos} : DS X B cp (.Assign [.Tuple ts k p] (.Tuple vs k2 p2) pos) (evPar R Γ ts vs) := by
  unfold evPar
  split
  · rename_i x px y py a b
    split
    · rename_i i j hi hj
      refine ds_ite (fun h => ?_) fun _ => ds_stop
      obtain ⟨hij, h1, h2, hsw⟩ := h
      obtain ⟨i1, i2⟩ := evLn_ok C hi
      obtain ⟨j1, j2⟩ := evLn_ok C hj
      refine (ps_par C.calm (nd_of C) i1 j1 hij i2 j2 (da_of K C [a, b]) (swv_ok C.scp C.kind hsw)).imp fun D σ H ⟨pend, ρ, c, g⟩ => ?_
      refine tA_st c g fun os ρ1 vs H1 hl c1 g1 => ?_
      match os, vs, hl with
      | [o1, o2], [v, w], _ =>
        obtain ⟨k1, l1, g2⟩ := go_set g1
        obtain ⟨k2, l2, g3⟩ := go_set g2
        have c2 : Conf (σ.set i (some v)) H1 ((w, o2) :: pend) (ρ1.set i (some o1)) := Conf.put (v := v) (o := o1) c1 (by rw [c1.sh.len]; exact l1)
        have c3 : Conf ((σ.set i (some v)).set j (some w)) H1 pend ((ρ1.set i (some o1)).set j (some o2)) := c2.put (by rw [c2.sh.len]; exact l2)
        exact ⟨v, w, rfl, g3 _ _ c3 ((cp_set hc i k1 σ v).trans (cp_set hc j k2 _ w))⟩
      | [], _, _ => exact False.elim g1
      | [_], _, _ => exact False.elim g1
      | _ :: _ :: _ :: _, _, _ => exact False.elim g1
    · exact ds_stop
  · rename_i x px y py z pz a b c
    split
    · rename_i i j l hi hj hl
      refine ds_ite (fun h => ?_) fun _ => ds_stop
      obtain ⟨hij, hil, hjl, h1, h2, h3, hsw⟩ := h
      obtain ⟨i1, i2⟩ := evLn_ok C hi
      obtain ⟨j1, j2⟩ := evLn_ok C hj
      obtain ⟨l1, l2⟩ := evLn_ok C hl
      refine (ps_par3 C.calm (nd_of C) i1 j1 l1 hij hil hjl i2 j2 l2 (da_of K C [a, b, c]) (swv_ok C.scp C.kind hsw)).imp fun D σ H ⟨pend, ρ, c, g⟩ => ?_
      refine tA_st c g fun os ρ1 vs H1 hl c1 g1 => ?_
      match os, vs, hl with
      | [o1, o2, o3], [v, w, u], _ =>
        obtain ⟨k1, l1, g2⟩ := go_set g1
        obtain ⟨k2, l2, g3⟩ := go_set g2
        obtain ⟨k3, l3, g4⟩ := go_set g3
        have c2 : Conf (σ.set i (some v)) H1 ((w, o2) :: (u, o3) :: pend) (ρ1.set i (some o1)) := Conf.put (v := v) (o := o1) c1 (by rw [c1.sh.len]; exact l1)
        have c3 : Conf ((σ.set i (some v)).set j (some w)) H1 ((u, o3) :: pend) ((ρ1.set i (some o1)).set j (some o2)) := c2.put (by rw [c2.sh.len]; exact l2)
        have c4 : Conf (((σ.set i (some v)).set j (some w)).set l (some u)) H1 pend (((ρ1.set i (some o1)).set j (some o2)).set l (some o3)) := c3.put (by rw [c3.sh.len]; exact l3)
        exact ⟨v, w, u, rfl, g4 _ _ c4 (((cp_set hc i k1 σ v).trans (cp_set hc j k2 _ w)).trans (cp_set hc l k3 _ u))⟩
      | [], _, _ => exact False.elim g1
      | [_], _, _ => exact False.elim g1
      | [_, _], _, _ => exact False.elim g1
      | _ :: _ :: _ :: _ :: _, _, _ => exact False.elim g1
    · exact ds_stop
  · exact ds_stop
theorem asg_of (K : RcOk R) (C : CtxOk X Γ B) (hc : ∀ i, Γ.ok i = true → i ∉ cp) (ts : List Expr) (e : Expr) (pos : Pos) : DS X B cp (.Assign ts e pos) (evAsg R Γ ts e) := by
  have hS := cp_set hc
  unfold evAsg
  split
  · rename_i x px elt tg it ifs scope cpos
    split
    · rename_i i hi
      obtain ⟨h1, h2, h3⟩ := evNm_ok C hi
      have key : ∃ b : Bool, swapsWith (.ListComp elt [⟨tg, it, ifs, 0⟩] scope cpos) (some (.Name x px)) pos.line X.env = pure b ∧ (b = true → X.env.scope.names.lookup x = some .local) := by
        refine ⟨(X.env.blockKind == .function && X.env.kindOf x == some .local && px.line == cpos.line && !(scope.names.any fun (n, k) => n == x && (k == .local || k == .cell))), rfl, fun h => ?_⟩
        simp only [Bool.and_eq_true, beq_iff_eq] at h
        exact h.1.1.2
      obtain ⟨b, hb, hl⟩ := key
      cases b with
      | true => exact (lcs_of K C).2 h1 (hl rfl) hb hS
      | false => exact ds_set (lcs_of K C).1 (fun {te} he => ps_set (nd_of C) h1 h2 he hb h3) hS
    · exact ds_stop
  · rename_i ts k p vs k2 p2
    split
    · exact par_of K C hc
    · rename_i hsw
      refine ds_ite (fun ht => ?_) fun _ => ds_stop
      exact ds_unp C.calm (das_of K C _) (gs_of K C hS _ ht) (ae_len ht).1 (ae_len ht).2 fun {te g} h1 h2 => ps_asg h1 h2 rfl (swv_ok C.scp C.kind hsw) rfl
    · exact ds_stop
  · rename_i x px e h0
    refine ds_ite (fun _ => ds_stop) fun hcm => ?_
    split
    · rename_i i hi
      obtain ⟨h1, h2, h3⟩ := evNm_ok C hi
      exact ds_set (K.e _ C) (fun {te} he => ps_set (nd_of C) h1 h2 he (sw_no (bfalse hcm) _ _ _) h3) hS
    · exact ds_stop
  · rename_i ts k p h0
    refine ds_ite (fun _ => ds_stop) fun hcm => ?_
    refine ds_asg (K.e _ C) (K.g _ C hS) fun {te g} h1 h2 => ps_asg h1 h2 (by show swapsWith e (some (.Tuple ts k p)) pos.line X.env = pure false; exact sw_no (bfalse hcm) _ _ _) ?_ rfl
    cases e <;> first
      | rfl
      | exact False.elim (h0 _ _ _ rfl)
  · rename_i a b p
    refine ds_ite (fun _ => ds_stop) fun hcm => ?_
    exact ds_asg (K.e _ C) (K.g _ C hS) fun {te g} h1 h2 => ps_asg h1 h2 (by show swapsWith e (some (.Subscript a b p)) pos.line X.env = pure false; exact sw_no (bfalse hcm) _ _ _) rfl rfl
  · exact ds_stop
theorem s1_of (K : RcOk R) (C : CtxOk X Γ B) (hc : ∀ i, Γ.ok i = true → i ∉ cp) (s : Stmt) : DS X B cp s (evS1 R Γ s) := by
  unfold evS1
  split
  · exact ds_ite (fun _ => ds_stop) fun h => ds_expr (K.e _ C) fun {t} he => ps_expr he (sw_no (bfalse h) _ _ _)
  · exact ds_ret (K.e _ C)
  · exact ds_retN
  · exact ds_pass
  · exact ds_break
  · exact ds_cont
  · exact ds_if (K.t _ C) (K.s _ C hc) (K.s _ C hc)
  · exact ds_ite (fun _ => ds_stop) fun h => ds_for C.po C.calm (i_of K C _ _) (K.g _ C (cp_set hc)) (K.s _ C hc) (isSet_no (bfalse h) _)
  · exact ds_while wfuel C.po (K.t _ C) (K.s _ C hc)
  · exact asg_of K C hc _ _ _
  · exact ds_stop
theorem ss_of (K : RcOk R) (C : CtxOk X Γ B) (hc : ∀ i, Γ.ok i = true → i ∉ cp) : ∀ ss : List Stmt, DSs X B cp ss (evSs R Γ ss)
  | [] => dss_nil
  | s :: ss => dss_cons (s1_of K C hc s) (ss_of K C hc ss)
end
def rc : Nat → Rc
  | 0 => ⟨fun _ _ => stop, fun _ _ => stop, fun _ _ _ => stop, fun _ _ => stop⟩
  | n + 1 => ⟨evE1' (rc n), evT1 (rc n), evG1 (rc n), evSs (rc n)⟩
theorem rc_ok : ∀ n : Nat, RcOk (rc n)
  | 0 => ⟨fun _ _ => de_stop, fun _ _ => dt_stop, fun _ _ _ => dg_stop, fun _ _ _ => dss_stop⟩
  | n + 1 => ⟨fun e C => e1_of (rc_ok n) C e, fun e C => t1_of (rc_ok n) C e, fun e C h => g1_of (rc_ok n) C h e, fun e C h => ss_of (rc_ok n) C h e⟩
end Dl

namespace Dl
variable [Kc]
open PySem L2 PySem.Spec PyProof.Rows

/-- the fuel of the texts -/
def fuel : Nat := 60
def gmOf (N : List Str) (st : Stmt) (fs : List Bool) (F : List (Str × FM × Nat)) (cst : List (Str × D)) (blt : List Str) : Gm :=
  { N := N, sc := defScope st, F := F, cst := cst, blt := blt, ok := fun i => !(cpOf fs).contains i, top := true }
/-- what a def of the text does -/
def mOf (N : List Str) (st : Stmt) (fs : List Bool) (F : List (Str × FM × Nat)) (cst : List (Str × D)) (blt : List Str) : FM := mDef N.length fs ((rc fuel).s (gmOf N st fs F cst blt) (defBody st))
section
variable {P : Program} {w : World} {K : PySem.W.Frag} {mg : Str → Option Value} {base : Heap} {xh : XH}
structure F1 (P : Program) (w : World) (K : PySem.W.Frag) (mg : Str → Option Value) (base : Heap) (xh : XH) (k : Nat) (x : Str) (q : FM × Nat) : Prop where
  fl : FLen q.1
  ex : ∃ (f : Addr) (fd : FuncData) (ps : List Str), ps.length = q.2 ∧ FnG P w K mg base (L2.CX P w) k f fd ps (spM xh ps.length q.1) ∧ mg x = some (.ref f) ∧ PySem.W.keepIn K (.ref f) = true ∧ Binds K fd ps []
def FSt (P : Program) (w : World) (K : PySem.W.Frag) (mg : Str → Option Value) (base : Heap) (xh : XH) (k : Nat) (F : List (Str × FM × Nat)) : Prop := ∀ x q, F.lookup x = some q → F1 P w K mg base xh k x q
theorem FnG.mono {CX : CXT} {j k : Nat} {f : Addr} {fd : FuncData} {ps : List Str} {sp : Sp} (F : FnG P w K mg base CX j f fd ps sp) (h : j ≤ k) : FnG P w K mg base CX k f fd ps sp :=
  ⟨F.len, fun A outer s H args us vs Q E hr => F.run A outer s H args us vs Q E (hr.mono h)⟩
theorem FSt.mono {j k : Nat} {F : List (Str × FM × Nat)} (h : FSt P w K mg base xh j F) (hk : j ≤ k) : FSt P w K mg base xh k F := fun x q hq => by
  obtain ⟨fl, f, fd, ps, e, G, r⟩ := h x q hq
  exact ⟨fl, f, fd, ps, e, G.mono hk, r⟩
theorem FSt.nil {k : Nat} : FSt P w K mg base xh k [] := fun x q h => by cases h
theorem guards_deeper {A : Around} {env : PySem.Env} (h : A.guards = some []) : (A.deeper env).guards = some [] := h
/-- a def's context -/
theorem cx_ok {N ps : List Str} {st : Stmt} {fs : List Bool} {F : List (Str × FM × Nat)} {cst : List (Str × D)} {blt : List Str} {k : Nat} {qual : Str} {f : Addr} {cd : Value} {A : Around} {outer : List PySem.Env} {s : Shared} {H : Hp} {E : XK} (hK : K = Kc.k)
    (S : FnScope N ps (defScope st)) (FS : FSt P w K mg base xh k F) (hc : ∀ x d, cst.lookup x = some d → ∃ u v, mg x = some u ∧ sc d = some v ∧ RelV v u) (hb : ∀ x, x ∈ blt → mg x = none)
    (hr : Room k (A.deeper (envOfC qual (defScope st) s.heap.objs.size f cd))) (hg : A.guards = some []) :
    CtxOk (cxOf (L2.CX P w) P w K mg base N qual (defScope st) f cd A outer s H E) (gmOf N st fs F cst blt) (BE xh E) := by
  refine ⟨rfl, S.nd, rfl, S.kind, rfl, hK, guards_deeper hg, hr.units, fun _ _ => rfl, PassesOwn.leaving, fun x q hq => ?_, hc, hb⟩
  obtain ⟨fl, f', fd, ps', e, G, h1, h2, h3⟩ := FS x q hq
  refine ⟨fl, k, f', fd, ps', xh, e, G, hr, h1, h2, h3, fun σ => ?_⟩
  intro pins H' s' e s'' I cx
  exact passes_call (takes_of (E := E) rfl rfl rfl rfl) (fun cls d σ' H z => by
    obtain ⟨x, ρ, pend, z1, z2, z3⟩ := z
    exact z1 z2 cls d H z3) pins σ H' s' e s'' I cx
theorem step {N ps : List Str} {st : Stmt} {fs : List Bool} {F : List (Str × FM × Nat)} {cst : List (Str × D)} {blt : List Str} {k : Nat} {x qual : Str} {f : Addr} {fd : FuncData} (hK : K = Kc.k) (FS : FSt P w K mg base xh k F)
    (hc : ∀ x d, cst.lookup x = some d → ∃ u v, mg x = some u ∧ sc d = some v ∧ RelV v u) (hb : ∀ x, x ∈ blt → mg x = none) (Fn : Fun K x qual st f fd) (S : FnScope N ps (defScope st)) (hfs : fs.length = ps.length) (hm : mg x = some (.ref f)) (bi : Binds K fd ps []) :
    F1 P w K mg base xh (k + 1) x (mOf N st fs F cst blt, ps.length) := by
  refine ⟨fun args => mDef_len, f, fd, ps, rfl, ?_, hm, Fn.kp, bi⟩
  refine fnG_def Fn S hfs fun cd A outer s H E hr hg => ?_
  exact (rc_ok fuel).s _ (cx_ok hK S FS hc hb hr hg) fun i hi hm => by
    have h1 : (!(cpOf fs).contains i) = true := hi
    have h2 : (cpOf fs).contains i = true := List.contains_iff_mem.mpr hm
    rw [h2] at h1
    cases h1
theorem FSt.cons {k : Nat} {x : Str} {q : FM × Nat} {F : List (Str × FM × Nat)} (h : F1 P w K mg base xh k x q) (hF : FSt P w K mg base xh k F) : FSt P w K mg base xh k ((x, q) :: F) := fun y r hr => by
  rw [List.lookup_cons] at hr
  split at hr
  · rename_i e
    cases hr
    have e' : y = x := by simpa using e
    rw [e']
    exact h
  · exact hF y r hr
end

/-! ### the end of a law -/
section
variable {P : Program} {w : World} {K : PySem.W.Frag} {mg mb : Str → Option Value} {CX : CXT} {k : Nat} {fa a : Addr} {fd : FuncData} {x : Str} {sp : Sp} {s1 : Shared} {vs : List Value} {ns : List Int}
/-- from a heap in which at most the script is known -/
theorem core_G (kx : K.In s1.heap) (gn : s1.heap.Ns mainGlobals mg) (bn : s1.heap.Ns builtinsNs mb) (bb : ∀ x : Str, x ≠ "__name__" → mb x = bootBuiltins x) (lim : s1.heap.NoLimit) (hg : s1.gens = #[])
    (ha : s1.heap.get? a = some { cls := .type "list", data := .seq vs.toArray }) (hr : Room k callerA) (F : ∀ base : Heap, K.In base → base.Ns mainGlobals mg → FnG P w K mg base CX k fa fd [x] sp)
    (hbind : ∀ (s : Shared) (u : Value), BindsTo s fd ⟨[u], []⟩ [(x, u)]) (hCX : ∀ H e s', CX [] H s1 (fun _ _ _ => False) e s' → False)
    (H : Hp) (hO : Only H) (hsp : sp [.ref a] H (fun v _ => v = .bl true) fun _ _ _ => False) (hok : HOk P w H s1.heap) (only : ∀ b, H b ≠ none → b = a) (hKa : H a ≠ none → K.lookup a = none) :
    codeAny (model P w) callerA (.call (.ref fa) ⟨[.ref a], []⟩) (fun r s' => r = .ok (.ret (.bool true)) ∧ OldK s1.heap s'.heap ∧ s'.os = s1.os ∧ AllBare s'.gens) s1 := by
  have free : ∀ {b : Addr}, b ≠ a → H b = none := fun {b} h => Classical.byContradiction fun z => h (only b z)
  have inB : ∀ {b : Addr} {o : Obj}, s1.heap.get? b = some o → H b = none → (hidT s1.heap H).get? b = some o := fun e n => hidT_get e n
  have dictF : ∀ {b : Addr} {o : Obj} {es : Array DictEntry} {ep : Nat}, s1.heap.get? b = some o → o.data = .dict es ep → H b = none := by
    intro b o es ep e d
    refine free fun z => ?_
    rw [z, ha] at e
    cases e
    have d' : Data.seq vs.toArray _ = Data.dict es ep := d
    cases d'
  have ns' : ∀ {b : Addr} {m : Str → Option Value}, s1.heap.Ns b m → (hidT s1.heap H).Ns b m := by
    intro b m q
    obtain ⟨o, es, ep, e, d, r⟩ := q
    exact ⟨o, es, ep, inB e (dictF e d), d, r⟩
  have kB : K.In (hidT s1.heap H) := by
    intro b o e
    refine inB (kx b o e) ?_
    by_cases hb : b = a
    · subst hb
      refine Classical.byContradiction fun z => ?_
      rw [hKa z] at e
      cases e
    · exact free hb
  have md : Mod K mg (hidT s1.heap H) := by
    obtain ⟨mc, l1, l2⟩ := lim
    exact ⟨kB, ns' gn, ⟨mb, ns' bn, bb⟩, mc, ns' l1, l2⟩
  have nofr : ∀ b : Addr, b ∉ frs ([] : List PySem.Env) := fun b hb => by simp [frs] at hb
  have env0 : Env0 P w K mg (hidT s1.heap H) callerA [] s1 H :=
    ⟨rfl, md, fun b o e => of_hidT e, Nat.le_of_eq (hidT_size _ _), trivial, fun b hb => absurd hb (nofr b), hok, .of_eq hg⟩
  have run := (F _ kB (ns' gn)).run callerA [] s1 H ⟨[.ref a], []⟩ [.ref a] [.ref a] _ _ hr rfl env0 (hbind s1 (.ref a)) (.cons rfl .nil) hsp
  refine codeAny_mono run fun r s' h => ?_
  rcases r with e | fl
  · exact (hCX H e s' h).elim
  cases fl with
  | next => exact False.elim h
  | brk => exact False.elim h
  | cont => exact False.elim h
  | ret u =>
    obtain ⟨v, H', os, bare, un, hok', rv, q⟩ := h
    have q' : v = .bl true := q
    subst q'
    have eu : u = Value.bool true := rv
    subst eu
    refine ⟨rfl, OldK.of_keep fun b o e => ?_, os, bare⟩
    rcases hO b with z | ⟨ob, xs, z⟩
    · exact un.keep b o e z (nofr b) (by simp)
    · have z2 := un.frzs b ob _ z
      have e1 := (hok b _ z).1
      have e2 := (hok' b _ z2).1
      rw [e] at e1
      cases e1
      exact e2
theorem law_G (kx : K.In s1.heap) (gn : s1.heap.Ns mainGlobals mg) (bn : s1.heap.Ns builtinsNs mb) (bb : ∀ x : Str, x ≠ "__name__" → mb x = bootBuiltins x) (lim : s1.heap.NoLimit) (hg : s1.gens = #[])
    (ha : s1.heap.get? a = some { cls := .type "list", data := .seq vs.toArray }) (hi : IntsAre vs ns) (hl : ns.length ≤ sizeLine) (hr : Room k callerA)
    (F : ∀ base : Heap, K.In base → base.Ns mainGlobals mg → FnG P w K mg base CX k fa fd [x] sp) (hbind : ∀ (s : Shared) (u : Value), BindsTo s fd ⟨[u], []⟩ [(x, u)])
    (hsp : ∀ H : Hp, Only H → ((∃ o, H a = some (.frz o (.lst (ns.map V.int)))) ∨ KL K a (ns.map V.int)) → sp [.ref a] H (fun v _ => v = .bl true) fun _ _ _ => False) (hCX : ∀ H e s', CX [] H s1 (fun _ _ _ => False) e s' → False) :
    codeAny (model P w) callerA (.call (.ref fa) ⟨[.ref a], []⟩) (fun r s' => r = .ok (.ret (.bool true)) ∧ OldK s1.heap s'.heap ∧ s'.os = s1.os ∧ AllBare s'.gens) s1 := by
  have rv := vals_ints hi
  have lenV := hi.length
  cases hk : K.lookup a with
  | some o =>
    have e := kx a o hk
    rw [ha] at e
    cases e
    have kl : KL K a (ns.map V.int) := ⟨_, vs.toArray, _, hk, rfl, rfl, rfl, by rw [List.size_toArray, lenV]; exact hl, by simpa using rv⟩
    exact core_G kx gn bn bb lim hg ha hr F hbind hCX (fun _ => none) (fun _ => .inl rfl) (hsp _ (fun _ => .inl rfl) (.inr kl)) (fun b u z => nomatch z) (fun b z => absurd rfl z) fun z => absurd rfl z
  | none =>
    let ob : Obj := { cls := .type "list", data := .seq vs.toArray }
    let H : Hp := fun b => if b = a then some (.frz ob (.lst (ns.map V.int))) else none
    have hHa : H a = some (.frz ob (.lst (ns.map V.int))) := if_pos rfl
    have hHo : ∀ b, b ≠ a → H b = none := fun b hb => if_neg hb
    have on : Only H := fun b => by
      by_cases hb : b = a
      · exact .inr ⟨ob, ns.map V.int, by rw [hb]; exact hHa⟩
      · exact .inl (hHo b hb)
    refine core_G kx gn bn bb lim hg ha hr F hbind hCX H on (hsp H on (.inl ⟨ob, hHa⟩)) (fun b u z => ?_) (fun b z => ?_) fun _ => hk
    · by_cases hb : b = a
      · subst hb
        rw [hHa] at z
        cases z
        exact ⟨ha, by rw [List.length_map]; exact hl, vs, _, rv, ha⟩
      · rw [hHo b hb] at z
        cases z
    · exact Classical.byContradiction fun hb => z (hHo b hb)
end
end Dl
namespace Dl
open PySem L2 PySem.Spec PyProof.Rows
theorem cx_no {P : Program} {w : World} {outer : List PySem.Env} {H : Hp} {s s' : Shared} {e : Value} (h : L2.CX P w outer H s (fun _ _ _ => False) e s') : False := by
  obtain ⟨_, _, _, _, _, _, _, _, _, _, _, _, z⟩ := h
  exact z.elim
theorem walk_G {l : PySem.W.OpenLaw} {n k : Nat} {q : Program} {loose : List Str} {XP : (Str → Option Value) → Heap → Prop} {YP : World → Heap → Prop} {d : DefRec} {K : Params → PySem.W.Frag} {x : Str} {xh : XH} {m : FM}
    (hn : l.most = some n) (hn2 : n ≤ sizeLine) (hdf : d.params.defaults = []) (hr : Room k callerA) (hY : ∀ (w : World) (h : Heap), YP w h → (K w.params).In h)
    (F : ∀ (w : World) (mg : Str → Option Value) (fa : Addr) (h : Heap), (K w.params).In h → h.Ns mainGlobals mg → mg d.name = some (.ref fa) →
      ∃ fd : FuncData, (∀ (s : Shared) (u : Value), BindsTo s fd ⟨[u], []⟩ [(x, u)]) ∧
        ∀ base : Heap, (K w.params).In base → base.Ns mainGlobals mg → FnG l.prog w (K w.params) mg base (L2.CX l.prog w) k fa fd [x] (@spM ⟨K w.params⟩ xh 1 m))
    (hm : ∀ ns : List Int, ns.length ≤ n → ∃ o, m [.val (.fl ns)] = .ok (.val (.bl true)) [o]) : PySem.W.WalkO q loose XP YP l.row.toRowW d [] (fun f vs => PySem.call f vs) := by
  refine Att.attach_call hn hdf fun w s₀ s₁ mg mb fa o pm cd doc a vs ns G Y ho hd hcd hmg hobj hints hlen hg => ?_
  letI : Kc := ⟨K w.params⟩
  have kx := hY w _ Y
  obtain ⟨fd, hb, hF⟩ := F w mg fa _ kx G.T.g hmg
  refine law_G kx G.T.g G.T.b G.T.builtins G.T.nolimit hg hobj hints (Nat.le_trans hlen hn2) hr hF hb (fun H hO hS => ?_) fun H e s' => cx_no
  obtain ⟨o', e'⟩ := hm ns hlen
  refine ⟨rfl, [], [.val (.fl ns)], rfl, ?_, ?_⟩
  · refine ⟨[], ?_, List.nodup_nil⟩
    refine @RIs.cons ⟨K w.params⟩ _ _ _ _ _ [] [] (.val (.fl ?_)) .nil
    rcases hS with ⟨ob, h⟩ | h
    · exact .inl ⟨by simp, ob, h⟩
    · exact .inr h
  · rw [e']
    exact ⟨rfl, fun v H' c => CG.bl c⟩
end Dl

namespace Dl
open PySem L2

@[simp] theorem sum_ii (i j : Int) : sumF (.int i) (.int j) = some (.val (.int (i + j))) := rfl
theorem sum_ll (x y : List D) (h : x.length + y.length ≤ 1000000) : sumF (.lst x) (.lst y) = some (.lst ((x ++ y).map O.val)) := by
  simp only [sumF, iiI, ssS, llL, Option.map_none, if_pos h]
theorem sum_tt (x y : List D) (h : x.length + y.length ≤ 1000000) : sumF (.tup x) (.tup y) = some (.val (.tup (x ++ y))) := by
  simp only [sumF, iiI, ssS, llL, ttT, Option.map_none, if_pos h]
theorem lim_of {i : Int} (h1 : -(2 ^ 1000) < i) (h2 : i < 2 ^ 1000) : i.natAbs < lim4 := by
  have h : i.natAbs < 2 ^ 1000 := by omega
  exact Nat.lt_of_lt_of_le h (Nat.pow_le_pow_right (by decide) (by decide))
@[simp] theorem bin_add (d e : D) : binF .Add d e = sumF d e := rfl
@[simp] theorem bin_sub (i j : Int) : binF .Sub (.int i) (.int j) = some (.val (.int (i - j))) := rfl
theorem bin_mul (i j : Int) (h : i.natAbs < lim4) (h' : j.natAbs < lim4) : binF .Mult (.int i) (.int j) = some (.val (.int (i * j))) := by
  show (match (if okMul i j = true then some (D.int (i * j)) else none).map O.val with
    | some o => some o
    | none => lnL (.int i) (.int j)) = _
  rw [if_pos (by simp [okMul, h, h'])]
  rfl
theorem bin_div (i j : Int) (h : 0 < j) (h' : j.natAbs < lim4) : binF .FloorDiv (.int i) (.int j) = some (.val (.int (i / j))) := by
  show (if okDiv i j = true then some (D.int (i / j)) else none).map O.val = _
  rw [if_pos (by simp [okDiv, h, h'])]
  rfl
theorem bin_mod (i j : Int) (h : 0 < j) : binF .Mod (.int i) (.int j) = some (.val (.int (i % j))) := by
  show (if decide (0 < j) = true then some (D.int (i % j)) else none).map O.val = _
  rw [if_pos (by simp [h])]
  rfl
theorem bin_pow (i j : Int) (h : 0 ≤ j) (h2 : j ≤ 1000) (h' : i.natAbs < 2 ^ 64) : binF .Pow (.int i) (.int j) = some (.val (.int (i ^ j.toNat))) := by
  show (if okPow i j = true then some (D.int (i ^ j.toNat)) else none).map O.val = _
  rw [if_pos (by simp [okPow, h, h2, h'])]
  rfl
@[simp] theorem cmp_lt (i j : Int) : cmpF .Lt (.int i) (.int j) = some (.bl (decide (i < j))) := rfl
@[simp] theorem cmp_le (i j : Int) : cmpF .LtE (.int i) (.int j) = some (.bl (decide (i ≤ j))) := rfl
@[simp] theorem cmp_gt (i j : Int) : cmpF .Gt (.int i) (.int j) = some (.bl (decide (j < i))) := rfl
@[simp] theorem cmp_ge (i j : Int) : cmpF .GtE (.int i) (.int j) = some (.bl (decide (j ≤ i))) := rfl
theorem bnd_ok {α β : Type} {m : M α} {f : α → M β} {ρ ρ' : Sl} {a : α} (h : m ρ = .ok a ρ') : bnd m f ρ = f a ρ' := by unfold bnd; rw [h]
theorem bnd_ret {α β : Type} {f : α → M β} {ρ : Sl} {a : α} : bnd (ret a) f ρ = f a ρ := rfl
theorem lift_some {α : Type} (a : α) : lift (some a) = ret a := rfl
theorem ret_ap {α : Type} (a : α) (ρ : Sl) : ret a ρ = .ok a ρ := rfl
/-- a loop that runs through -/
theorem loop_ok {t : O → M Unit} {b : M Fl} (I : Nat → Sl → Prop) : ∀ (ds : List D) (k : Nat) (ρ : Sl), I k ρ →
    (∀ i d ρ, ds[i]? = some d → I (k + i) ρ → ∃ ρ1 f ρ2, t (.val d) ρ = .ok () ρ1 ∧ b ρ1 = .ok f ρ2 ∧ (f = .nx ∨ f = .ct) ∧ I (k + i + 1) ρ2) → ∃ ρ', mLoop t b ds ρ = .ok .nx ρ' ∧ I (k + ds.length) ρ'
  | [], k, ρ, h0, _ => ⟨ρ, rfl, h0⟩
  | d :: ds, k, ρ, h0, hs => by
    obtain ⟨ρ1, f, ρ2, h1, h2, hf, h3⟩ := hs 0 d ρ rfl h0
    obtain ⟨ρ', h4, h5⟩ := loop_ok I ds (k + 1) ρ2 h3 fun i d' ρ' hd hi => by
      have := hs (i + 1) d' ρ' (by simpa using hd) (by rw [show k + (i + 1) = k + 1 + i by omega]; exact hi)
      rw [show k + 1 + i + 1 = k + (i + 1) + 1 by omega]
      exact this
    refine ⟨ρ', ?_, by rw [List.length_cons, show k + (ds.length + 1) = k + 1 + ds.length by omega]; exact h5⟩
    rw [mLoop, bnd_ok h1, bnd_ok h2]
    rcases hf with rfl | rfl <;> exact h4
theorem comps_ok {vs : List Nat} {t : O → M Unit} {c : M Bool} {e : M O} (I : Nat → List O → Sl → Prop) : ∀ (ds : List D) (k : Nat) (acc : List O) (ρ : Sl), I k acc ρ →
    (∀ i d acc ρ, ds[i]? = some d → I (k + i) acc ρ → ∃ ρ1 b ρ2, t (.val d) ρ = .ok () ρ1 ∧ c ρ1 = .ok b ρ2 ∧ (b = true → ∃ o ρ3, e ρ2 = .ok o ρ3 ∧ I (k + i + 1) (acc ++ [o]) (wipeO ρ3 vs)) ∧ (b = false → I (k + i + 1) acc (wipeO ρ2 vs))) →
    ∃ os ρ', mComps vs t c e ds acc ρ = .ok os ρ' ∧ I (k + ds.length) os ρ'
  | [], k, acc, ρ, h0, _ => ⟨acc, ρ, rfl, h0⟩
  | d :: ds, k, acc, ρ, h0, hs => by
    obtain ⟨ρ1, b, ρ2, h1, h2, ht, hf⟩ := hs 0 d acc ρ rfl h0
    have next : ∀ acc' ρ3, I (k + 1) acc' ρ3 → ∃ os ρ', mComps vs t c e ds acc' ρ3 = .ok os ρ' ∧ I (k + (d :: ds).length) os ρ' := fun acc' ρ3 h3 => by
      have := comps_ok I ds (k + 1) acc' ρ3 h3 fun i d' acc'' ρ' hd hi => by
        have := hs (i + 1) d' acc'' ρ' (by simpa using hd) (by rw [show k + (i + 1) = k + 1 + i by omega]; exact hi)
        rw [show k + 1 + i + 1 = k + (i + 1) + 1 by omega]
        exact this
      rw [List.length_cons, show k + (ds.length + 1) = k + 1 + ds.length by omega]
      exact this
    cases b with
    | true =>
      obtain ⟨o, ρ3, h3, h4⟩ := ht rfl
      obtain ⟨os, ρ', h5, h6⟩ := next _ _ h4
      refine ⟨os, ρ', ?_, h6⟩
      rw [mComps, bnd_ok h1, bnd_ok h2, if_pos rfl, bnd_ok h3]
      exact h5
    | false =>
      obtain ⟨os, ρ', h5, h6⟩ := next _ _ (hf rfl)
      refine ⟨os, ρ', ?_, h6⟩
      rw [mComps, bnd_ok h1, bnd_ok h2, if_neg (by decide)]
      exact h5
/-- a comprehension over data that changes nothing -/
theorem comps_map {α : Type} {vs : List Nat} {t : O → M Unit} {c : M Bool} {e : M O} {ρ : Sl} (f : α → D) (g : α → O) : ∀ (xs : List α) (acc : List O),
    (∀ x ∈ xs, ∃ ρ1 ρ2 ρ3, t (.val (f x)) ρ = .ok () ρ1 ∧ c ρ1 = .ok true ρ2 ∧ e ρ2 = .ok (g x) ρ3 ∧ wipeO ρ3 vs = ρ) → mComps vs t c e (xs.map f) acc ρ = .ok (acc ++ xs.map g) ρ
  | [], acc, _ => by simp [mComps, ret]
  | x :: xs, acc, h => by
    obtain ⟨ρ1, ρ2, ρ3, h1, h2, h3, h4⟩ := h x List.mem_cons_self
    have ih := comps_map f g xs (acc ++ [g x]) fun y hy => h y (List.mem_cons_of_mem _ hy)
    rw [List.map_cons, mComps, bnd_ok h1, bnd_ok h2, if_pos rfl, bnd_ok h3]
    show mComps vs t c e (xs.map f) (acc ++ [g x]) (wipeO ρ3 vs) = _
    rw [h4, ih]
    simp
theorem comp_ok {vs : List Nat} {i : M (List D)} {t : O → M Unit} {c : M Bool} {e : M O} {ρ ρ1 ρ2 : Sl} {ds : List D} {os : List O} (h1 : i ρ = .ok ds ρ1) (hl : ds.length ≤ 1000000) (h2 : mComps vs t c e ds [] (wipeO ρ1 vs) = .ok os ρ2) : mComp vs i t c e ρ = .ok (.lst os) ρ2 := by
  unfold mComp
  rw [bnd_ok h1, if_pos hl]
  unfold noEx
  have h3 : bnd (mWipe vs) (fun _ => bnd (mComps vs t c e ds []) fun os => ret (O.lst os)) ρ1 = .ok (.lst os) ρ2 := by
    show bnd (mComps vs t c e ds []) (fun os => ret (O.lst os)) (wipeO ρ1 vs) = _
    rw [bnd_ok h2]
    rfl
  rw [h3]
end Dl

namespace Dl
open PySem L2
section
variable {α β : Type}
@[simp] theorem bnd_ap (m : M α) (f : α → M β) (ρ : Sl) : bnd m f ρ = (match m ρ with
  | .ok a ρ' => f a ρ'
  | .ex x ρ' => .ex x ρ'
  | .fail => .fail) := rfl
@[simp] theorem ret_ap' (a : α) (ρ : Sl) : Dl.ret a ρ = .ok a ρ := rfl
@[simp] theorem stop_ap (ρ : Sl) : (stop : M α) ρ = .fail := rfl
@[simp] theorem lift_some' (a : α) : lift (some a) = Dl.ret a := rfl
@[simp] theorem lift_none' : (lift none : M α) = stop := rfl
@[simp] theorem mVar_ap (i : Nat) (ρ : Sl) : mVar i ρ = (match ρ[i]? with
  | some (some o) => .ok (.val (frz o)) (ρ.set i (some (.val (frz o))))
  | _ => .fail) := rfl
@[simp] theorem mHas_ap (i : Nat) (m : M α) (ρ : Sl) : mHas i m ρ = (match ρ[i]? with
  | some (some _) => m ρ
  | _ => .fail) := rfl
@[simp] theorem mHasL_ap (i : Nat) (m : M α) (ρ : Sl) : mHasL i m ρ = (match ρ[i]? with
  | some (some (.lst _)) => m ρ
  | _ => .fail) := rfl
@[simp] theorem mIxS_ap (i : Nat) (m : M O) (ρ : Sl) : mIxS i m ρ = mHas i (bnd m fun k => mIxAt i (frz k)) ρ := rfl
@[simp] theorem mIxAt_ap (i : Nat) (k : D) (ρ : Sl) : mIxAt i k ρ = (match ρ[i]? with
  | some (some o) => (match ixO o k with
    | some d => .ok (.val d) ρ
    | none => .fail)
  | _ => .fail) := rfl
@[simp] theorem mApp_ap (i : Nat) (m : M O) (ρ : Sl) : mApp i m ρ = mHasL i (bnd m fun o => mAppAt i o) ρ := rfl
@[simp] theorem mAppAt_ap (i : Nat) (o : O) (ρ : Sl) : mAppAt i o ρ = (match ρ[i]? with
  | some (some (.lst l)) => if l.length < 1000000 then .ok (.val .non) (ρ.set i (some (.lst (l ++ [o])))) else .fail
  | _ => .fail) := rfl
@[simp] theorem mPut_ap (i : Nat) (m : M O) (o : O) (ρ : Sl) : mPut i m o ρ = mHas i (bnd m fun k => mPutAt i (frz k) o) ρ := rfl
@[simp] theorem mPutAt_ap (i : Nat) (k : D) (o : O) (ρ : Sl) : mPutAt i k o ρ = (match ρ[i]?, k with
  | some (some (.lst l)), .int z => (match ixN l.length z with
    | some n => .ok () (ρ.set i (some (.lst (l.set n o))))
    | none => .fail)
  | _, _ => .fail) := rfl
@[simp] theorem mSet_ap (ok : Nat → Bool) (i : Nat) (o : O) (ρ : Sl) : mSet ok i o ρ = (if ok i = true ∧ i < ρ.length then .ok () (ρ.set i (some o)) else .fail) := rfl
@[simp] theorem mSeq_ap (a b : M Fl) (ρ : Sl) : mSeq a b ρ = (match a ρ with
  | .ok .nx ρ' => b ρ'
  | .ok f ρ' => .ok f ρ'
  | .ex x ρ' => .ex x ρ'
  | .fail => .fail) := by
  unfold mSeq
  rw [bnd_ap]
  cases a ρ with
  | ok f ρ' => cases f <;> rfl
  | ex => rfl
  | fail => rfl
@[simp] theorem mDo_ap (m : M O) (ρ : Sl) : mDo m ρ = (match m ρ with
  | .ok _ ρ' => .ok .nx ρ'
  | .ex x ρ' => .ex x ρ'
  | .fail => .fail) := by
  unfold mDo
  rw [bnd_ap]
  cases m ρ <;> rfl
@[simp] theorem mRet_ap (m : M O) (ρ : Sl) : mRet m ρ = (match m ρ with
  | .ok o ρ' => .ok (.rt o) ρ'
  | .ex x ρ' => .ex x ρ'
  | .fail => .fail) := by
  unfold mRet
  rw [bnd_ap]
  cases m ρ <;> rfl
@[simp] theorem mAsg_ap (m : M O) (t : O → M Unit) (ρ : Sl) : mAsg m t ρ = (match m ρ with
  | .ok o ρ' => (match t o ρ' with
    | .ok _ ρ2 => .ok .nx ρ2
    | .ex x ρ2 => .ex x ρ2
    | .fail => .fail)
  | .ex x ρ' => .ex x ρ'
  | .fail => .fail) := by
  unfold mAsg
  rw [bnd_ap]
  cases m ρ with
  | ok o ρ' =>
    dsimp only
    rw [bnd_ap]
    cases t o ρ' <;> rfl
  | ex => rfl
  | fail => rfl
@[simp] theorem mIfS_ap (c : M Bool) (a b : M Fl) (ρ : Sl) : mIfS c a b ρ = (match c ρ with
  | .ok x ρ' => if x = true then a ρ' else b ρ'
  | .ex x ρ' => .ex x ρ'
  | .fail => .fail) := by
  unfold mIfS
  rw [bnd_ap]
  cases c ρ with
  | ok f ρ' => cases f <;> rfl
  | ex => rfl
  | fail => rfl
@[simp] theorem mIf_ap (c : M Bool) (a b : M O) (ρ : Sl) : mIf c a b ρ = (match c ρ with
  | .ok x ρ' => if x = true then a ρ' else b ρ'
  | .ex x ρ' => .ex x ρ'
  | .fail => .fail) := by
  unfold mIf
  rw [bnd_ap]
  cases c ρ with
  | ok f ρ' => cases f <;> rfl
  | ex => rfl
  | fail => rfl
@[simp] theorem mAnd_ap (a b : M Bool) (ρ : Sl) : mAnd a b ρ = (match a ρ with
  | .ok x ρ' => if x = true then b ρ' else .ok false ρ'
  | .ex x ρ' => .ex x ρ'
  | .fail => .fail) := by
  unfold mAnd
  rw [bnd_ap]
  cases a ρ with
  | ok f ρ' => cases f <;> rfl
  | ex => rfl
  | fail => rfl
@[simp] theorem mOr_ap (a b : M Bool) (ρ : Sl) : mOr a b ρ = (match a ρ with
  | .ok x ρ' => if x = true then .ok true ρ' else b ρ'
  | .ex x ρ' => .ex x ρ'
  | .fail => .fail) := by
  unfold mOr
  rw [bnd_ap]
  cases a ρ with
  | ok f ρ' => cases f <;> rfl
  | ex => rfl
  | fail => rfl
@[simp] theorem mNot_ap (a : M Bool) (ρ : Sl) : mNot a ρ = (match a ρ with
  | .ok x ρ' => .ok (!x) ρ'
  | .ex x ρ' => .ex x ρ'
  | .fail => .fail) := by
  unfold mNot
  rw [bnd_ap]
  cases a ρ <;> rfl
@[simp] theorem mB_ap (m : M O) (ρ : Sl) : mB m ρ = (match m ρ with
  | .ok (.val (.bl b)) ρ' => .ok b ρ'
  | .ok _ _ => .fail
  | .ex x ρ' => .ex x ρ'
  | .fail => .fail) := by
  unfold mB
  rw [bnd_ap]
  cases m ρ with
  | ok o ρ' =>
    cases o with
    | val d => cases d <;> rfl
    | lst => rfl
  | ex => rfl
  | fail => rfl
@[simp] theorem opv_sl (i : Nat) : opv (.sl i) = mHas i (Dl.ret (.s i)) := rfl
@[simp] theorem opv_ev (m : M O) : opv (.ev m) = bnd m fun o => Dl.ret (.d (frz o)) := rfl
@[simp] theorem rdv_d (d : D) : rdv (.d d) = Dl.ret d := rfl
@[simp] theorem rdv_s (i : Nat) (ρ : Sl) : rdv (.s i) ρ = (match ρ[i]? with
  | some (some o) => .ok (frz o) ρ
  | _ => .fail) := rfl
@[simp] theorem mLook_ap (f : D → D → Option D) (a b : Ag) (ρ : Sl) : mLook f a b ρ = bnd (opv a) (fun x => bnd (opv b) fun y => bnd (rdv x) fun d => bnd (rdv y) fun e => bnd (lift (f d e)) fun r => Dl.ret (.val r)) ρ := rfl
@[simp] theorem mLookB_ap (f : D → D → Option D) (a b : Ag) (ρ : Sl) : mLookB f a b ρ = mB (mLook f a b) ρ := rfl
@[simp] theorem mLook1_ap (f : D → Option D) (a : Ag) (ρ : Sl) : mLook1 f a ρ = bnd (opv a) (fun x => bnd (rdv x) fun d => bnd (lift (f d)) fun r => Dl.ret (.val r)) ρ := rfl
@[simp] theorem mOp2_ap (f : D → D → Option O) (a b : M O) (ρ : Sl) : mOp2 f a b ρ = bnd a (fun x => bnd b fun y => lift (f (frz x) (frz y))) ρ := rfl
@[simp] theorem mOp1_ap (f : D → Option O) (a : M O) (ρ : Sl) : mOp1 f a ρ = bnd a (fun x => lift (f (frz x))) ρ := rfl
@[simp] theorem mOpN_ap (f : List D → Option O) (a : M (List O)) (ρ : Sl) : mOpN f a ρ = bnd a (fun x => lift (f (frzs x))) ρ := rfl
@[simp] theorem mScN_ap (f : List D → Option D) (a : M (List O)) (ρ : Sl) : mScN f a ρ = bnd a (fun x => lift ((f (frzs x)).map O.val)) ρ := rfl
@[simp] theorem mCons_ap (m : M O) (ms : M (List O)) (ρ : Sl) : mCons m ms ρ = bnd m (fun o => bnd ms fun os => Dl.ret (o :: os)) ρ := rfl
@[simp] theorem mTup_ap (ms : M (List O)) (ρ : Sl) : mTup ms ρ = (match ms ρ with
  | .ok os ρ' => if os.length ≤ 1000 then .ok (.val (.tup (frzs os))) ρ' else .fail
  | .ex x ρ' => .ex x ρ'
  | .fail => .fail) := by
  unfold mTup
  rw [bnd_ap]
  cases ms ρ with
  | ok os ρ' => dsimp only; split <;> rfl
  | ex => rfl
  | fail => rfl
@[simp] theorem mLst_ap (ms : M (List O)) (ρ : Sl) : mLst ms ρ = (match ms ρ with
  | .ok os ρ' => if os.length ≤ 1000 then .ok (.lst os) ρ' else .fail
  | .ex x ρ' => .ex x ρ'
  | .fail => .fail) := by
  unfold mLst
  rw [bnd_ap]
  cases ms ρ with
  | ok os ρ' => dsimp only; split <;> rfl
  | ex => rfl
  | fail => rfl
@[simp] theorem mChain_ap (f g : D → D → Option D) (a b c : M O) (ρ : Sl) : mChain f g a b c ρ = bnd a (fun x => bnd b fun y => bnd (lift (f (frz x) (frz y))) fun r => match r with
  | .bl true => bnd c fun z => bnd (lift (g (frz y) (frz z))) fun r => Dl.ret (.val r)
  | .bl false => Dl.ret (.val (.bl false))
  | _ => stop) ρ := rfl
@[simp] theorem mAndV_ap (a b : M O) (ρ : Sl) : mAndV a b ρ = (match a ρ with
  | .ok (.val (.bl true)) ρ' => b ρ'
  | .ok (.val (.bl false)) ρ' => .ok (.val (.bl false)) ρ'
  | .ok _ _ => .fail
  | .ex x ρ' => .ex x ρ'
  | .fail => .fail) := by
  unfold mAndV
  rw [bnd_ap]
  cases a ρ with
  | ok o ρ' =>
    cases o with
    | val d =>
      cases d with
      | bl b => cases b <;> rfl
      | _ => rfl
    | lst => rfl
  | ex => rfl
  | fail => rfl
@[simp] theorem mOrV_ap (a b : M O) (ρ : Sl) : mOrV a b ρ = (match a ρ with
  | .ok (.val (.bl true)) ρ' => .ok (.val (.bl true)) ρ'
  | .ok (.val (.bl false)) ρ' => b ρ'
  | .ok _ _ => .fail
  | .ex x ρ' => .ex x ρ'
  | .fail => .fail) := by
  unfold mOrV
  rw [bnd_ap]
  cases a ρ with
  | ok o ρ' =>
    cases o with
    | val d =>
      cases d with
      | bl b => cases b <;> rfl
      | _ => rfl
    | lst => rfl
  | ex => rfl
  | fail => rfl
@[simp] theorem mTake_ap (i : Nat) (ρ : Sl) : mTake i ρ = (match ρ[i]? with
  | some (some (.val d)) => .ok (.val d, none) ρ
  | some (some (.lst l)) => .ok (.lst l, some i) (ρ.set i none)
  | _ => .fail) := rfl
@[simp] theorem mArgs_nil : mArgs [] = Dl.ret [] := rfl
@[simp] theorem mArgs_sl (i : Nat) (as : List Ag) (ρ : Sl) : mArgs (.sl i :: as) ρ = mHas i (bnd (mArgs as) fun rs => bnd (mTake i) fun r => Dl.ret (r :: rs)) ρ := rfl
@[simp] theorem mArgs_ev (m : M O) (as : List Ag) (ρ : Sl) : mArgs (.ev m :: as) ρ = bnd m (fun o => bnd (mArgs as) fun rs => Dl.ret ((o, none) :: rs)) ρ := rfl
@[simp] theorem mCall_ap (f : FM) (as : List Ag) (ρ : Sl) : mCall f as ρ = (match mArgs as ρ with
  | .ok rs ρ' => (match f (rs.map (·.1)) with
    | .ok r outs => .ok r (giveBack rs outs ρ')
    | .ex x outs => .ex x (giveBack rs outs ρ')
    | .fail => .fail)
  | .ex x ρ' => .ex x ρ'
  | .fail => .fail) := by
  unfold mCall
  rw [bnd_ap]
  cases mArgs as ρ <;> rfl
@[simp] theorem gb_some (o : O) (i : Nat) (rs : List (O × Option Nat)) (p : O) (outs : List O) (ρ : Sl) : giveBack ((o, some i) :: rs) (p :: outs) ρ = (giveBack rs outs ρ).set i (some p) := rfl
@[simp] theorem gb_none (o : O) (rs : List (O × Option Nat)) (p : O) (outs : List O) (ρ : Sl) : giveBack ((o, none) :: rs) (p :: outs) ρ = giveBack rs outs ρ := rfl
@[simp] theorem gb_nil (outs : List O) (ρ : Sl) : giveBack [] outs ρ = ρ := rfl
@[simp] theorem mFor_ap (i : M (List D)) (t : O → M Unit) (b : M Fl) (ρ : Sl) : mFor i t b ρ = (match i ρ with
  | .ok ds ρ' => mLoop t b ds ρ'
  | .ex x ρ' => .ex x ρ'
  | .fail => .fail) := by
  unfold mFor
  rw [bnd_ap]
  cases i ρ <;> rfl
@[simp] theorem mRng_ap (ms : M (List O)) (ρ : Sl) : mRng ms ρ = bnd ms (fun os => lift (rng (frzs os))) ρ := rfl
@[simp] theorem mSeqI_ap (m : M O) (ρ : Sl) : mSeqI m ρ = bnd m (fun o => lift (seqOf (frz o))) ρ := rfl
@[simp] theorem mGNil_ap : mGNil [] = Dl.ret () := rfl
@[simp] theorem mGCons_ap (m : O → M Unit) (ms : List O → M Unit) (o : O) (os : List O) : mGCons m ms (o :: os) = bnd (m o) fun _ => ms os := rfl
@[simp] theorem mGTup_tup (n : Nat) (ms : List O → M Unit) (ds : List D) : mGTup n ms (.val (.tup ds)) = (if ds.length = n then ms (ds.map O.val) else stop) := rfl
@[simp] theorem mPar2_ap (ok : Nat → Bool) (i j : Nat) (ms : M (List O)) (ρ : Sl) : mPar2 ok i j ms ρ = (match ms ρ with
  | .ok [a, b] ρ' => bnd (mSet ok i a) (fun _ => bnd (mSet ok j b) fun _ => Dl.ret .nx) ρ'
  | .ok _ _ => .fail
  | .ex x ρ' => .ex x ρ'
  | .fail => .fail) := by
  unfold mPar2
  rw [bnd_ap]
  cases ms ρ with
  | ok os ρ' => rcases os with _ | ⟨a, _ | ⟨b, _ | ⟨c, d⟩⟩⟩ <;> rfl
  | ex => rfl
  | fail => rfl
@[simp] theorem mPar3_ap (ok : Nat → Bool) (i j l : Nat) (ms : M (List O)) (ρ : Sl) : mPar3 ok i j l ms ρ = (match ms ρ with
  | .ok [a, b, c] ρ' => bnd (mSet ok i a) (fun _ => bnd (mSet ok j b) fun _ => bnd (mSet ok l c) fun _ => Dl.ret .nx) ρ'
  | .ok _ _ => .fail
  | .ex x ρ' => .ex x ρ'
  | .fail => .fail) := by
  unfold mPar3
  rw [bnd_ap]
  cases ms ρ with
  | ok os ρ' => rcases os with _ | ⟨a, _ | ⟨b, _ | ⟨c, _ | ⟨d, e⟩⟩⟩⟩ <;> rfl
  | ex => rfl
  | fail => rfl
@[simp] theorem mUnp_ap (n : Nat) (ms : M (List O)) (mg : List O → M Unit) (ρ : Sl) : mUnp n ms mg ρ = (match ms ρ with
  | .ok os ρ' => if os.length ≤ 1000 ∧ os.length = n then bnd (mg os) (fun _ => Dl.ret .nx) ρ' else .fail
  | .ex x ρ' => .ex x ρ'
  | .fail => .fail) := by
  unfold mUnp
  rw [bnd_ap]
  cases ms ρ with
  | ok os ρ' => dsimp only; split <;> rfl
  | ex => rfl
  | fail => rfl
@[simp] theorem mEnum_ap (m : M O) (ρ : Sl) : mEnum m ρ = bnd m (fun o => bnd (lift (seqOf (frz o))) fun l => Dl.ret (enumL 0 l)) ρ := rfl
@[simp] theorem mZip_ap (ms : M (List O)) (ρ : Sl) : mZip ms ρ = bnd ms (fun os => lift (zipD (frzs os))) ρ := rfl
@[simp] theorem mStar_ap (m : M O) (ms : M (List O)) (ρ : Sl) : mStar m ms ρ = bnd m (fun o => bnd (lift (seqOf (frz o))) fun l => bnd ms fun os => Dl.ret (l.map O.val ++ os)) ρ := rfl
@[simp] theorem mSlc_ap (a : M O) (l h : M (Option Int)) (ρ : Sl) : mSlc a l h ρ = bnd a (fun x => bnd l fun lo => bnd h fun hi => lift (slF (frz x) lo hi)) ρ := rfl
@[simp] theorem mPart_ap (m : M O) (ρ : Sl) : mPart m ρ = bnd m (fun o => match frz o with
  | .int i => Dl.ret (some i)
  | _ => stop) ρ := rfl
@[simp] theorem mDef_ap (n : Nat) (fs : List Bool) (m : M Fl) (args : List O) : mDef n fs m args = fOut fs args (m (begin n args)) := rfl
@[simp] theorem fOut_rt (fs : List Bool) (args : List O) (r : O) (ρ : Sl) : fOut fs args (.ok (.rt r) ρ) = (match outsOf fs args ρ with
  | some outs => .ok r outs
  | none => .fail) := rfl
@[simp] theorem fOut_nx (fs : List Bool) (args : List O) (ρ : Sl) : fOut fs args (.ok .nx ρ) = (match outsOf fs args ρ with
  | some outs => .ok (.val .non) outs
  | none => .fail) := rfl
@[simp] theorem outs_nil (ρ : Sl) : outsOf [] [] ρ = some [] := rfl
@[simp] theorem outs_true (fs : List Bool) (a : O) (as : List O) (o : O) (ρ : Sl) : outsOf (true :: fs) (a :: as) (some o :: ρ) = (outsOf fs as ρ).map (o :: ·) := rfl
@[simp] theorem outs_false (fs : List Bool) (d : D) (as : List O) (o : Option O) (ρ : Sl) : outsOf (false :: fs) (.val d :: as) (o :: ρ) = (outsOf fs as ρ).map (.val d :: ·) := rfl
@[simp] theorem frz_val (d : D) : frz (.val d) = d := rfl
@[simp] theorem frz_lst (l : List O) : frz (.lst l) = .lst (frzs l) := rfl
@[simp] theorem frzs_nil : frzs [] = [] := rfl
@[simp] theorem frzs_cons (o : O) (l : List O) : frzs (o :: l) = frz o :: frzs l := rfl
@[simp] theorem frzs_map (ds : List D) : frzs (ds.map O.val) = ds := by
  induction ds with
  | nil => rfl
  | cons d ds ih => rw [List.map_cons, frzs, ih]; rfl
@[simp] theorem ixO_lst (l : List O) (i : Int) : ixO (.lst l) (.int i) = (match atI l i with
  | some (.val d) => some d
  | _ => none) := rfl
@[simp] theorem ixO_tup (l : List D) (i : Int) : ixO (.val (.tup l)) (.int i) = atI l i := rfl
@[simp] theorem ixO_vlst (l : List D) (i : Int) : ixO (.val (.lst l)) (.int i) = atI l i := rfl
@[simp] theorem ixO_fl (l : List Int) (i : Int) : ixO (.val (.fl l)) (.int i) = (atI l i).map D.int := rfl
@[simp] theorem ixD_ap (d k : D) : ixD d k = (ixO (.val d) k).map O.val := rfl
@[simp] theorem atI_0 {γ : Type} (a : γ) (l : List γ) : atI (a :: l) 0 = some a := by
  unfold atI ixN
  rw [if_pos (by omega), if_pos (by simp only [List.length_cons]; omega)]
  rfl
@[simp] theorem atI_1 {γ : Type} (a b : γ) (l : List γ) : atI (a :: b :: l) 1 = some b := by
  unfold atI ixN
  rw [if_pos (by omega), if_pos (by simp only [List.length_cons]; omega)]
  rfl
@[simp] theorem atI_2 {γ : Type} (a b c : γ) (l : List γ) : atI (a :: b :: c :: l) 2 = some c := by
  unfold atI ixN
  rw [if_pos (by omega), if_pos (by simp only [List.length_cons]; omega)]
  rfl
@[simp] theorem begin_ap (n : Nat) (args : List O) : begin n args = args.map some ++ List.replicate (n - args.length) none := rfl

@[simp] theorem len_tup (l : List D) : lenD (.tup l) = some (.int l.length) := rfl
@[simp] theorem len_lst (l : List D) : lenD (.lst l) = some (.int l.length) := rfl
@[simp] theorem len_fl (l : List Int) : lenD (.fl l) = some (.int l.length) := rfl
@[simp] theorem seq_tup (l : List D) : seqOf (.tup l) = some l := rfl
@[simp] theorem seq_lst (l : List D) : seqOf (.lst l) = some l := rfl
@[simp] theorem tupN_l (l : List D) : tupN [.lst l] = some (.val (.tup l)) := rfl
@[simp] theorem tupN_t (l : List D) : tupN [.tup l] = some (.val (.tup l)) := rfl
@[simp] theorem max2_ii (i j : Int) : max2 [.int i, .int j] = some (.int (if j > i then j else i)) := rfl
@[simp] theorem min2_ii (i j : Int) : min2 [.int i, .int j] = some (.int (if j < i then j else i)) := rfl
@[simp] theorem abs_i (i : Int) : absD (.int i) = some (.int (if i < 0 then -i else i)) := rfl
@[simp] theorem int_i (i : Int) : intD (.int i) = some (.int i) := rfl
@[simp] theorem int_b (b : Bool) : intD (.bl b) = some (.int (if b then 1 else 0)) := rfl
end
end Dl

namespace Dl
open PySem L2 PyData
/-! ### data that is small enough to be shown and compared -/
theorem sk_mem {x : Str} : strOk x = true ↔ ∀ c ∈ x.cps.toList, c < 0x110000 := by
  unfold strOk
  rw [Array.all_eq_true']
  simp
theorem sk_append {x y : Str} (h : strOk x = true) (h' : strOk y = true) : strOk (x ++ y) = true := by
  rw [sk_mem] at *
  intro c hc
  rcases PyProof.Rows.mem_cps_append.mp hc with z | z
  · exact h c z
  · exact h' c z
theorem sk_of (s : String) : strOk (Str.ofString s) = true := by
  rw [sk_mem, Str.ofString_eq_toList]
  intro c hc
  simp only [List.toList_toArray, List.mem_map] at hc
  obtain ⟨ch, _, rfl⟩ := hc
  have := ch.valid
  have h2 : ch.toNat = ch.val.toNat := rfl
  rcases this with h | h
  · have : ch.val.toNat < 55296 := h
    omega
  · have : ch.val.toNat < 1114112 := h.2
    omega
theorem sk_join {sep : Str} (hs : strOk sep = true) : ∀ {ts : List Str}, (∀ t ∈ ts, strOk t = true) → strOk (Str.join sep ts) = true
  | [], _ => sk_of ""
  | [x], h => h x (by simp)
  | x :: y :: r, h => by
    show strOk (x ++ sep ++ Str.join sep (y :: r)) = true
    exact sk_append (sk_append (h x (by simp)) hs) (sk_join hs fun t ht => h t (List.mem_cons_of_mem _ ht))
theorem sk_from : ∀ {ts : List Str} {k : Nat} {acc : Str}, strOk acc = true → (∀ t ∈ ts, strOk t = true) → strOk (textFrom k acc ts) = true
  | [], k, acc, h, _ => h
  | t :: r, k, acc, h, ht => by
    show strOk (textFrom (k + 1) (acc ++ (if k > 0 then ", " else "" : String) ++ t) r) = true
    refine sk_from (sk_append (sk_append h (sk_of _)) (ht t (by simp))) fun u hu => ht u (List.mem_cons_of_mem _ hu)
def scOk : D → Prop
  | .non => True
  | .bl _ => True
  | .int i => i.natAbs < 10 ^ 60
  | _ => False
/-- no deeper than n, of ints, bools, None -/
def Tm : Nat → D → Prop
  | n + 1, .tup l => ∀ d ∈ l, Tm n d
  | n + 1, .lst l => ∀ d ∈ l, Tm n d
  | _, d => scOk d
mutual
def cnt : D → Nat
  | .tup l => cnts l + 1
  | .lst l => cnts l + 1
  | _ => 1
def cnts : List D → Nat
  | [] => 0
  | d :: l => cnt d + cnts l
end
structure TmP (n : Nat) (d : D) : Prop where
  p : pl d = true
  c : (toP d).canLay0 = true
  dp : (toP d).depth ≤ n
  s : (toP d).showable = true
  h : (toP d).hasDict = false
  sl : (toP d).shown.length + 5 ≤ 75 * cnt d
  k : strOk (toP d).shown = true
theorem tp_sc {n : Nat} {d : D} (h : scOk d) : TmP n d := by
  cases d with
  | non => exact ⟨rfl, rfl, Nat.zero_le _, rfl, rfl, by decide, sk_of _⟩
  | bl b => exact ⟨rfl, rfl, Nat.zero_le _, rfl, rfl, by cases b <;> decide, by cases b <;> exact sk_of _⟩
  | int i =>
    have h : i.natAbs < 10 ^ 60 := h
    refine ⟨rfl, rfl, Nat.zero_le _, ?_, rfl, ?_, ?_⟩
    · show decide (i.natAbs.log2 < 1920) = true
      refine decide_eq_true ?_
      by_cases h0 : i.natAbs = 0
      · rw [h0]; decide
      · refine (Nat.log2_lt h0).mpr ?_
        have h2 : (10 : Nat) ^ 60 ≤ 2 ^ 1920 := by decide
        omega
    · show (PyData.int i).shown.length + 5 ≤ 75 * 1
      rw [PyData.shown_int]
      have h1 := int_text_length_le10 (k := 60) (by decide) h
      have h2 : ((toString i : String) : Str).length = (toString i).length := PySem.ofString_length _
      omega
    · show strOk (PyData.int i).shown = true
      rw [PyData.shown_int]; exact sk_of _
  | _ => exact False.elim h
structure TmPs (n : Nat) (l : List D) : Prop where
  p : pls l = true
  c : canLayAll0 (toPs l) = true
  dp : depthAll (toPs l) ≤ n
  s : showableAll (toPs l) = true
  h : hasDictAll (toPs l) = false
  sl : ((shownAll (toPs l)).map (·.length)).sum + 5 * l.length ≤ 75 * cnts l
  k : ∀ t ∈ shownAll (toPs l), strOk t = true
  ln : (shownAll (toPs l)).length = l.length
theorem cnt_pos (d : D) : 1 ≤ cnt d := by cases d <;> simp [cnt]
theorem tps {n : Nat} : ∀ {l : List D}, (∀ d ∈ l, TmP n d) → TmPs n l
  | [], _ => ⟨rfl, rfl, Nat.zero_le _, rfl, rfl, by simp [toPs, shownAll, cnts], by simp [toPs, shownAll], rfl⟩
  | d :: l, h => by
    have h1 := h d (by simp)
    have h2 := tps fun e he => h e (List.mem_cons_of_mem _ he)
    have h3 := cnt_pos d
    refine ⟨by simp [pls, h1.p, h2.p], by simp [toPs, canLayAll0, h1.c, h2.c], by simp only [toPs, depthAll]; exact Nat.max_le.mpr ⟨h1.dp, h2.dp⟩, by simp [toPs, showableAll, h1.s, h2.s], by simp [toPs, hasDictAll, h1.h, h2.h], ?_, ?_, ?_⟩
    · have := h1.sl
      have := h2.sl
      simp only [toPs, shownAll, List.map_cons, List.sum_cons, List.length_cons, cnts]
      omega
    · intro t ht
      simp only [toPs, shownAll, List.mem_cons] at ht
      rcases ht with rfl | ht
      · exact h1.k
      · exact h2.k t ht
    · simp only [toPs, shownAll, List.length_cons, h2.ln]
theorem cnts_ge : ∀ l : List D, l.length ≤ cnts l
  | [] => Nat.le_refl _
  | d :: l => by
    have := cnt_pos d
    have := cnts_ge l
    simp only [List.length_cons, cnts]
    omega
theorem tp_of : ∀ {n : Nat} {d : D}, Tm n d → TmP n d
  | 0, d, h => by
    have h' : scOk d := by cases d <;> exact h
    exact tp_sc h'
  | n + 1, .tup l, h => by
    have q := tps fun d hd => tp_of (n := n) (h d hd)
    have e : (toP (.tup l)).shown = tupleText (shownAll (toPs l)) := by simp only [toP, PyData.shown]
    refine ⟨q.p, q.c, Nat.succ_le_succ q.dp, q.s, q.h, ?_, ?_⟩
    · rw [e]
      have h1 := tupleText_len_le (shownAll (toPs l))
      have h2 := q.sl
      rw [q.ln] at h1
      show _ ≤ 75 * (cnts l + 1)
      omega
    · rw [e]
      exact sk_append (sk_append (sk_of _) (sk_join (sk_of _) q.k)) (sk_of _)
  | n + 1, .lst l, h => by
    have q := tps fun d hd => tp_of (n := n) (h d hd)
    have e : (toP (.lst l)).shown = listText (shownAll (toPs l)) := by simp only [toP, PyData.shown]
    refine ⟨q.p, q.c, Nat.succ_le_succ q.dp, q.s, q.h, ?_, ?_⟩
    · rw [e]
      have h1 := listText_len_le (shownAll (toPs l))
      have h2 := q.sl
      rw [q.ln] at h1
      show _ ≤ 75 * (cnts l + 1)
      omega
    · rw [e]
      exact sk_append (sk_from (sk_of _) q.k) (sk_of _)
  | n + 1, .non, h => tp_sc h
  | n + 1, .bl _, h => tp_sc h
  | n + 1, .int _, h => tp_sc h
  | n + 1, .str _, h => tp_sc h
  | n + 1, .dct _ _, h => tp_sc h
  | n + 1, .fl _, h => tp_sc h
theorem repr_ok {n : Nat} {d : D} (h : Tm n d) (hn : n ≤ 60) (hc : cnt d ≤ 13000) : reprD d = some (.str (toP d).shown) := by
  have q := tp_of h
  have := q.dp
  have := q.sl
  unfold reprD
  rw [if_pos ⟨q.p, q.s, q.h, by omega, by omega⟩]
theorem shp {n : Nat} {d : D} (h : TmP n d) (hn : n ≤ 60) : SeqAt.shaped (toP d) = true := by
  have := h.dp
  unfold SeqAt.shaped
  rw [h.c, Bool.true_and]
  exact decide_eq_true (by omega)
@[simp] theorem cmp_eq : cmpF .Eq = eqD := rfl
@[simp] theorem cmp_ne : cmpF .NotEq = neD := rfl
theorem eq_ok {n m : Nat} {d e : D} (h : Tm n d) (h' : Tm m e) (hn : n ≤ 60) (hm : m ≤ 60) : eqD d e = some (.bl (PyData.eqv (toP d) (toP e))) := by
  have q := tp_of h
  have q' := tp_of h'
  unfold eqD
  rw [if_pos ⟨q.p, q'.p, shp q hn, shp q' hm⟩]
theorem ne_ok {n m : Nat} {d e : D} (h : Tm n d) (h' : Tm m e) (hn : n ≤ 60) (hm : m ≤ 60) : neD d e = some (.bl (!PyData.eqv (toP d) (toP e))) := by
  have q := tp_of h
  have q' := tp_of h'
  unfold neD
  rw [if_pos ⟨q.p, q'.p, shp q hn, shp q' hm⟩]
theorem eq_self {n : Nat} {d : D} (h : Tm n d) (hn : n ≤ 60) : eqD d d = some (.bl true) := by
  rw [eq_ok h h hn hn, SeqAt.eqv_refl _ (tp_of h).c]
theorem ne_self {n : Nat} {d : D} (h : Tm n d) (hn : n ≤ 60) : neD d d = some (.bl false) := by
  rw [ne_ok h h hn hn, SeqAt.eqv_refl _ (tp_of h).c]; rfl
theorem sk_shaped {x : Str} (h : strOk x = true) : SeqAt.shaped (toP (.str x)) = true := by
  show (strOk x && decide (0 ≤ 64)) = true
  rw [h]; rfl
theorem eq_str {x y : Str} (h : strOk x = true) (h' : strOk y = true) : eqD (.str x) (.str y) = some (.bl (x == y)) := by
  unfold eqD
  rw [if_pos ⟨rfl, rfl, sk_shaped h, sk_shaped h'⟩]
  rfl
theorem ne_str {x y : Str} (h : strOk x = true) (h' : strOk y = true) : neD (.str x) (.str y) = some (.bl (!(x == y))) := by
  unfold neD
  rw [if_pos ⟨rfl, rfl, sk_shaped h, sk_shaped h'⟩]
  rfl
theorem eq_shown {n : Nat} {d : D} (h : Tm n d) : eqD (.str (toP d).shown) (.str (toP d).shown) = some (.bl true) := by
  rw [eq_str (tp_of h).k (tp_of h).k]; simp
theorem ne_shown {n : Nat} {d : D} (h : Tm n d) : neD (.str (toP d).shown) (.str (toP d).shown) = some (.bl false) := by
  rw [ne_str (tp_of h).k (tp_of h).k]; simp
@[simp] theorem eq_ii (i j : Int) : eqD (.int i) (.int j) = some (.bl (decide (i = j))) := by
  unfold eqD
  rw [if_pos ⟨rfl, rfl, rfl, rfl⟩]
  rfl
@[simp] theorem ne_ii (i j : Int) : neD (.int i) (.int j) = some (.bl (!decide (i = j))) := by
  unfold neD
  rw [if_pos ⟨rfl, rfl, rfl, rfl⟩]
  rfl
theorem eqvAll_nil (l : List D) : eqvAll (toPs l) [] = l.isEmpty := by cases l <;> rfl
theorem eq_lnil {n : Nat} {l : List D} (h : ∀ d ∈ l, Tm n d) (hn : n ≤ 59) : eqD (.lst l) (.lst []) = some (.bl l.isEmpty) := by
  rw [eq_ok (n := n + 1) (m := 1) (d := .lst l) h (by intro d hd; cases hd) (by omega) (by omega)]
  show some (D.bl (eqvAll (toPs l) [])) = _
  rw [eqvAll_nil]
theorem ne_lnil {n : Nat} {l : List D} (h : ∀ d ∈ l, Tm n d) (hn : n ≤ 59) : neD (.lst l) (.lst []) = some (.bl (!l.isEmpty)) := by
  rw [ne_ok (n := n + 1) (m := 1) (d := .lst l) h (by intro d hd; cases hd) (by omega) (by omega)]
  show some (D.bl (!eqvAll (toPs l) [])) = _
  rw [eqvAll_nil]
theorem cnts_map {α : Type} (f : α → D) (c : Nat) : ∀ (l : List α), (∀ a ∈ l, cnt (f a) ≤ c) → cnts (l.map f) ≤ c * l.length
  | [], _ => by simp [cnts]
  | a :: l, h => by
    have h1 := h a (by simp)
    have h2 := cnts_map f c l fun b hb => h b (List.mem_cons_of_mem _ hb)
    simp only [List.map_cons, cnts, List.length_cons, Nat.mul_add, Nat.mul_one]
    omega
end Dl
namespace Dl
open PySem L2 PySem.Spec PyProof.Rows
section
variable [Kc] {P : Program} {w : World} {K : PySem.W.Frag} {mg : Str → Option Value} {base : Heap} {xh : XH}
theorem step_G {N ps : List Str} {st : Stmt} {fs : List Bool} {F : List (Str × FM × Nat)} {cst : List (Str × D)} {blt : List Str} {k : Nat} {x qual : Str} {f : Addr} {fd : FuncData} (hK : K = Kc.k) (FS : FSt P w K mg base xh k F)
    (hc : ∀ x d, cst.lookup x = some d → ∃ u v, mg x = some u ∧ sc d = some v ∧ RelV v u) (hb : ∀ x, x ∈ blt → mg x = none) (Fn : Fun K x qual st f fd) (S : FnScope N ps (defScope st)) (hfs : fs.length = ps.length) :
    FnG P w K mg base (L2.CX P w) (k + 1) f fd ps (spM xh ps.length (mOf N st fs F cst blt)) := by
  refine fnG_def Fn S hfs fun cd A outer s H E hr hg => ?_
  exact (rc_ok fuel).s _ (cx_ok hK S FS hc hb hr hg) fun i hi hm => by
    have h1 : (!(cpOf fs).contains i) = true := hi
    have h2 : (cpOf fs).contains i = true := List.contains_iff_mem.mpr hm
    rw [h2] at h1
    cases h1
end
end Dl

namespace Kl
open PySem L2 Dl
def topS (i : Nat) : Stmt := PySem.Challenge.pw_spanwidths_k08_cells_that_hold_the_width.main.body.getD i (.Pass ⟨0, 0, 0, 0⟩)
def inOf (l : List Nat) : Nat → Bool := fun i => decide (i ∈ l)
@[simp] theorem inOf_ap (l : List Nat) (i : Nat) : inOf l i = decide (i ∈ l) := rfl
def cst : List (Str × D) := []
def blt : List Str := ["len", "abs", "all", "max", "min", "repr", "int", "tuple", "range", "enumerate"]
def T0 : List (Str × FM × Nat) := []
/-! ### replaced -/
abbrev s_replaced : Stmt := topS 1
def n_replaced : List Str := ["table", "cells"]
def p_replaced : List Str := ["table", "cells"]
def f_replaced : List Bool := [true, true]
def ok_replaced : Nat → Bool := fun i => !(cpOf f_replaced).contains i
theorem sc_replaced : FnScope n_replaced p_replaced (defScope s_replaced) := ⟨rfl, rfl, rfl, by decide +kernel, rfl, by decide +kernel, by decide +kernel⟩
def b_replaced : M Fl := (mSeq (mRet (mTup (mCons (mIxS 0 (Dl.ret (.val (.int 0)))) (mCons (mOpN tupN (mCons (mVar 1) (Dl.ret []))) (Dl.ret []))))) (Dl.ret .nx))
def m_replaced : FM := mDef 2 f_replaced b_replaced
theorem e_replaced : mOf n_replaced s_replaced f_replaced T0 cst blt = m_replaced := by kernel_rfl
def T1 : List (Str × FM × Nat) := ("replaced", m_replaced, 2) :: T0
/-! ### chain_sums -/
abbrev s_chain_sums : Stmt := topS 3
def n_chain_sums : List Str := ["table", "columns", "cells", "found", "low", "row", "high", "some", "begin", "end", "need"]
def p_chain_sums : List Str := ["table"]
def f_chain_sums : List Bool := [true]
def ok_chain_sums : Nat → Bool := fun i => !(cpOf f_chain_sums).contains i
theorem sc_chain_sums : FnScope n_chain_sums p_chain_sums (defScope s_chain_sums) := ⟨rfl, rfl, rfl, by decide +kernel, rfl, by decide +kernel, by decide +kernel⟩
def lc_chain_sums_1 : M Bool := (mAnd (mLookB (cmpF .Eq) (.sl 9) (.sl 6)) (mLookB (cmpF .GtE) (.sl 8) (.sl 4)))
def le_chain_sums_2 : M O := (mOp2 (binF .Add) (mIxS 5 (mVar 8)) (mVar 10))
def lb_chain_sums_3 : M Fl := (mSeq (mAsg (mComp [8, 9, 10] (mSeqI (mVar 2)) (mGTup 3 (mGCons (mSet (inOf [8, 9, 10]) 8) (mGCons (mSet (inOf [8, 9, 10]) 9) (mGCons (mSet (inOf [8, 9, 10]) 10) mGNil)))) lc_chain_sums_1 le_chain_sums_2) (mSet ok_chain_sums 7)) (mSeq (mAsg (mLook1 maxD (.ev (mOp2 (binF .Add) (mLst (mCons (mIxS 5 (mOp2 (binF .Sub) (mVar 6) (Dl.ret (.val (.int 1))))) (Dl.ret []))) (mVar 7)))) (mPut 5 (mVar 6))) (Dl.ret .nx)))
def lb_chain_sums_4 : M Fl := (mSeq (mAsg (mOp2 (binF .Mult) (mLst (mCons (Dl.ret (.val (.int 0))) (Dl.ret []))) (mOp2 (binF .Add) (mVar 1) (Dl.ret (.val (.int 1))))) (mSet ok_chain_sums 5)) (mSeq (mFor (mRng (mCons (mOp2 (binF .Add) (mVar 4) (Dl.ret (.val (.int 1)))) (mCons (mOp2 (binF .Add) (mVar 1) (Dl.ret (.val (.int 1)))) (Dl.ret [])))) (mSet ok_chain_sums 6) lb_chain_sums_3) (mSeq (mDo (mApp 3 (mVar 5))) (Dl.ret .nx))))
def b_chain_sums : M Fl := (mSeq (mAsg (mVar 0) (mGTup 2 (mGCons (mSet ok_chain_sums 1) (mGCons (mSet ok_chain_sums 2) mGNil)))) (mSeq (mAsg (mLst (Dl.ret [])) (mSet ok_chain_sums 3)) (mSeq (mFor (mRng (mCons (mOp2 (binF .Add) (mVar 1) (Dl.ret (.val (.int 1)))) (Dl.ret []))) (mSet ok_chain_sums 4) lb_chain_sums_4) (mSeq (mRet (mVar 3)) (Dl.ret .nx)))))
@[simp] theorem o1_chain_sums : ok_chain_sums 1 = true := by decide
@[simp] theorem o2_chain_sums : ok_chain_sums 2 = true := by decide
@[simp] theorem o3_chain_sums : ok_chain_sums 3 = true := by decide
@[simp] theorem o4_chain_sums : ok_chain_sums 4 = true := by decide
@[simp] theorem o5_chain_sums : ok_chain_sums 5 = true := by decide
@[simp] theorem o6_chain_sums : ok_chain_sums 6 = true := by decide
@[simp] theorem o7_chain_sums : ok_chain_sums 7 = true := by decide
@[simp] theorem o8_chain_sums : ok_chain_sums 8 = true := by decide
@[simp] theorem o9_chain_sums : ok_chain_sums 9 = true := by decide
@[simp] theorem o10_chain_sums : ok_chain_sums 10 = true := by decide
def m_chain_sums : FM := mDef 11 f_chain_sums b_chain_sums
theorem e_chain_sums : mOf n_chain_sums s_chain_sums f_chain_sums T1 cst blt = m_chain_sums := by kernel_rfl
def T2 : List (Str × FM × Nat) := ("chain_sums", m_chain_sums, 1) :: T1
/-! ### least_width -/
abbrev s_least_width : Stmt := topS 4
def n_least_width : List Str := ["table"]
def p_least_width : List Str := ["table"]
def f_least_width : List Bool := [true]
def ok_least_width : Nat → Bool := fun i => !(cpOf f_least_width).contains i
theorem sc_least_width : FnScope n_least_width p_least_width (defScope s_least_width) := ⟨rfl, rfl, rfl, by decide +kernel, rfl, by decide +kernel, by decide +kernel⟩
def b_least_width : M Fl := (mSeq (mRet (mOp2 ixD (mOp2 ixD (mCall m_chain_sums [(.sl 0)]) (Dl.ret (.val (.int 0)))) (mIxS 0 (Dl.ret (.val (.int 0)))))) (Dl.ret .nx))
def m_least_width : FM := mDef 1 f_least_width b_least_width
theorem e_least_width : mOf n_least_width s_least_width f_least_width T2 cst blt = m_least_width := by kernel_rfl
def T3 : List (Str × FM × Nat) := ("least_width", m_least_width, 1) :: T2
/-! ### without_cell -/
abbrev s_without_cell : Stmt := topS 6
def n_without_cell : List Str := ["table", "cell"]
def p_without_cell : List Str := ["table", "cell"]
def f_without_cell : List Bool := [true, true]
def ok_without_cell : Nat → Bool := fun i => !(cpOf f_without_cell).contains i
theorem sc_without_cell : FnScope n_without_cell p_without_cell (defScope s_without_cell) := ⟨rfl, rfl, rfl, by decide +kernel, rfl, by decide +kernel, by decide +kernel⟩
def b_without_cell : M Fl := (mSeq (mRet (mCall m_replaced [(.sl 0), (.ev (mTup (mStar (mSlc (mIxS 0 (Dl.ret (.val (.int 1)))) (Dl.ret none) (mPart (mVar 1))) (mStar (mSlc (mIxS 0 (Dl.ret (.val (.int 1)))) (mPart (mOp2 (binF .Add) (mVar 1) (Dl.ret (.val (.int 1))))) (Dl.ret none)) (Dl.ret [])))))])) (Dl.ret .nx))
def m_without_cell : FM := mDef 2 f_without_cell b_without_cell
theorem e_without_cell : mOf n_without_cell s_without_cell f_without_cell T3 cst blt = m_without_cell := by kernel_rfl
def T4 : List (Str × FM × Nat) := ("without_cell", m_without_cell, 2) :: T3
/-! ### holders -/
abbrev s_holders : Stmt := topS 7
def n_holders : List Str := ["table", "least", "cell"]
def p_holders : List Str := ["table"]
def f_holders : List Bool := [true]
def ok_holders : Nat → Bool := fun i => !(cpOf f_holders).contains i
theorem sc_holders : FnScope n_holders p_holders (defScope s_holders) := ⟨rfl, rfl, rfl, by decide +kernel, rfl, by decide +kernel, by decide +kernel⟩
def lc_holders_1 : M Bool := (mLookB (cmpF .Lt) (.ev (mCall m_least_width [(.ev (mCall m_without_cell [(.sl 0), (.sl 2)]))])) (.sl 1))
def le_holders_2 : M O := (mVar 2)
def b_holders : M Fl := (mSeq (mAsg (mCall m_least_width [(.sl 0)]) (mSet ok_holders 1)) (mSeq (mRet (mOpN tupN (mCons (mComp [2] (mRng (mCons (mLook1 lenD (.ev (mIxS 0 (Dl.ret (.val (.int 1)))))) (Dl.ret []))) (mSet (inOf [2]) 2) lc_holders_1 le_holders_2) (Dl.ret [])))) (Dl.ret .nx)))
@[simp] theorem o1_holders : ok_holders 1 = true := by decide
@[simp] theorem o2_holders : ok_holders 2 = true := by decide
def m_holders : FM := mDef 3 f_holders b_holders
theorem e_holders : mOf n_holders s_holders f_holders T4 cst blt = m_holders := by kernel_rfl
def T5 : List (Str × FM × Nat) := ("holders", m_holders, 1) :: T4
/-! ### l_take -/
abbrev s_l_take : Stmt := topS 9
def n_l_take : List Str := ["_law_hand_here", "_law_many", "_law_digit", "_law_prime", "_law_drawn"]
def p_l_take : List Str := ["_law_hand_here", "_law_many"]
def f_l_take : List Bool := [true, true]
def ok_l_take : Nat → Bool := fun i => !(cpOf f_l_take).contains i
theorem sc_l_take : FnScope n_l_take p_l_take (defScope s_l_take) := ⟨rfl, rfl, rfl, by decide +kernel, rfl, by decide +kernel, by decide +kernel⟩
def b_l_take : M Fl := (mSeq (mIfS (mLookB (cmpF .Gt) (.ev (mIxS 0 (Dl.ret (.val (.int 0))))) (.ev (Dl.ret (.val (.int 0))))) (mSeq (mAsg (mOp2 (binF .Mod) (mIxS 0 (Dl.ret (.val (.int 0)))) (mVar 1)) (mSet ok_l_take 2)) (mSeq (mAsg (mOp2 (binF .FloorDiv) (mIxS 0 (Dl.ret (.val (.int 0)))) (mVar 1)) (mPut 0 (Dl.ret (.val (.int 0))))) (mSeq (mRet (mVar 2)) (Dl.ret .nx)))) (Dl.ret .nx)) (mSeq (mAsg (mOp2 (binF .Add) (mIxS 0 (Dl.ret (.val (.int 2)))) (Dl.ret (.val (.int 1)))) (mPut 0 (Dl.ret (.val (.int 2))))) (mSeq (mAsg (mOp2 ixD (mLst (mCons (Dl.ret (.val (.int 2147483647))) (mCons (Dl.ret (.val (.int 2147483629))) (mCons (Dl.ret (.val (.int 2147483587))) (mCons (Dl.ret (.val (.int 2147483579))) (mCons (Dl.ret (.val (.int 2147483563))) (Dl.ret []))))))) (mOp2 (binF .Mod) (mIxS 0 (Dl.ret (.val (.int 2)))) (Dl.ret (.val (.int 5))))) (mSet ok_l_take 3)) (mSeq (mAsg (mOp2 (binF .Mod) (mOp2 (binF .Pow) (mOp2 (binF .Add) (mIxS 0 (Dl.ret (.val (.int 1)))) (mOp2 (binF .Mult) (Dl.ret (.val (.int 7919))) (mIxS 0 (Dl.ret (.val (.int 2)))))) (Dl.ret (.val (.int 3)))) (mVar 3)) (mSet ok_l_take 4)) (mSeq (mRet (mOp2 (binF .Mod) (mOp2 (binF .FloorDiv) (mOp2 (binF .Mod) (mOp2 (binF .Mult) (mVar 4) (mOp2 (binF .Add) (mOp2 (binF .Mod) (mVar 4) (Dl.ret (.val (.int 1009)))) (mIxS 0 (Dl.ret (.val (.int 2)))))) (mVar 3)) (Dl.ret (.val (.int 11)))) (mVar 1))) (Dl.ret .nx))))))
@[simp] theorem o2_l_take : ok_l_take 2 = true := by decide
@[simp] theorem o3_l_take : ok_l_take 3 = true := by decide
@[simp] theorem o4_l_take : ok_l_take 4 = true := by decide
def m_l_take : FM := mDef 5 f_l_take b_l_take
theorem e_l_take : mOf n_l_take s_l_take f_l_take T5 cst blt = m_l_take := by kernel_rfl
def T6 : List (Str × FM × Nat) := ("_law_take", m_l_take, 2) :: T5
/-! ### l_of -/
abbrev s_l_of : Stmt := topS 10
def n_l_of : List Str := ["_law_hand_here", "_law_some"]
def p_l_of : List Str := ["_law_hand_here", "_law_some"]
def f_l_of : List Bool := [true, true]
def ok_l_of : Nat → Bool := fun i => !(cpOf f_l_of).contains i
theorem sc_l_of : FnScope n_l_of p_l_of (defScope s_l_of) := ⟨rfl, rfl, rfl, by decide +kernel, rfl, by decide +kernel, by decide +kernel⟩
def b_l_of : M Fl := (mSeq (mRet (mIxS 1 (mCall m_l_take [(.sl 0), (.ev (mLook1 lenD (.sl 1)))]))) (Dl.ret .nx))
def m_l_of : FM := mDef 2 f_l_of b_l_of
theorem e_l_of : mOf n_l_of s_l_of f_l_of T6 cst blt = m_l_of := by kernel_rfl
def T7 : List (Str × FM × Nat) := ("_law_of", m_l_of, 2) :: T6
/-! ### l_need -/
abbrev s_l_need : Stmt := topS 11
def n_l_need : List Str := ["_law_hand_here", "_law_top", "_law_some"]
def p_l_need : List Str := ["_law_hand_here", "_law_top"]
def f_l_need : List Bool := [true, true]
def ok_l_need : Nat → Bool := fun i => !(cpOf f_l_need).contains i
theorem sc_l_need : FnScope n_l_need p_l_need (defScope s_l_need) := ⟨rfl, rfl, rfl, by decide +kernel, rfl, by decide +kernel, by decide +kernel⟩
def b_l_need : M Fl := (mSeq (mAsg (mLst (mCons (Dl.ret (.val (.int 0))) (mCons (Dl.ret (.val (.int 1))) (mCons (mCall m_l_take [(.sl 0), (.ev (Dl.ret (.val (.int 4))))]) (mCons (mCall m_l_take [(.sl 0), (.ev (mOp2 (binF .Add) (mVar 1) (Dl.ret (.val (.int 1)))))]) (mCons (mCall m_l_take [(.sl 0), (.ev (mOp2 (binF .Add) (mVar 1) (Dl.ret (.val (.int 1)))))]) (mCons (mCall m_l_take [(.sl 0), (.ev (mOp2 (binF .Add) (mVar 1) (Dl.ret (.val (.int 1)))))]) (Dl.ret [])))))))) (mSet ok_l_need 2)) (mSeq (mRet (mCall m_l_of [(.sl 0), (.ev (mOp2 (binF .Add) (mVar 2) (mLst (mCons (mIf (mLookB (cmpF .Gt) (.sl 1) (.ev (Dl.ret (.val (.int 99))))) (mOp2 (binF .Pow) (Dl.ret (.val (.int 10))) (Dl.ret (.val (.int 9)))) (mVar 1)) (Dl.ret [])))))])) (Dl.ret .nx)))
@[simp] theorem o2_l_need : ok_l_need 2 = true := by decide
def m_l_need : FM := mDef 3 f_l_need b_l_need
theorem e_l_need : mOf n_l_need s_l_need f_l_need T7 cst blt = m_l_need := by kernel_rfl
def T8 : List (Str × FM × Nat) := ("_law_need", m_l_need, 2) :: T7
/-! ### l_grid -/
abbrev s_l_grid : Stmt := topS 12
def n_l_grid : List Str := ["_law_hand_here", "_law_widest", "_law_most", "_law_top", "_law_wide", "_law_way", "_law_found", "_law_number", "_law_begin", "_law_end"]
def p_l_grid : List Str := ["_law_hand_here", "_law_widest", "_law_most", "_law_top"]
def f_l_grid : List Bool := [true, true, true, true]
def ok_l_grid : Nat → Bool := fun i => !(cpOf f_l_grid).contains i
theorem sc_l_grid : FnScope n_l_grid p_l_grid (defScope s_l_grid) := ⟨rfl, rfl, rfl, by decide +kernel, rfl, by decide +kernel, by decide +kernel⟩
def lb_l_grid_1 : M Fl := (mSeq (mAsg (mCall m_l_take [(.sl 0), (.sl 4)]) (mSet ok_l_grid 8)) (mSeq (mAsg (mOp2 (binF .Add) (mOp2 (binF .Add) (mVar 8) (Dl.ret (.val (.int 1)))) (mCall m_l_take [(.sl 0), (.ev (mOp2 (binF .Sub) (mVar 4) (mVar 8)))])) (mSet ok_l_grid 9)) (mSeq (mIfS (mLookB (cmpF .Eq) (.sl 5) (.ev (Dl.ret (.val (.int 1))))) (mSeq (mAsg (mScN min2 (mCons (mVar 4) (mCons (mOp2 (binF .Add) (mOp2 (binF .Add) (mVar 8) (Dl.ret (.val (.int 1)))) (mCall m_l_take [(.sl 0), (.ev (Dl.ret (.val (.int 2))))])) (Dl.ret [])))) (mSet ok_l_grid 9)) (Dl.ret .nx)) (Dl.ret .nx)) (mSeq (mIfS (mLookB (cmpF .Eq) (.sl 5) (.ev (Dl.ret (.val (.int 2))))) (mSeq (mAsg (mOp2 (binF .Mod) (mVar 7) (mVar 4)) (mSet ok_l_grid 8)) (mSeq (mAsg (mScN min2 (mCons (mVar 4) (mCons (mOp2 (binF .Add) (mVar 8) (Dl.ret (.val (.int 2)))) (Dl.ret [])))) (mSet ok_l_grid 9)) (Dl.ret .nx))) (Dl.ret .nx)) (mSeq (mIfS (mLookB (cmpF .Eq) (.sl 5) (.ev (Dl.ret (.val (.int 3))))) (mSeq (mPar2 ok_l_grid 8 9 (mCons (mOp2 (binF .FloorDiv) (mScN min2 (mCons (mVar 7) (mCons (mOp2 (binF .Sub) (mVar 4) (Dl.ret (.val (.int 1)))) (Dl.ret [])))) (Dl.ret (.val (.int 2)))) (mCons (mScN max2 (mCons (mOp2 (binF .Sub) (mVar 4) (mOp2 (binF .FloorDiv) (mVar 7) (Dl.ret (.val (.int 2))))) (mCons (mOp2 (binF .Add) (mOp2 (binF .FloorDiv) (mScN min2 (mCons (mVar 7) (mCons (mOp2 (binF .Sub) (mVar 4) (Dl.ret (.val (.int 1)))) (Dl.ret [])))) (Dl.ret (.val (.int 2)))) (Dl.ret (.val (.int 1)))) (Dl.ret [])))) (Dl.ret [])))) (Dl.ret .nx)) (Dl.ret .nx)) (mSeq (mIfS (mAnd (mLookB (cmpF .Eq) (.sl 5) (.ev (Dl.ret (.val (.int 4))))) (mLookB (cmpF .Eq) (.ev (mCall m_l_take [(.sl 0), (.ev (Dl.ret (.val (.int 2))))])) (.ev (Dl.ret (.val (.int 0)))))) (mSeq (mAsg (mOp2 (binF .Add) (mVar 8) (Dl.ret (.val (.int 1)))) (mSet ok_l_grid 9)) (Dl.ret .nx)) (Dl.ret .nx)) (mSeq (mIfS (mAnd (mLookB (cmpF .Eq) (.sl 5) (.ev (Dl.ret (.val (.int 5))))) (mLookB (cmpF .NotEq) (.sl 6) (.ev (mLst (Dl.ret []))))) (mSeq (mAsg (mSlc (mCall m_l_of [(.sl 0), (.sl 6)]) (Dl.ret none) (mPart (Dl.ret (.val (.int 2))))) (mGTup 2 (mGCons (mSet ok_l_grid 8) (mGCons (mSet ok_l_grid 9) mGNil)))) (Dl.ret .nx)) (Dl.ret .nx)) (mSeq (mDo (mApp 6 (mTup (mCons (mVar 8) (mCons (mVar 9) (mCons (mCall m_l_need [(.sl 0), (.sl 3)]) (Dl.ret []))))))) (Dl.ret .nx)))))))))
def b_l_grid : M Fl := (mSeq (mPar3 ok_l_grid 4 5 6 (mCons (mOp2 (binF .Add) (Dl.ret (.val (.int 1))) (mCall m_l_take [(.sl 0), (.sl 1)])) (mCons (mCall m_l_take [(.sl 0), (.ev (Dl.ret (.val (.int 6))))]) (mCons (mLst (Dl.ret [])) (Dl.ret []))))) (mSeq (mFor (mRng (mCons (mCall m_l_take [(.sl 0), (.ev (mOp2 (binF .Add) (mVar 2) (Dl.ret (.val (.int 1)))))]) (Dl.ret []))) (mSet ok_l_grid 7) lb_l_grid_1) (mSeq (mRet (mTup (mCons (mVar 4) (mCons (mOpN tupN (mCons (mVar 6) (Dl.ret []))) (Dl.ret []))))) (Dl.ret .nx))))
@[simp] theorem o4_l_grid : ok_l_grid 4 = true := by decide
@[simp] theorem o5_l_grid : ok_l_grid 5 = true := by decide
@[simp] theorem o6_l_grid : ok_l_grid 6 = true := by decide
@[simp] theorem o7_l_grid : ok_l_grid 7 = true := by decide
@[simp] theorem o8_l_grid : ok_l_grid 8 = true := by decide
@[simp] theorem o9_l_grid : ok_l_grid 9 = true := by decide
def m_l_grid : FM := mDef 10 f_l_grid b_l_grid
theorem e_l_grid : mOf n_l_grid s_l_grid f_l_grid T8 cst blt = m_l_grid := by kernel_rfl
def T9 : List (Str × FM × Nat) := ("_law_grid", m_l_grid, 4) :: T8
/-! ### l_sums -/
abbrev s_l_sums : Stmt := topS 13
def n_l_sums : List Str := ["_law_grid_here", "_law_low", "_law_found", "_law_turn", "_law_begin", "_law_end", "_law_need_here", "_law_edge"]
def p_l_sums : List Str := ["_law_grid_here", "_law_low"]
def f_l_sums : List Bool := [true, true]
def ok_l_sums : Nat → Bool := fun i => !(cpOf f_l_sums).contains i
theorem sc_l_sums : FnScope n_l_sums p_l_sums (defScope s_l_sums) := ⟨rfl, rfl, rfl, by decide +kernel, rfl, by decide +kernel, by decide +kernel⟩
def lb_l_sums_1 : M Fl := (mSeq (mAsg (mScN max2 (mCons (mIxS 2 (mVar 7)) (mCons (mIxS 2 (mOp2 (binF .Sub) (mVar 7) (Dl.ret (.val (.int 1))))) (Dl.ret [])))) (mPut 2 (mVar 7))) (Dl.ret .nx))
def lb_l_sums_2 : M Fl := (mSeq (mIfS (mLookB (cmpF .GtE) (.sl 4) (.sl 1)) (mSeq (mAsg (mScN max2 (mCons (mIxS 2 (mVar 5)) (mCons (mOp2 (binF .Add) (mIxS 2 (mVar 4)) (mVar 6)) (Dl.ret [])))) (mPut 2 (mVar 5))) (Dl.ret .nx)) (Dl.ret .nx)) (Dl.ret .nx))
def lb_l_sums_3 : M Fl := (mSeq (mFor (mSeqI (mIxS 0 (Dl.ret (.val (.int 1))))) (mGTup 3 (mGCons (mSet ok_l_sums 4) (mGCons (mSet ok_l_sums 5) (mGCons (mSet ok_l_sums 6) mGNil)))) lb_l_sums_2) (mSeq (mFor (mRng (mCons (mOp2 (binF .Add) (mVar 1) (Dl.ret (.val (.int 1)))) (mCons (mOp2 (binF .Add) (mIxS 0 (Dl.ret (.val (.int 0)))) (Dl.ret (.val (.int 1)))) (Dl.ret [])))) (mSet ok_l_sums 7) lb_l_sums_1) (Dl.ret .nx)))
def b_l_sums : M Fl := (mSeq (mAsg (mOp2 (binF .Mult) (mLst (mCons (Dl.ret (.val (.int 0))) (Dl.ret []))) (mOp2 (binF .Add) (mIxS 0 (Dl.ret (.val (.int 0)))) (Dl.ret (.val (.int 1))))) (mSet ok_l_sums 2)) (mSeq (mFor (mRng (mCons (mIxS 0 (Dl.ret (.val (.int 0)))) (Dl.ret []))) (mSet ok_l_sums 3) lb_l_sums_3) (mSeq (mRet (mVar 2)) (Dl.ret .nx))))
@[simp] theorem o2_l_sums : ok_l_sums 2 = true := by decide
@[simp] theorem o3_l_sums : ok_l_sums 3 = true := by decide
@[simp] theorem o4_l_sums : ok_l_sums 4 = true := by decide
@[simp] theorem o5_l_sums : ok_l_sums 5 = true := by decide
@[simp] theorem o6_l_sums : ok_l_sums 6 = true := by decide
@[simp] theorem o7_l_sums : ok_l_sums 7 = true := by decide
def m_l_sums : FM := mDef 8 f_l_sums b_l_sums
theorem e_l_sums : mOf n_l_sums s_l_sums f_l_sums T9 cst blt = m_l_sums := by kernel_rfl
def T10 : List (Str × FM × Nat) := ("_law_sums", m_l_sums, 2) :: T9
/-! ### l_least -/
abbrev s_l_least : Stmt := topS 14
def n_l_least : List Str := ["_law_grid_here"]
def p_l_least : List Str := ["_law_grid_here"]
def f_l_least : List Bool := [true]
def ok_l_least : Nat → Bool := fun i => !(cpOf f_l_least).contains i
theorem sc_l_least : FnScope n_l_least p_l_least (defScope s_l_least) := ⟨rfl, rfl, rfl, by decide +kernel, rfl, by decide +kernel, by decide +kernel⟩
def b_l_least : M Fl := (mSeq (mRet (mOp2 ixD (mCall m_l_sums [(.sl 0), (.ev (Dl.ret (.val (.int 0))))]) (mIxS 0 (Dl.ret (.val (.int 0)))))) (Dl.ret .nx))
def m_l_least : FM := mDef 1 f_l_least b_l_least
theorem e_l_least : mOf n_l_least s_l_least f_l_least T10 cst blt = m_l_least := by kernel_rfl
def T11 : List (Str × FM × Nat) := ("_law_least", m_l_least, 1) :: T10
/-! ### l_with -/
abbrev s_l_with : Stmt := topS 15
def n_l_with : List Str := ["_law_grid_here", "_law_number", "_law_need_here"]
def p_l_with : List Str := ["_law_grid_here", "_law_number", "_law_need_here"]
def f_l_with : List Bool := [true, true, true]
def ok_l_with : Nat → Bool := fun i => !(cpOf f_l_with).contains i
theorem sc_l_with : FnScope n_l_with p_l_with (defScope s_l_with) := ⟨rfl, rfl, rfl, by decide +kernel, rfl, by decide +kernel, by decide +kernel⟩
def b_l_with : M Fl := (mSeq (mRet (mTup (mCons (mIxS 0 (Dl.ret (.val (.int 0)))) (mCons (mOp2 (binF .Add) (mOp2 (binF .Add) (mSlc (mIxS 0 (Dl.ret (.val (.int 1)))) (Dl.ret none) (mPart (mVar 1))) (mTup (mCons (mOp2 (binF .Add) (mSlc (mOp2 ixD (mIxS 0 (Dl.ret (.val (.int 1)))) (mVar 1)) (Dl.ret none) (mPart (Dl.ret (.val (.int 2))))) (mTup (mCons (mVar 2) (Dl.ret [])))) (Dl.ret [])))) (mSlc (mIxS 0 (Dl.ret (.val (.int 1)))) (mPart (mOp2 (binF .Add) (mVar 1) (Dl.ret (.val (.int 1))))) (Dl.ret none))) (Dl.ret []))))) (Dl.ret .nx))
def m_l_with : FM := mDef 3 f_l_with b_l_with
theorem e_l_with : mOf n_l_with s_l_with f_l_with T11 cst blt = m_l_with := by kernel_rfl
def T12 : List (Str × FM × Nat) := ("_law_with", m_l_with, 3) :: T11
/-! ### l_hand -/
abbrev s_l_hand : Stmt := topS 16
def n_l_hand : List Str := ["_law_script", "_law_k", "_law_cell", "_law_great"]
def p_l_hand : List Str := ["_law_script", "_law_k"]
def f_l_hand : List Bool := [true, true]
def ok_l_hand : Nat → Bool := fun i => !(cpOf f_l_hand).contains i
theorem sc_l_hand : FnScope n_l_hand p_l_hand (defScope s_l_hand) := ⟨rfl, rfl, rfl, by decide +kernel, rfl, by decide +kernel, by decide +kernel⟩
def b_l_hand : M Fl := (mSeq (mAsg (mIf (mLookB (cmpF .Lt) (.sl 1) (.ev (mLook1 lenD (.sl 0)))) (mIxS 0 (mVar 1)) (Dl.ret (.val (.int 0)))) (mSet ok_l_hand 2)) (mSeq (mAsg (mOp2 (binF .Mult) (mOp2 (binF .Mod) (mLook1 absD (.sl 2)) (mOp2 (binF .Mult) (mOp2 (binF .Mult) (mOp2 (binF .Pow) (Dl.ret (.val (.int 10))) (Dl.ret (.val (.int 60)))) (mOp2 (binF .Pow) (Dl.ret (.val (.int 10))) (Dl.ret (.val (.int 60))))) (mOp2 (binF .Pow) (Dl.ret (.val (.int 10))) (Dl.ret (.val (.int 60)))))) (mLook1 intD (.ev (mLook (cmpF .GtE) (.ev (mLook1 absD (.sl 2))) (.ev (mOp2 (binF .Pow) (Dl.ret (.val (.int 10))) (Dl.ret (.val (.int 18))))))))) (mSet ok_l_hand 3)) (mSeq (mRet (mLst (mCons (mVar 3) (mCons (mOp2 (binF .Mod) (mOp2 (binF .Mult) (mOp2 (binF .Add) (mOp2 (binF .Add) (mOp2 (binF .Mod) (mVar 2) (Dl.ret (.val (.int 2147483629)))) (mOp2 (binF .Mult) (Dl.ret (.val (.int 7919))) (mVar 1))) (Dl.ret (.val (.int 13)))) (Dl.ret (.val (.int 48271)))) (Dl.ret (.val (.int 2147483647)))) (mCons (Dl.ret (.val (.int 0))) (Dl.ret [])))))) (Dl.ret .nx))))
@[simp] theorem o2_l_hand : ok_l_hand 2 = true := by decide
@[simp] theorem o3_l_hand : ok_l_hand 3 = true := by decide
def m_l_hand : FM := mDef 4 f_l_hand b_l_hand
theorem e_l_hand : mOf n_l_hand s_l_hand f_l_hand T12 cst blt = m_l_hand := by kernel_rfl
def T13 : List (Str × FM × Nat) := ("_law_hand", m_l_hand, 2) :: T12
/-! ### l_right -/
abbrev s_l_right : Stmt := topS 17
def n_l_right : List Str := ["_law_hand_here", "_law_grid_here", "_law_kept", "_law_best", "_law_due", "_law_number", "_law_begin", "_law_end", "_law_need_here"]
def p_l_right : List Str := ["_law_hand_here"]
def f_l_right : List Bool := [true]
def ok_l_right : Nat → Bool := fun i => !(cpOf f_l_right).contains i
theorem sc_l_right : FnScope n_l_right p_l_right (defScope s_l_right) := ⟨rfl, rfl, rfl, by decide +kernel, rfl, by decide +kernel, by decide +kernel⟩
def le_l_right_1 : M O := (mLook (cmpF .Eq) (.ev (mCall m_l_least [(.ev (mCall m_l_with [(.sl 1), (.sl 5), (.ev (mOp2 (binF .Sub) (mOp2 ixD (mOp2 ixD (mIxS 1 (Dl.ret (.val (.int 1)))) (mVar 5)) (Dl.ret (.val (.int 2)))) (Dl.ret (.val (.int 1)))))]))])) (.ev (mOp2 (binF .Sub) (mVar 3) (Dl.ret (.val (.int 1))))))
def lb_l_right_2 : M Fl := (mSeq (mIfS (mAnd (mLookB (cmpF .Gt) (.sl 8) (.ev (Dl.ret (.val (.int 0))))) (mLookB (cmpF .Lt) (.ev (mCall m_l_least [(.ev (mCall m_l_with [(.sl 1), (.sl 5), (.ev (mOp2 (binF .Sub) (mVar 8) (Dl.ret (.val (.int 1)))))]))])) (.sl 3))) (mSeq (mDo (mApp 4 (mVar 5))) (Dl.ret .nx)) (Dl.ret .nx)) (Dl.ret .nx))
def b_l_right : M Fl := (mSeq (mAsg (mCall m_l_grid [(.sl 0), (.ev (Dl.ret (.val (.int 12)))), (.ev (Dl.ret (.val (.int 20)))), (.ev (mCall m_l_of [(.sl 0), (.ev (mLst (mCons (Dl.ret (.val (.int 3))) (mCons (Dl.ret (.val (.int 9))) (mCons (Dl.ret (.val (.int 999))) (mCons (mOp2 (binF .Pow) (Dl.ret (.val (.int 10))) (Dl.ret (.val (.int 9)))) (Dl.ret [])))))))]))]) (mSet ok_l_right 1)) (mSeq (mUnp 3 (mCons (mLook1 reprD (.sl 1)) (mCons (mCall m_l_least [(.sl 1)]) (mCons (mLst (Dl.ret [])) (Dl.ret [])))) (mGCons (mSet ok_l_right 2) (mGCons (mSet ok_l_right 3) (mGCons (mSet ok_l_right 4) mGNil)))) (mSeq (mFor (mEnum (mIxS 1 (Dl.ret (.val (.int 1))))) (mGTup 2 (mGCons (mSet ok_l_right 5) (mGCons (mGTup 3 (mGCons (mSet ok_l_right 6) (mGCons (mSet ok_l_right 7) (mGCons (mSet ok_l_right 8) mGNil)))) mGNil))) lb_l_right_2) (mSeq (mIfS (mLookB (cmpF .NotEq) (.ev (mLook1 reprD (.ev (mCall m_holders [(.sl 1)])))) (.ev (mLook1 reprD (.ev (mOpN tupN (mCons (mVar 4) (Dl.ret []))))))) (mSeq (mRet (Dl.ret (.val (.bl false)))) (Dl.ret .nx)) (Dl.ret .nx)) (mSeq (mIfS (mNot (mB (mLook1 allD (.ev (mComp [5] (mSeqI (mVar 4)) (mSet (inOf [5]) 5) (Dl.ret true) le_l_right_1))))) (mSeq (mRet (Dl.ret (.val (.bl false)))) (Dl.ret .nx)) (Dl.ret .nx)) (mSeq (mRet (mLook (cmpF .Eq) (.ev (mLook1 reprD (.sl 1))) (.sl 2))) (Dl.ret .nx)))))))
@[simp] theorem o1_l_right : ok_l_right 1 = true := by decide
@[simp] theorem o2_l_right : ok_l_right 2 = true := by decide
@[simp] theorem o3_l_right : ok_l_right 3 = true := by decide
@[simp] theorem o4_l_right : ok_l_right 4 = true := by decide
@[simp] theorem o5_l_right : ok_l_right 5 = true := by decide
@[simp] theorem o6_l_right : ok_l_right 6 = true := by decide
@[simp] theorem o7_l_right : ok_l_right 7 = true := by decide
@[simp] theorem o8_l_right : ok_l_right 8 = true := by decide
def m_l_right : FM := mDef 9 f_l_right b_l_right
theorem e_l_right : mOf n_l_right s_l_right f_l_right T13 cst blt = m_l_right := by kernel_rfl
def T14 : List (Str × FM × Nat) := ("_law_right", m_l_right, 1) :: T13
/-! ### law -/
abbrev s_law : Stmt := topS 18
def n_law : List Str := ["_law_script", "_law_k", "_law_hand_here", "_law_turn"]
def p_law : List Str := ["_law_script"]
def f_law : List Bool := [true]
def ok_law : Nat → Bool := fun i => !(cpOf f_law).contains i
theorem sc_law : FnScope n_law p_law (defScope s_law) := ⟨rfl, rfl, rfl, by decide +kernel, rfl, by decide +kernel, by decide +kernel⟩
def le_law_1 : M O := (mCall m_l_right [(.sl 2)])
def lb_law_2 : M Fl := (mSeq (mAsg (mCall m_l_hand [(.sl 0), (.sl 1)]) (mSet ok_law 2)) (mSeq (mIfS (mNot (mB (mLook1 allD (.ev (mComp [3] (mRng (mCons (Dl.ret (.val (.int 8))) (Dl.ret []))) (mSet (inOf [3]) 3) (Dl.ret true) le_law_1))))) (mSeq (mRet (Dl.ret (.val (.bl false)))) (Dl.ret .nx)) (Dl.ret .nx)) (Dl.ret .nx)))
def b_law : M Fl := (mSeq (mFor (mRng (mCons (mScN max2 (mCons (Dl.ret (.val (.int 1))) (mCons (mScN min2 (mCons (Dl.ret (.val (.int 3))) (mCons (mLook1 lenD (.sl 0)) (Dl.ret [])))) (Dl.ret [])))) (Dl.ret []))) (mSet ok_law 1) lb_law_2) (mSeq (mRet (Dl.ret (.val (.bl true)))) (Dl.ret .nx)))
@[simp] theorem o1_law : ok_law 1 = true := by decide
@[simp] theorem o2_law : ok_law 2 = true := by decide
@[simp] theorem o3_law : ok_law 3 = true := by decide
def m_law : FM := mDef 4 f_law b_law
theorem e_law : mOf n_law s_law f_law T14 cst blt = m_law := by kernel_rfl
def T15 : List (Str × FM × Nat) := ("law", m_law, 1) :: T14
end Kl

set_option maxHeartbeats 8000000
namespace Dl
open PySem L2
@[simp] theorem atI_3 {γ : Type} (a b c d : γ) (l : List γ) : atI (a :: b :: c :: d :: l) 3 = some d := by
  unfold atI ixN
  rw [if_pos (by omega), if_pos (by simp only [List.length_cons]; omega)]
  rfl
@[simp] theorem atI_4 {γ : Type} (a b c d e : γ) (l : List γ) : atI (a :: b :: c :: d :: e :: l) 4 = some e := by
  unfold atI ixN
  rw [if_pos (by omega), if_pos (by simp only [List.length_cons]; omega)]
  rfl
theorem limI {i : Int} (h1 : -10000000000000000000000000000000000000000 ≤ i) (h2 : i ≤ 10000000000000000000000000000000000000000) : i.natAbs < lim4 := by
  have h : i.natAbs < 2 ^ 200 := by omega
  exact Nat.lt_of_lt_of_le h (Nat.pow_le_pow_right (by decide) (by decide))
theorem atI_mp {α β : Type} (f : α → β) (l : List α) (i : Int) : atI (l.map f) i = (atI l i).map f := by
  unfold atI
  rw [List.length_map]
  cases ixN l.length i with
  | none => rfl
  | some j => simp
theorem atI_in {γ : Type} {l : List γ} {i : Int} (h0 : 0 ≤ i) (h1 : i < l.length) : ∃ a, atI l i = some a ∧ a ∈ l := by
  have hn : i.toNat < l.length := by omega
  refine ⟨l[i.toNat], ?_, List.getElem_mem hn⟩
  unfold atI ixN
  rw [if_pos h0, if_pos (by omega)]
  exact List.getElem?_eq_getElem hn
theorem sq_lt {a b : Int} (ha : 0 ≤ a) (h : a < 2147483648) (hb : 0 ≤ b) (h2 : b < 10000000000000) : a * b < 21474836480000000000000 := by
  have h1 : a * b ≤ 2147483648 * b := Int.mul_le_mul_of_nonneg_right (by omega) hb
  omega
end Dl
namespace Kl
open PySem L2 Dl
/-- a hand -/
structure Hd (B : Int) (hl : List O) : Prop where
  ex : ∃ g s c : Int, hl = [.val (.int g), .val (.int s), .val (.int c)] ∧ 0 ≤ g ∧ 0 ≤ s ∧ s < 2147483647 ∧ 0 ≤ c ∧ c ≤ B
theorem Hd.mono {B C : Int} {hl : List O} (h : Hd B hl) (hb : B ≤ C) : Hd C hl := by
  obtain ⟨g, s, c, e, h1, h2, h3, h4, h5⟩ := h.ex
  exact ⟨g, s, c, e, h1, h2, h3, h4, by omega⟩
theorem take_zero (s c n p : Int) (h0 : 0 ≤ s) (h1 : s < 2147483647) (h2 : 0 ≤ c) (h3 : c ≤ 1000000000) (hn : 0 < n)
    (hp : 0 < p) (hp2 : p < 2147483648) (ha : atI [D.int 2147483647, .int 2147483629, .int 2147483587, .int 2147483579, .int 2147483563] ((c + 1) % 5) = some (.int p)) :
    ∃ d, m_l_take [.lst [.val (.int 0), .val (.int s), .val (.int c)], .val (.int n)] = .ok (.val (.int d)) [.lst [.val (.int 0), .val (.int s), .val (.int (c + 1))], .val (.int n)] ∧ 0 ≤ d ∧ d < n := by
  have l1 := bin_mul 7919 (c + 1) (limI (by omega) (by omega)) (limI (by omega) (by omega))
  have l2 := bin_mod (c + 1) 5 (by omega)
  have l3 := bin_pow (s + 7919 * (c + 1)) 3 (by omega) (by omega) (by omega)
  generalize hq : s + 7919 * (c + 1) = q at l3
  have l3 : binF .Pow (.int q) (.int 3) = some (.val (.int (q ^ 3))) := l3
  have l4 := bin_mod (q ^ 3) p hp
  have b1 := Int.emod_nonneg (q ^ 3) (show p ≠ 0 by omega)
  have b2 := Int.emod_lt_of_pos (q ^ 3) hp
  generalize q ^ 3 % p = r at l4 b1 b2
  have l5 := bin_mod r 1009 (by omega)
  have l6 := bin_mul r (r % 1009 + (c + 1)) (limI (by omega) (by omega)) (limI (by omega) (by omega))
  have l7 := bin_mod (r * (r % 1009 + (c + 1))) p hp
  have l8 := bin_div (r * (r % 1009 + (c + 1)) % p) 11 (by omega) (limI (by omega) (by omega))
  have l9 := bin_mod (r * (r % 1009 + (c + 1)) % p / 11) n hn
  refine ⟨r * (r % 1009 + (c + 1)) % p / 11 % n, ?_, Int.emod_nonneg _ (by omega), Int.emod_lt_of_pos _ hn⟩
  simp [m_l_take, b_l_take, f_l_take, ixN, l1, l2, ha, hq, l3, l4, l5, l6, l7, l8, l9]
theorem take_spec {B n : Int} {hl : List O} (h : Hd B hl) (hB : B ≤ 1000000000) (hn : 0 < n) (hn2 : n ≤ 10000000000000000000000000000000000000000) :
    ∃ d hl', m_l_take [.lst hl, .val (.int n)] = .ok (.val (.int d)) [.lst hl', .val (.int n)] ∧ 0 ≤ d ∧ d < n ∧ Hd (B + 1) hl' := by
  obtain ⟨g, s, c, rfl, h0, h1, h2, h3, h4⟩ := h.ex
  by_cases hg : 0 < g
  · refine ⟨g % n, [.val (.int (g / n)), .val (.int s), .val (.int c)], ?_, Int.emod_nonneg _ (by omega), Int.emod_lt_of_pos _ hn, ⟨_, _, _, rfl, Int.ediv_nonneg h0 (by omega), h1, h2, h3, by omega⟩⟩
    simp [m_l_take, b_l_take, bin_mod, bin_div, hg, hn, limI (show -10000000000000000000000000000000000000000 ≤ n by omega) hn2, f_l_take, ixN]
  · have hg0 : g = 0 := by omega
    subst hg0
    have hp : ∃ p, 0 < p ∧ p < 2147483648 ∧ atI [D.int 2147483647, .int 2147483629, .int 2147483587, .int 2147483579, .int 2147483563] ((c + 1) % 5) = some (.int p) := by
      have hr : (c + 1) % 5 = 0 ∨ (c + 1) % 5 = 1 ∨ (c + 1) % 5 = 2 ∨ (c + 1) % 5 = 3 ∨ (c + 1) % 5 = 4 := by omega
      rcases hr with hr | hr | hr | hr | hr <;> rw [hr]
      · exact ⟨2147483647, by omega, by omega, atI_0 _ _⟩
      · exact ⟨2147483629, by omega, by omega, atI_1 _ _ _⟩
      · exact ⟨2147483587, by omega, by omega, atI_2 _ _ _ _⟩
      · exact ⟨2147483579, by omega, by omega, atI_3 _ _ _ _ _⟩
      · exact ⟨2147483563, by omega, by omega, atI_4 _ _ _ _ _ _⟩
    obtain ⟨p, p1, p2, p3⟩ := hp
    obtain ⟨d, e, d1, d2⟩ := take_zero s c n p h1 h2 h3 (by omega) hn p1 p2 p3
    exact ⟨d, _, e, d1, d2, ⟨_, _, _, rfl, by omega, h1, h2, by omega, by omega⟩⟩
/-- one of some things -/
theorem of_own {B : Int} {hl : List O} {ds : List D} (h : Hd B hl) (hB : B ≤ 1000000000) (hn : ds ≠ []) (hn2 : ds.length ≤ 1000000) :
    ∃ d hl', m_l_of [.lst hl, .lst (ds.map .val)] = .ok (.val d) [.lst hl', .lst (ds.map .val)] ∧ d ∈ ds ∧ Hd (B + 1) hl' := by
  have hp : 0 < ds.length := List.length_pos_iff.mpr hn
  obtain ⟨i, hl', e, i0, i1, h'⟩ := take_spec (n := (ds.length : Int)) h hB (by omega) (by omega)
  obtain ⟨a, e2, ha⟩ := atI_in (l := ds) i0 i1
  have e3 : atI (ds.map O.val) i = some (.val a) := by
    rw [atI_mp, e2]; rfl
  refine ⟨a, hl', ?_, ha, h'⟩
  simp [m_l_of, b_l_of, f_l_of, e, e3]
end Kl

namespace Kl
open PySem L2 Dl
theorem ten9 : binF .Pow (.int 10) (.int 9) = some (.val (.int 1000000000)) := by
  rw [bin_pow 10 9 (by omega) (by omega) (by omega)]; rfl
theorem need_spec {B top : Int} {hl : List O} (h : Hd B hl) (hB : B ≤ 900000000) (ht : 0 ≤ top) (ht2 : top ≤ 1000000000) :
    ∃ v hl', m_l_need [.lst hl, .val (.int top)] = .ok (.val (.int v)) [.lst hl', .val (.int top)] ∧ 0 ≤ v ∧ v ≤ 1000000000 ∧ Hd (B + 5) hl' := by
  obtain ⟨d1, h1, e1, _, _, k1⟩ := take_spec (n := 4) h (by omega) (by omega) (by omega)
  obtain ⟨d2, h2, e2, _, _, k2⟩ := take_spec (n := top + 1) k1 (by omega) (by omega) (by omega)
  obtain ⟨d3, h3, e3, _, _, k3⟩ := take_spec (n := top + 1) k2 (by omega) (by omega) (by omega)
  obtain ⟨d4, h4, e4, _, _, k4⟩ := take_spec (n := top + 1) k3 (by omega) (by omega) (by omega)
  have fin : ∀ z : Int, 0 ≤ z → z ≤ 1000000000 → ∃ v h', m_l_of [.lst h4, .lst [.val (.int 0), .val (.int 1), .val (.int d1), .val (.int d2), .val (.int d3), .val (.int d4), .val (.int z)]] = .ok (.val (.int v)) [.lst h', .lst [.val (.int 0), .val (.int 1), .val (.int d1), .val (.int d2), .val (.int d3), .val (.int d4), .val (.int z)]] ∧ 0 ≤ v ∧ v ≤ 1000000000 ∧ Hd (B + 5) h' := fun z hz hz2 => by
    obtain ⟨d, h5, e5, hm, k5⟩ := of_own (ds := [.int 0, .int 1, .int d1, .int d2, .int d3, .int d4, .int z]) k4 (by omega) (by simp) (by simp)
    simp only [List.map_cons, List.map_nil] at e5
    simp only [List.mem_cons, List.not_mem_nil, or_false] at hm
    have k6 := k5.mono (show B + 1 + 1 + 1 + 1 + 1 ≤ B + 5 by omega)
    rcases hm with rfl | rfl | rfl | rfl | rfl | rfl | rfl <;> exact ⟨_, _, e5, by omega, by omega, k6⟩
  by_cases hc : 99 < top
  · obtain ⟨v, h', e, v1, v2, k⟩ := fin 1000000000 (by omega) (by omega)
    refine ⟨v, h', ?_, v1, v2, k⟩
    simp [m_l_need, b_l_need, f_l_need, e1, e2, e3, e4, hc, ten9, sum_ll, e]
  · obtain ⟨v, h', e, v1, v2, k⟩ := fin top (by omega) (by omega)
    refine ⟨v, h', ?_, v1, v2, k⟩
    simp [m_l_need, b_l_need, f_l_need, e1, e2, e3, e4, hc, ten9, sum_ll, e]
end Kl

namespace Kl
open PySem L2 Dl
/-- a cell -/
structure CellD (w : Int) (d : D) : Prop where
  ex : ∃ b e n : Int, d = .tup [.int b, .int e, .int n] ∧ 0 ≤ b ∧ b < e ∧ e ≤ w ∧ 0 ≤ n ∧ n ≤ 1000000000
theorem CellD.tm {w : Int} {d : D} (h : CellD w d) (hw : w ≤ 1000) : Tm 1 d := by
  obtain ⟨b, e, n, rfl, _⟩ := h.ex
  intro x hx
  simp only [List.mem_cons, List.not_mem_nil, or_false] at hx
  rcases hx with rfl | rfl | rfl <;> (show Int.natAbs _ < 10 ^ 60; omega)
theorem cut2 (a b c : D) : cutD [a, b, c] none (some 2) = [a, b] := rfl
section
variable {B top wide way num : Int} {hl : List O} {fd : List D} {s1 s2 : Option O} {s8 s9 : Option O}
theorem grid_turn (h : Hd B hl) (hB : B ≤ 800000000) (ht : 0 ≤ top) (ht2 : top ≤ 1000000000) (hw : 0 < wide) (hw2 : wide ≤ 1000) (hn : 0 ≤ num) (hn2 : num ≤ 1000000) (hf : fd.length < 1000000) (hc : ∀ d ∈ fd, CellD wide d) :
    ∃ hl' b e v, lb_l_grid_1 [some (.lst hl), s1, s2, some (.val (.int top)), some (.val (.int wide)), some (.val (.int way)), some (.lst (fd.map .val)), some (.val (.int num)), s8, s9]
      = .ok .nx [some (.lst hl'), s1, s2, some (.val (.int top)), some (.val (.int wide)), some (.val (.int way)), some (.lst (fd.map .val ++ [.val (.tup [.int b, .int e, .int v])])), some (.val (.int num)), some (.val (.int b)), some (.val (.int e))] ∧ CellD wide (.tup [.int b, .int e, .int v]) ∧ Hd (B + 8) hl' := by
  obtain ⟨d1, h1, e1, _, _, k1⟩ := take_spec (n := wide) h (by omega) (by omega) (by omega)
  obtain ⟨d2, h2, e2, _, _, k2⟩ := take_spec (n := wide - d1) k1 (by omega) (by omega) (by omega)
  have nl := ne_lnil (n := 1) (fun d hd => (hc d hd).tm hw2) (by omega)
  by_cases w1 : way = 1
  · subst w1
    obtain ⟨d3, h3, e3, _, _, k3⟩ := take_spec (n := 2) k2 (by omega) (by omega) (by omega)
    obtain ⟨v, h4, e4, _, _, k4⟩ := need_spec k3 (by omega) ht ht2
    refine ⟨h4, d1, (if d1 + 1 + d3 < wide then d1 + 1 + d3 else wide), v, ?_, ⟨_, _, _, rfl, by omega, ?_, ?_, by omega, by omega⟩, k4.mono (by omega)⟩
    · simp [lb_l_grid_1, e1, e2, e3, e4, hf]
    · split <;> omega
    · split <;> omega
  by_cases w2 : way = 2
  · subst w2
    obtain ⟨v, h4, e4, _, _, k4⟩ := need_spec k2 (by omega) ht ht2
    have r1 := Int.emod_nonneg num (show wide ≠ 0 by omega)
    have r2 := Int.emod_lt_of_pos num hw
    refine ⟨h4, (num % wide), (if num % wide + 2 < wide then num % wide + 2 else wide), v, ?_, ⟨_, _, _, rfl, by omega, ?_, ?_, by omega, by omega⟩, k4.mono (by omega)⟩
    · simp [lb_l_grid_1, e1, e2, e4, hf, bin_mod _ _ hw]
    · split <;> omega
    · split <;> omega
  by_cases w3 : way = 3
  · subst w3
    obtain ⟨v, h4, e4, _, _, k4⟩ := need_spec k2 (by omega) ht ht2
    refine ⟨h4, ((if wide - 1 < num then wide - 1 else num) / 2), (if (if wide - 1 < num then wide - 1 else num) / 2 + 1 > wide - num / 2 then (if wide - 1 < num then wide - 1 else num) / 2 + 1 else wide - num / 2), v, ?_, ⟨_, _, _, rfl, ?_, ?_, ?_, by omega, by omega⟩, k4.mono (by omega)⟩
    · simp [lb_l_grid_1, e1, e2, e4, hf, bin_div _ 2 (by omega) (limI (by omega) (by omega))]
    · split <;> omega
    · split <;> split <;> omega
    · split <;> split <;> omega
  by_cases w4 : way = 4
  · subst w4
    obtain ⟨d3, h3, e3, _, _, k3⟩ := take_spec (n := 2) k2 (by omega) (by omega) (by omega)
    obtain ⟨v, h4, e4, _, _, k4⟩ := need_spec k3 (by omega) ht ht2
    by_cases z : d3 = 0
    · refine ⟨h4, d1, (d1 + 1), v, ?_, ⟨_, _, _, rfl, by omega, by omega, by omega, by omega, by omega⟩, k4.mono (by omega)⟩
      simp [lb_l_grid_1, e1, e2, e3, e4, hf, z]
    · refine ⟨h4, d1, (d1 + 1 + d2), v, ?_, ⟨_, _, _, rfl, by omega, by omega, by omega, by omega, by omega⟩, k4.mono (by omega)⟩
      simp [lb_l_grid_1, e1, e2, e3, e4, hf, z]
  by_cases w5 : way = 5 ∧ fd ≠ []
  · obtain ⟨rfl, hne⟩ := w5
    obtain ⟨d, h3, e3, hm, k3⟩ := of_own k2 (by omega) hne (by omega)
    obtain ⟨b, e, n, rfl, _, _, _, _, _⟩ := (hc d hm).ex
    obtain ⟨v, h4, e4, _, _, k4⟩ := need_spec k3 (by omega) ht ht2
    refine ⟨h4, b, e, v, ?_, ⟨_, _, _, rfl, by omega, by omega, by omega, by omega, by omega⟩, k4.mono (by omega)⟩
    simp [lb_l_grid_1, e1, e2, e3, e4, hf, nl, hne, slF, cut2]
  · obtain ⟨v, h4, e4, _, _, k4⟩ := need_spec k2 (by omega) ht ht2
    refine ⟨h4, d1, (d1 + 1 + d2), v, ?_, ⟨_, _, _, rfl, by omega, by omega, by omega, by omega, by omega⟩, k4.mono (by omega)⟩
    by_cases w6 : way = 5
    · have w7 : fd = [] := Classical.byContradiction fun z => w5 ⟨w6, z⟩
      subst w6 w7
      have nl' : neD (.lst []) (.lst []) = some (.bl false) := nl
      simp [lb_l_grid_1, e1, e2, e4, hf, nl']
    · simp [lb_l_grid_1, e1, e2, e4, hf, w1, w2, w3, w4, w6]
end
end Kl

namespace Dl
open PySem L2
theorem rng_1 {n : Int} (h : -1000000000 ≤ n) (h' : n ≤ 1000000000) : rng [.int n] = some (rngL 0 n.toNat) := if_pos ⟨h, h'⟩
theorem rngL_len (lo : Int) (n : Nat) : (rngL lo n).length = n := by simp [rngL]
theorem rngL_at {lo : Int} {n i : Nat} {d : D} (h : (rngL lo n)[i]? = some d) : d = .int (lo + i) ∧ i < n := by
  unfold rngL at h
  rw [List.getElem?_map] at h
  have hl : i < n := by
    refine Classical.byContradiction fun z => ?_
    rw [List.getElem?_eq_none (by simp; omega)] at h
    cases h
  rw [List.getElem?_range hl] at h
  cases h
  exact ⟨rfl, hl⟩
end Dl
namespace Kl
open PySem L2 Dl
theorem grid_spec {B widest most top : Int} {hl : List O} (h : Hd B hl) (hB : B ≤ 700000000) (h1 : 1 ≤ widest) (h2 : widest ≤ 1000) (h3 : 0 ≤ most) (h4 : most ≤ 1000) (ht : 0 ≤ top) (ht2 : top ≤ 1000000000) :
    ∃ hl' w fd, m_l_grid [.lst hl, .val (.int widest), .val (.int most), .val (.int top)] = .ok (.val (.tup [.int w, .tup fd])) [.lst hl', .val (.int widest), .val (.int most), .val (.int top)] ∧ 1 ≤ w ∧ w ≤ widest ∧ fd.length ≤ most.toNat ∧ (∀ d ∈ fd, CellD w d) ∧ Hd (B + 3 + 8 * most) hl' := by
  obtain ⟨d1, g1, e1, _, _, k1⟩ := take_spec (n := widest) h (by omega) (by omega) (by omega)
  obtain ⟨d2, g2, e2, _, _, k2⟩ := take_spec (n := 6) k1 (by omega) (by omega) (by omega)
  obtain ⟨d3, g3, e3, d30, d31, k3⟩ := take_spec (n := most + 1) k2 (by omega) (by omega) (by omega)
  have hloop := loop_ok (t := mSet ok_l_grid 7) (b := lb_l_grid_1) (fun (k : Nat) (ρ : Sl) => ∃ hl' fd s7 s8 s9, ρ = [some (.lst hl'), some (.val (.int widest)), some (.val (.int most)), some (.val (.int top)), some (.val (.int (1 + d1))), some (.val (.int d2)), some (.lst (fd.map .val)), s7, s8, s9] ∧ Hd (B + 3 + 8 * k) hl' ∧ fd.length ≤ k ∧ ∀ d ∈ fd, CellD (1 + d1) d)
    (rngL 0 d3.toNat) 0 [some (.lst g3), some (.val (.int widest)), some (.val (.int most)), some (.val (.int top)), some (.val (.int (1 + d1))), some (.val (.int d2)), some (.lst []), none, none, none]
    ⟨g3, [], none, none, none, rfl, k3.mono (by omega), by simp, by simp⟩ fun i d ρ hd hI => by
      obtain ⟨rfl, hi⟩ := rngL_at hd
      obtain ⟨hl', fd, s7, s8, s9, rfl, hh, hfl, hfc⟩ := hI
      obtain ⟨hl2, b, e, v, et, hc, hh2⟩ := grid_turn (s1 := some (.val (.int widest))) (s2 := some (.val (.int most))) (way := d2) (num := 0 + (i : Int)) (s8 := s8) (s9 := s9) hh (by omega) ht ht2 (show 0 < 1 + d1 by omega) (by omega) (by omega) (by omega) (by omega) hfc
      refine ⟨[some (.lst hl'), some (.val (.int widest)), some (.val (.int most)), some (.val (.int top)), some (.val (.int (1 + d1))), some (.val (.int d2)), some (.lst (fd.map .val)), some (.val (.int (0 + (i : Int)))), s8, s9], .nx, _, by simp, et, .inl rfl, ?_⟩
      refine ⟨hl2, fd ++ [.tup [.int b, .int e, .int v]], _, _, _, by simp; exact ⟨rfl, rfl, rfl⟩, hh2.mono (by omega), by simp; omega, ?_⟩
      intro x hx
      rcases List.mem_append.mp hx with z | z
      · exact hfc x z
      · simp at z; subst z; exact hc
  obtain ⟨ρ', el, hl', fd, s7, s8, s9, rfl, hh, hfl, hfc⟩ := hloop
  rw [rngL_len] at hh hfl
  refine ⟨hl', 1 + d1, fd, ?_, by omega, by omega, by omega, hfc, hh.mono (by omega)⟩
  simp [m_l_grid, b_l_grid, f_l_grid, e1, e2, e3, rng_1 (show -1000000000 ≤ d3 by omega) (by omega), el]
end Kl

namespace Kl
open PySem L2 Dl
def P60 : Int := 10 ^ 60
def P18 : Int := 10 ^ 18
theorem P60_pos : 0 < P60 := by unfold P60; omega
theorem P60_lim : P60.natAbs < lim4 := lim_of (by unfold P60; omega) (by unfold P60; omega)
theorem P60P_lim : (P60 * P60).natAbs < lim4 := lim_of (by unfold P60; omega) (by unfold P60; omega)
theorem P180_pos : 0 < P60 * P60 * P60 := by unfold P60; omega
theorem P180_lim {i : Int} : (i % (P60 * P60 * P60)).natAbs < lim4 := by
  have h1 := Int.emod_nonneg i (show P60 * P60 * P60 ≠ 0 by have := P180_pos; omega)
  have h2 := Int.emod_lt_of_pos i P180_pos
  refine lim_of ?_ (Int.lt_of_lt_of_le h2 ?_)
  · exact Int.lt_of_lt_of_le (by decide) h1
  · unfold P60; omega
theorem pw60 : binF .Pow (.int 10) (.int 60) = some (.val (.int P60)) := bin_pow 10 60 (by omega) (by omega) (by omega)
theorem pw18 : binF .Pow (.int 10) (.int 18) = some (.val (.int P18)) := bin_pow 10 18 (by omega) (by omega) (by omega)
theorem hand_at (ns : List Int) (k : Int) (h0 : 0 ≤ k) (h1 : k ≤ 1000) (c : Int) (hc : (if k < ns.length then atI ns k else some 0) = some c) :
    ∃ hl, m_l_hand [.val (.fl ns), .val (.int k)] = .ok (.lst hl) [.val (.fl ns), .val (.int k)] ∧ Hd 0 hl := by
  have l1 := bin_mod c 2147483629 (by omega)
  have l2 := bin_mul 7919 k (limI (by omega) (by omega)) (limI (by omega) (by omega))
  have l3 := bin_mul (c % 2147483629 + 7919 * k + 13) 48271 (limI (by omega) (by omega)) (limI (by omega) (by omega))
  have l4 := bin_mod ((c % 2147483629 + 7919 * k + 13) * 48271) 2147483647 (by omega)
  have l5 := bin_mul P60 P60 P60_lim P60_lim
  have l6 := bin_mul (P60 * P60) P60 P60P_lim P60_lim
  have l7 := bin_mod (if c < 0 then -c else c) (P60 * P60 * P60) P180_pos
  have l8 := bin_mul ((if c < 0 then -c else c) % (P60 * P60 * P60)) (if decide (P18 ≤ if c < 0 then -c else c) then 1 else 0) P180_lim (by split <;> exact limI (by omega) (by omega))
  refine ⟨[.val (.int ((if c < 0 then -c else c) % (P60 * P60 * P60) * (if decide (P18 ≤ if c < 0 then -c else c) then 1 else 0))), .val (.int ((c % 2147483629 + 7919 * k + 13) * 48271 % 2147483647)), .val (.int 0)], ?_, ⟨_, _, _, rfl, ?_, by omega, by omega, by omega, by omega⟩⟩
  · generalize hA : (if c < 0 then -c else c) = A at *
    generalize hZ : A % (P60 * P60 * P60) * (if decide (P18 ≤ A) then 1 else 0) = Z at *
    by_cases hk : k < ns.length
    · rw [if_pos hk] at hc
      by_cases hp : P18 ≤ A
      · simp [hp] at l8
        simp [m_l_hand, b_l_hand, f_l_hand, hk, hc, l1, l2, l3, l4, l5, l6, l7, l8, pw60, pw18, hA, hp]
      · simp [hp] at l8
        simp [m_l_hand, b_l_hand, f_l_hand, hk, hc, l1, l2, l3, l4, l5, l6, l7, l8, pw60, pw18, hA, hp]
    · rw [if_neg hk] at hc
      cases hc
      simp at hA
      subst hA
      have hp : ¬ P18 ≤ 0 := by unfold P18; omega
      simp [hp] at l8
      simp at l1 l3 l4 l7
      simp [m_l_hand, b_l_hand, f_l_hand, hk, l1, l2, l3, l4, l5, l6, l7, l8, pw60, pw18, hp]
  · refine Int.mul_nonneg (Int.emod_nonneg _ (by have := P180_pos; omega)) ?_
    split <;> omega
theorem hand_spec (ns : List Int) (k : Int) (h0 : 0 ≤ k) (h1 : k ≤ 1000) : ∃ hl, m_l_hand [.val (.fl ns), .val (.int k)] = .ok (.lst hl) [.val (.fl ns), .val (.int k)] ∧ Hd 0 hl := by
  by_cases hk : k < ns.length
  · obtain ⟨c, e, _⟩ := atI_in h0 hk
    exact hand_at ns k h0 h1 c (by rw [if_pos hk, e])
  · exact hand_at ns k h0 h1 0 (by rw [if_neg hk])
end Kl

namespace Kl
open PySem L2 Dl
abbrev Cl := Int × Int × Int
def cellD (c : Cl) : D := .tup [.int c.1, .int c.2.1, .int c.2.2]
def tabD (w : Int) (cs : List Cl) : D := .tup [.int w, .tup (cs.map cellD)]
theorem cells_of {w : Int} : ∀ {fd : List D}, (∀ d ∈ fd, CellD w d) → ∃ cs : List Cl, fd = cs.map cellD ∧ cs.length = fd.length ∧ ∀ c ∈ cs, 0 ≤ c.1 ∧ c.1 < c.2.1 ∧ c.2.1 ≤ w ∧ 0 ≤ c.2.2 ∧ c.2.2 ≤ 1000000000
  | [], _ => ⟨[], rfl, rfl, by simp⟩
  | d :: fd, h => by
    obtain ⟨b, e, n, rfl, q⟩ := (h d (by simp)).ex
    obtain ⟨cs, rfl, hl, hc⟩ := cells_of fun x hx => h x (List.mem_cons_of_mem _ hx)
    refine ⟨(b, e, n) :: cs, rfl, by simp, fun c hc' => ?_⟩
    rcases List.mem_cons.mp hc' with rfl | z
    · exact q
    · exact hc c z
theorem tab_tm {w : Int} {cs : List Cl} (hw : w.natAbs < 10 ^ 60) (hc : ∀ c ∈ cs, c.1.natAbs < 10 ^ 60 ∧ c.2.1.natAbs < 10 ^ 60 ∧ c.2.2.natAbs < 10 ^ 60) : Tm 3 (tabD w cs) := by
  intro d hd
  simp only [List.mem_cons, List.not_mem_nil, or_false] at hd
  rcases hd with rfl | rfl
  · exact hw
  · intro d hd
    obtain ⟨c, h1, rfl⟩ := List.mem_map.mp hd
    obtain ⟨q1, q2, q3⟩ := hc c h1
    intro x hx
    simp only [List.mem_cons, List.not_mem_nil, or_false] at hx
    rcases hx with rfl | rfl | rfl
    · exact q1
    · exact q2
    · exact q3
theorem tab_cnt {w : Int} {cs : List Cl} (h : cs.length ≤ 1000) : cnt (tabD w cs) ≤ 13000 := by
  have h1 := cnts_map cellD 4 cs fun a _ => by simp [cellD, cnt, cnts]
  simp only [tabD, cnt, cnts]
  omega
theorem map_id_of {α : Type} {f : α → α} : ∀ {l : List α}, (∀ a ∈ l, f a = a) → l.map f = l
  | [], _ => rfl
  | a :: l, h => by rw [List.map_cons, h a (by simp), map_id_of fun b hb => h b (List.mem_cons_of_mem _ hb)]
end Kl
set_option maxHeartbeats 8000000
namespace Dl
open PySem L2
/-! ### lists of ints, comprehensions with a test, loops -/
def io (r : List Int) : List O := r.map fun i => .val (.int i)
def gr (r : List Int) (j : Int) : Int := r.getD j.toNat 0
@[simp] theorem io_nil : io [] = [] := rfl
@[simp] theorem io_len (r : List Int) : (io r).length = r.length := by simp [io]
@[simp] theorem frzs_io (r : List Int) : frzs (io r) = r.map D.int := by
  induction r with
  | nil => rfl
  | cons a r ih =>
    show frzs (.val (.int a) :: io r) = _
    rw [frzs, ih]; rfl
theorem atI_io {r : List Int} {j : Int} (h0 : 0 ≤ j) (h1 : j < r.length) : atI (io r) j = some (.val (.int (gr r j))) := by
  have hn : j.toNat < r.length := by omega
  unfold atI ixN
  rw [io_len, if_pos h0, if_pos (by omega)]
  show (io r)[j.toNat]? = _
  unfold io gr
  rw [List.getElem?_map, List.getElem?_eq_getElem hn, List.getD_eq_getElem?_getD, List.getElem?_eq_getElem hn]
  rfl
theorem atI_ints {r : List Int} {j : Int} (h0 : 0 ≤ j) (h1 : j < r.length) : atI (r.map D.int) j = some (.int (gr r j)) := by
  have hn : j.toNat < r.length := by omega
  unfold atI ixN
  rw [List.length_map, if_pos h0, if_pos (by omega)]
  show (r.map D.int)[j.toNat]? = _
  unfold gr
  rw [List.getElem?_map, List.getElem?_eq_getElem hn, List.getD_eq_getElem?_getD, List.getElem?_eq_getElem hn]
  rfl
theorem ixN_io {n : Nat} {j : Int} (h0 : 0 ≤ j) (h1 : j < n) : ixN n j = some j.toNat := by
  unfold ixN
  rw [if_pos h0, if_pos (by omega)]
theorem io_set (r : List Int) (n : Nat) (v : Int) : (io r).set n (.val (.int v)) = io (r.set n v) := by
  unfold io
  rw [List.map_set]
theorem gr_set {r : List Int} {j k v : Int} (hj : 0 ≤ j) (hk : 0 ≤ k) (hl : k < r.length) : gr (r.set k.toNat v) j = if j = k then v else gr r j := by
  unfold gr
  rw [List.getD_eq_getElem?_getD, List.getD_eq_getElem?_getD]
  by_cases h : j = k
  · subst h
    rw [if_pos rfl, List.getElem?_set_self (by omega)]
    rfl
  · rw [if_neg h, List.getElem?_set_ne (by omega)]
theorem gr_rep {n : Nat} {j : Int} : gr (List.replicate n 0) j = 0 := by
  unfold gr
  rw [List.getD_eq_getElem?_getD, List.getElem?_replicate]
  split <;> rfl
theorem lstI_ints : ∀ (r : List Int), lstI (.lst (r.map D.int)) = some r
  | r => by
    show intsD (r.map D.int) = some r
    induction r with
    | nil => rfl
    | cons a r ih => rw [List.map_cons, intsD, ih]; rfl
theorem maxI_ok : ∀ (r : List Int) (a : Int), ∃ m, maxI (a :: r) = some m ∧ a ≤ m ∧ (∀ x ∈ r, x ≤ m) ∧ (m = a ∨ m ∈ r)
  | [], a => ⟨a, rfl, Int.le_refl _, by simp, .inl rfl⟩
  | b :: r, a => by
    obtain ⟨m, e, h1, h2, h3⟩ := maxI_ok r b
    rw [maxI, e]
    refine ⟨_, rfl, ?_, ?_, ?_⟩
    · split <;> omega
    · intro x hx
      have : x ≤ m := by
        rcases List.mem_cons.mp hx with rfl | z
        · exact h1
        · exact h2 x z
      split <;> omega
    · split
      · right
        rcases h3 with rfl | z
        · exact List.mem_cons_self
        · exact List.mem_cons_of_mem _ z
      · exact .inl rfl
theorem maxD_ok (r : List Int) (a : Int) : ∃ m, maxD (.lst (.int a :: r.map D.int)) = some (.int m) ∧ a ≤ m ∧ (∀ x ∈ r, x ≤ m) ∧ (m = a ∨ m ∈ r) := by
  obtain ⟨m, e, h⟩ := maxI_ok r a
  refine ⟨m, ?_, h⟩
  unfold maxD
  rw [show (D.lst (.int a :: r.map D.int)) = .lst ((a :: r).map D.int) from rfl, lstI_ints]
  show (maxI (a :: r)).map D.int = _
  rw [e]; rfl
/-- a comprehension with a test, over data, that changes nothing -/
theorem comps_filt {α : Type} {vs : List Nat} {t : O → M Unit} {c : M Bool} {e : M O} {ρ : Sl} (f : α → D) (p : α → Bool) (g : α → O) : ∀ (xs : List α) (acc : List O),
    (∀ x ∈ xs, ∃ ρ1 ρ2, t (.val (f x)) ρ = .ok () ρ1 ∧ c ρ1 = .ok (p x) ρ2 ∧ (p x = true → ∃ ρ3, e ρ2 = .ok (g x) ρ3 ∧ wipeO ρ3 vs = ρ) ∧ (p x = false → wipeO ρ2 vs = ρ)) → mComps vs t c e (xs.map f) acc ρ = .ok (acc ++ (xs.filter p).map g) ρ
  | [], acc, _ => by simp [mComps, Dl.ret]
  | x :: xs, acc, h => by
    obtain ⟨ρ1, ρ2, h1, h2, h3, h4⟩ := h x List.mem_cons_self
    have ih := fun a => comps_filt (e := e) f p g xs a fun y hy => h y (List.mem_cons_of_mem _ hy)
    rw [List.map_cons, mComps, bnd_ok h1, bnd_ok h2]
    cases hp : p x with
    | true =>
      obtain ⟨ρ3, h5, h6⟩ := h3 hp
      rw [if_pos rfl, bnd_ok h5]
      show mComps vs t c e (xs.map f) (acc ++ [g x]) (wipeO ρ3 vs) = _
      rw [h6, ih, List.filter_cons_of_pos hp]
      simp
    | false =>
      rw [if_neg (by decide)]
      show mComps vs t c e (xs.map f) acc (wipeO ρ2 vs) = _
      rw [h4 hp, ih, List.filter_cons_of_neg (by simp [hp])]
theorem rep0 (n : Int) (h0 : 0 ≤ n) (h1 : n ≤ 1000000) : binF .Mult (.lst [.int 0]) (.int n) = some (.lst (io (List.replicate n.toNat 0))) := by
  show (match (Option.map O.val none : Option O) with
    | some o => some o
    | none => lnL (.lst [.int 0]) (.int n)) = _
  show lnL (.lst [.int 0]) (.int n) = _
  unfold lnL
  dsimp only
  rw [if_pos ⟨by omega, by omega, by simp; omega⟩]
  congr 2
  generalize n.toNat = k
  induction k with
  | zero => rfl
  | succ k ih =>
    rw [List.replicate_succ, List.flatten_cons, List.map_append, ih, List.replicate_succ]
    rfl
theorem rng_2 {i j : Int} (h : -1000000000 ≤ i) (h' : i ≤ 1000000000) (h2 : -1000000000 ≤ j) (h3 : j ≤ 1000000000) : rng [.int i, .int j] = some (rngL i (j - i).toNat) := if_pos ⟨h, h', h2, h3⟩
end Dl

set_option maxHeartbeats 8000000
namespace Kl
open PySem L2 Dl
/-! ### the longest chain, by edges -/
/-- a cell's edges lie in the table -/
def OkC (w : Int) (c : Cl) : Prop := 0 ≤ c.1 ∧ c.1 < c.2.1 ∧ c.2.1 ≤ w
structure IsLp (S : Cl → Prop) (w : Int) (g : Int → Int) : Prop where
  zero : g 0 = 0
  mono : ∀ j, 1 ≤ j → j ≤ w → g (j - 1) ≤ g j
  cell : ∀ c, S c → g c.1 + c.2.2 ≤ g c.2.1
  att : ∀ j, 1 ≤ j → j ≤ w → g j = g (j - 1) ∨ ∃ c, S c ∧ c.2.1 = j ∧ g j = g c.1 + c.2.2
theorem up_ind {P : Int → Prop} (h : ∀ j, 0 ≤ j → (∀ i, 0 ≤ i → i < j → P i) → P j) : ∀ j, 0 ≤ j → P j := by
  have key : ∀ n : Nat, ∀ j : Int, 0 ≤ j → j.toNat < n → P j := by
    intro n
    induction n with
    | zero => intro j _ hn; omega
    | succ n ih =>
      intro j h0 hn
      exact h j h0 fun i hi hij => ih i hi (by omega)
  exact fun j h0 => key (j.toNat + 1) j h0 (by omega)
theorem IsLp.mono' {S : Cl → Prop} {w : Int} {g : Int → Int} (L : IsLp S w g) : ∀ j, 0 ≤ j → ∀ i, 0 ≤ i → i ≤ j → j ≤ w → g i ≤ g j := by
  refine up_ind fun j h0 ih i hi hij hj => ?_
  by_cases e : i = j
  · rw [e]; exact Int.le_refl _
  · have h1 := L.mono j (by omega) hj
    have h2 := ih (j - 1) (by omega) (by omega) i hi (by omega) (by omega)
    omega
/-- what is attained lies below what is kept -/
theorem lp_le {S : Cl → Prop} {w : Int} {g h : Int → Int} (hS : ∀ c, S c → OkC w c) (z : g 0 ≤ h 0) (at' : ∀ j, 1 ≤ j → j ≤ w → g j = g (j - 1) ∨ ∃ c, S c ∧ c.2.1 = j ∧ g j = g c.1 + c.2.2) (mo : ∀ j, 1 ≤ j → j ≤ w → h (j - 1) ≤ h j)
    (ce : ∀ c, S c → h c.1 + c.2.2 ≤ h c.2.1) : ∀ j, 0 ≤ j → j ≤ w → g j ≤ h j := by
  refine up_ind fun j h0 ih hj => ?_
  by_cases e : j = 0
  · rw [e]; exact z
  · rcases at' j (by omega) hj with q | ⟨c, hc, rfl, q⟩
    · have h1 := ih (j - 1) (by omega) (by omega) (by omega)
      have h2 := mo j (by omega) hj
      omega
    · obtain ⟨b1, b2, b3⟩ := hS c hc
      have h1 := ih c.1 b1 b2 (by omega)
      have h2 := ce c hc
      omega
theorem lp_uniq {S : Cl → Prop} {w : Int} {g h : Int → Int} (hS : ∀ c, S c → OkC w c) (L : IsLp S w g) (L' : IsLp S w h) : ∀ j, 0 ≤ j → j ≤ w → g j = h j := fun j h0 hj => by
  have h1 := lp_le hS (by rw [L.zero, L'.zero]; exact Int.le_refl _) L.att L'.mono L'.cell j h0 hj
  have h2 := lp_le hS (by rw [L.zero, L'.zero]; exact Int.le_refl _) L'.att L.mono L.cell j h0 hj
  omega
section
variable {T : Cl → Prop} {w b e n : Int} {g g0 gm : Int → Int}
/-- a cell without need holds nothing -/
theorem lp_zero (hT : ∀ c, T c → OkC w c) (hc : OkC w (b, e, n)) (L : IsLp (fun c => c = (b, e, 0) ∨ T c) w g) (L0 : IsLp T w g0) : g w = g0 w := by
  have hS : ∀ c, (c = (b, e, 0) ∨ T c) → OkC w c := fun c h => by
    rcases h with rfl | h
    · exact hc
    · exact hT c h
  have hw : 0 ≤ w := by obtain ⟨h1, h2, h3⟩ := hc; dsimp only at *; omega
  have h1 := lp_le hS (by rw [L.zero, L0.zero]; exact Int.le_refl _) L.att L0.mono (fun c h => by
    rcases h with rfl | h
    · obtain ⟨h1, h2, h3⟩ := hc
      dsimp only at *
      have := L0.mono' e (by omega) b h1 (by omega) h3
      omega
    · exact L0.cell c h) w hw (Int.le_refl _)
  have h2 := lp_le hT (by rw [L.zero, L0.zero]; exact Int.le_refl _) L0.att L.mono (fun c h => L.cell c (.inr h)) w hw (Int.le_refl _)
  omega
theorem lp_less (hT : ∀ c, T c → OkC w c) (hc : OkC w (b, e, n)) (L : IsLp (fun c => c = (b, e, n) ∨ T c) w g) (L0 : IsLp T w g0) (Lm : IsLp (fun c => c = (b, e, n - 1) ∨ T c) w gm) :
    g0 w ≤ gm w ∧ gm w ≤ g w ∧ (g0 w < g w → gm w = g w - 1) := by
  obtain ⟨b0, be, ew⟩ := id hc
  dsimp only at b0 be ew
  have hw : 0 ≤ w := by omega
  have hS : ∀ m c, (c = (b, e, m) ∨ T c) → OkC w c := fun m c h => by
    rcases h with rfl | h
    · exact hc
    · exact hT c h
  have a1 : ∀ j, 0 ≤ j → j ≤ w → g0 j ≤ gm j := lp_le hT (by rw [Lm.zero, L0.zero]; exact Int.le_refl _) L0.att Lm.mono fun c h => Lm.cell c (.inr h)
  have a2 : ∀ j, 0 ≤ j → j ≤ w → gm j ≤ g j := lp_le (hS _) (by rw [Lm.zero, L.zero]; exact Int.le_refl _) Lm.att L.mono fun c h => by
    rcases h with rfl | h
    · have := L.cell _ (.inl rfl)
      dsimp only at *
      omega
    · exact L.cell c (.inr h)
  have b1 : ∀ j, 0 ≤ j → j < e → j ≤ w → g j ≤ gm j := by
    refine up_ind fun j h0 ih hje hj => ?_
    by_cases z : j = 0
    · rw [z, L.zero, Lm.zero]; exact Int.le_refl _
    · rcases L.att j (by omega) hj with q | ⟨c, hc', rfl, q⟩
      · have h1 := ih (j - 1) (by omega) (by omega) (by omega) (by omega)
        have h2 := Lm.mono j (by omega) hj
        omega
      · rcases hc' with rfl | hc'
        · dsimp only at hje; omega
        · obtain ⟨c1, c2, c3⟩ := hT c hc'
          have h1 := ih c.1 c1 c2 (by omega) (by omega)
          have h2 := Lm.cell c (.inr hc')
          omega
  have a3 : ∀ j, 0 ≤ j → j ≤ w → g j ≤ gm j + 1 := by
    refine up_ind fun j h0 ih hj => ?_
    by_cases z : j = 0
    · rw [z, L.zero, Lm.zero]; omega
    · rcases L.att j (by omega) hj with q | ⟨c, hc', rfl, q⟩
      · have h1 := ih (j - 1) (by omega) (by omega) (by omega)
        have h2 := Lm.mono j (by omega) hj
        omega
      · rcases hc' with rfl | hc'
        · have h1 := b1 b b0 be (by omega)
          have h2 := Lm.cell _ (.inl rfl)
          dsimp only at *
          omega
        · obtain ⟨c1, c2, c3⟩ := hT c hc'
          have h1 := ih c.1 c1 c2 (by omega)
          have h2 := Lm.cell c (.inr hc')
          omega
  have key : ∀ j, 0 ≤ j → j ≤ w → g0 j < g j → gm j = g j - 1 := by
    refine up_ind fun j h0 ih hj hlt => ?_
    have u1 := a3 j h0 hj
    have u2 := a2 j h0 hj
    by_cases same : gm j = g j
    · exfalso
      by_cases z : j = 0
      · rw [z, L.zero, L0.zero] at hlt; omega
      · rcases Lm.att j (by omega) hj with q | ⟨c, hc', rfl, q⟩
        · have v1 := L.mono j (by omega) hj
          have v2 := a2 (j - 1) (by omega) (by omega)
          have v3 := L0.mono j (by omega) hj
          have v4 := ih (j - 1) (by omega) (by omega) (by omega)
          have v5 : ¬ g0 (j - 1) < g (j - 1) := fun y => by have := v4 y; omega
          omega
        · rcases hc' with rfl | hc'
          · have v1 := L.cell _ (.inl rfl)
            have v2 := a2 b b0 (by omega)
            dsimp only at *
            omega
          · obtain ⟨c1, c2, c3⟩ := hT c hc'
            have v1 := L.cell c (.inr hc')
            have v2 := a2 c.1 c1 (by omega)
            have v3 := L0.cell c hc'
            have v4 := ih c.1 c1 c2 (by omega)
            have v5 : ¬ g0 c.1 < g c.1 := fun y => by have := v4 y; omega
            omega
    · omega
  exact ⟨a1 w hw (Int.le_refl _), a2 w hw (Int.le_refl _), key w hw (Int.le_refl _)⟩
end
end Kl

set_option maxHeartbeats 8000000
namespace Kl
open PySem L2 Dl
/-! ### chain_sums, least_width -/
section
variable {w low high : Int} {cs : List Cl} {r : List Int} {s0 s3 s6 s7 s8 s9 s10 : Option O}
theorem chain_turn (hr : (r.length : Int) = w + 1) (h1 : 1 ≤ high) (h2 : high ≤ w) (hw : w ≤ 1000) (hl : cs.length ≤ 1000) (hc : ∀ c ∈ cs, OkC w c) :
    ∃ v s7', lb_chain_sums_3 [s0, some (.val (.int w)), some (.val (.tup (cs.map cellD))), s3, some (.val (.int low)), some (.lst (io r)), some (.val (.int high)), s7, s8, s9, s10]
      = .ok .nx [s0, some (.val (.int w)), some (.val (.tup (cs.map cellD))), s3, some (.val (.int low)), some (.lst (io (r.set high.toNat v))), some (.val (.int high)), s7', none, none, none]
      ∧ gr r (high - 1) ≤ v ∧ (∀ c ∈ cs, c.2.1 = high → low ≤ c.1 → gr r c.1 + c.2.2 ≤ v) ∧ (v = gr r (high - 1) ∨ ∃ c ∈ cs, c.2.1 = high ∧ v = gr r c.1 + c.2.2) := by
  have hm := comps_filt (vs := [8, 9, 10]) (t := mGTup 3 (mGCons (mSet (inOf [8, 9, 10]) 8) (mGCons (mSet (inOf [8, 9, 10]) 9) (mGCons (mSet (inOf [8, 9, 10]) 10) mGNil)))) (c := lc_chain_sums_1) (e := le_chain_sums_2)
    (ρ := [s0, some (.val (.int w)), some (.val (.tup (cs.map cellD))), s3, some (.val (.int low)), some (.lst (io r)), some (.val (.int high)), s7, none, none, none]) cellD (fun c => decide (c.2.1 = high) && decide (low ≤ c.1)) (fun c => .val (.int (gr r c.1 + c.2.2))) cs [] fun x hx => by
      obtain ⟨b, e, n⟩ := x
      obtain ⟨q1, q2, q3⟩ := hc _ hx
      dsimp only at q1 q2 q3
      have a1 := atI_io (r := r) q1 (by omega)
      refine ⟨[s0, some (.val (.int w)), some (.val (.tup (cs.map cellD))), s3, some (.val (.int low)), some (.lst (io r)), some (.val (.int high)), s7, some (.val (.int b)), some (.val (.int e)), some (.val (.int n))], [s0, some (.val (.int w)), some (.val (.tup (cs.map cellD))), s3, some (.val (.int low)), some (.lst (io r)), some (.val (.int high)), s7, some (.val (.int b)), some (.val (.int e)), some (.val (.int n))], by simp [cellD], ?_, fun _ => ⟨[s0, some (.val (.int w)), some (.val (.tup (cs.map cellD))), s3, some (.val (.int low)), some (.lst (io r)), some (.val (.int high)), s7, some (.val (.int b)), some (.val (.int e)), some (.val (.int n))], ?_, rfl⟩, fun _ => rfl⟩
      · by_cases z : e = high <;> simp [lc_chain_sums_1, z]
      · simp [le_chain_sums_2, a1]
  have hi : (mSeqI (mVar 2)) [s0, some (.val (.int w)), some (.val (.tup (cs.map cellD))), s3, some (.val (.int low)), some (.lst (io r)), some (.val (.int high)), s7, s8, s9, s10] = .ok (cs.map cellD) [s0, some (.val (.int w)), some (.val (.tup (cs.map cellD))), s3, some (.val (.int low)), some (.lst (io r)), some (.val (.int high)), s7, s8, s9, s10] := by
    simp
  have e := comp_ok hi (by simp; omega) hm
  have eL : (cs.filter fun c => decide (c.2.1 = high) && decide (low ≤ c.1)).map (fun c => O.val (.int (gr r c.1 + c.2.2))) = io ((cs.filter fun c => decide (c.2.1 = high) && decide (low ≤ c.1)).map fun c => gr r c.1 + c.2.2) := by simp [io]
  rw [List.nil_append, eL] at e
  generalize hL : (cs.filter fun c => decide (c.2.1 = high) && decide (low ≤ c.1)).map (fun c => gr r c.1 + c.2.2) = L at e
  have hLl : L.length ≤ 1000 := by rw [← hL, List.length_map]; exact Nat.le_trans (List.length_filter_le _ _) hl
  obtain ⟨v, ev, v1, v2, v3⟩ := maxD_ok L (gr r (high - 1))
  have a1 := atI_io (r := r) (j := high - 1) (by omega) (by omega)
  have a2 := ixN_io (n := r.length) (j := high) (by omega) (by omega)
  refine ⟨v, some (.val (.lst (L.map D.int))), ?_, v1, fun c hcm e1 e2 => v2 _ ?_, ?_⟩
  · have hs : sumF (.lst [.int (gr r (high - 1))]) (.lst (L.map D.int)) = some (.lst (([D.int (gr r (high - 1))] ++ L.map D.int).map O.val)) := sum_ll _ _ (by simp; omega)
    have ef : frzs (([D.int (gr r (high - 1))] ++ L.map D.int).map O.val) = .int (gr r (high - 1)) :: L.map D.int := frzs_map _
    generalize ([D.int (gr r (high - 1))] ++ L.map D.int).map O.val = Z at hs ef
    simp [lb_chain_sums_3, e, a1, hs, ef, ev, a2, io_set]
  · rw [← hL]
    exact List.mem_map.mpr ⟨c, List.mem_filter.mpr ⟨hcm, by simp [e1, e2]⟩, rfl⟩
  · rcases v3 with z | z
    · exact .inl z
    · rw [← hL] at z
      obtain ⟨c, hcm, rfl⟩ := List.mem_map.mp z
      have := List.mem_filter.mp hcm
      simp at this
      exact .inr ⟨c, this.1, this.2.1, rfl⟩
/-- one row -/
theorem chain_row (h0 : 0 ≤ low) (h1 : low ≤ w) (hw1 : 1 ≤ w) (hw : w ≤ 1000) (hl : cs.length ≤ 1000) (hc : ∀ c ∈ cs, OkC w c) {fd : List D} (hf : fd.length < 2000) :
    ∃ r s6' s7' s8' s9' s10', lb_chain_sums_4 [s0, some (.val (.int w)), some (.val (.tup (cs.map cellD))), some (.lst (fd.map .val)), some (.val (.int low)), s3, s6, s7, s8, s9, s10]
      = .ok .nx [s0, some (.val (.int w)), some (.val (.tup (cs.map cellD))), some (.lst (fd.map .val ++ [.val (.lst (r.map D.int))])), some (.val (.int low)), some (.val (.lst (r.map D.int))), s6', s7', s8', s9', s10']
      ∧ (r.length : Int) = w + 1 ∧ (low = 0 → IsLp (fun c => c ∈ cs) w (gr r)) := by
  obtain ⟨ρ', el, r, s6', s7', s8', s9', s10', rfl, hrl, hr0⟩ := loop_ok (t := mSet ok_chain_sums 6) (b := lb_chain_sums_3)
    (fun k ρ => ∃ r s6' s7' s8' s9' s10', ρ = [s0, some (.val (.int w)), some (.val (.tup (cs.map cellD))), some (.lst (fd.map .val)), some (.val (.int low)), some (.lst (io r)), s6', s7', s8', s9', s10'] ∧ (r.length : Int) = w + 1 ∧
      (low = 0 → gr r 0 = 0 ∧ ∀ j : Int, 1 ≤ j → j ≤ k → gr r (j - 1) ≤ gr r j ∧ (∀ c ∈ cs, c.2.1 = j → gr r c.1 + c.2.2 ≤ gr r j) ∧ (gr r j = gr r (j - 1) ∨ ∃ c, c ∈ cs ∧ c.2.1 = j ∧ gr r j = gr r c.1 + c.2.2)))
    (rngL (low + 1) (w + 1 - (low + 1)).toNat) 0 [s0, some (.val (.int w)), some (.val (.tup (cs.map cellD))), some (.lst (fd.map .val)), some (.val (.int low)), some (.lst (io (List.replicate (w + 1).toNat 0))), s6, s7, s8, s9, s10]
    ⟨_, _, _, _, _, _, rfl, by simp; omega, fun _ => ⟨gr_rep, fun j j1 j2 => by omega⟩⟩ fun i d ρ hd hI => by
      obtain ⟨rfl, hi⟩ := rngL_at hd
      obtain ⟨r, s6', s7', s8', s9', s10', rfl, hrl, hr0⟩ := hI
      rw [Nat.zero_add] at *
      obtain ⟨v, s7'', et, v1, v2, v3⟩ := chain_turn (high := low + 1 + (i : Int)) (low := low) (s0 := s0) (s3 := some (.lst (fd.map .val))) (s7 := s7') (s8 := s8') (s9 := s9') (s10 := s10') hrl (by omega) (by omega) hw hl hc
      refine ⟨[s0, some (.val (.int w)), some (.val (.tup (cs.map cellD))), some (.lst (fd.map .val)), some (.val (.int low)), some (.lst (io r)), some (.val (.int (low + 1 + (i : Int)))), s7', s8', s9', s10'], .nx, _, by simp, et, .inl rfl, _, _, _, _, _, _, rfl, by simpa using hrl, fun z => ?_⟩
      subst z
      obtain ⟨q0, q⟩ := hr0 rfl
      have gs : ∀ j : Int, 0 ≤ j → j ≠ 0 + 1 + (i : Int) → gr (r.set (0 + 1 + (i : Int)).toNat v) j = gr r j := fun j hj hne => by
        rw [gr_set hj (by clear v3; omega) (by clear v3; omega), if_neg hne]
      have gv : gr (r.set (0 + 1 + (i : Int)).toNat v) (0 + 1 + (i : Int)) = v := by
        rw [gr_set (by clear v3; omega) (by clear v3; omega) (by clear v3; omega), if_pos rfl]
      refine ⟨by rw [gs 0 (by omega) (by omega)]; exact q0, fun j j1 j2 => ?_⟩
      by_cases hj : j = 0 + 1 + (i : Int)
      · subst hj
        rw [gv, gs _ (by clear v3; omega) (by clear v3; omega)]
        refine ⟨v1, fun c hcm e1 => ?_, ?_⟩
        · have := hc c hcm
          obtain ⟨c1, c2, c3⟩ := this
          rw [gs _ c1 (by omega)]
          exact v2 c hcm e1 c1
        · rcases v3 with z | ⟨c, hcm, e1, e2⟩
          · exact .inl z
          · obtain ⟨c1, c2, c3⟩ := hc c hcm
            exact .inr ⟨c, hcm, e1, by rw [gs _ c1 (by omega)]; exact e2⟩
      · obtain ⟨p1, p2, p3⟩ := q j j1 (by omega)
        rw [gs j (by omega) hj, gs (j - 1) (by omega) (by omega)]
        refine ⟨p1, fun c hcm e1 => ?_, ?_⟩
        · obtain ⟨c1, c2, c3⟩ := hc c hcm
          rw [gs _ c1 (by omega)]
          exact p2 c hcm e1
        · rcases p3 with z | ⟨c, hcm, e1, e2⟩
          · exact .inl z
          · obtain ⟨c1, c2, c3⟩ := hc c hcm
            exact .inr ⟨c, hcm, e1, by rw [gs _ c1 (by omega)]; exact e2⟩
  rw [Nat.zero_add, rngL_len] at hr0
  refine ⟨r, s6', s7', s8', s9', s10', ?_, hrl, fun z => ?_⟩
  · have r0 := rep0 (w + 1) (by omega) (by omega)
    have r2 := rng_2 (i := low + 1) (j := w + 1) (by omega) (by omega) (by omega) (by omega)
    simp [lb_chain_sums_4, r0, r2, el, show fd.length < 1000000 by omega]
  · obtain ⟨q0, q⟩ := hr0 z
    refine ⟨q0, fun j j1 j2 => (q j j1 (by omega)).1, fun c hcm => ?_, fun j j1 j2 => (q j j1 (by omega)).2.2⟩
    obtain ⟨c1, c2, c3⟩ := hc c hcm
    exact (q c.2.1 (by omega) (by omega)).2.1 c hcm rfl
end
theorem sums_of {w : Int} {cs : List Cl} (hw1 : 1 ≤ w) (hw : w ≤ 1000) (hl : cs.length ≤ 1000) (hc : ∀ c ∈ cs, OkC w c) :
    ∃ r rest, m_chain_sums [.val (tabD w cs)] = .ok (.val (.lst (.lst (r.map D.int) :: rest))) [.val (tabD w cs)] ∧ (r.length : Int) = w + 1 ∧ IsLp (fun c => c ∈ cs) w (gr r) := by
  obtain ⟨ρ', el, fd, s4, s5, s6, s7, s8, s9, s10, rfl, hfl, hf0⟩ := loop_ok (t := mSet ok_chain_sums 4) (b := lb_chain_sums_4)
    (fun k ρ => ∃ fd s4 s5 s6 s7 s8 s9 s10, ρ = [some (.val (tabD w cs)), some (.val (.int w)), some (.val (.tup (cs.map cellD))), some (.lst (fd.map .val)), s4, s5, s6, s7, s8, s9, s10] ∧ fd.length = k ∧
      (0 < k → ∃ r rest, fd = .lst (r.map D.int) :: rest ∧ (r.length : Int) = w + 1 ∧ IsLp (fun c => c ∈ cs) w (gr r)))
    (rngL 0 (w + 1).toNat) 0 [some (.val (tabD w cs)), some (.val (.int w)), some (.val (.tup (cs.map cellD))), some (.lst []), none, none, none, none, none, none, none]
    ⟨[], _, _, _, _, _, _, _, rfl, rfl, fun z => absurd z (by omega)⟩ fun i d ρ hd hI => by
      obtain ⟨rfl, hi⟩ := rngL_at hd
      obtain ⟨fd, s4, s5, s6, s7, s8, s9, s10, rfl, hfl, hf0⟩ := hI
      rw [Nat.zero_add] at *
      obtain ⟨r, s6', s7', s8', s9', s10', er, hrl, hr0⟩ := chain_row (low := 0 + (i : Int)) (s0 := some (.val (tabD w cs))) (s3 := s5) (s6 := s6) (s7 := s7) (s8 := s8) (s9 := s9) (s10 := s10) (by omega) (by omega) hw1 hw hl hc (fd := fd) (by omega)
      refine ⟨[some (.val (tabD w cs)), some (.val (.int w)), some (.val (.tup (cs.map cellD))), some (.lst (fd.map .val)), some (.val (.int (0 + (i : Int)))), s5, s6, s7, s8, s9, s10], .nx, _, by simp, er, .inl rfl, fd ++ [.lst (r.map D.int)], _, _, _, _, _, _, _, by simp; exact ⟨rfl, rfl, rfl, rfl, rfl, rfl, rfl⟩, by simp [hfl], fun _ => ?_⟩
      cases i with
      | zero =>
        have : fd = [] := List.length_eq_zero_iff.mp hfl
        subst this
        exact ⟨r, [], rfl, hrl, hr0 rfl⟩
      | succ i =>
        obtain ⟨r', rest, rfl, q⟩ := hf0 (by omega)
        exact ⟨r', _, rfl, q⟩
  rw [Nat.zero_add, rngL_len] at hf0
  obtain ⟨r, rest, rfl, q⟩ := hf0 (by omega)
  refine ⟨r, rest, ?_, q⟩
  have r1 := rng_1 (n := w + 1) (by omega) (by omega)
  simp only [tabD] at *
  simp [m_chain_sums, b_chain_sums, f_chain_sums, r1] at el ⊢
  simp [el]
theorem least_spec {w : Int} {cs : List Cl} (hw1 : 1 ≤ w) (hw : w ≤ 1000) (hl : cs.length ≤ 1000) (hc : ∀ c ∈ cs, OkC w c) :
    ∃ g, IsLp (fun c => c ∈ cs) w g ∧ m_least_width [.val (tabD w cs)] = .ok (.val (.int (g w))) [.val (tabD w cs)] := by
  obtain ⟨r, rest, e, hr, L⟩ := sums_of hw1 hw hl hc
  refine ⟨gr r, L, ?_⟩
  have a1 := atI_ints (r := r) (j := w) (by omega) (by omega)
  have e4 : ixO (.val (tabD w cs)) (.int 0) = some (.int w) := by simp [tabD]
  simp [m_least_width, b_least_width, f_least_width, e, a1, e4]
end Kl

set_option maxHeartbeats 8000000
namespace Kl
open PySem L2 Dl
/-! ### the law's own sums -/
section
variable {w : Int} {cs : List Cl} {r : List Int} {g : Int → Int} {s0 s1 s3 s4 s5 s6 s7 : Option O}
theorem edge_turn {edge : Int} (hr : (r.length : Int) = w + 1) (h1 : 1 ≤ edge) (h2 : edge ≤ w) :
    lb_l_sums_1 [s0, s1, some (.lst (io r)), s3, s4, s5, s6, some (.val (.int edge))] = .ok .nx [s0, s1, some (.lst (io (r.set edge.toNat (if gr r (edge - 1) > gr r edge then gr r (edge - 1) else gr r edge)))), s3, s4, s5, s6, some (.val (.int edge))] := by
  have a1 := atI_io (r := r) (j := edge - 1) (by omega) (by omega)
  have a2 := atI_io (r := r) (j := edge) (by omega) (by omega)
  have a3 := ixN_io (n := r.length) (j := edge) (by omega) (by omega)
  simp [lb_l_sums_1, a1, a2, a3, io_set]
theorem cell_turn {b e n : Int} (hr : (r.length : Int) = w + 1) (h : OkC w (b, e, n)) :
    lb_l_sums_2 [s0, some (.val (.int 0)), some (.lst (io r)), s3, some (.val (.int b)), some (.val (.int e)), some (.val (.int n)), s7] = .ok .nx [s0, some (.val (.int 0)), some (.lst (io (r.set e.toNat (if gr r b + n > gr r e then gr r b + n else gr r e)))), s3, some (.val (.int b)), some (.val (.int e)), some (.val (.int n)), s7] := by
  obtain ⟨h1, h2, h3⟩ := h
  dsimp only at *
  have a1 := atI_io (r := r) (j := b) (by omega) (by omega)
  have a2 := atI_io (r := r) (j := e) (by omega) (by omega)
  have a3 := ixN_io (n := r.length) (j := e) (by omega) (by omega)
  simp [lb_l_sums_2, a1, a2, a3, io_set, h1]
/-- one pass over the cells -/
theorem cells_pass (L : IsLp (fun c => c ∈ cs) w g) (hr : (r.length : Int) = w + 1) (hc : ∀ c ∈ cs, OkC w c) (hg : ∀ j, 0 ≤ j → j ≤ w → gr r j ≤ g j) :
    ∃ r' s4' s5' s6', mLoop (mGTup 3 (mGCons (mSet ok_l_sums 4) (mGCons (mSet ok_l_sums 5) (mGCons (mSet ok_l_sums 6) mGNil)))) lb_l_sums_2 (cs.map cellD) [s0, some (.val (.int 0)), some (.lst (io r)), s3, s4, s5, s6, s7]
      = .ok .nx [s0, some (.val (.int 0)), some (.lst (io r')), s3, s4', s5', s6', s7] ∧ (r'.length : Int) = w + 1 ∧ (∀ j, 0 ≤ j → j ≤ w → gr r' j ≤ g j ∧ gr r j ≤ gr r' j) ∧ ∀ c ∈ cs, gr r c.1 + c.2.2 ≤ gr r' c.2.1 := by
  obtain ⟨ρ', el, r', s4', s5', s6', rfl, hl', hb', hk'⟩ := loop_ok (t := mGTup 3 (mGCons (mSet ok_l_sums 4) (mGCons (mSet ok_l_sums 5) (mGCons (mSet ok_l_sums 6) mGNil)))) (b := lb_l_sums_2)
    (fun k ρ => ∃ r' s4' s5' s6', ρ = [s0, some (.val (.int 0)), some (.lst (io r')), s3, s4', s5', s6', s7] ∧ (r'.length : Int) = w + 1 ∧ (∀ j, 0 ≤ j → j ≤ w → gr r' j ≤ g j ∧ gr r j ≤ gr r' j) ∧ ∀ i c, i < k → cs[i]? = some c → gr r c.1 + c.2.2 ≤ gr r' c.2.1)
    (cs.map cellD) 0 [s0, some (.val (.int 0)), some (.lst (io r)), s3, s4, s5, s6, s7] ⟨r, _, _, _, rfl, hr, fun j h0 h1 => ⟨hg j h0 h1, Int.le_refl _⟩, fun i c hi => absurd hi (by omega)⟩ fun i d ρ hd hI => by
      obtain ⟨r', s4', s5', s6', rfl, hl', hb', hk'⟩ := hI
      rw [Nat.zero_add] at *
      rw [List.getElem?_map] at hd
      cases hx : cs[i]? with
      | none => rw [hx] at hd; cases hd
      | some x =>
        rw [hx] at hd
        cases hd
        have hm := List.mem_of_getElem? hx
        obtain ⟨b, e, n⟩ := x
        have hk := hc _ hm
        obtain ⟨c1, c2, c3⟩ := id hk
        have hL := L.cell _ hm
        dsimp only at c1 c2 c3 hL
        have et := cell_turn (r := r') (s0 := s0) (s3 := s3) (s7 := s7) hl' hk
        refine ⟨_, .nx, _, by simp [cellD], et, .inl rfl, _, _, _, _, rfl, by simpa using hl', fun j j0 j1 => ?_, fun i' c hi' hc' => ?_⟩
        · obtain ⟨p1, p2⟩ := hb' j j0 j1
          obtain ⟨p3, p4⟩ := hb' b (by omega) (by omega)
          rw [gr_set j0 (by omega) (by omega)]
          split
          · rename_i z
            subst z
            split <;> omega
          · exact ⟨p1, p2⟩
        · by_cases z : i' = i
          · subst z
            rw [hx] at hc'
            cases hc'
            obtain ⟨p3, p4⟩ := hb' b (by omega) (by omega)
            dsimp only
            rw [gr_set (by omega) (by omega) (by omega), if_pos rfl]
            split <;> omega
          · have q1 := hk' i' c (by omega) hc'
            obtain ⟨d1, d2, d3⟩ := hc c (List.mem_of_getElem? hc')
            rw [gr_set (by omega) (by omega) (by omega)]
            split
            · rename_i y
              rw [y] at q1
              split <;> omega
            · exact q1
  refine ⟨r', s4', s5', s6', el, hl', hb', fun c hcm => ?_⟩
  obtain ⟨i, hi⟩ := List.getElem?_of_mem hcm
  have hlt := (List.getElem?_eq_some_iff.mp hi).1
  exact hk' i c (by rw [List.length_map]; omega) hi
/-- one pass over the edges -/
theorem edges_pass (L : IsLp (fun c => c ∈ cs) w g) (hw : 1 ≤ w) (hr : (r.length : Int) = w + 1) (hg : ∀ j, 0 ≤ j → j ≤ w → gr r j ≤ g j) :
    ∃ r' s7', mLoop (mSet ok_l_sums 7) lb_l_sums_1 (rngL 1 w.toNat) [s0, s1, some (.lst (io r)), s3, s4, s5, s6, s7]
      = .ok .nx [s0, s1, some (.lst (io r')), s3, s4, s5, s6, s7'] ∧ (r'.length : Int) = w + 1 ∧ (∀ j, 0 ≤ j → j ≤ w → gr r' j ≤ g j ∧ gr r j ≤ gr r' j) ∧ ∀ j, 1 ≤ j → j ≤ w → gr r' (j - 1) ≤ gr r' j := by
  obtain ⟨ρ', el, r', s7', rfl, hl', hb', hk'⟩ := loop_ok (t := mSet ok_l_sums 7) (b := lb_l_sums_1)
    (fun k ρ => ∃ r' s7', ρ = [s0, s1, some (.lst (io r')), s3, s4, s5, s6, s7'] ∧ (r'.length : Int) = w + 1 ∧ (∀ j, 0 ≤ j → j ≤ w → gr r' j ≤ g j ∧ gr r j ≤ gr r' j) ∧ ∀ j : Int, 1 ≤ j → j ≤ k → gr r' (j - 1) ≤ gr r' j)
    (rngL 1 w.toNat) 0 [s0, s1, some (.lst (io r)), s3, s4, s5, s6, s7] ⟨r, _, rfl, hr, fun j h0 h1 => ⟨hg j h0 h1, Int.le_refl _⟩, fun j h1 h2 => absurd h2 (by omega)⟩ fun i d ρ hd hI => by
      obtain ⟨rfl, hi⟩ := rngL_at hd
      obtain ⟨r', s7', rfl, hl', hb', hk'⟩ := hI
      rw [Nat.zero_add] at *
      have et := edge_turn (r := r') (edge := 1 + (i : Int)) (s0 := s0) (s1 := s1) (s3 := s3) (s4 := s4) (s5 := s5) (s6 := s6) hl' (by omega) (by omega)
      have hL := L.mono (1 + (i : Int)) (by omega) (by omega)
      obtain ⟨p3, p4⟩ := hb' (1 + (i : Int) - 1) (by omega) (by omega)
      refine ⟨[s0, s1, some (.lst (io r')), s3, s4, s5, s6, some (.val (.int (1 + (i : Int))))], .nx, _, by simp, et, .inl rfl, _, _, rfl, by simpa using hl', fun j j0 j1 => ?_, fun j j0 j1 => ?_⟩
      · obtain ⟨p1, p2⟩ := hb' j j0 j1
        rw [gr_set j0 (by omega) (by omega)]
        split
        · rename_i z
          subst z
          split <;> omega
        · exact ⟨p1, p2⟩
      · rw [gr_set (by omega) (by omega) (by omega), gr_set (by omega) (by omega) (by omega), if_neg (by omega)]
        split
        · rename_i z
          subst z
          split <;> omega
        · exact hk' j j0 (by omega)
  rw [Nat.zero_add, rngL_len] at hk'
  exact ⟨r', s7', el, hl', hb', fun j h1 h2 => hk' j h1 (by omega)⟩
/-- a turn: one edge more is right -/
theorem sums_turn {t : Int} (L : IsLp (fun c => c ∈ cs) w g) (hw : 1 ≤ w) (hw2 : w ≤ 1000) (hr : (r.length : Int) = w + 1) (hc : ∀ c ∈ cs, OkC w c) (hg : ∀ j, 0 ≤ j → j ≤ w → gr r j ≤ g j) (ht : 0 ≤ t) (he : ∀ j, 0 ≤ j → j ≤ t → j ≤ w → gr r j = g j) :
    ∃ r' s4' s5' s6' s7', lb_l_sums_3 [some (.val (tabD w cs)), some (.val (.int 0)), some (.lst (io r)), s3, s4, s5, s6, s7] = .ok .nx [some (.val (tabD w cs)), some (.val (.int 0)), some (.lst (io r')), s3, s4', s5', s6', s7'] ∧ (r'.length : Int) = w + 1 ∧
      (∀ j, 0 ≤ j → j ≤ w → gr r' j ≤ g j) ∧ ∀ j, 0 ≤ j → j ≤ t + 1 → j ≤ w → gr r' j = g j := by
  obtain ⟨r1, s4', s5', s6', e1, l1, b1, k1⟩ := cells_pass (s0 := some (.val (tabD w cs))) (s3 := s3) (s4 := s4) (s5 := s5) (s6 := s6) (s7 := s7) L hr hc hg
  obtain ⟨r2, s7', e2, l2, b2, k2⟩ := edges_pass (s0 := some (.val (tabD w cs))) (s1 := some (.val (.int 0))) (s3 := s3) (s4 := s4') (s5 := s5') (s6 := s6') (s7 := s7) L hw l1 fun j h0 h1 => (b1 j h0 h1).1
  refine ⟨r2, s4', s5', s6', s7', ?_, l2, fun j h0 h1 => (b2 j h0 h1).1, fun j h0 h1 h2 => ?_⟩
  · have e3 : ixO (.val (tabD w cs)) (.int 1) = some (.tup (cs.map cellD)) := by simp [tabD]
    have e4 : ixO (.val (tabD w cs)) (.int 0) = some (.int w) := by simp [tabD]
    have r2 := rng_2 (i := 1) (j := w + 1) (by omega) (by omega) (by omega) (by omega)
    rw [show w + 1 - 1 = w by omega] at r2
    simp [lb_l_sums_3, e3, e4, e1, e2, r2]
  · obtain ⟨p1, p2⟩ := b2 j h0 h2
    obtain ⟨p3, p4⟩ := b1 j h0 h2
    by_cases hj : j ≤ t
    · have := he j h0 hj h2
      omega
    · rcases L.att j (by omega) h2 with q | ⟨c, hcm, rfl, q⟩
      · have q1 := k2 j (by omega) h2
        obtain ⟨p5, p6⟩ := b2 (j - 1) (by omega) (by omega)
        obtain ⟨p7, p8⟩ := b1 (j - 1) (by omega) (by omega)
        have q2 := he (j - 1) (by omega) (by omega) (by omega)
        omega
      · obtain ⟨c1, c2, c3⟩ := hc c hcm
        have q1 := k1 c hcm
        have q2 := he c.1 c1 (by omega) (by omega)
        omega
end
theorem lsums_spec {w : Int} {cs : List Cl} {g : Int → Int} (L : IsLp (fun c => c ∈ cs) w g) (hw1 : 1 ≤ w) (hw : w ≤ 1000) (hn : ∀ j, 0 ≤ j → j ≤ w → 0 ≤ g j) (hc : ∀ c ∈ cs, OkC w c) :
    ∃ r, m_l_sums [.val (tabD w cs), .val (.int 0)] = .ok (.val (.lst (r.map D.int))) [.val (tabD w cs), .val (.int 0)] ∧ (r.length : Int) = w + 1 ∧ ∀ j, 0 ≤ j → j ≤ w → gr r j = g j := by
  have e4 : ixO (.val (tabD w cs)) (.int 0) = some (.int w) := by simp [tabD]
  obtain ⟨ρ', el, r, s3, s4, s5, s6, s7, rfl, hrl, hle, heq⟩ := loop_ok (t := mSet ok_l_sums 3) (b := lb_l_sums_3)
    (fun k ρ => ∃ r s3 s4 s5 s6 s7, ρ = [some (.val (tabD w cs)), some (.val (.int 0)), some (.lst (io r)), s3, s4, s5, s6, s7] ∧ (r.length : Int) = w + 1 ∧ (∀ j, 0 ≤ j → j ≤ w → gr r j ≤ g j) ∧ ∀ j : Int, 0 ≤ j → j ≤ k → j ≤ w → gr r j = g j)
    (rngL 0 w.toNat) 0 [some (.val (tabD w cs)), some (.val (.int 0)), some (.lst (io (List.replicate (w + 1).toNat 0))), none, none, none, none, none]
    ⟨_, _, _, _, _, _, rfl, by simp; omega, fun j h0 h1 => by rw [gr_rep]; exact hn j h0 h1, fun j h0 h1 h2 => by rw [gr_rep, show j = 0 by omega, L.zero]⟩ fun i d ρ hd hI => by
      obtain ⟨rfl, hi⟩ := rngL_at hd
      obtain ⟨r, s3, s4, s5, s6, s7, rfl, hrl, hle, heq⟩ := hI
      rw [Nat.zero_add] at *
      obtain ⟨r', s4', s5', s6', s7', et, q1, q2, q3⟩ := sums_turn (t := (i : Int)) (s3 := some (.val (.int (0 + (i : Int))))) (s4 := s4) (s5 := s5) (s6 := s6) (s7 := s7) L hw1 hw hrl hc hle (by omega) heq
      exact ⟨_, .nx, _, by simp, et, .inl rfl, _, _, _, _, _, _, rfl, q1, q2, fun j h0 h1 h2 => q3 j h0 (by omega) h2⟩
  rw [Nat.zero_add, rngL_len] at heq
  refine ⟨r, ?_, hrl, fun j h0 h1 => heq j h0 (by omega) h1⟩
  have r0 := rep0 (w + 1) (by omega) (by omega)
  have r1 := rng_1 (n := w) (by omega) (by omega)
  simp [m_l_sums, b_l_sums, f_l_sums, e4, r0, r1, el]
theorem lleast_spec {w : Int} {cs : List Cl} {g : Int → Int} (L : IsLp (fun c => c ∈ cs) w g) (hw1 : 1 ≤ w) (hw : w ≤ 1000) (hn : ∀ j, 0 ≤ j → j ≤ w → 0 ≤ g j) (hc : ∀ c ∈ cs, OkC w c) :
    m_l_least [.val (tabD w cs)] = .ok (.val (.int (g w))) [.val (tabD w cs)] := by
  obtain ⟨r, e, hr, hg⟩ := lsums_spec L hw1 hw hn hc
  have a1 := atI_ints (r := r) (j := w) (by omega) (by omega)
  rw [hg w (by omega) (Int.le_refl _)] at a1
  have e4 : ixO (.val (tabD w cs)) (.int 0) = some (.int w) := by simp [tabD]
  simp [m_l_least, b_l_least, f_l_least, e, a1, e4]
end Kl

set_option maxHeartbeats 8000000
namespace Dl
open PySem L2
theorem cut_lo {L : List D} {i : Int} (h0 : 0 ≤ i) (h1 : i ≤ L.length) : cutD L none (some i) = L.take i.toNat := by
  unfold cutD
  have e1 : HT.sIx L.length 0 none = 0 := rfl
  have e2 : HT.sIx L.length L.length (some i) = i.toNat := by
    show (if i < 0 then (i + (L.length : Int)).toNat else min i.toNat L.length) = i.toNat
    rw [if_neg (by omega)]
    omega
  rw [e1, e2]
  simp
theorem cut_hi {L : List D} {i : Int} (h0 : 0 ≤ i) (h1 : i ≤ L.length) : cutD L (some i) none = L.drop i.toNat := by
  unfold cutD
  have e1 : HT.sIx L.length L.length none = L.length := rfl
  have e2 : HT.sIx L.length 0 (some i) = i.toNat := by
    show (if i < 0 then (i + (L.length : Int)).toNat else min i.toNat L.length) = i.toNat
    rw [if_neg (by omega)]
    omega
  rw [e1, e2]
  rw [List.take_of_length_le (by simp)]
theorem atI_get {γ : Type} {l : List γ} {i : Int} {a : γ} (h0 : 0 ≤ i) (h : l[i.toNat]? = some a) : atI l i = some a := by
  have hl := (List.getElem?_eq_some_iff.mp h).1
  unfold atI ixN
  rw [if_pos h0, if_pos (by omega)]
  exact h
theorem enumL_ln : ∀ (k : Nat) (l : List D), (enumL k l).length = l.length
  | _, [] => rfl
  | k, d :: l => by rw [enumL, List.length_cons, List.length_cons, enumL_ln]
theorem enumL_gt : ∀ (k : Nat) (l : List D) (i : Nat), (enumL k l)[i]? = (l[i]?).map fun d => .tup [.int ((k + i : Nat) : Int), d]
  | _, [], i => by simp [enumL]
  | k, d :: l, 0 => by simp [enumL]
  | k, d :: l, i + 1 => by
    rw [enumL, List.getElem?_cons_succ, List.getElem?_cons_succ, enumL_gt]
    rw [show k + 1 + i = k + (i + 1) by omega]
theorem bls_true {α : Type} : ∀ (l : List α), bls (l.map fun _ => D.bl true) = some (l.map fun _ => true)
  | [] => rfl
  | a :: l => by rw [List.map_cons, bls, bls_true l]; rfl
theorem all_true {α : Type} (l : List α) : allD (.lst (l.map fun _ => D.bl true)) = some (.bl true) := by
  show (bls (l.map fun _ => D.bl true)).map (fun l => D.bl (l.all id)) = _
  rw [bls_true]
  show some (D.bl ((l.map fun _ => true).all id)) = _
  congr 2
  simp
end Dl
namespace Kl
open PySem L2 Dl
/-! ### k08 -/
theorem IsLp.congr {S S' : Cl → Prop} {w : Int} {g : Int → Int} (L : IsLp S w g) (h : ∀ c, S c ↔ S' c) : IsLp S' w g :=
  ⟨L.zero, L.mono, fun c hc => L.cell c ((h c).mpr hc), fun j h1 h2 => (L.att j h1 h2).imp id fun ⟨c, q, r⟩ => ⟨c, (h c).mp q, r⟩⟩
open Classical in
/-- the least width -/
noncomputable def LW (w : Int) (cs : List Cl) : Int := if h : ∃ g, IsLp (fun c => c ∈ cs) w g then h.choose w else 0
theorem LW_eq {w : Int} {cs : List Cl} {g : Int → Int} (hw : 0 ≤ w) (hc : ∀ c ∈ cs, OkC w c) (L : IsLp (fun c => c ∈ cs) w g) : LW w cs = g w := by
  have h : ∃ g, IsLp (fun c => c ∈ cs) w g := ⟨g, L⟩
  unfold LW
  rw [dif_pos h]
  exact lp_uniq hc h.choose_spec L w hw (Int.le_refl _)
structure TabOk (w : Int) (cs : List Cl) : Prop where
  w1 : 1 ≤ w
  w2 : w ≤ 1000
  l : cs.length ≤ 1000
  c : ∀ c ∈ cs, OkC w c
theorem least_lw {w : Int} {cs : List Cl} (T : TabOk w cs) : m_least_width [.val (tabD w cs)] = .ok (.val (.int (LW w cs))) [.val (tabD w cs)] := by
  obtain ⟨g, L, e⟩ := least_spec T.w1 T.w2 T.l T.c
  rw [LW_eq (by have := T.w1; omega) T.c L]
  exact e
theorem TabOk.lp {w : Int} {cs : List Cl} (T : TabOk w cs) : ∃ g, IsLp (fun c => c ∈ cs) w g := by
  obtain ⟨g, L, e⟩ := least_spec T.w1 T.w2 T.l T.c
  exact ⟨g, L⟩
theorem lleast_lw {w : Int} {cs : List Cl} (T : TabOk w cs) : m_l_least [.val (tabD w cs)] = .ok (.val (.int (LW w cs))) [.val (tabD w cs)] := by
  obtain ⟨g, L⟩ := T.lp
  rw [LW_eq (by have := T.w1; omega) T.c L]
  refine lleast_spec L T.w1 T.w2 (fun j h0 h1 => ?_) T.c
  have := L.mono' j h0 0 (Int.le_refl _) h0 h1
  rw [L.zero] at this
  exact this
def dropC (cs : List Cl) (i : Nat) : List Cl := cs.take i ++ cs.drop (i + 1)
theorem split_at {cs : List Cl} {i : Nat} {c : Cl} (h : cs[i]? = some c) : cs = cs.take i ++ c :: cs.drop (i + 1) := by
  obtain ⟨hl, rfl⟩ := List.getElem?_eq_some_iff.mp h
  rw [← List.drop_eq_getElem_cons hl, List.take_append_drop]
theorem set_at {cs : List Cl} {i : Nat} {c c' : Cl} (h : cs[i]? = some c) : cs.set i c' = cs.take i ++ c' :: cs.drop (i + 1) := by
  rw [List.set_eq_take_append_cons_drop, if_pos (List.getElem?_eq_some_iff.mp h).1]
theorem mem_at {cs : List Cl} {i : Nat} {c x : Cl} (h : cs[i]? = some c) : x ∈ cs ↔ x = c ∨ x ∈ dropC cs i := by
  have e := split_at h
  constructor
  · intro hx
    rw [e] at hx
    unfold dropC
    rcases List.mem_append.mp hx with z | z
    · exact .inr (List.mem_append_left _ z)
    · rcases List.mem_cons.mp z with z | z
      · exact .inl z
      · exact .inr (List.mem_append_right _ z)
  · intro hx
    rw [e]
    unfold dropC at hx
    rcases hx with z | z
    · exact List.mem_append_right _ (by rw [z]; exact List.mem_cons_self)
    · rcases List.mem_append.mp z with z | z
      · exact List.mem_append_left _ z
      · exact List.mem_append_right _ (List.mem_cons_of_mem _ z)
theorem mem_set_at {cs : List Cl} {i : Nat} {c c' x : Cl} (h : cs[i]? = some c) : x ∈ cs.set i c' ↔ x = c' ∨ x ∈ dropC cs i := by
  rw [set_at h]
  unfold dropC
  simp only [List.mem_append, List.mem_cons]
  constructor
  · rintro (z | z | z)
    · exact .inr (.inl z)
    · exact .inl z
    · exact .inr (.inr z)
  · rintro (z | z | z)
    · exact .inr (.inl z)
    · exact .inl z
    · exact .inr (.inr z)
theorem TabOk.drop {w : Int} {cs : List Cl} (T : TabOk w cs) {i : Nat} {c : Cl} (h : cs[i]? = some c) : TabOk w (dropC cs i) :=
  ⟨T.w1, T.w2, by have := T.l; unfold dropC; simp; omega, fun x hx => T.c x ((mem_at h).mpr (.inr hx))⟩
theorem TabOk.put {w : Int} {cs : List Cl} (T : TabOk w cs) {i : Nat} {b e n m : Int} (h : cs[i]? = some (b, e, n)) : TabOk w (cs.set i (b, e, m)) :=
  ⟨T.w1, T.w2, by have := T.l; simp; omega, fun x hx => by
    rcases (mem_set_at h).mp hx with rfl | z
    · exact T.c (b, e, n) (List.mem_of_getElem? h)
    · exact T.c x ((mem_at h).mpr (.inr z))⟩
theorem hold_iff {w : Int} {cs : List Cl} (T : TabOk w cs) {i : Nat} {b e n : Int} (h : cs[i]? = some (b, e, n)) (hn : 0 ≤ n) :
    (LW w (dropC cs i) < LW w cs ↔ 0 < n ∧ LW w (cs.set i (b, e, n - 1)) < LW w cs) ∧ (LW w (dropC cs i) < LW w cs → LW w (cs.set i (b, e, n - 1)) = LW w cs - 1) := by
  have hw : 0 ≤ w := by have := T.w1; omega
  have T0 := T.drop h
  have Tm := T.put (m := n - 1) h
  obtain ⟨g, L⟩ := T.lp
  obtain ⟨g0, L0⟩ := T0.lp
  obtain ⟨gm, Lm⟩ := Tm.lp
  rw [LW_eq hw T.c L, LW_eq hw T0.c L0, LW_eq hw Tm.c Lm]
  have hc : OkC w (b, e, n) := T.c _ (List.mem_of_getElem? h)
  have L' := L.congr fun c => mem_at h
  have Lm' := Lm.congr fun c => mem_set_at (c' := (b, e, n - 1)) h
  obtain ⟨q1, q2, q3⟩ := lp_less T0.c hc L' L0 Lm'
  refine ⟨⟨fun z => ?_, fun z => by omega⟩, q3⟩
  by_cases n0 : n = 0
  · subst n0
    have := lp_zero (n := 0) T0.c hc L' L0
    omega
  · have := q3 z
    omega
theorem with_spec {w : Int} {cs : List Cl} {i : Nat} {b e n m : Int} (hl : cs.length ≤ 1000) (h : cs[i]? = some (b, e, n)) :
    m_l_with [.val (tabD w cs), .val (.int (i : Nat)), .val (.int m)] = .ok (.val (tabD w (cs.set i (b, e, m)))) [.val (tabD w cs), .val (.int (i : Nat)), .val (.int m)] := by
  have hi := (List.getElem?_eq_some_iff.mp h).1
  have e3 : ixO (.val (tabD w cs)) (.int 1) = some (.tup (cs.map cellD)) := by simp [tabD]
  have e4 : ixO (.val (tabD w cs)) (.int 0) = some (.int w) := by simp [tabD]
  have c1 := cut_lo (L := cs.map cellD) (i := (i : Int)) (by omega) (by simp; omega)
  have c2 := cut_hi (L := cs.map cellD) (i := (i : Int) + 1) (by omega) (by simp; omega)
  have a1 : atI (cs.map cellD) (i : Int) = some (cellD (b, e, n)) := atI_get (by omega) (by simp [h])
  have c3 : cutD [D.int b, .int e, .int n] none (some 2) = [.int b, .int e] := rfl
  have t1 := sum_tt [D.int b, .int e] [.int m] (by simp)
  have t2 := sum_tt ((cs.map cellD).take (i : Int).toNat) [.tup ([D.int b, .int e] ++ [.int m])] (by simp; omega)
  have t3 := sum_tt ((cs.map cellD).take (i : Int).toNat ++ [.tup ([D.int b, .int e] ++ [.int m])]) ((cs.map cellD).drop ((i : Int) + 1).toNat) (by simp; omega)
  have fin : (cs.map cellD).take (i : Int).toNat ++ [.tup ([D.int b, .int e] ++ [.int m])] ++ (cs.map cellD).drop ((i : Int) + 1).toNat = (cs.set i (b, e, m)).map cellD := by
    rw [set_at h, show ((i : Int) + 1).toNat = i + 1 by omega, show (i : Int).toNat = i by omega]
    simp [cellD]
  rw [fin] at t3
  generalize (cs.map cellD).take (i : Int).toNat = TK at c1 t2 t3
  generalize (cs.map cellD).drop ((i : Int) + 1).toNat = DR at c2 t3
  have a1 : atI (cs.map cellD) (i : Int) = some (.tup [.int b, .int e, .int n]) := a1
  have fin2 : tabD w (cs.set i (b, e, m)) = .tup [.int w, .tup ((cs.set i (b, e, m)).map cellD)] := rfl
  rw [fin2]
  generalize (cs.set i (b, e, m)).map cellD = FN at t3
  generalize cs.map cellD = CM at e3 c1 c2 a1
  have t1' : sumF (.tup [.int b, .int e]) (.tup [.int m]) = some (.val (.tup [.int b, .int e, .int m])) := t1
  have t2' : sumF (.tup TK) (.tup [.tup [.int b, .int e, .int m]]) = some (.val (.tup (TK ++ [.tup [.int b, .int e, .int m]]))) := t2
  have t3' : sumF (.tup (TK ++ [.tup [.int b, .int e, .int m]])) (.tup DR) = some (.val (.tup FN)) := t3
  generalize TK ++ [D.tup [.int b, .int e, .int m]] = TJ at t2' t3'
  simp [m_l_with, b_l_with, f_l_with, e3, e4, slF, c1, c2, c3, a1, t1', t2', t3']
theorem without_spec {w : Int} {cs : List Cl} {i : Nat} (hl : cs.length ≤ 1000) (hi : i < cs.length) :
    m_without_cell [.val (tabD w cs), .val (.int (i : Nat))] = .ok (.val (tabD w (dropC cs i))) [.val (tabD w cs), .val (.int (i : Nat))] := by
  have e3 : ixO (.val (tabD w cs)) (.int 1) = some (.tup (cs.map cellD)) := by simp [tabD]
  have c1 := cut_lo (L := cs.map cellD) (i := (i : Int)) (by omega) (by simp; omega)
  have c2 := cut_hi (L := cs.map cellD) (i := (i : Int) + 1) (by omega) (by simp; omega)
  have fin : frzs (((cs.map cellD).take (i : Int).toNat).map O.val ++ ((cs.map cellD).drop ((i : Int) + 1).toNat).map O.val) = (dropC cs i).map cellD := by
    rw [← List.map_append, frzs_map]
    unfold dropC
    rw [show ((i : Int) + 1).toNat = i + 1 by omega, show (i : Int).toNat = i by omega]
    simp
  have hlen : (((cs.map cellD).take (i : Int).toNat).map O.val ++ ((cs.map cellD).drop ((i : Int) + 1).toNat).map O.val).length ≤ 1000 := by
    simp; omega
  have e5 : m_replaced [.val (tabD w cs), .val (.tup ((dropC cs i).map cellD))] = .ok (.val (tabD w (dropC cs i))) [.val (tabD w cs), .val (.tup ((dropC cs i).map cellD))] := by
    simp [m_replaced, b_replaced, f_replaced, tabD]
  generalize (cs.map cellD).take (i : Int).toNat = TK at *
  generalize (cs.map cellD).drop ((i : Int) + 1).toNat = DR at *
  generalize (dropC cs i).map cellD = FN at *
  simp only [List.length_append, List.length_map] at hlen
  simp [m_without_cell, b_without_cell, f_without_cell, e3, slF, c1, c2, hlen, fin, e5]
noncomputable def isH (w : Int) (cs : List Cl) (i : Nat) : Bool := decide (LW w (dropC cs i) < LW w cs)
noncomputable def holdL (w : Int) (cs : List Cl) (k : Nat) : List Int := ((List.range k).filter (isH w cs)).map fun i : Nat => (i : Int)
theorem holders_spec {w : Int} {cs : List Cl} (T : TabOk w cs) : m_holders [.val (tabD w cs)] = .ok (.val (.tup ((holdL w cs cs.length).map D.int))) [.val (tabD w cs)] := by
  have e3 : ixO (.val (tabD w cs)) (.int 1) = some (.tup (cs.map cellD)) := by simp [tabD]
  have e1 := least_lw T
  have hm := comps_filt (vs := [2]) (t := mSet (inOf [2]) 2) (c := lc_holders_1) (e := le_holders_2) (ρ := [some (.val (tabD w cs)), some (.val (.int (LW w cs))), none]) (fun i : Nat => D.int (0 + (i : Nat))) (isH w cs) (fun i => .val (.int (0 + (i : Nat)))) (List.range cs.length) [] fun i hi => by
    have hi := List.mem_range.mp hi
    have T0 := T.drop (List.getElem?_eq_getElem hi)
    have e2 := without_spec (w := w) T.l hi
    have e4 := least_lw T0
    rw [show ((i : Nat) : Int) = 0 + (i : Nat) by omega] at e2
    generalize (0 + (i : Nat) : Int) = z at *
    refine ⟨[some (.val (tabD w cs)), some (.val (.int (LW w cs))), some (.val (.int z))], [some (.val (tabD w cs)), some (.val (.int (LW w cs))), some (.val (.int z))], by simp, ?_, fun _ => ⟨[some (.val (tabD w cs)), some (.val (.int (LW w cs))), some (.val (.int z))], by simp [le_holders_2], rfl⟩, fun _ => rfl⟩
    simp [lc_holders_1, e2, e4, isH]
  have hi : (mRng (mCons (mLook1 lenD (.ev (mIxS 0 (Dl.ret (.val (.int 1)))))) (Dl.ret []))) [some (.val (tabD w cs)), some (.val (.int (LW w cs))), none] = .ok ((List.range cs.length).map fun i : Nat => D.int (0 + (i : Nat))) [some (.val (tabD w cs)), some (.val (.int (LW w cs))), none] := by
    have r1 := rng_1 (n := (cs.length : Int)) (by omega) (by have := T.l; omega)
    simp only [rngL, Int.toNat_natCast] at r1
    simp [e3, r1]
  have e := comp_ok hi (by have := T.l; simp; omega) hm
  have ef : frzs (((List.range cs.length).filter (isH w cs)).map fun i => O.val (.int (0 + (i : Nat)))) = (holdL w cs cs.length).map D.int := by
    rw [show (((List.range cs.length).filter (isH w cs)).map fun i : Nat => O.val (.int (0 + (i : Nat)))) = ((holdL w cs cs.length).map D.int).map O.val by simp [holdL], frzs_map]
  rw [List.nil_append] at e
  generalize (((List.range cs.length).filter (isH w cs)).map fun i : Nat => O.val (.int (0 + (i : Nat)))) = Z at *
  simp [m_holders, b_holders, f_holders, e1, e, ef]
end Kl

set_option maxHeartbeats 8000000
namespace Kl
open PySem L2 Dl
theorem holdL_succ (w : Int) (cs : List Cl) (k : Nat) : holdL w cs (k + 1) = if isH w cs k = true then holdL w cs k ++ [(k : Int)] else holdL w cs k := by
  unfold holdL
  rw [List.range_succ, List.filter_append, List.map_append]
  by_cases h : isH w cs k = true
  · rw [if_pos h, List.filter_cons_of_pos h]; rfl
  · rw [if_neg h, List.filter_cons_of_neg h]; simp
theorem io_app (r : List Int) (v : Int) : io r ++ [.val (.int v)] = io (r ++ [v]) := by simp [io]
section
variable {w : Int} {cs : List Cl} {s0 s2 s5 s6 s7 s8 : Option O}
theorem due_loop (T : TabOk w cs) (hn : ∀ c ∈ cs, 0 ≤ c.2.2) :
    ∃ s5' s6' s7' s8', mLoop (mGTup 2 (mGCons (mSet ok_l_right 5) (mGCons (mGTup 3 (mGCons (mSet ok_l_right 6) (mGCons (mSet ok_l_right 7) (mGCons (mSet ok_l_right 8) mGNil)))) mGNil))) lb_l_right_2 (enumL 0 (cs.map cellD)) [s0, some (.val (tabD w cs)), s2, some (.val (.int (LW w cs))), some (.lst []), s5, s6, s7, s8]
      = .ok .nx [s0, some (.val (tabD w cs)), s2, some (.val (.int (LW w cs))), some (.lst (io (holdL w cs cs.length))), s5', s6', s7', s8'] := by
  obtain ⟨ρ', el, s5', s6', s7', s8', rfl⟩ := loop_ok (t := mGTup 2 (mGCons (mSet ok_l_right 5) (mGCons (mGTup 3 (mGCons (mSet ok_l_right 6) (mGCons (mSet ok_l_right 7) (mGCons (mSet ok_l_right 8) mGNil)))) mGNil))) (b := lb_l_right_2)
    (fun k ρ => ∃ s5' s6' s7' s8', ρ = [s0, some (.val (tabD w cs)), s2, some (.val (.int (LW w cs))), some (.lst (io (holdL w cs k))), s5', s6', s7', s8'])
    (enumL 0 (cs.map cellD)) 0 [s0, some (.val (tabD w cs)), s2, some (.val (.int (LW w cs))), some (.lst []), s5, s6, s7, s8] ⟨_, _, _, _, rfl⟩ fun i d ρ hd hI => by
      obtain ⟨s5', s6', s7', s8', rfl⟩ := hI
      rw [Nat.zero_add] at *
      rw [enumL_gt, List.getElem?_map] at hd
      cases hx : cs[i]? with
      | none => rw [hx] at hd; cases hd
      | some x =>
        rw [hx] at hd
        cases hd
        obtain ⟨b, e, n⟩ := x
        have hm := List.mem_of_getElem? hx
        have hn0 := hn _ hm
        dsimp only at hn0
        obtain ⟨q1, q2⟩ := hold_iff T hx hn0
        have e1 := with_spec (w := w) (m := n - 1) T.l hx
        have e2 := lleast_lw (T.put (m := n - 1) hx)
        have hlen : (holdL w cs i).length < 1000000 := by
          have hl := (List.getElem?_eq_some_iff.mp hx).1
          have := T.l
          unfold holdL
          rw [List.length_map]
          have h2 := List.length_filter_le (isH w cs) (List.range i)
          rw [List.length_range] at h2
          omega
        rw [Nat.zero_add]
        refine ⟨[s0, some (.val (tabD w cs)), s2, some (.val (.int (LW w cs))), some (.lst (io (holdL w cs i))), some (.val (.int (i : Nat))), some (.val (.int b)), some (.val (.int e)), some (.val (.int n))], .nx, [s0, some (.val (tabD w cs)), s2, some (.val (.int (LW w cs))), some (.lst (io (holdL w cs (i + 1)))), some (.val (.int (i : Nat))), some (.val (.int b)), some (.val (.int e)), some (.val (.int n))], by simp [cellD], ?_, .inl rfl, ⟨_, _, _, _, rfl⟩⟩
        rw [holdL_succ]
        generalize ((i : Nat) : Int) = z at *
        by_cases h0 : 0 < n
        · by_cases h1 : LW w (cs.set i (b, e, n - 1)) < LW w cs
          · have hH : isH w cs i = true := decide_eq_true (q1.mpr ⟨h0, h1⟩)
            simp [lb_l_right_2, h0, e1, e2, h1, hH, hlen, io_app]
          · have hH : ¬ isH w cs i = true := fun y => h1 (q1.mp (of_decide_eq_true y)).2
            simp [lb_l_right_2, h0, e1, e2, h1, hH]
        · have hH : ¬ isH w cs i = true := fun y => h0 (q1.mp (of_decide_eq_true y)).1
          simp [lb_l_right_2, h0, hH]
  rw [Nat.zero_add, enumL_ln, List.length_map] at el
  exact ⟨s5', s6', s7', s8', el⟩
theorem due_comp (T : TabOk w cs) (hn : ∀ c ∈ cs, 0 ≤ c.2.2) :
    mComp [5] (mSeqI (mVar 4)) (mSet (inOf [5]) 5) (Dl.ret true) le_l_right_1 [s0, some (.val (tabD w cs)), s2, some (.val (.int (LW w cs))), some (.val (.lst ((holdL w cs cs.length).map D.int))), s5, s6, s7, s8]
      = .ok (.lst (((holdL w cs cs.length).map fun _ => D.bl true).map .val)) [s0, some (.val (tabD w cs)), s2, some (.val (.int (LW w cs))), some (.val (.lst ((holdL w cs cs.length).map D.int))), none, s6, s7, s8] := by
  have e3 : ixO (.val (tabD w cs)) (.int 1) = some (.tup (cs.map cellD)) := by simp [tabD]
  have hm := comps_map (vs := [5]) (t := mSet (inOf [5]) 5) (c := Dl.ret true) (e := le_l_right_1) (ρ := [s0, some (.val (tabD w cs)), s2, some (.val (.int (LW w cs))), some (.val (.lst ((holdL w cs cs.length).map D.int))), none, s6, s7, s8]) D.int (fun _ => .val (.bl true)) (holdL w cs cs.length) [] fun x hx => by
    obtain ⟨i, hi, rfl⟩ := List.mem_map.mp hx
    have hi := List.mem_filter.mp hi
    have hl := List.mem_range.mp hi.1
    have hx := List.getElem?_eq_getElem hl
    generalize cs[i] = cx at hx
    obtain ⟨b, e, n⟩ := cx
    have hm := List.mem_of_getElem? hx
    have hn0 := hn _ hm
    dsimp only at hn0
    obtain ⟨q1, q2⟩ := hold_iff T hx hn0
    have q3 := q2 (of_decide_eq_true hi.2)
    have e1 := with_spec (w := w) (m := n - 1) T.l hx
    have e2 := lleast_lw (T.put (m := n - 1) hx)
    rw [q3] at e2
    have a1 : atI (cs.map cellD) (i : Int) = some (.tup [.int b, .int e, .int n]) := atI_get (by omega) (by simp [hx, cellD])
    generalize ((i : Nat) : Int) = z at *
    refine ⟨[s0, some (.val (tabD w cs)), s2, some (.val (.int (LW w cs))), some (.val (.lst ((holdL w cs cs.length).map D.int))), some (.val (.int z)), s6, s7, s8], _, [s0, some (.val (tabD w cs)), s2, some (.val (.int (LW w cs))), some (.val (.lst ((holdL w cs cs.length).map D.int))), some (.val (.int z)), s6, s7, s8], by simp, rfl, ?_, rfl⟩
    simp [le_l_right_1, e3, a1, e1, e2]
  have hi : (mSeqI (mVar 4)) [s0, some (.val (tabD w cs)), s2, some (.val (.int (LW w cs))), some (.val (.lst ((holdL w cs cs.length).map D.int))), s5, s6, s7, s8] = .ok ((holdL w cs cs.length).map D.int) [s0, some (.val (tabD w cs)), s2, some (.val (.int (LW w cs))), some (.val (.lst ((holdL w cs cs.length).map D.int))), s5, s6, s7, s8] := by
    simp
  have e := comp_ok hi (by
    have := T.l
    have h2 := List.length_filter_le (isH w cs) (List.range cs.length)
    rw [List.length_range] at h2
    unfold holdL
    rw [List.length_map, List.length_map]
    omega) hm
  rw [e]
  simp
end
theorem right_spec {B : Int} {hl : List O} (h : Hd B hl) (hB : B ≤ 600000000) : ∃ hl', m_l_right [.lst hl] = .ok (.val (.bl true)) [.lst hl'] ∧ Hd (B + 200) hl' := by
  obtain ⟨t0, g1, e1, hm1, k1⟩ := of_own (ds := [.int 3, .int 9, .int 999, .int 1000000000]) h (by omega) (by simp) (by simp)
  simp only [List.map_cons, List.map_nil] at e1
  obtain ⟨top, rfl, ht, ht2⟩ : ∃ top : Int, t0 = .int top ∧ 0 ≤ top ∧ top ≤ 1000000000 := by
    simp only [List.mem_cons, List.not_mem_nil, or_false] at hm1
    rcases hm1 with rfl | rfl | rfl | rfl <;> exact ⟨_, rfl, by omega, by omega⟩
  obtain ⟨g2, w, fd, e2, w1, w2, hfl, hfc, k2⟩ := grid_spec (widest := 12) (most := 20) k1 (by omega) (by omega) (by omega) (by omega) (by omega) ht ht2
  obtain ⟨cs, rfl, hcl, hcc⟩ := cells_of hfc
  have hl20 : cs.length ≤ 20 := by rw [List.length_map] at hfl; omega
  have T : TabOk w cs := ⟨w1, by omega, by omega, fun c hc => ⟨(hcc c hc).1, (hcc c hc).2.1, (hcc c hc).2.2.1⟩⟩
  have hn : ∀ c ∈ cs, 0 ≤ c.2.2 := fun c hc => (hcc c hc).2.2.2.1
  have T0 : Tm 3 (tabD w cs) := tab_tm (by omega) fun c hc => by
    have := hcc c hc
    omega
  have R0 := repr_ok T0 (by omega) (tab_cnt (by omega))
  have E2 := eq_shown T0
  have hlen : (holdL w cs cs.length).length ≤ 20 := by
    have h2 := List.length_filter_le (isH w cs) (List.range cs.length)
    rw [List.length_range] at h2
    unfold holdL
    rw [List.length_map]
    omega
  have T1 : Tm 1 (.tup ((holdL w cs cs.length).map D.int)) := fun d hd => by
    obtain ⟨x, hx, rfl⟩ := List.mem_map.mp hd
    obtain ⟨i, hi, rfl⟩ := List.mem_map.mp hx
    have := List.mem_range.mp (List.mem_filter.mp hi).1
    show Int.natAbs _ < 10 ^ 60
    omega
  have R1 := repr_ok T1 (by omega) (by
    have := cnts_map D.int 1 (holdL w cs cs.length) fun _ _ => Nat.le_refl _
    show cnts _ + 1 ≤ 13000
    omega)
  have N1 := ne_shown T1
  have LL := lleast_lw T
  have HH := holders_spec T
  obtain ⟨s5, s6, s7, s8, LP⟩ := due_loop (s0 := some (.lst g2)) (s2 := some (.val (.str (toP (tabD w cs)).shown))) (s5 := none) (s6 := none) (s7 := none) (s8 := none) T hn
  have CP := due_comp (s0 := some (.lst g2)) (s2 := some (.val (.str (toP (tabD w cs)).shown))) (s5 := s5) (s6 := s6) (s7 := s7) (s8 := s8) T hn
  have AL := all_true (holdL w cs cs.length)
  have AF : frzs (((holdL w cs cs.length).map fun _ => D.bl true).map O.val) = (holdL w cs cs.length).map fun _ => D.bl true := frzs_map _
  refine ⟨g2, ?_, k2.mono (by omega)⟩
  have e3 : ixO (.val (tabD w cs)) (.int 1) = some (.tup (cs.map cellD)) := by simp [tabD]
  change m_l_grid _ = .ok (.val (tabD w cs)) _ at e2
  generalize hS0 : (toP (tabD w cs)).shown = S0 at *
  generalize hS1 : (toP (.tup ((holdL w cs cs.length).map D.int))).shown = S1 at *
  generalize ((holdL w cs cs.length).map fun _ => D.bl true).map O.val = BT at *
  generalize ((holdL w cs cs.length).map fun _ => D.bl true) = BD at *
  generalize holdL w cs cs.length = HL at *
  generalize LW w cs = LWv at *
  simp [m_l_right, b_l_right, f_l_right, ten9, e1, e2, e3, LL, HH, LP, CP, AL, AF, R0, R1, N1, E2]
end Kl

set_option maxHeartbeats 8000000
namespace Kl
open PySem L2 Dl
theorem law_turns {s0 s1 s3 : Option O} {hl : List O} (h : Hd 0 hl) :
    ∃ hl', mComp [3] (mRng (mCons (Dl.ret (.val (.int 8))) (Dl.ret []))) (mSet (inOf [3]) 3) (Dl.ret true) le_law_1 [s0, s1, some (.lst hl), s3] = .ok (.lst (List.replicate 8 (.val (.bl true)))) [s0, s1, some (.lst hl'), none] := by
  obtain ⟨os, ρ', e, hl', rfl, rfl, h'⟩ := comps_ok (vs := [3]) (t := mSet (inOf [3]) 3) (c := Dl.ret true) (e := le_law_1) (fun k acc ρ => ∃ hl', acc = List.replicate k (.val (.bl true)) ∧ ρ = [s0, s1, some (.lst hl'), none] ∧ Hd (200 * k) hl')
    (rngL 0 8) 0 [] [s0, s1, some (.lst hl), none] ⟨hl, rfl, rfl, h.mono (by omega)⟩ fun i d acc ρ hd hI => by
      obtain ⟨rfl, hi⟩ := rngL_at hd
      obtain ⟨hl', rfl, rfl, h'⟩ := hI
      obtain ⟨hl2, e, h2⟩ := right_spec h' (by omega)
      refine ⟨[s0, s1, some (.lst hl'), some (.val (.int (0 + (i : Int))))], true, [s0, s1, some (.lst hl'), some (.val (.int (0 + (i : Int))))], by simp, rfl, fun _ => ⟨.val (.bl true), [s0, s1, some (.lst hl2), some (.val (.int (0 + (i : Int))))], by simp [le_law_1, e], hl2, ?_, rfl, h2.mono (by omega)⟩, fun z => nomatch z⟩
      rw [List.replicate_succ', Nat.zero_add]
  refine ⟨hl', ?_⟩
  have hi : (mRng (mCons (Dl.ret (.val (.int 8))) (Dl.ret []))) [s0, s1, some (.lst hl), s3] = .ok (rngL 0 8) [s0, s1, some (.lst hl), s3] := by
    simp [rng_1]
  have := comp_ok hi (by simp [rngL]) e
  simpa [rngL_len] using this
theorem law_spec (ns : List Int) : ∃ o, m_law [.val (.fl ns)] = .ok (.val (.bl true)) [o] := by
  have hn : ∃ n : Int, max2 [.int 1, .int (if (ns.length : Int) < 3 then ns.length else 3)] = some (.int n) ∧ 0 ≤ n ∧ n ≤ 3 := by
    refine ⟨_, max2_ii _ _, ?_, ?_⟩ <;> (split <;> (try split) <;> omega)
  obtain ⟨n, en, n1, n2⟩ := hn
  obtain ⟨ρ', el, s1, s2, s3, rfl⟩ := loop_ok (t := mSet ok_law 1) (b := lb_law_2) (fun k ρ => ∃ s1 s2 s3, ρ = [some (.val (.fl ns)), s1, s2, s3]) (rngL 0 n.toNat) 0 [some (.val (.fl ns)), none, none, none] ⟨_, _, _, rfl⟩ fun i d ρ hd hI => by
    obtain ⟨rfl, hi⟩ := rngL_at hd
    obtain ⟨s1, s2, s3, rfl⟩ := hI
    obtain ⟨hl, e1, h1⟩ := hand_spec ns (0 + (i : Int)) (by omega) (by omega)
    obtain ⟨hl', e2⟩ := law_turns (s0 := some (.val (.fl ns))) (s1 := some (.val (.int (0 + (i : Int))))) (s3 := s3) h1
    refine ⟨[some (.val (.fl ns)), some (.val (.int (0 + (i : Int)))), s2, s3], .nx, [some (.val (.fl ns)), some (.val (.int (0 + (i : Int)))), some (.lst hl'), none], by simp, ?_, .inl rfl, ⟨_, _, _, rfl⟩⟩
    generalize (0 + (i : Int)) = j at *
    simp [lb_law_2, e1, e2, allD, lstB, bls]
  refine ⟨.val (.fl ns), ?_⟩
  simp [m_law, b_law, f_law, en, rng_1 (show -1000000000 ≤ n by omega) (by omega), el]
end Kl

namespace Kl
open PySem L2 Dl PySem.Spec PyProof.Rows
def xh0 : XH := fun _ _ _ _ _ => False
theorem all_mk {l : PySem.W.OpenLaw} {w : World} {K : PySem.W.Frag} {h : Heap} {mg : Str → Option Value} {fa f1 f2 f3 f4 f5 f6 f7 f8 f9 f10 f11 f12 f13 f14 f15 : Addr} (X : K.In h) (G : h.Ns mainGlobals mg) (hfa : mg "law" = some (.ref fa))
    {od1 an1 od2 an2 od3 an3 od4 an4 od5 an5 od6 an6 od7 an7 od8 an8 od9 an9 od10 an10 od11 an11 od12 an12 od13 an13 od14 an14 od15 an15 : Option Addr}
    {sl1 sl2 sl3 sl4 sl5 sl6 sl7 sl8 sl9 sl10 sl11 sl12 sl13 sl14 sl15 : Array (Option Value)}
    {oc1 kV1 dc1 pm1 cd1 ct1 oc2 kV2 dc2 pm2 cd2 ct2 oc3 kV3 dc3 pm3 cd3 ct3 oc4 kV4 dc4 pm4 cd4 ct4 oc5 kV5 dc5 pm5 cd5 ct5 oc6 kV6 dc6 pm6 cd6 ct6 oc7 kV7 dc7 pm7 cd7 ct7 oc8 kV8 dc8 pm8 cd8 ct8 oc9 kV9 dc9 pm9 cd9 ct9 oc10 kV10 dc10 pm10 cd10 ct10 oc11 kV11 dc11 pm11 cd11 ct11 oc12 kV12 dc12 pm12 cd12 ct12 oc13 kV13 dc13 pm13 cd13 ct13 oc14 kV14 dc14 pm14 cd14 ct14 oc15 kV15 dc15 pm15 cd15 ct15 : Value}
    (a1 : PySem.W.nsIn K mainGlobals "replaced" = some (some (.ref f1))) (l1 : K.lookup f1 = some ⟨oc1, od1, .func (PySem.W.fnOf "replaced" "replaced" (defArgs s_replaced) (defBody s_replaced) (defScope s_replaced) .none kV1 dc1 pm1 an1 cd1 ct1), sl1⟩) (c1 : PySem.W.codeIn K cd1 "replaced" = true) (k1 : PySem.W.keepIn K (.ref f1) = true)
    (a2 : PySem.W.nsIn K mainGlobals "chain_sums" = some (some (.ref f2))) (l2 : K.lookup f2 = some ⟨oc2, od2, .func (PySem.W.fnOf "chain_sums" "chain_sums" (defArgs s_chain_sums) (defBody s_chain_sums) (defScope s_chain_sums) .none kV2 dc2 pm2 an2 cd2 ct2), sl2⟩) (c2 : PySem.W.codeIn K cd2 "chain_sums" = true) (k2 : PySem.W.keepIn K (.ref f2) = true)
    (a3 : PySem.W.nsIn K mainGlobals "least_width" = some (some (.ref f3))) (l3 : K.lookup f3 = some ⟨oc3, od3, .func (PySem.W.fnOf "least_width" "least_width" (defArgs s_least_width) (defBody s_least_width) (defScope s_least_width) .none kV3 dc3 pm3 an3 cd3 ct3), sl3⟩) (c3 : PySem.W.codeIn K cd3 "least_width" = true) (k3 : PySem.W.keepIn K (.ref f3) = true)
    (a4 : PySem.W.nsIn K mainGlobals "without_cell" = some (some (.ref f4))) (l4 : K.lookup f4 = some ⟨oc4, od4, .func (PySem.W.fnOf "without_cell" "without_cell" (defArgs s_without_cell) (defBody s_without_cell) (defScope s_without_cell) .none kV4 dc4 pm4 an4 cd4 ct4), sl4⟩) (c4 : PySem.W.codeIn K cd4 "without_cell" = true) (k4 : PySem.W.keepIn K (.ref f4) = true)
    (a5 : PySem.W.nsIn K mainGlobals "holders" = some (some (.ref f5))) (l5 : K.lookup f5 = some ⟨oc5, od5, .func (PySem.W.fnOf "holders" "holders" (defArgs s_holders) (defBody s_holders) (defScope s_holders) .none kV5 dc5 pm5 an5 cd5 ct5), sl5⟩) (c5 : PySem.W.codeIn K cd5 "holders" = true) (k5 : PySem.W.keepIn K (.ref f5) = true)
    (a6 : PySem.W.nsIn K mainGlobals "_law_take" = some (some (.ref f6))) (l6 : K.lookup f6 = some ⟨oc6, od6, .func (PySem.W.fnOf "_law_take" "_law_take" (defArgs s_l_take) (defBody s_l_take) (defScope s_l_take) .none kV6 dc6 pm6 an6 cd6 ct6), sl6⟩) (c6 : PySem.W.codeIn K cd6 "_law_take" = true) (k6 : PySem.W.keepIn K (.ref f6) = true)
    (a7 : PySem.W.nsIn K mainGlobals "_law_of" = some (some (.ref f7))) (l7 : K.lookup f7 = some ⟨oc7, od7, .func (PySem.W.fnOf "_law_of" "_law_of" (defArgs s_l_of) (defBody s_l_of) (defScope s_l_of) .none kV7 dc7 pm7 an7 cd7 ct7), sl7⟩) (c7 : PySem.W.codeIn K cd7 "_law_of" = true) (k7 : PySem.W.keepIn K (.ref f7) = true)
    (a8 : PySem.W.nsIn K mainGlobals "_law_need" = some (some (.ref f8))) (l8 : K.lookup f8 = some ⟨oc8, od8, .func (PySem.W.fnOf "_law_need" "_law_need" (defArgs s_l_need) (defBody s_l_need) (defScope s_l_need) .none kV8 dc8 pm8 an8 cd8 ct8), sl8⟩) (c8 : PySem.W.codeIn K cd8 "_law_need" = true) (k8 : PySem.W.keepIn K (.ref f8) = true)
    (a9 : PySem.W.nsIn K mainGlobals "_law_grid" = some (some (.ref f9))) (l9 : K.lookup f9 = some ⟨oc9, od9, .func (PySem.W.fnOf "_law_grid" "_law_grid" (defArgs s_l_grid) (defBody s_l_grid) (defScope s_l_grid) .none kV9 dc9 pm9 an9 cd9 ct9), sl9⟩) (c9 : PySem.W.codeIn K cd9 "_law_grid" = true) (k9 : PySem.W.keepIn K (.ref f9) = true)
    (a10 : PySem.W.nsIn K mainGlobals "_law_sums" = some (some (.ref f10))) (l10 : K.lookup f10 = some ⟨oc10, od10, .func (PySem.W.fnOf "_law_sums" "_law_sums" (defArgs s_l_sums) (defBody s_l_sums) (defScope s_l_sums) .none kV10 dc10 pm10 an10 cd10 ct10), sl10⟩) (c10 : PySem.W.codeIn K cd10 "_law_sums" = true) (k10 : PySem.W.keepIn K (.ref f10) = true)
    (a11 : PySem.W.nsIn K mainGlobals "_law_least" = some (some (.ref f11))) (l11 : K.lookup f11 = some ⟨oc11, od11, .func (PySem.W.fnOf "_law_least" "_law_least" (defArgs s_l_least) (defBody s_l_least) (defScope s_l_least) .none kV11 dc11 pm11 an11 cd11 ct11), sl11⟩) (c11 : PySem.W.codeIn K cd11 "_law_least" = true) (k11 : PySem.W.keepIn K (.ref f11) = true)
    (a12 : PySem.W.nsIn K mainGlobals "_law_with" = some (some (.ref f12))) (l12 : K.lookup f12 = some ⟨oc12, od12, .func (PySem.W.fnOf "_law_with" "_law_with" (defArgs s_l_with) (defBody s_l_with) (defScope s_l_with) .none kV12 dc12 pm12 an12 cd12 ct12), sl12⟩) (c12 : PySem.W.codeIn K cd12 "_law_with" = true) (k12 : PySem.W.keepIn K (.ref f12) = true)
    (a13 : PySem.W.nsIn K mainGlobals "_law_hand" = some (some (.ref f13))) (l13 : K.lookup f13 = some ⟨oc13, od13, .func (PySem.W.fnOf "_law_hand" "_law_hand" (defArgs s_l_hand) (defBody s_l_hand) (defScope s_l_hand) .none kV13 dc13 pm13 an13 cd13 ct13), sl13⟩) (c13 : PySem.W.codeIn K cd13 "_law_hand" = true) (k13 : PySem.W.keepIn K (.ref f13) = true)
    (a14 : PySem.W.nsIn K mainGlobals "_law_right" = some (some (.ref f14))) (l14 : K.lookup f14 = some ⟨oc14, od14, .func (PySem.W.fnOf "_law_right" "_law_right" (defArgs s_l_right) (defBody s_l_right) (defScope s_l_right) .none kV14 dc14 pm14 an14 cd14 ct14), sl14⟩) (c14 : PySem.W.codeIn K cd14 "_law_right" = true) (k14 : PySem.W.keepIn K (.ref f14) = true)
    (a15 : PySem.W.nsIn K mainGlobals "law" = some (some (.ref f15))) (l15 : K.lookup f15 = some ⟨oc15, od15, .func (PySem.W.fnOf "law" "law" (defArgs s_law) (defBody s_law) (defScope s_law) .none kV15 dc15 pm15 an15 cd15 ct15), sl15⟩) (c15 : PySem.W.codeIn K cd15 "law" = true) (k15 : PySem.W.keepIn K (.ref f15) = true)
    (z1 : PySem.W.nsIn K mainGlobals "len" = some none)
    (z2 : PySem.W.nsIn K mainGlobals "abs" = some none)
    (z3 : PySem.W.nsIn K mainGlobals "all" = some none)
    (z4 : PySem.W.nsIn K mainGlobals "max" = some none)
    (z5 : PySem.W.nsIn K mainGlobals "min" = some none)
    (z6 : PySem.W.nsIn K mainGlobals "repr" = some none)
    (z7 : PySem.W.nsIn K mainGlobals "int" = some none)
    (z8 : PySem.W.nsIn K mainGlobals "tuple" = some none)
    (z9 : PySem.W.nsIn K mainGlobals "range" = some none)
    (z10 : PySem.W.nsIn K mainGlobals "enumerate" = some none)
    : ∃ fd : FuncData, (∀ (s : Shared) (v : Value), BindsTo s fd ⟨[v], []⟩ [("_law_script", v)]) ∧ ∀ base : Heap, K.In base → base.Ns mainGlobals mg → FnG l.prog w K mg base (L2.CX l.prog w) 15 fa fd ["_law_script"] (@spM ⟨K⟩ xh0 1 m_law) := by
  letI : Kc := ⟨K⟩
  have e := hfa.symm.trans (PySem.W.mg_of X G a15)
  cases e
  have F1 := fun_mk (st := s_replaced) l1 c1 k1
  have b1 := F1.binds (ps := p_replaced) fun _ _ _ _ _ _ us hl => match us, hl with | [_, _], _ => rfl
  have F2 := fun_mk (st := s_chain_sums) l2 c2 k2
  have b2 := F2.binds (ps := p_chain_sums) fun _ _ _ _ _ _ us hl => match us, hl with | [_], _ => rfl
  have F3 := fun_mk (st := s_least_width) l3 c3 k3
  have b3 := F3.binds (ps := p_least_width) fun _ _ _ _ _ _ us hl => match us, hl with | [_], _ => rfl
  have F4 := fun_mk (st := s_without_cell) l4 c4 k4
  have b4 := F4.binds (ps := p_without_cell) fun _ _ _ _ _ _ us hl => match us, hl with | [_, _], _ => rfl
  have F5 := fun_mk (st := s_holders) l5 c5 k5
  have b5 := F5.binds (ps := p_holders) fun _ _ _ _ _ _ us hl => match us, hl with | [_], _ => rfl
  have F6 := fun_mk (st := s_l_take) l6 c6 k6
  have b6 := F6.binds (ps := p_l_take) fun _ _ _ _ _ _ us hl => match us, hl with | [_, _], _ => rfl
  have F7 := fun_mk (st := s_l_of) l7 c7 k7
  have b7 := F7.binds (ps := p_l_of) fun _ _ _ _ _ _ us hl => match us, hl with | [_, _], _ => rfl
  have F8 := fun_mk (st := s_l_need) l8 c8 k8
  have b8 := F8.binds (ps := p_l_need) fun _ _ _ _ _ _ us hl => match us, hl with | [_, _], _ => rfl
  have F9 := fun_mk (st := s_l_grid) l9 c9 k9
  have b9 := F9.binds (ps := p_l_grid) fun _ _ _ _ _ _ us hl => match us, hl with | [_, _, _, _], _ => rfl
  have F10 := fun_mk (st := s_l_sums) l10 c10 k10
  have b10 := F10.binds (ps := p_l_sums) fun _ _ _ _ _ _ us hl => match us, hl with | [_, _], _ => rfl
  have F11 := fun_mk (st := s_l_least) l11 c11 k11
  have b11 := F11.binds (ps := p_l_least) fun _ _ _ _ _ _ us hl => match us, hl with | [_], _ => rfl
  have F12 := fun_mk (st := s_l_with) l12 c12 k12
  have b12 := F12.binds (ps := p_l_with) fun _ _ _ _ _ _ us hl => match us, hl with | [_, _, _], _ => rfl
  have F13 := fun_mk (st := s_l_hand) l13 c13 k13
  have b13 := F13.binds (ps := p_l_hand) fun _ _ _ _ _ _ us hl => match us, hl with | [_, _], _ => rfl
  have F14 := fun_mk (st := s_l_right) l14 c14 k14
  have b14 := F14.binds (ps := p_l_right) fun _ _ _ _ _ _ us hl => match us, hl with | [_], _ => rfl
  have F15 := fun_mk (st := s_law) l15 c15 k15
  have hc : ∀ x d, cst.lookup x = some d → ∃ u v, mg x = some u ∧ sc d = some v ∧ RelV v u := fun x d h => nomatch h
  have hb : ∀ x, x ∈ blt → mg x = none := by
    intro x hx
    simp only [blt, List.mem_cons, List.not_mem_nil, or_false] at hx
    rcases hx with rfl | rfl | rfl | rfl | rfl | rfl | rfl | rfl | rfl | rfl
    · exact PySem.W.mg_none_of X G z1
    · exact PySem.W.mg_none_of X G z2
    · exact PySem.W.mg_none_of X G z3
    · exact PySem.W.mg_none_of X G z4
    · exact PySem.W.mg_none_of X G z5
    · exact PySem.W.mg_none_of X G z6
    · exact PySem.W.mg_none_of X G z7
    · exact PySem.W.mg_none_of X G z8
    · exact PySem.W.mg_none_of X G z9
    · exact PySem.W.mg_none_of X G z10
  refine ⟨PySem.W.fnOf "law" "law" (defArgs s_law) (defBody s_law) (defScope s_law) .none kV15 dc15 pm15 an15 cd15 ct15, fun s v => .of_eq rfl, fun base _ _ => ?_⟩
  have S0 : FSt l.prog w K mg base xh0 0 T0 := FSt.nil
  have q1 := step (x := "replaced") (N := n_replaced) (ps := p_replaced) (fs := f_replaced) (F := T0) (cst := cst) (blt := blt) rfl S0 hc hb F1 sc_replaced rfl (PySem.W.mg_of X G a1) b1
  rw [e_replaced] at q1
  have S1 : FSt l.prog w K mg base xh0 1 T1 := FSt.cons q1 (S0.mono (by omega))
  have q2 := step (x := "chain_sums") (N := n_chain_sums) (ps := p_chain_sums) (fs := f_chain_sums) (F := T1) (cst := cst) (blt := blt) rfl S1 hc hb F2 sc_chain_sums rfl (PySem.W.mg_of X G a2) b2
  rw [e_chain_sums] at q2
  have S2 : FSt l.prog w K mg base xh0 2 T2 := FSt.cons q2 (S1.mono (by omega))
  have q3 := step (x := "least_width") (N := n_least_width) (ps := p_least_width) (fs := f_least_width) (F := T2) (cst := cst) (blt := blt) rfl S2 hc hb F3 sc_least_width rfl (PySem.W.mg_of X G a3) b3
  rw [e_least_width] at q3
  have S3 : FSt l.prog w K mg base xh0 3 T3 := FSt.cons q3 (S2.mono (by omega))
  have q4 := step (x := "without_cell") (N := n_without_cell) (ps := p_without_cell) (fs := f_without_cell) (F := T3) (cst := cst) (blt := blt) rfl S3 hc hb F4 sc_without_cell rfl (PySem.W.mg_of X G a4) b4
  rw [e_without_cell] at q4
  have S4 : FSt l.prog w K mg base xh0 4 T4 := FSt.cons q4 (S3.mono (by omega))
  have q5 := step (x := "holders") (N := n_holders) (ps := p_holders) (fs := f_holders) (F := T4) (cst := cst) (blt := blt) rfl S4 hc hb F5 sc_holders rfl (PySem.W.mg_of X G a5) b5
  rw [e_holders] at q5
  have S5 : FSt l.prog w K mg base xh0 5 T5 := FSt.cons q5 (S4.mono (by omega))
  have q6 := step (x := "_law_take") (N := n_l_take) (ps := p_l_take) (fs := f_l_take) (F := T5) (cst := cst) (blt := blt) rfl S5 hc hb F6 sc_l_take rfl (PySem.W.mg_of X G a6) b6
  rw [e_l_take] at q6
  have S6 : FSt l.prog w K mg base xh0 6 T6 := FSt.cons q6 (S5.mono (by omega))
  have q7 := step (x := "_law_of") (N := n_l_of) (ps := p_l_of) (fs := f_l_of) (F := T6) (cst := cst) (blt := blt) rfl S6 hc hb F7 sc_l_of rfl (PySem.W.mg_of X G a7) b7
  rw [e_l_of] at q7
  have S7 : FSt l.prog w K mg base xh0 7 T7 := FSt.cons q7 (S6.mono (by omega))
  have q8 := step (x := "_law_need") (N := n_l_need) (ps := p_l_need) (fs := f_l_need) (F := T7) (cst := cst) (blt := blt) rfl S7 hc hb F8 sc_l_need rfl (PySem.W.mg_of X G a8) b8
  rw [e_l_need] at q8
  have S8 : FSt l.prog w K mg base xh0 8 T8 := FSt.cons q8 (S7.mono (by omega))
  have q9 := step (x := "_law_grid") (N := n_l_grid) (ps := p_l_grid) (fs := f_l_grid) (F := T8) (cst := cst) (blt := blt) rfl S8 hc hb F9 sc_l_grid rfl (PySem.W.mg_of X G a9) b9
  rw [e_l_grid] at q9
  have S9 : FSt l.prog w K mg base xh0 9 T9 := FSt.cons q9 (S8.mono (by omega))
  have q10 := step (x := "_law_sums") (N := n_l_sums) (ps := p_l_sums) (fs := f_l_sums) (F := T9) (cst := cst) (blt := blt) rfl S9 hc hb F10 sc_l_sums rfl (PySem.W.mg_of X G a10) b10
  rw [e_l_sums] at q10
  have S10 : FSt l.prog w K mg base xh0 10 T10 := FSt.cons q10 (S9.mono (by omega))
  have q11 := step (x := "_law_least") (N := n_l_least) (ps := p_l_least) (fs := f_l_least) (F := T10) (cst := cst) (blt := blt) rfl S10 hc hb F11 sc_l_least rfl (PySem.W.mg_of X G a11) b11
  rw [e_l_least] at q11
  have S11 : FSt l.prog w K mg base xh0 11 T11 := FSt.cons q11 (S10.mono (by omega))
  have q12 := step (x := "_law_with") (N := n_l_with) (ps := p_l_with) (fs := f_l_with) (F := T11) (cst := cst) (blt := blt) rfl S11 hc hb F12 sc_l_with rfl (PySem.W.mg_of X G a12) b12
  rw [e_l_with] at q12
  have S12 : FSt l.prog w K mg base xh0 12 T12 := FSt.cons q12 (S11.mono (by omega))
  have q13 := step (x := "_law_hand") (N := n_l_hand) (ps := p_l_hand) (fs := f_l_hand) (F := T12) (cst := cst) (blt := blt) rfl S12 hc hb F13 sc_l_hand rfl (PySem.W.mg_of X G a13) b13
  rw [e_l_hand] at q13
  have S13 : FSt l.prog w K mg base xh0 13 T13 := FSt.cons q13 (S12.mono (by omega))
  have q14 := step (x := "_law_right") (N := n_l_right) (ps := p_l_right) (fs := f_l_right) (F := T13) (cst := cst) (blt := blt) rfl S13 hc hb F14 sc_l_right rfl (PySem.W.mg_of X G a14) b14
  rw [e_l_right] at q14
  have S14 : FSt l.prog w K mg base xh0 14 T14 := FSt.cons q14 (S13.mono (by omega))
  have q15 := step_G (P := l.prog) (w := w) (base := base) (xh := xh0) (x := "law") (N := n_law) (ps := p_law) (fs := f_law) (F := T14) (cst := cst) (blt := blt) rfl S14 hc hb F15 sc_law rfl
  rw [e_law] at q15
  exact q15
end Kl
open PySem PySem.W PyProof.Rows
set_option maxRecDepth 100000 in
set_option maxHeartbeats 0 in
theorem PySem.Challenge.cw_spanwidths_k08_cells_that_hold_the_width_holds : PySem.Challenge.rw_spanwidths_k08_cells_that_hold_the_width.Holds := by
  w_on; o_law; k_head; (case hw => w_witness2)
  k_fill
  refine Dl.walk_G (l := PySem.Challenge.rw_spanwidths_k08_cells_that_hold_the_width) (k := 15) (x := "_law_script") (xh := Kl.xh0) (m := Kl.m_law) rfl (by decide) rfl ⟨rfl, by decide, by decide⟩ (fun w h Y => PySem.W.kIn_of Y) ?F (fun ns _ => Kl.law_spec ns)
  case F =>
    intro w mg fa h KX G hmg
    refine' Kl.all_mk KX G hmg ?a1 ?l1 ?c1 ?k1 ?a2 ?l2 ?c2 ?k2 ?a3 ?l3 ?c3 ?k3 ?a4 ?l4 ?c4 ?k4 ?a5 ?l5 ?c5 ?k5 ?a6 ?l6 ?c6 ?k6 ?a7 ?l7 ?c7 ?k7 ?a8 ?l8 ?c8 ?k8 ?a9 ?l9 ?c9 ?k9 ?a10 ?l10 ?c10 ?k10 ?a11 ?l11 ?c11 ?k11 ?a12 ?l12 ?c12 ?k12 ?a13 ?l13 ?c13 ?k13 ?a14 ?l14 ?c14 ?k14 ?a15 ?l15 ?c15 ?k15 ?z1 ?z2 ?z3 ?z4 ?z5 ?z6 ?z7 ?z8 ?z9 ?z10
    (case a1 => k_is); (case l1 => k_is); (case c1 => k_is); (case k1 => k_is)
    (case a2 => k_is); (case l2 => k_is); (case c2 => k_is); (case k2 => k_is)
    (case a3 => k_is); (case l3 => k_is); (case c3 => k_is); (case k3 => k_is)
    (case a4 => k_is); (case l4 => k_is); (case c4 => k_is); (case k4 => k_is)
    (case a5 => k_is); (case l5 => k_is); (case c5 => k_is); (case k5 => k_is)
    (case a6 => k_is); (case l6 => k_is); (case c6 => k_is); (case k6 => k_is)
    (case a7 => k_is); (case l7 => k_is); (case c7 => k_is); (case k7 => k_is)
    (case a8 => k_is); (case l8 => k_is); (case c8 => k_is); (case k8 => k_is)
    (case a9 => k_is); (case l9 => k_is); (case c9 => k_is); (case k9 => k_is)
    (case a10 => k_is); (case l10 => k_is); (case c10 => k_is); (case k10 => k_is)
    (case a11 => k_is); (case l11 => k_is); (case c11 => k_is); (case k11 => k_is)
    (case a12 => k_is); (case l12 => k_is); (case c12 => k_is); (case k12 => k_is)
    (case a13 => k_is); (case l13 => k_is); (case c13 => k_is); (case k13 => k_is)
    (case a14 => k_is); (case l14 => k_is); (case c14 => k_is); (case k14 => k_is)
    (case a15 => k_is); (case l15 => k_is); (case c15 => k_is); (case k15 => k_is)
    (case z1 => k_is)
    (case z2 => k_is)
    (case z3 => k_is)
    (case z4 => k_is)
    (case z5 => k_is)
    (case z6 => k_is)
    (case z7 => k_is)
    (case z8 => k_is)
    (case z9 => k_is)
    (case z10 => k_is)

