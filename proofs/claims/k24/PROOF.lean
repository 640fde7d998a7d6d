import PyProof.Rows.All
import Wide.All
import OpenK.AllK
import Wide.FinOn
import HandS.ForMost
import HandS.ForExc
import HandS.Lambda
import HandS.ExcInit
import HandS.IsInst
import KE.KExcIs
import HandS.CallSlots
import HandS.TupAny
import HandS.Wide
import HandS.Zip
import KE.GoesEnum
import KE.GoesZip
import PyProof.ReprRoads
import HandS.Style
import KE.KRevSl
import HandS.ExcField
import HandS.Star
import HandS.Deep
import HandS.SortInts
import HandS.Conv
import HandS.Strs
import HandS.SetFor
import HandS.RaiseMore
import HandS.Words
import HandS.WordsExc
import HandS.Property
import KE.KNest
import HandS.EndTab
import PySem.Challenge.RW_spanwidths_k24_least_widths
set_option Elab.async false
set_option linter.all false
set_option maxRecDepth 100000
namespace Dl
open PySem L2

/-- the written part -/
class Kc where
  k : PySem.W.Frag
  /-- the classes by name -/
  cls : List (Str × Addr)
  /-- the tables of code objects -/
  tb : List (Addr × Str)
variable [Kc]

/-- plain data -/
inductive D where
  | non
  | bl (b : Bool)
  | int (i : Int)
  | str (x : Str)
  | tup (l : List D)
  | lst (l : List D)
  | dct (ks : List Key) (l : List D)
  | fl (l : List Int)
  | obj (c : Str) (ks : List Str) (l : List D)

/-- what a name holds: data, or a list of its own -/
inductive O where
  | val (d : D)
  | lst (l : List O)

mutual
def frz : O → D
  | .val d => d
  | .lst l => .lst (frzs l)
def frzs : List O → List D
  | [] => []
  | o :: l => frz o :: frzs l
end
theorem frzs_eq : ∀ l : List O, frzs l = l.map frz
  | [] => rfl
  | o :: l => by rw [frzs, List.map_cons, frzs_eq l]
theorem frzs_val (ds : List D) : frzs (ds.map O.val) = ds := by
  induction ds with
  | nil => rfl
  | cons d ds ih => rw [List.map_cons, frzs, ih]; rfl

/-- a list of the written part -/
def KL (K : PySem.W.Frag) (p : Addr) (xs : List V) : Prop := ∃ (o : Obj) (its : Array Value) (n : Nat),
  K.lookup p = some o ∧ o.cls = .type "list" ∧ o.dict = none ∧ o.data = .seq its n ∧ its.size ≤ sizeLine ∧ Vals xs its.toList
def sixT : List String := ["int", "bool", "tuple", "list", "dict", "str"]
def attN : List Str := ["value", "number", "cell", "count", "row", "line", "low", "high", "own_table", "own_widths", "own_places", "own_order"]
/-- what an exception class of the program says of its instances -/
structure XcC (K : PySem.W.Frag) (C : Addr) : Prop where
  cl : (PySem.W.clsIn K C).isSome = true
  ga : PySem.W.findIn K (.ref C) "__getattribute__" = some (some (.builtin "BaseException.__getattribute__"))
  gg : PySem.W.findIn K (.ref C) "__getattr__" = some none
  ex : PySem.W.subIn K (.ref C) (.type "BaseException") = some true
  hd : PySem.W.hasDictIn K C = true
  ha : PySem.W.findIn K (.ref C) "__class__" = some (some (.builtin "object.__class__"))
  hn : PySem.W.specialIn K (.builtin "object.__class__") "__get__" = some (some (.builtin "getset_descriptor.__get__"))
  ht : PySem.W.takesIn K (.builtin "object.__class__") = some true
  hm : PySem.W.mroIn K C (.type "object") = some true
  bt : ∀ T ∈ sixT, PySem.W.kitOne K (.ref C) (.type T) = some false
  fn : ∀ n ∈ attN, PySem.W.findIn K (.ref C) n = some none
/-- what a plain class of the program says of its instances -/
structure InC (K : PySem.W.Frag) (C : Addr) : Prop where
  cl : Cls K C
  ha : PySem.W.findIn K (.ref C) "__class__" = some (some (.builtin "object.__class__"))
  hn : PySem.W.specialIn K (.builtin "object.__class__") "__get__" = some (some (.builtin "getset_descriptor.__get__"))
  ht : PySem.W.takesIn K (.builtin "object.__class__") = some true
  hm : PySem.W.mroIn K C (.type "object") = some true
  bt : ∀ T ∈ sixT, PySem.W.kitOne K (.ref C) (.type T) = some false
  na : ∀ f ∈ attN, NoAttr K C f
/-- an exception that is held as a value -/
def XcO (a C : Addr) (d : Option Addr) : HO := .ext fun h => ∃ (oe : Obj) (vs : Array Value), h.get? a = some oe ∧ Zc (.ref C) d oe ∧ oe.data = .fields vs
mutual
inductive Rep (W : Addr → Prop) (H : Hp) : V → D → Prop
  | non : Rep W H .non .non
  | bl (b : Bool) : Rep W H (.bl b) (.bl b)
  | int (i : Int) : Rep W H (.int i) (.int i)
  | str (x : Str) : Rep W H (.str x) (.str x)
  | tup {p : Addr} {vs : List V} {ds : List D} : ¬ W p → H p = some (.tup vs) → Reps W H vs ds → Rep W H (.ref p) (.tup ds)
  | lst {p : Addr} {vs : List V} {ds : List D} : ¬ W p → H p = some (.lst vs) → Reps W H vs ds → Rep W H (.ref p) (.lst ds)
  | dct {p : Addr} {kvs : List (Key × V)} {ds : List D} : ¬ W p → H p = some (.dK kvs) → Reps W H (kvs.map (·.2)) ds → Rep W H (.ref p) (.dct (kvs.map (·.1)) ds)
  | fl {p : Addr} {ns : List Int} : ((¬ W p ∧ ∃ o, H p = some (.frz o (.lst (ns.map V.int)))) ∨ KL Kc.k p (ns.map V.int)) → Rep W H (.ref p) (.fl ns)
  | exc {a d C : Addr} {c : Str} {fvs : List (Str × V)} {ds : List D} : Kc.cls.lookup c = some C → XcC Kc.k C → ¬ W a → ¬ W d → H a = some (XcO a C (some d)) → H d = some (.xd fvs) → Reps W H (fvs.map (·.2)) ds → Rep W H (.ref a) (.obj c (fvs.map (·.1)) ds)
  | exc0 {a C : Addr} {c : Str} : Kc.cls.lookup c = some C → XcC Kc.k C → ¬ W a → H a = some (XcO a C none) → Rep W H (.ref a) (.obj c [] [])
  | ins {p dx C : Addr} {c : Str} {fvs : List (Str × V)} {ds : List D} : Kc.cls.lookup c = some C → InC Kc.k C → ¬ W p → ¬ W dx → H p = some (.ins C dx fvs) → H dx = some (.own p) → Reps W H (fvs.map (·.2)) ds → Rep W H (.ref p) (.obj c (fvs.map (·.1)) ds)
inductive Reps (W : Addr → Prop) (H : Hp) : List V → List D → Prop
  | nil : Reps W H [] []
  | cons {v : V} {vs : List V} {d : D} {ds : List D} : Rep W H v d → Reps W H vs ds → Reps W H (v :: vs) (d :: ds)
end

/-- what is not volatile stays as it is, and is not volatile then -/
def Stay (W : Addr → Prop) (H : Hp) (W' : Addr → Prop) (H' : Hp) : Prop := ∀ p o, ¬ W p → H p = some o → H' p = some o ∧ ¬ W' p
mutual
theorem Rep.stay {W W' : Addr → Prop} {H H' : Hp} (s : Stay W H W' H') : ∀ {v : V} {d : D}, Rep W H v d → Rep W' H' v d
  | _, _, .non => .non
  | _, _, .bl b => .bl b
  | _, _, .int i => .int i
  | _, _, .str x => .str x
  | _, _, .tup n r q => .tup (s _ _ n r).2 (s _ _ n r).1 (Reps.stay s q)
  | _, _, .lst n r q => .lst (s _ _ n r).2 (s _ _ n r).1 (Reps.stay s q)
  | _, _, .dct n r q => .dct (s _ _ n r).2 (s _ _ n r).1 (Reps.stay s q)
  | _, _, .fl (.inl ⟨n, o, r⟩) => .fl (.inl ⟨(s _ _ n r).2, o, (s _ _ n r).1⟩)
  | _, _, .fl (.inr q) => .fl (.inr q)
  | _, _, .exc hc hx n1 n2 r1 r2 q => .exc hc hx (s _ _ n1 r1).2 (s _ _ n2 r2).2 (s _ _ n1 r1).1 (s _ _ n2 r2).1 (Reps.stay s q)
  | _, _, .exc0 hc hx n1 r1 => .exc0 hc hx (s _ _ n1 r1).2 (s _ _ n1 r1).1
  | _, _, .ins hc hx n1 n2 r1 r2 q => .ins hc hx (s _ _ n1 r1).2 (s _ _ n2 r2).2 (s _ _ n1 r1).1 (s _ _ n2 r2).1 (Reps.stay s q)
theorem Reps.stay {W W' : Addr → Prop} {H H' : Hp} (s : Stay W H W' H') : ∀ {vs : List V} {ds : List D}, Reps W H vs ds → Reps W' H' vs ds
  | _, _, .nil => .nil
  | _, _, .cons a b => .cons (Rep.stay s a) (Reps.stay s b)
end
theorem Reps.len {W : Addr → Prop} {H : Hp} : ∀ {vs : List V} {ds : List D}, Reps W H vs ds → vs.length = ds.length
  | _, _, .nil => rfl
  | _, _, .cons _ b => by rw [List.length_cons, List.length_cons, b.len]
theorem Reps.get {W : Addr → Prop} {H : Hp} : ∀ {vs : List V} {ds : List D}, Reps W H vs ds → ∀ (i : Nat) (d : D), ds[i]? = some d → ∃ v, vs[i]? = some v ∧ Rep W H v d
  | _, _, .nil, i, d, e => by simp at e
  | _, _, .cons a _, 0, d, e => by simp at e; subst e; exact ⟨_, rfl, a⟩
  | _, _, .cons _ b, i + 1, d, e => by simpa using b.get i d (by simpa using e)

mutual
inductive RO (W : Addr → Prop) (H : Hp) : V → O → List Addr → Prop
  | val {v : V} {d : D} : Rep W H v d → RO W H v (.val d) []
  | lst {p : Addr} {its : List (V × O)} {fp : List Addr} : H p = some (.lst (its.map (·.1))) → RIs W H its fp → RO W H (.ref p) (.lst (its.map (·.2))) (p :: fp)
inductive RIs (W : Addr → Prop) (H : Hp) : List (V × O) → List Addr → Prop
  | nil : RIs W H [] []
  | cons {v : V} {o : O} {its : List (V × O)} {f fs : List Addr} : RO W H v o f → RIs W H its fs → RIs W H ((v, o) :: its) (f ++ fs)
end
mutual
theorem RO.stay {W W' : Addr → Prop} {H H' : Hp} (s : Stay W H W' H') : ∀ {v : V} {o : O} {fp : List Addr}, RO W H v o fp → (∀ p ∈ fp, H' p = H p) → RO W' H' v o fp
  | _, _, _, .val r, _ => .val (r.stay s)
  | _, _, _, .lst e q, k => .lst (by rw [k _ List.mem_cons_self]; exact e) (RIs.stay s q fun p hp => k p (List.mem_cons_of_mem _ hp))
theorem RIs.stay {W W' : Addr → Prop} {H H' : Hp} (s : Stay W H W' H') : ∀ {its : List (V × O)} {fp : List Addr}, RIs W H its fp → (∀ p ∈ fp, H' p = H p) → RIs W' H' its fp
  | _, _, .nil, _ => .nil
  | _, _, .cons a b, k => .cons (RO.stay s a fun p hp => k p (List.mem_append_left _ hp)) (RIs.stay s b fun p hp => k p (List.mem_append_right _ hp))
end
mutual
/-- what is owned is there -/
theorem RO.there {W : Addr → Prop} {H : Hp} : ∀ {v : V} {o : O} {fp : List Addr}, RO W H v o fp → ∀ p ∈ fp, ∃ xs, H p = some (.lst xs)
  | _, _, _, .val _, p, hp => by simp at hp
  | _, _, _, .lst e q, p, hp => by
    rcases List.mem_cons.mp hp with h | h
    · subst h; exact ⟨_, e⟩
    · exact RIs.there q p h
theorem RIs.there {W : Addr → Prop} {H : Hp} : ∀ {its : List (V × O)} {fp : List Addr}, RIs W H its fp → ∀ p ∈ fp, ∃ xs, H p = some (.lst xs)
  | _, _, .nil, p, hp => by simp at hp
  | _, _, .cons a b, p, hp => by
    rcases List.mem_append.mp hp with h | h
    · exact RO.there a p h
    · exact RIs.there b p h
end
theorem RIs.app {W : Addr → Prop} {H : Hp} : ∀ {a b : List (V × O)} {f g : List Addr}, RIs W H a f → RIs W H b g → RIs W H (a ++ b) (f ++ g)
  | _, _, _, _, .nil, q => q
  | _, _, _, _, .cons r s, q => by
    rw [List.append_assoc]
    exact .cons r (RIs.app s q)
theorem RIs.split {W : Addr → Prop} {H : Hp} : ∀ {a b : List (V × O)} {f : List Addr}, RIs W H (a ++ b) f → ∃ g h, f = g ++ h ∧ RIs W H a g ∧ RIs W H b h
  | [], _, f, q => ⟨[], f, rfl, .nil, q⟩
  | x :: a, b, _, .cons r s => by
    obtain ⟨g, h, e, q1, q2⟩ := RIs.split (a := a) s
    exact ⟨_ ++ g, h, by rw [e, List.append_assoc], .cons r q1, q2⟩
theorem RIs.perm {W : Addr → Prop} {H : Hp} {a b : List (V × O)} (h : a.Perm b) : ∀ {f : List Addr}, RIs W H a f → ∃ g, f.Perm g ∧ RIs W H b g := by
  induction h with
  | nil => intro f q; exact ⟨f, .refl _, q⟩
  | cons x _ ih =>
    intro f q
    cases q with
    | cons r s =>
      obtain ⟨g, hp, q⟩ := ih s
      exact ⟨_ ++ g, hp.append_left _, .cons r q⟩
  | swap x y l =>
    intro f q
    cases q with
    | @cons _ _ _ f1 _ r s =>
      cases s with
      | @cons _ _ _ f2 f3 r' s' =>
        refine ⟨f2 ++ (f1 ++ f3), ?_, .cons r' (.cons r s')⟩
        rw [← List.append_assoc, ← List.append_assoc]
        exact List.perm_append_comm.append_right _
  | trans _ _ ih1 ih2 =>
    intro f q
    obtain ⟨g, h1, q1⟩ := ih1 q
    obtain ⟨g', h2, q2⟩ := ih2 q1
    exact ⟨g', h1.trans h2, q2⟩

/-- the tables of code objects stand apart -/
def TOk (L : List Addr) (H : Hp) : Prop := ∀ p ∈ Kc.tb, p.1 ∉ L ∧ ∃ ps : Array Value, H p.1 = some (.tbl ps) ∧ TriplesOk ps.toList ∧ ∀ (pos : Pos) (cv : Value), codeAmong pos ps.toList = some cv → ∃ c, cv = .ref c ∧ c ∉ L ∧ H c = some (LamX.CodeO c p.2)
theorem TOk.sub {L L' : List Addr} {H : Hp} (h : TOk L H) (hs : ∀ a, a ∈ L' → a ∈ L) : TOk L' H := fun p hp => by
  obtain ⟨h1, ps, h2, h3, h4⟩ := h p hp
  refine ⟨fun z => h1 (hs _ z), ps, h2, h3, fun pos cv e => ?_⟩
  obtain ⟨c, e1, e2, e3⟩ := h4 pos cv e
  exact ⟨c, e1, fun z => e2 (hs _ z), e3⟩
theorem TOk.fresh {L : List Addr} {H : Hp} {q : Addr} (h : TOk L H) (hq : H q = none) : TOk (q :: L) H := fun p hp => by
  obtain ⟨h1, ps, h2, h3, h4⟩ := h p hp
  refine ⟨fun z => ?_, ps, h2, h3, fun pos cv e => ?_⟩
  · rcases List.mem_cons.mp z with z | z
    · rw [z, hq] at h2; cases h2
    · exact h1 z
  · obtain ⟨c, e1, e2, e3⟩ := h4 pos cv e
    refine ⟨c, e1, fun z => ?_, e3⟩
    rcases List.mem_cons.mp z with z | z
    · rw [z, hq] at e3; cases e3
    · exact e2 z
theorem TOk.write {L : List Addr} {H : Hp} {q : Addr} {o : HO} (h : TOk L H) (hq : q ∈ L) : TOk L (upd H q o) := fun p hp => by
  obtain ⟨h1, ps, h2, h3, h4⟩ := h p hp
  refine ⟨h1, ps, by rw [upd_ne (fun z => h1 (by rw [z]; exact hq))]; exact h2, h3, fun pos cv e => ?_⟩
  obtain ⟨c, e1, e2, e3⟩ := h4 pos cv e
  exact ⟨c, e1, e2, by rw [upd_ne (fun z => e2 (by rw [z]; exact hq))]; exact e3⟩
/-- the items stand in H, apart from one another and from the reserved places R -/
def CG (R : List Addr) (H : Hp) (its : List (V × O)) : Prop := ∃ fp, RIs (fun a => a ∈ R ++ fp) H its fp ∧ (R ++ fp).Nodup ∧ TOk (R ++ fp) H
abbrev CI := CG []
theorem CG.perm {R : List Addr} {H : Hp} {a b : List (V × O)} (c : CG R H a) (h : a.Perm b) : CG R H b := by
  obtain ⟨fp, q, n, tk⟩ := c
  obtain ⟨g, hp, q'⟩ := q.perm h
  have hp' : (R ++ fp).Perm (R ++ g) := hp.append_left _
  refine ⟨g, q'.stay (fun p o hn e => ⟨e, fun z => hn (hp'.mem_iff.mpr z)⟩) (fun _ _ => rfl), hp'.nodup_iff.mp n, tk.sub fun a z => hp'.mem_iff.mpr z⟩
theorem CG.drop {R : List Addr} {H : Hp} {a b : List (V × O)} (c : CG R H (a ++ b)) : CG R H b := by
  obtain ⟨fp, q, n, tk⟩ := c
  obtain ⟨g, h, rfl, q1, q2⟩ := q.split
  have sub : ∀ a, a ∈ R ++ h → a ∈ R ++ (g ++ h) := fun a z => by
    rcases List.mem_append.mp z with z | z
    · exact List.mem_append_left _ z
    · exact List.mem_append_right _ (List.mem_append_right _ z)
  refine ⟨h, q2.stay (fun p o hn e => ⟨e, fun z => hn (sub _ z)⟩) (fun _ _ => rfl), ?_, tk.sub sub⟩
  exact n.sublist ((List.Sublist.refl R).append (List.sublist_append_right g h))
theorem CG.tail {R : List Addr} {H : Hp} {x : V × O} {b : List (V × O)} (c : CG R H (x :: b)) : CG R H b := CG.drop (a := [x]) c
theorem CG.mid {R : List Addr} {H : Hp} {a m b : List (V × O)} (c : CG R H (a ++ (m ++ b))) : CG R H (a ++ b) := by
  have h : (a ++ (m ++ b)).Perm (m ++ (a ++ b)) := by
    rw [← List.append_assoc, ← List.append_assoc]
    exact List.perm_append_comm.append_right _
  exact (c.perm h).drop
mutual
/-- owned things as data -/
theorem RO.frz {W : Addr → Prop} {H : Hp} : ∀ {v : V} {o : O} {fp : List Addr}, RO W H v o fp → (∀ p, W p → p ∉ fp) → Rep W H v (Dl.frz o)
  | _, _, _, .val r, _ => by rw [Dl.frz]; exact r
  | _, _, _, .lst (p := p) e q, k => by
    rw [Dl.frz]
    exact .lst (fun z => k p z List.mem_cons_self) e (RIs.frz q fun p hp h => k p hp (List.mem_cons_of_mem _ h))
theorem RIs.frz {W : Addr → Prop} {H : Hp} : ∀ {its : List (V × O)} {fp : List Addr}, RIs W H its fp → (∀ p, W p → p ∉ fp) → Reps W H (its.map (·.1)) (frzs (its.map (·.2)))
  | _, _, .nil, _ => .nil
  | _, _, .cons a b, k => .cons (RO.frz a fun p hp h => k p hp (List.mem_append_left _ h)) (RIs.frz b fun p hp h => k p hp (List.mem_append_right _ h))
end
theorem CG.frz {R : List Addr} {H : Hp} {v : V} {o : O} {b : List (V × O)} (c : CG R H ((v, o) :: b)) : CG R H ((v, .val (Dl.frz o)) :: b) := by
  obtain ⟨fp, q, n, tk⟩ := c
  cases q with
  | cons r s =>
    rename_i f g
    have sub : ∀ a, a ∈ R ++ g → a ∈ R ++ (f ++ g) := fun a z => by
      rcases List.mem_append.mp z with z | z
      · exact List.mem_append_left _ z
      · exact List.mem_append_right _ (List.mem_append_right _ z)
    have st : Stay (fun a => a ∈ R ++ (f ++ g)) H (fun a => a ∈ R ++ g) H := fun p o hn e => ⟨e, fun z => hn (sub p z)⟩
    have hp : (R ++ (f ++ g)).Perm (f ++ (R ++ g)) := by
      rw [← List.append_assoc, ← List.append_assoc]
      exact List.perm_append_comm.append_right _
    have n' := hp.nodup_iff.mp n
    have r' := r.stay st fun _ _ => rfl
    refine ⟨g, .cons (f := []) (.val (r'.frz fun p hp h => ?_)) (s.stay st fun _ _ => rfl), n'.sublist (List.sublist_append_right _ _), tk.sub sub⟩
    exact (List.nodup_append.mp n').2.2 p h p hp rfl
theorem CG.dup {R : List Addr} {H : Hp} {v : V} {d : D} {b : List (V × O)} (c : CG R H ((v, .val d) :: b)) : CG R H ((v, .val d) :: (v, .val d) :: b) := by
  obtain ⟨fp, q, n, tk⟩ := c
  cases q with
  | cons r s =>
    cases r with
    | val r => exact ⟨_, .cons (f := []) (.val r) (.cons (f := []) (.val r) s), n, tk⟩
/-- a new place -/
theorem CG.fresh {R : List Addr} {H : Hp} {b : List (V × O)} {p : Addr} (c : CG R H b) (hp : H p = none) (hr : p ∉ R) : CG (p :: R) H b := by
  obtain ⟨fp, q, n, tk⟩ := c
  have hf : p ∉ fp := fun z => by
    obtain ⟨xs, e⟩ := q.there p z
    rw [hp] at e; cases e
  refine ⟨fp, q.stay (fun a o hn e => ⟨e, fun z => ?_⟩) (fun _ _ => rfl), ?_, tk.fresh hp⟩
  · rcases List.mem_cons.mp z with z | z
    · subst z; rw [hp] at e; cases e
    · exact hn z
  · exact List.nodup_cons.mpr ⟨fun z => (List.mem_append.mp z).elim hr hf, n⟩
/-- the reserved place is written -/
theorem CG.write {R : List Addr} {H : Hp} {b : List (V × O)} {p : Addr} (c : CG (p :: R) H b) (o : HO) : CG (p :: R) (upd H p o) b := by
  obtain ⟨fp, q, n, tk⟩ := c
  have n' := List.nodup_cons.mp n
  refine ⟨fp, q.stay (fun a u hn e => ⟨?_, hn⟩) (fun a ha => ?_), n, tk.write List.mem_cons_self⟩
  · have hz : a ≠ p := fun z => hn (by rw [z]; exact List.mem_cons_self)
    rw [upd_ne hz]; exact e
  · have hz : a ≠ p := fun z => n'.1 (List.mem_append_right _ (by rw [← z]; exact ha))
    exact upd_ne hz
/-- an owned list is opened -/
theorem CG.open' {R : List Addr} {H : Hp} {v : V} {l : List O} {b : List (V × O)} (c : CG R H ((v, .lst l) :: b)) :
    ∃ p its, v = .ref p ∧ l = its.map (·.2) ∧ H p = some (.lst (its.map (·.1))) ∧ p ∉ R ∧ CG (p :: R) H (its ++ b) := by
  obtain ⟨fp, q, n, tk⟩ := c
  cases q with
  | cons r s =>
    rename_i f g
    generalize eo : O.lst l = o at r
    cases r with
    | val r => cases eo
    | @lst p its fp' e q =>
      injection eo with eo
      have pm : (R ++ (p :: fp' ++ g)).Perm (p :: R ++ (fp' ++ g)) := by
        rw [List.cons_append]
        exact List.perm_middle
      have n' := pm.nodup_iff.mp n
      have hm : ∀ a, a ∈ p :: R ++ (fp' ++ g) → a ∈ R ++ (p :: fp' ++ g) := fun a z => pm.mem_iff.mpr z
      refine ⟨p, its, rfl, eo, e, fun z => (List.nodup_cons.mp n').1 (List.mem_append_left _ z), _, (q.app s).stay (fun a u hn e => ⟨e, fun z => hn (hm a z)⟩) (fun _ _ => rfl), n', tk.sub hm⟩
/-- an owned list is closed -/
theorem CG.close {R : List Addr} {H : Hp} {p : Addr} {its b : List (V × O)} (c : CG (p :: R) H (its ++ b)) (e : H p = some (.lst (its.map (·.1)))) : CG R H ((.ref p, .lst (its.map (·.2))) :: b) := by
  obtain ⟨fp, q, n, tk⟩ := c
  obtain ⟨f, g, rfl, q1, q2⟩ := q.split
  have pm : (p :: R ++ (f ++ g)).Perm (R ++ (p :: f ++ g)) := by
    rw [List.cons_append]
    exact List.perm_middle.symm
  have st : Stay (fun a => a ∈ p :: R ++ (f ++ g)) H (fun a => a ∈ R ++ (p :: f ++ g)) H := fun a u hn e => ⟨e, fun z => hn (pm.mem_iff.mpr z)⟩
  exact ⟨_, .cons (.lst e (q1.stay st fun _ _ => rfl)) (q2.stay st fun _ _ => rfl), pm.nodup_iff.mp n, tk.sub fun a z => pm.mem_iff.mpr z⟩
theorem CG.closeW {R : List Addr} {H : Hp} {p : Addr} {its b : List (V × O)} (c : CG (p :: R) H (its ++ b)) : CG R (upd H p (.lst (its.map (·.1)))) ((.ref p, .lst (its.map (·.2))) :: b) :=
  (c.write _).close upd_same
/-- a new owned list -/
theorem CG.newL {R : List Addr} {H : Hp} {p : Addr} {its b : List (V × O)} (c : CG R H (its ++ b)) (hp : H p = none) (hr : p ∉ R) : CG R (upd H p (.lst (its.map (·.1)))) ((.ref p, .lst (its.map (·.2))) :: b) :=
  (c.fresh hp hr).closeW
/-- a reserved place that came to hold data is let go -/
theorem CG.relT {R : List Addr} {H : Hp} {p : Addr} {vs : List V} {b : List (V × O)} (c : CG (p :: R) H b) : CG R H b := by
  obtain ⟨fp, q, n, tk⟩ := c
  exact ⟨fp, q.stay (fun a u hn e => ⟨e, fun z => hn (List.mem_cons_of_mem _ z)⟩) (fun _ _ => rfl), (List.nodup_cons.mp n).2, tk.sub fun a z => List.mem_cons_of_mem _ z⟩
theorem RIs.vals {W : Addr → Prop} {H : Hp} : ∀ {vs : List V} {ds : List D} {fp : List Addr}, vs.length = ds.length → RIs W H (vs.zip (ds.map O.val)) fp → fp = [] ∧ Reps W H vs ds
  | [], [], _, _, .nil => ⟨rfl, .nil⟩
  | v :: vs, d :: ds, _, hl, .cons r s => by
    cases r with
    | val r =>
      obtain ⟨e, q⟩ := RIs.vals (vs := vs) (ds := ds) (by simpa using hl) s
      subst e
      exact ⟨rfl, .cons r q⟩
  | [], d :: ds, _, hl, _ => by simp at hl
  | v :: vs, [], _, hl, _ => by simp at hl
theorem RIs.ofVals {W : Addr → Prop} {H : Hp} : ∀ {vs : List V} {ds : List D}, Reps W H vs ds → RIs W H (vs.zip (ds.map O.val)) []
  | _, _, .nil => .nil
  | _, _, .cons a b => .cons (f := []) (fs := []) (.val a) (RIs.ofVals b)
/-- a new tuple of data -/
theorem CG.newT {R : List Addr} {H : Hp} {p : Addr} {vs : List V} {ds : List D} {b : List (V × O)} (c : CG R H (vs.zip (ds.map O.val) ++ b)) (hl : vs.length = ds.length) (hp : H p = none) (hr : p ∉ R) :
    CG R (upd H p (.tup vs)) ((.ref p, .val (.tup ds)) :: b) := by
  obtain ⟨fp, q, n, tk⟩ := ((c.fresh hp hr).write (.tup vs))
  obtain ⟨f, g, rfl, q1, q2⟩ := q.split
  obtain ⟨rfl, q1⟩ := RIs.vals hl q1
  have st : Stay (fun a => a ∈ p :: R ++ ([] ++ g)) (upd H p (.tup vs)) (fun a => a ∈ R ++ g) (upd H p (.tup vs)) := fun a u hn e => ⟨e, fun z => hn (List.mem_cons_of_mem _ z)⟩
  have n' := List.nodup_cons.mp n
  exact ⟨g, .cons (f := []) (.val (.tup n'.1 upd_same (q1.stay st))) (q2.stay st fun _ _ => rfl), n'.2, tk.sub fun a z => List.mem_cons_of_mem _ z⟩
/-- a tuple, a list, that is data is opened -/
theorem CG.openT {R : List Addr} {H : Hp} {v : V} {ds : List D} {b : List (V × O)} (c : CG R H ((v, .val (.tup ds)) :: b)) :
    ∃ p vs, v = .ref p ∧ H p = some (.tup vs) ∧ vs.length = ds.length ∧ CG R H (vs.zip (ds.map O.val) ++ (v, .val (.tup ds)) :: b) := by
  obtain ⟨fp, q, n, tk⟩ := c
  cases q with
  | cons r s =>
    cases r with
    | val r =>
      have r0 := r
      cases r with
      | tup h1 h2 h3 => exact ⟨_, _, rfl, h2, h3.len, _, (RIs.ofVals h3).app (.cons (f := []) (.val r0) s), n, tk⟩
theorem CG.openL {R : List Addr} {H : Hp} {v : V} {ds : List D} {b : List (V × O)} (c : CG R H ((v, .val (.lst ds)) :: b)) :
    ∃ p vs, v = .ref p ∧ H p = some (.lst vs) ∧ vs.length = ds.length ∧ CG R H (vs.zip (ds.map O.val) ++ (v, .val (.lst ds)) :: b) := by
  obtain ⟨fp, q, n, tk⟩ := c
  cases q with
  | cons r s =>
    cases r with
    | val r =>
      have r0 := r
      cases r with
      | lst h1 h2 h3 => exact ⟨_, _, rfl, h2, h3.len, _, (RIs.ofVals h3).app (.cons (f := []) (.val r0) s), n, tk⟩
/-- what a value is -/
theorem CG.rep {R : List Addr} {H : Hp} {v : V} {d : D} {b : List (V × O)} (c : CG R H ((v, .val d) :: b)) : ∃ W, Rep W H v d := by
  obtain ⟨fp, q, n, tk⟩ := c
  cases q with
  | cons r s => cases r with | val r => exact ⟨_, r⟩
theorem CG.int {R : List Addr} {H : Hp} {v : V} {i : Int} {b : List (V × O)} (c : CG R H ((v, .val (.int i)) :: b)) : v = .int i := by
  obtain ⟨W, r⟩ := c.rep
  cases r
  rfl
theorem CG.bl {R : List Addr} {H : Hp} {v : V} {i : Bool} {b : List (V × O)} (c : CG R H ((v, .val (.bl i)) :: b)) : v = .bl i := by
  obtain ⟨W, r⟩ := c.rep
  cases r
  rfl
theorem CG.str {R : List Addr} {H : Hp} {v : V} {i : Str} {b : List (V × O)} (c : CG R H ((v, .val (.str i)) :: b)) : v = .str i := by
  obtain ⟨W, r⟩ := c.rep
  cases r
  rfl
theorem CG.non {R : List Addr} {H : Hp} {v : V} {b : List (V × O)} (c : CG R H ((v, .val .non) :: b)) : v = .non := by
  obtain ⟨W, r⟩ := c.rep
  cases r
  rfl
/-- scalars may come -/
def sc : D → Option V
  | .non => some .non
  | .bl b => some (.bl b)
  | .int i => some (.int i)
  | .str x => some (.str x)
  | _ => none
theorem CG.sc {R : List Addr} {H : Hp} {v : V} {d : D} {b : List (V × O)} (c : CG R H b) (h : Dl.sc d = some v) : CG R H ((v, .val d) :: b) := by
  obtain ⟨fp, q, n, tk⟩ := c
  refine ⟨fp, .cons (f := []) (.val ?_) q, n, tk⟩
  cases d <;> simp only [Dl.sc, Option.some.injEq, reduceCtorEq] at h <;> subst h
  · exact .non
  · exact .bl _
  · exact .int _
  · exact .str _
end Dl

namespace Dl
variable [Kc]
open PySem L2

/-- the slots -/
abbrev Sl := List (Option O)
/-- an exception: its class by name, its fields -/
structure Ex where
  cls : Str
  ks : List Str
  ds : List D
inductive Out (α : Type) where
  | ok (a : α) (ρ : Sl)
  | ex (x : Ex) (ρ : Sl)
  | fail
abbrev M (α : Type) := Sl → Out α
def ret {α : Type} (a : α) : M α := fun ρ => .ok a ρ
def stop {α : Type} : M α := fun _ => .fail
def bnd {α β : Type} (m : M α) (f : α → M β) : M β := fun ρ => match m ρ with
  | .ok a ρ' => f a ρ'
  | .ex x ρ' => .ex x ρ'
  | .fail => .fail
def lift {α : Type} (o : Option α) : M α := match o with
  | some a => ret a
  | none => stop
def vof (m : M O) : M D := bnd m fun o => ret (frz o)
def Out.go {α : Type} (r : Out α) (k : α → Sl → Prop) (b : Ex → Sl → Prop) : Prop := match r with
  | .ok a ρ => k a ρ
  | .ex x ρ => b x ρ
  | .fail => False
theorem Out.go_mono {α : Type} {r : Out α} {k k' : α → Sl → Prop} {b b' : Ex → Sl → Prop} (h : r.go k b) (hk : ∀ a ρ, r = .ok a ρ → k a ρ → k' a ρ) (hb : ∀ x ρ, r = .ex x ρ → b x ρ → b' x ρ) : r.go k' b' := by
  cases r with
  | ok a ρ => exact hk a ρ rfl h
  | ex x ρ => exact hb x ρ rfl h
  | fail => exact h
theorem go_bnd {α β : Type} {m : M α} {f : α → M β} {ρ : Sl} {k : β → Sl → Prop} {b : Ex → Sl → Prop} : (bnd m f ρ).go k b ↔ (m ρ).go (fun a ρ' => (f a ρ').go k b) b := by
  unfold bnd
  cases m ρ <;> exact Iff.rfl
theorem go_ret {α : Type} {a : α} {ρ : Sl} {k : α → Sl → Prop} {b : Ex → Sl → Prop} : (ret a ρ).go k b ↔ k a ρ := Iff.rfl
theorem go_lift {α : Type} {o : Option α} {ρ : Sl} {k : α → Sl → Prop} {b : Ex → Sl → Prop} (h : (lift o ρ).go k b) : ∃ a, o = some a ∧ k a ρ := by
  cases o with
  | none => exact False.elim h
  | some a => exact ⟨a, rfl, h⟩

/-! ### slots and items -/
def sI : St → Sl → List (V × O)
  | some v :: σ, some o :: ρ => (v, o) :: sI σ ρ
  | some _ :: σ, none :: ρ => sI σ ρ
  | none :: σ, _ :: ρ => sI σ ρ
  | _, _ => []
structure Sh (σ : St) (ρ : Sl) : Prop where
  len : σ.length = ρ.length
  has : ∀ (i : Nat) (o : O), ρ[i]? = some (some o) → ∃ v, σ[i]? = some (some v)
theorem Sh.tail {a : Option V} {b : Option O} {σ : St} {ρ : Sl} (h : Sh (a :: σ) (b :: ρ)) : Sh σ ρ :=
  ⟨by simpa using h.len, fun i o e => by simpa using h.has (i + 1) o (by simpa using e)⟩
theorem Sh.lt {σ : St} {ρ : Sl} (h : Sh σ ρ) {i : Nat} {o : Option O} (e : ρ[i]? = some o) : i < σ.length := by
  rw [h.len]
  exact (List.getElem?_eq_some_iff.mp e).1
theorem sI_get : ∀ {σ : St} {ρ : Sl}, Sh σ ρ → ∀ {i : Nat} {o : O}, ρ[i]? = some (some o) → ∃ v, σ[i]? = some (some v) ∧ (sI σ ρ).Perm ((v, o) :: sI σ (ρ.set i none))
  | [], ρ, h, i, o, e => by
    have := h.len
    cases ρ with
    | nil => simp at e
    | cons => simp at this
  | a :: σ, [], h, i, o, e => by simp at e
  | a :: σ, b :: ρ, h, 0, o, e => by
    obtain ⟨v, hv⟩ := h.has 0 o e
    simp at e hv
    subst e hv
    exact ⟨v, rfl, .refl _⟩
  | a :: σ, b :: ρ, h, i + 1, o, e => by
    obtain ⟨v, h1, h2⟩ := sI_get (i := i) (o := o) h.tail (by simpa using e)
    refine ⟨v, by simpa using h1, ?_⟩
    cases a with
    | none => exact h2
    | some a =>
      cases b with
      | none => exact h2
      | some b => exact (h2.cons (a, b)).trans (.swap ..)
theorem sI_set {v : V} {o : O} : ∀ {σ : St} {ρ : Sl}, σ.length = ρ.length → ∀ {i : Nat}, i < σ.length → (sI (σ.set i (some v)) (ρ.set i (some o))).Perm ((v, o) :: sI σ (ρ.set i none))
  | [], ρ, h, i, e => by simp at e
  | a :: σ, [], h, i, e => by simp at h
  | a :: σ, b :: ρ, h, 0, e => by
    show ((v, o) :: sI σ ρ).Perm ((v, o) :: sI (a :: σ) (none :: ρ))
    cases a <;> exact .refl _
  | a :: σ, b :: ρ, h, i + 1, e => by
    have h2 := sI_set (v := v) (o := o) (σ := σ) (ρ := ρ) (by simpa using h) (i := i) (by simpa using e)
    cases a with
    | none => exact h2
    | some a =>
      cases b with
      | none => exact h2
      | some b => exact (h2.cons (a, b)).trans (.swap ..)
theorem set_self {α : Type} : ∀ {l : List α} {i : Nat} {a : α}, l[i]? = some a → l.set i a = l
  | [], i, a, e => by simp at e
  | x :: l, 0, a, e => by simp at e; subst e; rfl
  | x :: l, i + 1, a, e => by
    show x :: l.set i a = x :: l
    rw [set_self (by simpa using e)]
theorem set_set {α : Type} : ∀ {l : List α} {i : Nat} {a b : α}, (l.set i a).set i b = l.set i b
  | [], i, a, b => rfl
  | x :: l, 0, a, b => rfl
  | x :: l, i + 1, a, b => by
    show x :: (l.set i a).set i b = x :: l.set i b
    rw [set_set]
theorem Sh.set {σ : St} {ρ : Sl} (h : Sh σ ρ) (i : Nat) (v : V) (o : Option O) : Sh (σ.set i (some v)) (ρ.set i o) := by
  refine ⟨by rw [List.length_set, List.length_set, h.len], fun j p e => ?_⟩
  by_cases hij : i = j
  · subst hij
    have hl : i < ρ.length := by
      have := (List.getElem?_eq_some_iff.mp e).1
      simpa using this
    exact ⟨v, by rw [List.getElem?_set_self (by rw [h.len]; exact hl)]⟩
  · rw [List.getElem?_set_ne hij] at e
    rw [List.getElem?_set_ne hij]
    exact h.has j p e
theorem Sh.setR {σ : St} {ρ : Sl} (h : Sh σ ρ) {i : Nat} {v : V} (hv : σ[i]? = some (some v)) (o : Option O) : Sh σ (ρ.set i o) := by
  have := h.set i v o
  rwa [set_self hv] at this

/-- the slots and what is pending besides stand in H -/
structure Conf (σ : St) (H : Hp) (pend : List (V × O)) (ρ : Sl) : Prop where
  sh : Sh σ ρ
  ci : CI H (sI σ ρ ++ pend)
theorem perm_in (a : List (V × O)) (pre b : List (V × O)) : (a ++ (pre ++ b)).Perm (pre ++ (a ++ b)) := by
  rw [← List.append_assoc, ← List.append_assoc]
  exact List.perm_append_comm.append_right _
theorem Conf.out {σ : St} {H : Hp} {pre pend : List (V × O)} {ρ : Sl} (c : Conf σ H (pre ++ pend) ρ) : CI H (pre ++ (sI σ ρ ++ pend)) := c.ci.perm (perm_in _ _ _)
theorem Conf.back {σ : St} {H : Hp} {pre pend : List (V × O)} {ρ : Sl} (s : Sh σ ρ) (c : CI H (pre ++ (sI σ ρ ++ pend))) : Conf σ H (pre ++ pend) ρ := ⟨s, c.perm (perm_in _ _ _).symm⟩
theorem Conf.out1 {σ : St} {H : Hp} {x : V × O} {pend : List (V × O)} {ρ : Sl} (c : Conf σ H (x :: pend) ρ) : CI H (x :: (sI σ ρ ++ pend)) := Conf.out (pre := [x]) c
theorem Conf.back1 {σ : St} {H : Hp} {x : V × O} {pend : List (V × O)} {ρ : Sl} (s : Sh σ ρ) (c : CI H (x :: (sI σ ρ ++ pend))) : Conf σ H (x :: pend) ρ := Conf.back (pre := [x]) s c
theorem Conf.back0 {σ : St} {H : Hp} {pend : List (V × O)} {ρ : Sl} (s : Sh σ ρ) (c : CI H (sI σ ρ ++ pend)) : Conf σ H pend ρ := ⟨s, c⟩
theorem Conf.frz {σ : St} {H : Hp} {v : V} {o : O} {pend : List (V × O)} {ρ : Sl} (c : Conf σ H ((v, o) :: pend) ρ) : Conf σ H ((v, .val (Dl.frz o)) :: pend) ρ := .back1 c.sh c.out1.frz
theorem Conf.tail {σ : St} {H : Hp} {x : V × O} {pend : List (V × O)} {ρ : Sl} (c : Conf σ H (x :: pend) ρ) : Conf σ H pend ρ := ⟨c.sh, c.out1.tail⟩
theorem Conf.drop {σ : St} {H : Hp} {x pend : List (V × O)} {ρ : Sl} (c : Conf σ H (x ++ pend) ρ) : Conf σ H pend ρ := ⟨c.sh, c.out.drop⟩
theorem Conf.perm {σ : St} {H : Hp} {p q : List (V × O)} {ρ : Sl} (c : Conf σ H p ρ) (h : p.Perm q) : Conf σ H q ρ := ⟨c.sh, c.ci.perm (h.append_left _)⟩
theorem Conf.sc {σ : St} {H : Hp} {pend : List (V × O)} {ρ : Sl} (c : Conf σ H pend ρ) {d : D} {v : V} (h : Dl.sc d = some v) : Conf σ H ((v, .val d) :: pend) ρ := .back1 c.sh (c.ci.sc h)
/-- the i-th slot's thing is taken out -/
theorem Conf.take {σ : St} {H : Hp} {pend : List (V × O)} {ρ : Sl} (c : Conf σ H pend ρ) {i : Nat} {o : O} (e : ρ[i]? = some (some o)) :
    ∃ v, σ[i]? = some (some v) ∧ Conf σ H ((v, o) :: pend) (ρ.set i none) := by
  obtain ⟨v, h1, h2⟩ := sI_get c.sh e
  refine ⟨v, h1, .back1 (c.sh.setR h1 none) (c.ci.perm ?_)⟩
  exact h2.append_right _
/-- a thing is put into the i-th slot -/
theorem Conf.put {σ : St} {H : Hp} {pend : List (V × O)} {ρ : Sl} {v : V} {o : O} {i : Nat} (c : Conf σ H ((v, o) :: pend) ρ) (hi : i < σ.length) : Conf (σ.set i (some v)) H pend (ρ.set i (some o)) := by
  have hs := sI_set (v := v) (o := o) c.sh.len hi
  refine ⟨c.sh.set i v _, ?_⟩
  have hci : CI H ((v, o) :: (sI σ (ρ.set i none) ++ pend)) := by
    by_cases hn : ∃ u, ρ[i]? = some (some u)
    · obtain ⟨u, hu⟩ := hn
      obtain ⟨w, _, h2⟩ := sI_get c.sh hu
      have := (c.out1.perm ((h2.append_right pend).cons _)).perm (.swap ..)
      exact this.tail
    · have hz : ρ.set i none = ρ := by
        apply set_self
        have hl : i < ρ.length := by rw [← c.sh.len]; exact hi
        cases e : ρ[i]? with
        | none => rw [List.getElem?_eq_none_iff] at e; omega
        | some z =>
          cases z with
          | none => rfl
          | some u => exact absurd ⟨u, e⟩ hn
      rw [hz]
      exact c.out1
  exact hci.perm (hs.append_right pend).symm
theorem Conf.putS {σ : St} {H : Hp} {pend : List (V × O)} {ρ : Sl} {v : V} {o : O} {i : Nat} (c : Conf σ H ((v, o) :: pend) ρ) (hi : σ[i]? = some (some v)) : Conf σ H pend (ρ.set i (some o)) := by
  have h := c.put (i := i) (List.getElem?_eq_some_iff.mp hi).1
  rwa [set_self hi] at h

/-! ### readings by data -/
structure Bx where
  p : Ex → Sl → List (V × O) → St → Prop
  mono : ∀ x ρ a q σ, p x ρ q σ → p x ρ (a :: q) σ
theorem Bx.monos (B : Bx) {x : Ex} {ρ : Sl} {σ : St} {q : List (V × O)} : ∀ (a : List (V × O)), B.p x ρ q σ → B.p x ρ (a ++ q) σ
  | [], h => h
  | b :: a, h => B.mono _ _ _ _ _ (B.monos a h)
def B0 : Bx := ⟨fun _ _ _ _ => False, fun _ _ _ _ _ h => h⟩
def tE (B : Bx) (m : M O) : TE := fun σ H Q => ∃ pend ρ, Conf σ H pend ρ ∧ (m ρ).go (fun r ρ' => ∀ v H', Conf σ H' ((v, r) :: pend) ρ' → Q v H') (fun x ρ' => B.p x ρ' pend σ)
def tT (B : Bx) (m : M Bool) : TT := fun σ H Q => ∃ pend ρ, Conf σ H pend ρ ∧ (m ρ).go (fun r ρ' => ∀ H', Conf σ H' pend ρ' → Q r H') (fun x ρ' => B.p x ρ' pend σ)
def tA (B : Bx) (m : M (List O)) : TA := fun σ H Q => ∃ pend ρ, Conf σ H pend ρ ∧ (m ρ).go (fun r ρ' => ∀ vs H', vs.length = r.length → Conf σ H' (vs.zip r ++ pend) ρ' → Q vs H') (fun x ρ' => B.p x ρ' pend σ)
inductive Fl where
  | nx
  | rt (o : O)
  | bk
  | ct
def CP (cp : List Nat) (σ σ' : St) : Prop := ∀ i ∈ cp, σ'[i]? = σ[i]?
theorem CP.refl (cp : List Nat) (σ : St) : CP cp σ σ := fun _ _ => rfl
theorem CP.trans {cp : List Nat} {a b c : St} (h : CP cp a b) (g : CP cp b c) : CP cp a c := fun i hi => (g i hi).trans (h i hi)
def flGo (cp : List Nat) (D : Ends) (σ : St) (pend : List (V × O)) (f : Fl) (ρ' : Sl) : Prop := match f with
  | .nx => ∀ σ' H', Conf σ' H' pend ρ' → CP cp σ σ' → D.nx σ' H'
  | .rt r => ∀ v σ' H', Conf σ' H' ((v, r) :: pend) ρ' → CP cp σ σ' → D.rt v H'
  | .bk => ∀ σ' H', Conf σ' H' pend ρ' → CP cp σ σ' → D.bk σ' H'
  | .ct => ∀ σ' H', Conf σ' H' pend ρ' → CP cp σ σ' → D.ct σ' H'
def tS (B : Bx) (cp : List Nat) (m : M Fl) : TS := fun D σ H => ∃ pend ρ, Conf σ H pend ρ ∧ (m ρ).go (flGo cp D σ pend) (fun x ρ' => ∀ σ', CP cp σ σ' → B.p x ρ' pend σ')
/-- a target: the thing is pending -/
def tG (B : Bx) (cp : List Nat) (m : O → M Unit) : TG := fun v σ H Q => ∃ pend ρ o, Conf σ H ((v, o) :: pend) ρ ∧ (m o ρ).go (fun _ ρ' => ∀ σ' H', Conf σ' H' pend ρ' → CP cp σ σ' → Q σ' H') (fun x ρ' => ∀ σ', CP cp σ σ' → B.p x ρ' pend σ')

theorem _root_.L2.PE.imp {X : Cx} {e : Expr} {t t' : TE} (h : PE X e t) (k : ∀ σ H Q, t' σ H Q → t σ H Q) : PE X e t' := ⟨fun pins s σ H Q I q => h.run pins s σ H Q I (k σ H Q q)⟩
theorem _root_.L2.PT.imp {X : Cx} {e : Expr} {t t' : TT} (h : PT X e t) (k : ∀ σ H Q, t' σ H Q → t σ H Q) : PT X e t' := ⟨fun pins s σ H Q I q => h.run pins s σ H Q I (k σ H Q q)⟩
theorem _root_.L2.PW.imp {X : Cx} {e : Expr} {t t' : TT} (h : PW X e t) (k : ∀ σ H Q, t' σ H Q → t σ H Q) : PW X e t' := ⟨fun wh pins s σ H Q I q => h.run wh pins s σ H Q I (k σ H Q q)⟩
theorem _root_.L2.PA.imp {X : Cx} {e : List Expr} {t t' : TA} (h : PA X e t) (k : ∀ σ H Q, t' σ H Q → t σ H Q) : PA X e t' := ⟨fun pos pins s σ H Q I q => h.run pos pins s σ H Q I (k σ H Q q)⟩
theorem _root_.L2.PS.imp {X : Cx} {e : Stmt} {t t' : TS} (h : PS X e t) (k : ∀ D σ H, t' D σ H → t D σ H) : PS X e t' := ⟨fun pins s σ H D I q => h.run pins s σ H D I (k D σ H q)⟩
theorem _root_.L2.PSs.imp {X : Cx} {e : List Stmt} {t t' : TS} (h : PSs X e t) (k : ∀ D σ H, t' D σ H → t D σ H) : PSs X e t' := ⟨fun pins s σ H D I q => h.run pins s σ H D I (k D σ H q)⟩

abbrev DE (X : Cx) (B : Bx) (e : Expr) (m : M O) : Prop := PE X e (tE B m)
abbrev DT (X : Cx) (B : Bx) (e : Expr) (m : M Bool) : Prop := PT X e (tT B m)
abbrev DA (X : Cx) (B : Bx) (es : List Expr) (m : M (List O)) : Prop := PA X es (tA B m)
section
variable {X : Cx} {B : Bx}
/-- code that never runs through -/
theorem de_stop {e : Expr} : DE X B e stop := ⟨fun _ _ _ _ _ _ ⟨_, _, _, h⟩ => False.elim h⟩
theorem dt_stop {e : Expr} : DT X B e stop := ⟨fun _ _ _ _ _ _ ⟨_, _, _, h⟩ => False.elim h⟩
theorem da_stop {e : List Expr} : DA X B e stop := ⟨fun _ _ _ _ _ _ _ ⟨_, _, _, h⟩ => False.elim h⟩
/-- one part after another: the first reading's end -/
theorem tE_bnd {α : Type} {m : M O} {f : O → M α} {k : α → Sl → Prop} {σ : St} {H : Hp} {pend : List (V × O)} {ρ : Sl} {Q : VK} (c : Conf σ H pend ρ) (h : (bnd m f ρ).go k (fun x ρ' => B.p x ρ' pend σ))
    (hQ : ∀ r ρ' v H', Conf σ H' ((v, r) :: pend) ρ' → (f r ρ').go k (fun x ρ' => B.p x ρ' pend σ) → Q v H') : tE B m σ H Q :=
  ⟨pend, ρ, c, Out.go_mono (go_bnd.mp h) (fun r ρ' _ g v H' c' => hQ r ρ' v H' c' g) fun _ _ _ g => g⟩
theorem tE_bnd2 {α : Type} {m : M O} {f : O → M α} {k : α → Sl → Prop} {σ : St} {H : Hp} (a : List (V × O)) {pend : List (V × O)} {ρ : Sl} {Q : VK} (c : Conf σ H (a ++ pend) ρ) (h : (bnd m f ρ).go k (fun x ρ' => B.p x ρ' pend σ))
    (hQ : ∀ r ρ' v H', Conf σ H' ((v, r) :: (a ++ pend)) ρ' → (f r ρ').go k (fun x ρ' => B.p x ρ' pend σ) → Q v H') : tE B m σ H Q :=
  ⟨a ++ pend, ρ, c, Out.go_mono (go_bnd.mp h) (fun r ρ' _ g v H' c' => hQ r ρ' v H' c' g) fun _ _ _ g => B.monos a g⟩
theorem go_pend {α : Type} {r : Out α} {k : α → Sl → Prop} {σ : St} {pend : List (V × O)} (a : List (V × O)) (h : r.go k (fun x ρ' => B.p x ρ' pend σ)) : r.go k (fun x ρ' => B.p x ρ' (a ++ pend) σ) :=
  Out.go_mono h (fun _ _ _ g => g) fun _ _ _ g => B.monos a g

/-! ### constants and names -/
theorem de_sc {e : Expr} {d : D} {v : V} (h : sc d = some v) (he : PE X e (tC v)) : DE X B e (ret (.val d)) :=
  he.imp fun σ H Q ⟨pend, ρ, c, g⟩ => (g : ∀ v H', Conf σ H' ((v, .val d) :: pend) ρ → Q v H') v H (c.sc h)
/-- a name is read: what it holds is data from then on -/
def mVar (i : Nat) : M O := fun ρ => match ρ[i]? with
  | some (some o) => .ok (.val (frz o)) (ρ.set i (some (.val (frz o))))
  | _ => .fail
theorem de_var {e : Expr} {i : Nat} (he : PE X e (tVar i)) : DE X B e (mVar i) := by
  refine he.imp fun σ H Q ⟨pend, ρ, c, g⟩ => ?_
  unfold mVar at g
  split at g
  · rename_i o e
    obtain ⟨v, hv, c'⟩ := c.take e
    have c2 := c'.frz
    have c3 : Conf σ H ((v, .val (frz o)) :: (v, .val (frz o)) :: pend) (ρ.set i none) := .back (pre := [_, _]) c2.sh c2.out1.dup
    have c4 := c3.putS hv
    rw [set_set] at c4
    exact ⟨v, hv, g v H c4⟩
  · exact False.elim g

/-! ### two values -/
/-- what an operator on values does -/
def Op2 (r : R2) (f : D → D → Option O) : Prop := ∀ (d e : D) (o : O), f d e = some o → ∀ (x y : V) (H : Hp) (its : List (V × O)) (Q : VK), CI H ((x, .val d) :: (y, .val e) :: its) →
  (∀ v H', CI H' ((v, o) :: its) → Q v H') → r x y H Q
def mOp2 (f : D → D → Option O) (a b : M O) : M O := bnd a fun x => bnd b fun y => lift (f (frz x) (frz y))
theorem de_op2 {e a b : Expr} {r : R2} {f : D → D → Option O} {ma mb : M O} (hf : Op2 r f) (ha : DE X B a ma) (hb : DE X B b mb) (he : ∀ {ta tb : TE}, PE X a ta → PE X b tb → PE X e (tOp r ta tb)) : DE X B e (mOp2 f ma mb) := by
  refine (he ha hb).imp fun σ H Q ⟨pend, ρ, c, g⟩ => ?_
  refine tE_bnd c g fun x ρ1 v1 H1 c1 g1 => ?_
  refine tE_bnd (pend := (v1, .val (frz x)) :: pend) c1.frz (go_pend [_] g1) fun y ρ2 v2 H2 c2 g2 => ?_
  obtain ⟨o, ho, g3⟩ := go_lift g2
  have c3 := c2.frz
  have c4 : CI H2 ((v1, .val (frz x)) :: (v2, .val (frz y)) :: (sI σ ρ2 ++ pend)) := (Conf.out (pre := [_, _]) c3).perm (.swap ..)
  exact hf _ _ _ ho v1 v2 H2 _ Q c4 fun v H' c5 => g3 v H' (.back1 c2.sh c5)
def mOp1 (f : D → Option O) (a : M O) : M O := bnd a fun x => lift (f (frz x))
def Op1 (r : V → Hp → VK → Prop) (f : D → Option O) : Prop := ∀ (d : D) (o : O), f d = some o → ∀ (x : V) (H : Hp) (its : List (V × O)) (Q : VK), CI H ((x, .val d) :: its) →
  (∀ v H', CI H' ((v, o) :: its) → Q v H') → r x H Q
theorem de_op1 {e a : Expr} {r : V → Hp → VK → Prop} {f : D → Option O} {ma : M O} (hf : Op1 r f) (ha : DE X B a ma) (he : ∀ {ta : TE}, PE X a ta → PE X e (tUn r ta)) : DE X B e (mOp1 f ma) := by
  refine (he ha).imp fun σ H Q ⟨pend, ρ, c, g⟩ => ?_
  refine tE_bnd c g fun x ρ1 v1 H1 c1 g1 => ?_
  obtain ⟨o, ho, g3⟩ := go_lift g1
  exact hf _ _ ho v1 H1 _ Q c1.frz.out1 fun v H' c5 => g3 v H' (.back1 c1.sh c5)

/-! ### argument lists -/
def mCons (m : M O) (ms : M (List O)) : M (List O) := bnd m fun o => bnd ms fun os => ret (o :: os)
theorem da_nil : DA X B [] (ret []) := pa_nil.imp fun σ H Q ⟨pend, ρ, c, g⟩ => (g : ∀ vs H', vs.length = 0 → Conf σ H' (vs.zip [] ++ pend) ρ → Q vs H') [] H rfl c
theorem tA_bnd {α : Type} {m : M (List O)} {f : List O → M α} {k : α → Sl → Prop} {σ : St} {H : Hp} {pend : List (V × O)} {ρ : Sl} {Q : List V → Hp → Prop} (c : Conf σ H pend ρ) (h : (bnd m f ρ).go k (fun x ρ' => B.p x ρ' pend σ))
    (hQ : ∀ r ρ' vs H', vs.length = r.length → Conf σ H' (vs.zip r ++ pend) ρ' → (f r ρ').go k (fun x ρ' => B.p x ρ' pend σ) → Q vs H') : tA B m σ H Q :=
  ⟨pend, ρ, c, Out.go_mono (go_bnd.mp h) (fun r ρ' _ g v H' hl c' => hQ r ρ' v H' hl c' g) fun _ _ _ g => g⟩
theorem da_cons {e : Expr} {es : List Expr} {m : M O} {ms : M (List O)} (h1 : DE X B e m) (h2 : DA X B es ms) (hs : starEach (e :: es) X.env = (false, eval e X.env) :: starEach es X.env) : DA X B (e :: es) (mCons m ms) := by
  refine (pa_cons h1 h2 hs).imp fun σ H Q ⟨pend, ρ, c, g⟩ => ?_
  refine tE_bnd c g fun x ρ1 v1 H1 c1 g1 => ?_
  refine tA_bnd (pend := (v1, x) :: pend) c1 (go_pend [_] g1) fun os ρ2 vs H2 hl c2 g2 => ?_
  refine (g2 : ∀ ws H', ws.length = (x :: os).length → Conf σ H' (ws.zip (x :: os) ++ pend) ρ2 → Q ws H') (v1 :: vs) H2 (by simp [hl]) (c2.perm ?_)
  exact List.perm_middle
theorem CG.frzAll {R : List Addr} {H : Hp} {b : List (V × O)} : ∀ {vs : List V} {os : List O} {a : List (V × O)}, CG R H (vs.zip os ++ (a ++ b)) → vs.length = os.length → CG R H (vs.zip ((frzs os).map O.val) ++ (a ++ b))
  | [], [], a, c, _ => c
  | [], _ :: _, a, c, h => by simp at h
  | _ :: _, [], a, c, h => by simp at h
  | v :: vs, o :: os, a, c, h => by
    have c1 : CG R H ((v, o) :: (vs.zip os ++ (a ++ b))) := c
    have c2 : CG R H (vs.zip os ++ (((v, .val (Dl.frz o)) :: a) ++ b)) := c1.frz.perm List.perm_middle.symm
    have c3 := CG.frzAll (vs := vs) (os := os) (a := (v, .val (Dl.frz o)) :: a) c2 (by simpa using h)
    exact c3.perm List.perm_middle
theorem Conf.frzAll {σ : St} {H : Hp} {vs : List V} {os : List O} {pend : List (V × O)} {ρ : Sl} (c : Conf σ H (vs.zip os ++ pend) ρ) (h : vs.length = os.length) : Conf σ H (vs.zip ((frzs os).map O.val) ++ pend) ρ := by
  have c1 : CI H (vs.zip os ++ ([] ++ (sI σ ρ ++ pend))) := c.out
  exact .back c.sh (c1.frzAll h)
theorem frzs_length (os : List O) : (frzs os).length = os.length := by rw [frzs_eq, List.length_map]
def mTup (ms : M (List O)) : M O := bnd ms fun os => if os.length ≤ 1000 then ret (.val (.tup (frzs os))) else stop
def mLst (ms : M (List O)) : M O := bnd ms fun os => if os.length ≤ 1000 then ret (.lst os) else stop
theorem sz1000 {n : Nat} (h : n ≤ 1000) : n ≤ sizeLine := Nat.le_of_lt (small1000 h)
theorem de_tup {es : List Expr} {k : Nat} {pos : Pos} {ms : M (List O)} (h : DA X B es ms) : DE X B (.Tuple es k pos) (mTup ms) := by
  refine (pe_tup h).imp fun σ H Q ⟨pend, ρ, c, g⟩ => ?_
  refine tA_bnd c g fun os ρ1 vs H1 hl c1 g1 => ?_
  split at g1
  · rename_i hz
    refine ⟨by rw [hl]; exact sz1000 hz, fun p hp => ?_⟩
    have c2 := (c1.frzAll hl).out
    exact (g1 : ∀ v H', Conf σ H' ((v, .val (.tup (frzs os))) :: pend) ρ1 → Q v H') _ _ (.back1 c1.sh (c2.newT (by rw [frzs_length]; exact hl) hp (by simp)))
  · exact False.elim g1
theorem zip_fst {vs : List V} {os : List O} (h : vs.length = os.length) : (vs.zip os).map (·.1) = vs := by rw [List.map_fst_zip (by omega)]
theorem zip_snd {vs : List V} {os : List O} (h : vs.length = os.length) : (vs.zip os).map (·.2) = os := by rw [List.map_snd_zip (by omega)]
theorem de_lst {es : List Expr} {pos : Pos} {ms : M (List O)} (h : DA X B es ms) : DE X B (.List es pos) (mLst ms) := by
  refine (pe_lst h).imp fun σ H Q ⟨pend, ρ, c, g⟩ => ?_
  refine tA_bnd c g fun os ρ1 vs H1 hl c1 g1 => ?_
  split at g1
  · rename_i hz
    refine ⟨by rw [hl]; exact sz1000 hz, fun p hp => ?_⟩
    have c2 := c1.out.newL hp (by simp)
    rw [zip_fst hl, zip_snd hl] at c2
    exact (g1 : ∀ v H', Conf σ H' ((v, .lst os) :: pend) ρ1 → Q v H') _ _ (.back1 c1.sh c2)
  · exact False.elim g1
/-- a built-in of values -/
def OpN (r : List V → Hp → VK → Prop) (f : List D → Option O) : Prop := ∀ (ds : List D) (o : O), f ds = some o → ∀ (vs : List V) (H : Hp) (its : List (V × O)) (Q : VK), vs.length = ds.length → CI H (vs.zip (ds.map O.val) ++ its) →
  (∀ v H', CI H' ((v, o) :: its) → Q v H') → r vs H Q
def mOpN (f : List D → Option O) (ms : M (List O)) : M O := bnd ms fun os => lift (f (frzs os))
theorem de_opN {e : Expr} {es : List Expr} {r : List V → Hp → VK → Prop} {f : List D → Option O} {ms : M (List O)} (hf : OpN r f) (ha : DA X B es ms) (he : ∀ {t : TA}, PA X es t → PE X e (tCB r t)) : DE X B e (mOpN f ms) := by
  refine (he ha).imp fun σ H Q ⟨pend, ρ, c, g⟩ => ?_
  refine tA_bnd c g fun os ρ1 vs H1 hl c1 g1 => ?_
  obtain ⟨o, ho, g3⟩ := go_lift g1
  exact hf _ _ ho vs H1 _ Q (by rw [frzs_length]; exact hl) (c1.frzAll hl).out fun v H' c5 => g3 v H' (.back1 c1.sh c5)

/-! ### tests -/
def mB (m : M O) : M Bool := bnd m fun o => match o with
  | .val (.bl b) => ret b
  | _ => stop
theorem go_mB {ρ : Sl} {σ : St} {pend : List (V × O)} {o : O} {k : Bool → Sl → Prop} {b : Ex → Sl → Prop} (h : ((match o with
  | .val (.bl b) => ret b
  | _ => (stop : M Bool)) ρ).go k b) : ∃ c, o = .val (.bl c) ∧ k c ρ := by
  split at h
  · exact ⟨_, rfl, h⟩
  · exact False.elim h
theorem dt_val {e : Expr} {m : M O} (h : DE X B e m) (hp : ∀ {t : TE}, PE X e t → PT X e (tTest t)) : DT X B e (mB m) := by
  refine (hp h).imp fun σ H Q ⟨pend, ρ, c, g⟩ => ?_
  refine tE_bnd c g fun o ρ1 v H1 c1 g1 => ?_
  obtain ⟨b, rfl, g2⟩ := go_mB (σ := σ) (pend := pend) g1
  exact ⟨b, c1.out1.bl, g2 H1 c1.tail⟩
def mAnd (a b : M Bool) : M Bool := bnd a fun x => if x = true then b else ret false
def mOr (a b : M Bool) : M Bool := bnd a fun x => if x = true then ret true else b
def mNot (a : M Bool) : M Bool := bnd a fun x => ret (!x)
theorem tT_bnd {α : Type} {m : M Bool} {f : Bool → M α} {k : α → Sl → Prop} {σ : St} {H : Hp} {pend : List (V × O)} {ρ : Sl} {Q : Bool → Hp → Prop} (c : Conf σ H pend ρ) (h : (bnd m f ρ).go k (fun x ρ' => B.p x ρ' pend σ))
    (hQ : ∀ r ρ' H', Conf σ H' pend ρ' → (f r ρ').go k (fun x ρ' => B.p x ρ' pend σ) → Q r H') : tT B m σ H Q :=
  ⟨pend, ρ, c, Out.go_mono (go_bnd.mp h) (fun r ρ' _ g H' c' => hQ r ρ' H' c' g) fun _ _ _ g => g⟩
theorem tAnd_of {ma mb : M Bool} {σ : St} {H : Hp} {Q : Bool → Hp → Prop} (h : tT B (mAnd ma mb) σ H Q) : tAnd (tT B ma) (tT B mb) σ H Q := by
  obtain ⟨pend, ρ, c, g⟩ := h
  refine tT_bnd c g fun b ρ1 H1 c1 g1 => ?_
  cases b with
  | true =>
    rw [if_pos rfl] at g1 ⊢
    exact ⟨pend, ρ1, c1, g1⟩
  | false =>
    rw [if_neg (by decide)] at g1 ⊢
    exact (g1 : ∀ H', Conf σ H' pend ρ1 → Q false H') H1 c1
theorem tOr_of {ma mb : M Bool} {σ : St} {H : Hp} {Q : Bool → Hp → Prop} (h : tT B (mOr ma mb) σ H Q) : tOr (tT B ma) (tT B mb) σ H Q := by
  obtain ⟨pend, ρ, c, g⟩ := h
  refine tT_bnd c g fun b ρ1 H1 c1 g1 => ?_
  cases b with
  | false =>
    rw [if_neg (by decide)] at g1 ⊢
    exact ⟨pend, ρ1, c1, g1⟩
  | true =>
    rw [if_pos rfl] at g1 ⊢
    exact (g1 : ∀ H', Conf σ H' pend ρ1 → Q true H') H1 c1
theorem dt_not {a : Expr} {m : M Bool} {pos : Pos} (h : DT X B a m) : DT X B (.UnaryOp .Not a pos) (mNot m) := by
  refine (pt_not h).imp fun σ H Q ⟨pend, ρ, c, g⟩ => ?_
  refine tT_bnd c g fun b ρ1 H1 c1 g1 => ?_
  exact (g1 : ∀ H', Conf σ H' pend ρ1 → Q (!b) H') H1 c1
/-- a test's answer as a value -/
def mOfB (m : M Bool) : M O := bnd m fun b => ret (.val (.bl b))
def mIf (c : M Bool) (a b : M O) : M O := bnd c fun x => if x = true then a else b
theorem de_ifE {c a b : Expr} {mc : M Bool} {ma mb : M O} {pos : Pos} (hc : DT X B c mc) (ha : DE X B a ma) (hb : DE X B b mb) : DE X B (.IfExp c a b pos) (mIf mc ma mb) := by
  refine (pe_ifExp hc ha hb).imp fun σ H Q ⟨pend, ρ, c, g⟩ => ?_
  refine tT_bnd c g fun b ρ1 H1 c1 g1 => ?_
  cases b with
  | true => rw [if_pos rfl] at g1 ⊢; exact ⟨pend, ρ1, c1, g1⟩
  | false => rw [if_neg (by decide)] at g1 ⊢; exact ⟨pend, ρ1, c1, g1⟩
/-- and, or, not as values: bools -/
def mAndV (a b : M O) : M O := bnd a fun x => match x with
  | .val (.bl true) => b
  | .val (.bl false) => ret (.val (.bl false))
  | _ => stop
def mOrV (a b : M O) : M O := bnd a fun x => match x with
  | .val (.bl true) => ret (.val (.bl true))
  | .val (.bl false) => b
  | _ => stop
theorem de_and {a b : Expr} {rest : List Expr} {ma mb : M O} {pos : Pos} (ha : DE X B a ma) (hb : DE X B (.BoolOp .And (b :: rest) pos) mb) : DE X B (.BoolOp .And (a :: b :: rest) pos) (mAndV ma mb) := by
  refine (pe_and ha hb).imp fun σ H Q ⟨pend, ρ, c, g⟩ => ?_
  refine tE_bnd c g fun o ρ1 v H1 c1 g1 => ?_
  split at g1
  · exact ⟨true, c1.out1.bl, by rw [if_pos rfl]; exact ⟨pend, ρ1, c1.tail, g1⟩⟩
  · have e := c1.out1.bl
    subst e
    exact ⟨false, rfl, by rw [if_neg (by decide)]; exact (g1 : ∀ v H', Conf σ H' ((v, .val (.bl false)) :: pend) ρ1 → Q v H') _ H1 c1⟩
  · exact False.elim g1
theorem de_or {a b : Expr} {rest : List Expr} {ma mb : M O} {pos : Pos} (ha : DE X B a ma) (hb : DE X B (.BoolOp .Or (b :: rest) pos) mb) : DE X B (.BoolOp .Or (a :: b :: rest) pos) (mOrV ma mb) := by
  refine (pe_or ha hb).imp fun σ H Q ⟨pend, ρ, c, g⟩ => ?_
  refine tE_bnd c g fun o ρ1 v H1 c1 g1 => ?_
  split at g1
  · have e := c1.out1.bl
    subst e
    exact ⟨true, rfl, by rw [if_pos rfl]; exact (g1 : ∀ v H', Conf σ H' ((v, .val (.bl true)) :: pend) ρ1 → Q v H') _ H1 c1⟩
  · exact ⟨false, c1.out1.bl, by rw [if_neg (by decide)]; exact ⟨pend, ρ1, c1.tail, g1⟩⟩
  · exact False.elim g1
end
end Dl

namespace Dl
variable [Kc]
open PySem L2

/-- how the slots may have moved -/
structure SR where
  r : St → St → Prop
  refl : ∀ σ, r σ σ
  trans : ∀ {a b c}, r a b → r b c → r a c
def srC (cp : List Nat) : SR := ⟨CP cp, CP.refl cp, CP.trans⟩
def srW (vs : List Nat) : SR := ⟨fun σ σ' => wipe σ' vs = wipe σ vs, fun _ => rfl, fun h g => g.trans h⟩
theorem wipe_set (i : Nat) (v : Option V) : ∀ {vs : List Nat} {σ : St}, i ∈ vs → wipe (σ.set i v) vs = wipe σ vs
  | [], _, h => by simp at h
  | j :: vs, σ, h => by
    show (wipe (σ.set i v) vs).set j none = (wipe σ vs).set j none
    by_cases hm : i ∈ vs
    · rw [wipe_set i v hm]
    · have e : i = j := by
        rcases List.mem_cons.mp h with h | h
        · exact h
        · exact absurd h hm
      subst e
      have h2 : ∀ (us : List Nat) (τ : St), i ∉ us → wipe (τ.set i v) us = (wipe τ us).set i v := by
        intro us
        induction us with
        | nil => intro τ _; rfl
        | cons a us ih =>
          intro τ hn
          show (wipe (τ.set i v) us).set a none = ((wipe τ us).set a none).set i v
          rw [ih τ (fun z => hn (List.mem_cons_of_mem _ z)), List.set_comm]
          exact fun z => hn (by rw [z]; exact List.mem_cons_self)
      rw [h2 vs σ hm, set_set]
def tGr (B : Bx) (S : SR) (m : O → M Unit) : TG := fun v σ H Q => ∃ pend ρ o, Conf σ H ((v, o) :: pend) ρ ∧ (m o ρ).go (fun _ ρ' => ∀ σ' H', Conf σ' H' pend ρ' → S.r σ σ' → Q σ' H') (fun x ρ' => ∀ σ', S.r σ σ' → B.p x ρ' pend σ')
def tGs (B : Bx) (S : SR) (m : List O → M Unit) : TGs := fun vs σ H Q => ∃ pend ρ os, vs.length = os.length ∧ Conf σ H (vs.zip os ++ pend) ρ ∧ (m os ρ).go (fun _ ρ' => ∀ σ' H', Conf σ' H' pend ρ' → S.r σ σ' → Q σ' H') (fun x ρ' => ∀ σ', S.r σ σ' → B.p x ρ' pend σ')
theorem _root_.L2.PG.imp {X : Cx} {e : Expr} {t t' : TG} (h : PG X e t) (k : ∀ v σ H Q, t' v σ H Q → t v σ H Q) : PG X e t' := ⟨fun pins s σ H v u Q I r q => h.run pins s σ H v u Q I r (k v σ H Q q)⟩
theorem _root_.L2.PGs.imp {X : Cx} {e : List Expr} {t t' : TGs} (h : PGs X e t) (k : ∀ v σ H Q, t' v σ H Q → t v σ H Q) : PGs X e t' := ⟨fun pins s σ H v u Q I r q => h.run pins s σ H v u Q I r (k v σ H Q q)⟩
abbrev DG (X : Cx) (B : Bx) (S : SR) (e : Expr) (m : O → M Unit) : Prop := PG X e (tGr B S m)
abbrev DGs (X : Cx) (B : Bx) (S : SR) (e : List Expr) (m : List O → M Unit) : Prop := PGs X e (tGs B S m)
abbrev DS (X : Cx) (B : Bx) (cp : List Nat) (e : Stmt) (m : M Fl) : Prop := PS X e (tS B cp m)
abbrev DSs (X : Cx) (B : Bx) (cp : List Nat) (e : List Stmt) (m : M Fl) : Prop := PSs X e (tS B cp m)
section
variable {X : Cx} {B : Bx} {S : SR} {cp : List Nat}
theorem ds_stop {e : Stmt} : DS X B cp e stop := ⟨fun _ _ _ _ _ _ ⟨_, _, _, h⟩ => False.elim h⟩
theorem dss_stop {e : List Stmt} : DSs X B cp e stop := ⟨fun _ _ _ _ _ _ ⟨_, _, _, h⟩ => False.elim h⟩
theorem dg_stop {e : Expr} : DG X B S e (fun _ => stop) := ⟨fun _ _ _ _ _ _ _ _ _ ⟨_, _, _, _, h⟩ => False.elim h⟩
/-- targets -/
def mSet (ok : Nat → Bool) (i : Nat) (o : O) : M Unit := fun ρ => if ok i = true ∧ i < ρ.length then .ok () (ρ.set i (some o)) else .fail
theorem dg_name {e : Expr} {ok : Nat → Bool} {i : Nat} (hp : PG X e (gName i)) (hS : ∀ i, ok i = true → ∀ σ v, S.r σ (σ.set i (some v))) : DG X B S e (mSet ok i) := by
  refine hp.imp fun v σ H Q ⟨pend, ρ, o, c, g⟩ => ?_
  unfold mSet at g
  split at g
  · rename_i h
    exact g _ _ (c.put (by rw [c.sh.len]; exact h.2)) (hS i h.1 σ v)
  · exact False.elim g
def mGNil (os : List O) : M Unit := match os with
  | [] => ret ()
  | _ => stop
def mGCons (m : O → M Unit) (ms : List O → M Unit) (os : List O) : M Unit := match os with
  | [] => stop
  | o :: os => bnd (m o) fun _ => ms os
theorem dgs_nil : DGs X B S [] mGNil := by
  refine pgs_nil.imp fun vs σ H Q ⟨pend, ρ, os, hl, c, g⟩ => ?_
  cases os with
  | nil =>
    cases vs with
    | nil => exact ⟨rfl, g σ H c (S.refl σ)⟩
    | cons => simp at hl
  | cons => exact False.elim g
theorem dgs_cons {e : Expr} {es : List Expr} {m : O → M Unit} {ms : List O → M Unit} (h1 : DG X B S e m) (h2 : DGs X B S es ms)
    (hs : (assignEach (e :: es) X.env).map (·.2) = assign e X.env :: (assignEach es X.env).map (·.2)) : DGs X B S (e :: es) (mGCons m ms) := by
  refine (pgs_cons h1 h2 hs).imp fun vs σ H Q ⟨pend, ρ, os, hl, c, g⟩ => ?_
  cases os with
  | nil => exact False.elim g
  | cons o os =>
    cases vs with
    | nil => simp at hl
    | cons v vs =>
      refine ⟨v, vs, rfl, vs.zip os ++ pend, ρ, o, c, ?_⟩
      refine Out.go_mono (go_bnd.mp g) (fun _ ρ1 _ g1 σ1 H1 c1 s1 => ?_) fun x ρ1 _ g1 σ' s' => B.monos _ (g1 σ' s')
      exact ⟨pend, ρ1, os, by simpa using hl, c1, Out.go_mono g1 (fun _ ρ2 _ g2 σ2 H2 c2 s2 => g2 σ2 H2 c2 (S.trans s1 s2)) fun x ρ2 _ g2 σ2 s2 => g2 σ2 (S.trans s1 s2)⟩
def mGTup (n : Nat) (ms : List O → M Unit) (o : O) : M Unit := match frz o with
  | .tup ds => if ds.length = n then ms (ds.map O.val) else stop
  | .lst ds => if ds.length = n then ms (ds.map O.val) else stop
  | _ => stop
theorem sq_t {K : PySem.W.Frag} {H : Hp} {p : Addr} {vs : List V} (h : H p = some (.tup vs)) : SqT K H p vs := .inl (.inl h)
theorem sq_l {K : PySem.W.Frag} {H : Hp} {p : Addr} {vs : List V} (h : H p = some (.lst vs)) : SqL K H p vs := .inl (.inl h)
theorem dg_tup {es : List Expr} {k n : Nat} {pos : Pos} {ms : List O → M Unit} (hc : X.calm = true) (h : DGs X B S es ms) (hn : (assignEach es X.env).length = n) (hst : (assignEach es X.env).findIdx? (·.1) = none) :
    DG X B S (.Tuple es k pos) (mGTup n ms) := by
  have h1 : PG X (.Tuple es k pos) (gTup X.K n (tGs B S ms)) := pg_tup hc h hn hst
  have h2 : PG X (.Tuple es k pos) (gLst X.K n (tGs B S ms)) := pg_lst hc h hn hst
  refine ⟨fun pins s σ H v u Q I r ⟨pend, ρ, o, c, g⟩ => ?_⟩
  have c1 := c.frz
  unfold mGTup at g
  generalize e : frz o = d at g c1
  cases d with
  | tup ds =>
    by_cases hl : ds.length = n
    · dsimp only at g
      rw [if_pos hl] at g
      obtain ⟨p, vs, rfl, hr, hv, c2⟩ := c1.out1.openT
      refine h1.run pins s σ H _ u Q I r ⟨p, vs, rfl, sq_t hr, hv.trans hl, pend, ρ, ds.map O.val, by simp [hv], ?_, g⟩
      exact .back c.sh (CG.mid (m := [_]) c2)
    · dsimp only at g
      rw [if_neg hl] at g
      exact False.elim g
  | lst ds =>
    by_cases hl : ds.length = n
    · dsimp only at g
      rw [if_pos hl] at g
      obtain ⟨p, vs, rfl, hr, hv, c2⟩ := c1.out1.openL
      refine h2.run pins s σ H _ u Q I r ⟨p, vs, rfl, sq_l hr, hv.trans hl, pend, ρ, ds.map O.val, by simp [hv], ?_, g⟩
      exact .back c.sh (CG.mid (m := [_]) c2)
    · dsimp only at g
      rw [if_neg hl] at g
      exact False.elim g
  | _ => exact False.elim g

/-! ### statements -/
def mSeq (a b : M Fl) : M Fl := bnd a fun f => match f with
  | .nx => b
  | f => ret f
theorem dss_nil : DSs X B cp [] (ret .nx) := pss_nil.imp fun D σ H ⟨pend, ρ, c, g⟩ => (g : ∀ σ' H', Conf σ' H' pend ρ → CP cp σ σ' → D.nx σ' H') σ H c (CP.refl _ _)
theorem flGo_step {D : Ends} {σ σ1 : St} {pend : List (V × O)} {f : Fl} {ρ : Sl} (h : flGo cp D σ pend f ρ) (s : CP cp σ σ1) : flGo cp D σ1 pend f ρ := by
  cases f with
  | nx => exact fun σ' H' c s' => h σ' H' c (s.trans s')
  | rt r => exact fun v σ' H' c s' => h v σ' H' c (s.trans s')
  | bk => exact fun σ' H' c s' => h σ' H' c (s.trans s')
  | ct => exact fun σ' H' c s' => h σ' H' c (s.trans s')
theorem dss_cons {s : Stmt} {ss : List Stmt} {a b : M Fl} (h1 : DS X B cp s a) (h2 : DSs X B cp ss b) : DSs X B cp (s :: ss) (mSeq a b) := by
  refine (pss_cons h1 h2).imp fun D σ H ⟨pend, ρ, c, g⟩ => ?_
  refine ⟨pend, ρ, c, Out.go_mono (go_bnd.mp g) (fun f ρ1 _ g1 => ?_) fun x ρ1 _ g1 => g1⟩
  cases f with
  | nx => exact fun σ1 H1 c1 s1 => ⟨pend, ρ1, c1, Out.go_mono g1 (fun f ρ2 _ g2 => flGo_step g2 s1) fun x ρ2 _ g2 σ2 s2 => g2 σ2 (s1.trans s2)⟩
  | rt r => exact g1
  | bk => exact g1
  | ct => exact g1
/-- an expression within a statement -/
theorem tE_st {α : Type} {m : M O} {f : O → M α} {k : α → Sl → Prop} {σ : St} {H : Hp} {pend : List (V × O)} {ρ : Sl} {Q : VK} (c : Conf σ H pend ρ) (h : (bnd m f ρ).go k (fun x ρ' => ∀ σ', CP cp σ σ' → B.p x ρ' pend σ'))
    (hQ : ∀ r ρ' v H', Conf σ H' ((v, r) :: pend) ρ' → (f r ρ').go k (fun x ρ' => ∀ σ', CP cp σ σ' → B.p x ρ' pend σ') → Q v H') : tE B m σ H Q :=
  ⟨pend, ρ, c, Out.go_mono (go_bnd.mp h) (fun r ρ' _ g v H' c' => hQ r ρ' v H' c' g) fun _ _ _ g => g σ (CP.refl _ _)⟩
theorem tT_st {α : Type} {m : M Bool} {f : Bool → M α} {k : α → Sl → Prop} {σ : St} {H : Hp} {pend : List (V × O)} {ρ : Sl} {Q : Bool → Hp → Prop} (c : Conf σ H pend ρ) (h : (bnd m f ρ).go k (fun x ρ' => ∀ σ', CP cp σ σ' → B.p x ρ' pend σ'))
    (hQ : ∀ r ρ' H', Conf σ H' pend ρ' → (f r ρ').go k (fun x ρ' => ∀ σ', CP cp σ σ' → B.p x ρ' pend σ') → Q r H') : tT B m σ H Q :=
  ⟨pend, ρ, c, Out.go_mono (go_bnd.mp h) (fun r ρ' _ g H' c' => hQ r ρ' H' c' g) fun _ _ _ g => g σ (CP.refl _ _)⟩
def mDo (m : M O) : M Fl := bnd m fun _ => ret .nx
def mRet (m : M O) : M Fl := bnd m fun o => ret (.rt o)
theorem ds_expr {s : Stmt} {e : Expr} {m : M O} (h : DE X B e m) (hp : ∀ {t : TE}, PE X e t → PS X s (tDrop t)) : DS X B cp s (mDo m) := by
  refine (hp h).imp fun D σ H ⟨pend, ρ, c, g⟩ => ?_
  exact tE_st c g fun r ρ1 v H1 c1 g1 => (g1 : ∀ σ' H', Conf σ' H' pend ρ1 → CP cp σ σ' → D.nx σ' H') σ H1 c1.tail (CP.refl _ _)
theorem ds_ret {e : Expr} {m : M O} {pos : Pos} (h : DE X B e m) : DS X B cp (.Return (some e) pos) (mRet m) := by
  refine (ps_ret h).imp fun D σ H ⟨pend, ρ, c, g⟩ => ?_
  exact tE_st c g fun r ρ1 v H1 c1 g1 => (g1 : ∀ v σ' H', Conf σ' H' ((v, r) :: pend) ρ1 → CP cp σ σ' → D.rt v H') v σ H1 c1 (CP.refl _ _)
theorem ds_retN {pos : Pos} : DS X B cp (.Return none pos) (ret (.rt (.val .non))) := by
  refine ps_retN.imp fun D σ H ⟨pend, ρ, c, g⟩ => ?_
  exact (g : ∀ v σ' H', Conf σ' H' ((v, .val .non) :: pend) ρ → CP cp σ σ' → D.rt v H') _ σ H (c.sc rfl) (CP.refl _ _)
theorem ds_pass {pos : Pos} : DS X B cp (.Pass pos) (ret .nx) := ps_pass.imp fun D σ H ⟨pend, ρ, c, g⟩ => (g : ∀ σ' H', Conf σ' H' pend ρ → CP cp σ σ' → D.nx σ' H') σ H c (CP.refl _ _)
theorem ds_break {pos : Pos} : DS X B cp (.Break pos) (ret .bk) := ps_break.imp fun D σ H ⟨pend, ρ, c, g⟩ => (g : ∀ σ' H', Conf σ' H' pend ρ → CP cp σ σ' → D.bk σ' H') σ H c (CP.refl _ _)
theorem ds_cont {pos : Pos} : DS X B cp (.Continue pos) (ret .ct) := ps_continue.imp fun D σ H ⟨pend, ρ, c, g⟩ => (g : ∀ σ' H', Conf σ' H' pend ρ → CP cp σ σ' → D.ct σ' H') σ H c (CP.refl _ _)
def mIfS (c : M Bool) (a b : M Fl) : M Fl := bnd c fun x => if x = true then a else b
theorem ds_if {c : Expr} {a b : List Stmt} {mc : M Bool} {ma mb : M Fl} {pos : Pos} (hc : DT X B c mc) (ha : DSs X B cp a ma) (hb : DSs X B cp b mb) : DS X B cp (.If c a b pos) (mIfS mc ma mb) := by
  refine (ps_if hc ha hb).imp fun D σ H ⟨pend, ρ, c, g⟩ => ?_
  refine tT_st c g fun b ρ1 H1 c1 g1 => ?_
  cases b with
  | true => rw [if_pos rfl] at g1 ⊢; exact ⟨pend, ρ1, c1, g1⟩
  | false => rw [if_neg (by decide)] at g1 ⊢; exact ⟨pend, ρ1, c1, g1⟩
def mAsg (m : M O) (t : O → M Unit) : M Fl := bnd m fun o => bnd (t o) fun _ => ret .nx
theorem ds_asg {s : Stmt} {e tg : Expr} {m : M O} {t : O → M Unit} (he : DE X B e m) (ht : DG X B (srC cp) tg t) (hp : ∀ {te : TE} {g : TG}, PE X e te → PG X tg g → PS X s (tAsg te g)) : DS X B cp s (mAsg m t) := by
  refine (hp he ht).imp fun D σ H ⟨pend, ρ, c, g⟩ => ?_
  refine tE_st c g fun r ρ1 v H1 c1 g1 => ?_
  exact ⟨pend, ρ1, r, c1, Out.go_mono (go_bnd.mp g1) (fun _ ρ2 _ g2 => g2) fun x ρ2 _ g2 => g2⟩
/-- name = e -/
theorem ds_set {s : Stmt} {e : Expr} {m : M O} {ok : Nat → Bool} {i : Nat} (he : DE X B e m) (hp : ∀ {te : TE}, PE X e te → PS X s (tAsg te (gName i))) (hS : ∀ i, ok i = true → ∀ σ v, CP cp σ (σ.set i (some v))) : DS X B cp s (mAsg m (mSet ok i)) := by
  refine (hp he).imp fun D σ H ⟨pend, ρ, c, g⟩ => ?_
  refine tE_st c g fun r ρ1 v H1 c1 g1 => ?_
  have g2 := go_bnd.mp g1
  unfold mSet at g2
  split at g2
  · rename_i h
    exact g2 _ _ (c1.put (by rw [c1.sh.len]; exact h.2)) (hS i h.1 σ v)
  · exact False.elim g2

/-! ### loops -/
structure WalkD (J : It) (src : List (V × O)) (ds : List D) : Prop where
  go : ∀ i H its, i < ds.length → CI H (src ++ its) → J.go i H
  yld : ∀ i H its x H' d, ds[i]? = some d → CI H (src ++ its) → J.yld i H x H' → CI H' ((x, .val d) :: (src ++ its))
  stop : ∀ H its, CI H (src ++ its) → J.stop ds.length H
def tI (B : Bx) (m : M (List D)) : TI := fun σ H R => ∃ pend ρ, Conf σ H pend ρ ∧ (m ρ).go (fun ds ρ' => ∀ J H' src, WalkD J src ds → Conf σ H' (src ++ pend) ρ' → R J H') (fun x ρ' => B.p x ρ' pend σ)
abbrev DI (X : Cx) (B : Bx) (tg e : Expr) (m : M (List D)) : Prop := PI X tg e (tI B m)
theorem _root_.L2.PI.imp {X : Cx} {tg e : Expr} {t t' : TI} (h : PI X tg e t) (k : ∀ σ H Q, t' σ H Q → t σ H Q) : PI X tg e t' := ⟨fun pins s σ H Q I q => h.run pins s σ H Q I (k σ H Q q)⟩
theorem di_stop {tg e : Expr} : DI X B tg e stop := ⟨fun _ _ _ _ _ _ ⟨_, _, _, h⟩ => False.elim h⟩
def mLoop (t : O → M Unit) (b : M Fl) : List D → M Fl
  | [] => ret .nx
  | d :: ds => bnd (t (.val d)) fun _ => bnd b fun f => match f with
    | .nx => mLoop t b ds
    | .ct => mLoop t b ds
    | .bk => ret .nx
    | .rt r => ret (.rt r)
def mFor (i : M (List D)) (t : O → M Unit) (b : M Fl) : M Fl := bnd i fun ds => mLoop t b ds
theorem drop_eq {α : Type} : ∀ {l : List α} {i : Nat}, i < l.length → ∃ d, l[i]? = some d ∧ l.drop i = d :: l.drop (i + 1)
  | [], i, h => by simp at h
  | a :: l, 0, h => ⟨a, rfl, rfl⟩
  | a :: l, i + 1, h => by
    obtain ⟨d, h1, h2⟩ := drop_eq (l := l) (i := i) (by simpa using h)
    exact ⟨d, by simpa using h1, by simpa using h2⟩
theorem ds_for {tg it : Expr} {body : List Stmt} {mi : M (List D)} {t : O → M Unit} {b : M Fl} {pos : Pos} (hp : PassesOwn (model X.prog X.w) X.A X.env X.xe) (hc : X.calm = true) (hi : DI X B tg it mi) (hg : DG X B (srC cp) tg t) (hb : DSs X B cp body b)
    (hs : ∀ x, foldedSetIterable it X.env x = pure x) : DS X B cp (.For tg it body [] pos) (mFor mi t b) := by
  refine (ps_for hp hc hi hg hb hs).imp fun D σ H ⟨pend, ρ, c, g⟩ => ?_
  refine ⟨pend, ρ, c, Out.go_mono (go_bnd.mp g) (fun ds ρ1 _ g1 J H1 src wk c1 => ?_) fun x ρ1 _ g1 => g1 σ (CP.refl _ _)⟩
  refine ⟨fun i n σ' H' => n = ds.length - i ∧ i ≤ ds.length ∧ CP cp σ σ' ∧ ∃ ρ', Conf σ' H' (src ++ pend) ρ' ∧ (mLoop t b (ds.drop i) ρ').go (flGo cp D σ pend) (fun x ρ' => ∀ σ', CP cp σ σ' → B.p x ρ' pend σ'),
    ⟨ds.length, rfl, Nat.zero_le _, CP.refl _ _, ρ1, c1, g1⟩, ?_⟩
  rintro i n σ2 H2 ⟨rfl, hi, s2, ρ2, c2, g2⟩
  by_cases hl : i < ds.length
  · right
    obtain ⟨d, hd, he⟩ := drop_eq hl
    rw [he] at g2
    refine ⟨wk.go i H2 (sI σ2 ρ2 ++ pend) hl c2.out, fun σ' H' => CP cp σ σ' ∧ ∃ ρ', Conf σ' H' (src ++ pend) ρ' ∧ (mLoop t b (ds.drop (i + 1)) ρ').go (flGo cp D σ pend) (fun x ρ' => ∀ σ', CP cp σ σ' → B.p x ρ' pend σ'),
      fun σ' H' q => ⟨ds.length - (i + 1), by omega, rfl, hl, q.1, q.2⟩, fun x H3 y => ?_⟩
    have c3 : Conf σ2 H3 ((x, .val d) :: (src ++ pend)) ρ2 := .back (pre := (x, .val d) :: src) c2.sh (wk.yld i H2 _ x H3 d hd c2.out y)
    refine ⟨src ++ pend, ρ2, .val d, c3, Out.go_mono (go_bnd.mp g2) (fun _ ρ3 _ g3 σ3 H4 c4 s3 => ?_) fun x ρ3 _ g3 σ3 s3 => B.monos _ (g3 σ3 (s2.trans s3))⟩
    have s3' : CP cp σ σ3 := s2.trans s3
    refine ⟨src ++ pend, ρ3, c4, Out.go_mono (go_bnd.mp g3) (fun f ρ4 _ g4 => ?_) fun x ρ4 _ g4 σ4 s4 => B.monos _ (g4 σ4 (s3'.trans s4))⟩
    cases f with
    | nx => exact fun σ4 H5 c5 s4 => ⟨s3'.trans s4, ρ4, c5, g4⟩
    | ct => exact fun σ4 H5 c5 s4 => ⟨s3'.trans s4, ρ4, c5, g4⟩
    | bk => exact fun σ4 H5 c5 s4 => (g4 : ∀ σ' H', Conf σ' H' pend ρ4 → CP cp σ σ' → D.nx σ' H') σ4 H5 c5.drop (s3'.trans s4)
    | rt r => exact fun v σ4 H5 c5 s4 => (g4 : ∀ v σ' H', Conf σ' H' ((v, r) :: pend) ρ4 → CP cp σ σ' → D.rt v H') v σ4 H5 (.back1 c5.sh (CG.mid (a := [_]) (Conf.out (pre := (v, r) :: src) c5))) (s3'.trans s4)
  · left
    have e : i = ds.length := by omega
    subst e
    rw [List.drop_length] at g2
    exact ⟨wk.stop H2 _ c2.out, (g2 : ∀ σ' H', Conf σ' H' pend ρ2 → CP cp σ σ' → D.nx σ' H') σ2 H2 c2.drop s2⟩
def mWhile (c : M Bool) (b : M Fl) : Nat → M Fl
  | 0 => stop
  | n + 1 => bnd c fun x => if x = true then bnd b fun f => match f with
    | .nx => mWhile c b n
    | .ct => mWhile c b n
    | .bk => ret .nx
    | .rt r => ret (.rt r)
    else ret .nx
theorem ds_while {c : Expr} {body : List Stmt} {mc : M Bool} {b : M Fl} {pos : Pos} (N : Nat) (hp : PassesOwn (model X.prog X.w) X.A X.env X.xe) (hc : DT X B c mc) (hb : DSs X B cp body b) : DS X B cp (.While c body [] pos) (mWhile mc b N) := by
  refine (ps_while hp hc hb).imp fun D σ H ⟨pend, ρ, c, g⟩ => ?_
  refine ⟨fun n σ' H' => CP cp σ σ' ∧ ∃ ρ', Conf σ' H' pend ρ' ∧ (mWhile mc b n ρ').go (flGo cp D σ pend) (fun x ρ' => ∀ σ', CP cp σ σ' → B.p x ρ' pend σ'), ⟨N, CP.refl _ _, ρ, c, g⟩, ?_⟩
  rintro n σ1 H1 ⟨s1, ρ1, c1, g1⟩
  cases n with
  | zero => exact False.elim g1
  | succ n =>
    refine ⟨pend, ρ1, c1, Out.go_mono (go_bnd.mp g1) (fun x ρ2 _ g2 H2 c2 => ?_) fun x ρ2 _ g2 => g2 σ1 s1⟩
    cases x with
    | false =>
      rw [if_neg (by decide)] at g2 ⊢
      exact (g2 : ∀ σ' H', Conf σ' H' pend ρ2 → CP cp σ σ' → D.nx σ' H') σ1 H2 c2 s1
    | true =>
      rw [if_pos rfl] at g2 ⊢
      refine ⟨fun σ' H' => CP cp σ σ' ∧ ∃ ρ', Conf σ' H' pend ρ' ∧ (mWhile mc b n ρ').go (flGo cp D σ pend) (fun x ρ' => ∀ σ', CP cp σ σ' → B.p x ρ' pend σ'), fun σ' H' q => ⟨n, Nat.lt_succ_self n, q⟩, ?_⟩
      refine ⟨pend, ρ2, c2, Out.go_mono (go_bnd.mp g2) (fun f ρ4 _ g4 => ?_) fun x ρ4 _ g4 σ4 s4 => g4 σ4 (s1.trans s4)⟩
      cases f with
      | nx => exact fun σ4 H5 c5 s4 => ⟨s1.trans s4, ρ4, c5, g4⟩
      | ct => exact fun σ4 H5 c5 s4 => ⟨s1.trans s4, ρ4, c5, g4⟩
      | bk => exact fun σ4 H5 c5 s4 => (g4 : ∀ σ' H', Conf σ' H' pend ρ4 → CP cp σ σ' → D.nx σ' H') σ4 H5 c5 (s1.trans s4)
      | rt r => exact fun v σ4 H5 c5 s4 => (g4 : ∀ v σ' H', Conf σ' H' ((v, r) :: pend) ρ4 → CP cp σ σ' → D.rt v H') v σ4 H5 c5 (s1.trans s4)

/-! ### comprehensions -/
def wipeO (ρ : Sl) : List Nat → Sl
  | [] => ρ
  | v :: vs => (wipeO ρ vs).set v none
theorem sI_drop1 : ∀ (σ : St) (ρ : Sl) (i : Nat), ∃ a, (sI σ ρ).Perm (a ++ sI (σ.set i none) (ρ.set i none))
  | [], ρ, i => ⟨[], by simp [sI]⟩
  | a :: σ, [], i => by
    refine ⟨[], ?_⟩
    cases i <;> cases a <;> simp [sI]
  | a :: σ, b :: ρ, 0 => by
    cases a with
    | none => exact ⟨[], .refl _⟩
    | some a =>
      cases b with
      | none => exact ⟨[], .refl _⟩
      | some b => exact ⟨[(a, b)], .refl _⟩
  | a :: σ, b :: ρ, i + 1 => by
    obtain ⟨x, hx⟩ := sI_drop1 σ ρ i
    cases a with
    | none => exact ⟨x, hx⟩
    | some a =>
      cases b with
      | none => exact ⟨x, hx⟩
      | some b => exact ⟨x, (hx.cons (a, b)).trans List.perm_middle.symm⟩
theorem Conf.wipe {H : Hp} {pend : List (V × O)} : ∀ {vs : List Nat} {σ : St} {ρ : Sl}, Conf σ H pend ρ → Conf (L2.wipe σ vs) H pend (wipeO ρ vs)
  | [], _, _, c => c
  | v :: vs, σ, ρ, c => by
    have c1 := Conf.wipe (vs := vs) c
    show Conf ((L2.wipe σ vs).set v none) H pend ((wipeO ρ vs).set v none)
    obtain ⟨a, ha⟩ := sI_drop1 (L2.wipe σ vs) (wipeO ρ vs) v
    refine ⟨⟨by rw [List.length_set, List.length_set, c1.sh.len], fun j o e => ?_⟩, ?_⟩
    · by_cases hj : v = j
      · subst hj
        have hl := (List.getElem?_eq_some_iff.mp e).1
        rw [List.length_set] at hl
        rw [List.getElem?_set_self hl] at e
        cases e
      · rw [List.getElem?_set_ne hj] at e ⊢
        exact c1.sh.has j o e
    · have := c1.ci.perm (ha.append_right pend)
      rw [List.append_assoc] at this
      exact this.drop
theorem sI_more : ∀ {σ τ : St} {ρ : Sl}, Sh σ ρ → σ.length = τ.length → (∀ (i : Nat) (v : V), σ[i]? = some (some v) → τ[i]? = some (some v)) → sI τ ρ = sI σ ρ
  | [], [], ρ, _, _, _ => rfl
  | [], _ :: _, _, _, h, _ => by simp at h
  | _ :: _, [], _, _, h, _ => by simp at h
  | a :: σ, b :: τ, [], h, _, _ => by
    have := h.len
    simp at this
  | a :: σ, b :: τ, c :: ρ, h, hl, k => by
    have ih := sI_more (σ := σ) (τ := τ) (ρ := ρ) h.tail (by simpa using hl) fun i v e => by simpa using k (i + 1) v (by simpa using e)
    cases c with
    | none => cases a <;> cases b <;> exact ih
    | some c =>
      obtain ⟨v, hv⟩ := h.has 0 c rfl
      have hb := k 0 v hv
      simp at hv hb
      subst hv hb
      show (v, c) :: sI τ ρ = (v, c) :: sI σ ρ
      rw [ih]
theorem Conf.unwipe {σ : St} {H : Hp} {pend : List (V × O)} {ρ : Sl} {vs : List Nat} (c : Conf (L2.wipe σ vs) H pend ρ) : Conf σ H pend ρ := by
  refine ⟨⟨by rw [← c.sh.len, wipe_length], fun i o e => ?_⟩, ?_⟩
  · obtain ⟨v, hv⟩ := c.sh.has i o e
    exact ⟨v, (wipe_some hv).1⟩
  · rw [sI_more c.sh (by rw [wipe_length]) fun i v e => (wipe_some e).1]
    exact c.ci
theorem wipe_wipe (σ : St) (vs : List Nat) : L2.wipe (L2.wipe σ vs) vs = L2.wipe σ vs := by
  have key : ∀ (us : List Nat) (τ : St), (∀ i ∈ us, ∀ v : V, τ[i]? ≠ some (some v)) → L2.wipe τ us = τ := by
    intro us
    induction us with
    | nil => intro τ _; rfl
    | cons a us ih =>
      intro τ h
      show (L2.wipe τ us).set a none = τ
      rw [ih τ fun i hi => h i (List.mem_cons_of_mem _ hi)]
      cases e : τ[a]? with
      | none =>
        apply List.ext_getElem?
        intro j
        by_cases hj : a = j
        · subst hj
          rw [e, List.getElem?_set]
          have := List.getElem?_eq_none_iff.mp e
          simp; omega
        · rw [List.getElem?_set_ne hj]
      | some z =>
        cases z with
        | none => exact set_self e
        | some v => exact absurd e (h a List.mem_cons_self v)
  exact key vs _ fun i hi v e => (wipe_some e).2 hi
def mWipe (vs : List Nat) : M Unit := fun ρ => .ok () (wipeO ρ vs)
def mComps (vs : List Nat) (t : O → M Unit) (c : M Bool) (e : M O) : List D → List O → M (List O)
  | [], acc => ret acc
  | d :: ds, acc => bnd (t (.val d)) fun _ => bnd c fun x => if x = true then bnd e fun o => bnd (mWipe vs) fun _ => mComps vs t c e ds (acc ++ [o]) else bnd (mWipe vs) fun _ => mComps vs t c e ds acc
def noEx {α : Type} (m : M α) : M α := fun ρ => match m ρ with
  | .ex _ _ => .fail
  | r => r
theorem go_noEx {α : Type} {m : M α} {ρ : Sl} {k : α → Sl → Prop} {b : Ex → Sl → Prop} (h : (noEx m ρ).go k b) : (m ρ).go k (fun _ _ => False) := by
  unfold noEx at h
  cases e : m ρ with
  | ok a ρ' => rw [e] at h; exact h
  | ex x ρ' => rw [e] at h; exact h
  | fail => rw [e] at h; exact h
def mComp (vs : List Nat) (i : M (List D)) (t : O → M Unit) (c : M Bool) (e : M O) : M O := bnd i fun ds => if ds.length ≤ 1000000 then noEx (bnd (mWipe vs) fun _ => bnd (mComps vs t c e ds []) fun os => ret (.lst os)) else stop
theorem big : 1000000 < sizeLine := by decide
theorem lc_of {σ : St} {H : Hp} {Q : VK} {vs : List Nat} {mi : M (List D)} {t : O → M Unit} {mc : M Bool} {me : M O} (h : tE B (mComp vs mi t mc me) σ H Q) : tLc (tI B mi) (tGr B0 (srW vs) t) (tT B0 mc) (tE B0 me) vs σ H Q := by
  obtain ⟨pend, ρ, c, g⟩ := h
  refine ⟨pend, ρ, c, Out.go_mono (go_bnd.mp g) (fun ds ρ1 _ g1 J H1 src wk c1 => ?_) fun x ρ1 _ g1 => g1⟩
  intro p hp
  by_cases hz : ds.length ≤ 1000000
  · rw [if_pos hz] at g1
    have g2 := go_noEx g1
    have c2 : Conf (wipe σ vs) H1 (src ++ pend) (wipeO ρ1 vs) := c1.wipe
    have c3 : Conf (wipe σ vs) (upd H1 p (.lst [])) ((.ref p, .lst []) :: (src ++ pend)) (wipeO ρ1 vs) := .back1 c2.sh (CG.newL (its := []) c2.ci hp (by simp))
    refine ⟨fun i n H' => n = ds.length - i ∧ i ≤ ds.length ∧ ∃ ρ' acc, Conf (wipe σ vs) H' ((.ref p, .lst acc) :: (src ++ pend)) ρ' ∧ acc.length ≤ i ∧
      (mComps vs t mc me (ds.drop i) acc ρ').go (fun os ρ'' => ∀ v H'', Conf σ H'' ((v, .lst os) :: pend) ρ'' → Q v H'') (fun _ _ => False), ⟨ds.length, rfl, Nat.zero_le _, _, [], c3, Nat.le_refl _, ?_⟩, ?_⟩
    · have g3 := go_bnd.mp g2
      exact Out.go_mono (go_bnd.mp g3) (fun os ρ2 _ g4 => g4) fun _ _ _ z => z
    rintro i n H2 ⟨rfl, hi, ρ2, acc, c4, ha, g4⟩
    have c4' : CI H2 (src ++ ((.ref p, .lst acc) :: (sI (wipe σ vs) ρ2 ++ pend))) := (Conf.out (pre := (.ref p, .lst acc) :: src) c4).perm List.perm_middle.symm
    by_cases hl : i < ds.length
    · right
      obtain ⟨d, hd, he⟩ := drop_eq hl
      rw [he] at g4
      refine ⟨wk.go i H2 _ hl c4', fun H' => ∃ ρ' acc, Conf (wipe σ vs) H' ((.ref p, .lst acc) :: (src ++ pend)) ρ' ∧ acc.length ≤ i + 1 ∧
        (mComps vs t mc me (ds.drop (i + 1)) acc ρ').go (fun os ρ'' => ∀ v H'', Conf σ H'' ((v, .lst os) :: pend) ρ'' → Q v H'') (fun _ _ => False), fun H' q => ⟨ds.length - (i + 1), by omega, rfl, hl, q⟩, fun x H3 y => ?_⟩
      have y1 := wk.yld i H2 _ x H3 d hd c4' y
      have c5 : Conf (wipe σ vs) H3 ((x, .val d) :: (.ref p, .lst acc) :: (src ++ pend)) ρ2 := .back (pre := (x, .val d) :: (.ref p, .lst acc) :: src) c4.sh (y1.perm (List.perm_middle.cons _))
      refine ⟨_, ρ2, .val d, c5, Out.go_mono (go_bnd.mp g4) (fun _ ρ3 _ g5 σ3 H4 c6 s3 => ?_) fun _ _ _ z => z.elim⟩
      refine ⟨s3.trans (show wipe (wipe σ vs) vs = wipe σ vs from wipe_wipe σ vs), _, ρ3, c6, Out.go_mono (go_bnd.mp g5) (fun b ρ4 _ g6 H5 c7 => ?_) fun _ _ _ z => z.elim⟩
      have sw : wipe σ3 vs = wipe σ vs := s3.trans (wipe_wipe σ vs)
      cases b with
      | false =>
        rw [if_neg (by decide)] at g6
        refine iteF ?_
        have c8 : Conf (wipe σ3 vs) H5 ((.ref p, .lst acc) :: (src ++ pend)) (wipeO ρ4 vs) := c7.wipe
        rw [sw] at c8
        exact ⟨_, acc, c8, by omega, g6⟩
      | true =>
        rw [if_pos rfl] at g6
        refine iteT ?_
        refine ⟨_, ρ4, c7, Out.go_mono (go_bnd.mp g6) (fun o ρ5 _ g7 v H6 c8 => ?_) fun _ _ _ z => z.elim⟩
        have c9 : Conf (wipe σ3 vs) H6 ((v, o) :: (.ref p, .lst acc) :: (src ++ pend)) (wipeO ρ5 vs) := c8.wipe
        rw [sw] at c9
        have o1 : CI H6 ((.ref p, .lst acc) :: (v, o) :: (src ++ (sI (wipe σ vs) (wipeO ρ5 vs) ++ pend))) := (Conf.out (pre := (v, o) :: (.ref p, .lst acc) :: src) c9).perm (.swap ..)
        obtain ⟨q, its, e1, e2, e3, hr, o2⟩ := o1.open'
        cases e1
        have o3 : CG [p] H6 ((its ++ [(v, o)]) ++ (src ++ (sI (wipe σ vs) (wipeO ρ5 vs) ++ pend))) := by
          rw [List.append_assoc]
          exact o2
        have o4 := o3.closeW
        rw [List.map_append, List.map_append] at o4
        have hlen : (its.map (·.1)).length = acc.length := by rw [e2, List.length_map, List.length_map]
        refine ⟨its.map (·.1), e3, by have := big; omega, _, acc ++ [o], .back (pre := (.ref p, .lst (acc ++ [o])) :: src) c9.sh ?_, by rw [List.length_append]; simp; omega, g7⟩
        rw [e2]
        exact o4
    · left
      have e : i = ds.length := by omega
      subst e
      rw [List.drop_length] at g4
      refine ⟨wk.stop H2 _ c4', (g4 : ∀ v H'', Conf σ H'' ((v, .lst acc) :: pend) ρ2 → Q v H'') _ _ ?_⟩
      have c5 : Conf (wipe σ vs) H2 ((.ref p, .lst acc) :: pend) ρ2 := .back1 c4.sh (CG.mid (a := [_]) (Conf.out (pre := (.ref p, .lst acc) :: src) c4))
      exact c5.unwipe
  · rw [if_neg hz] at g1
    exact False.elim g1
/-! ### a comprehension over a name's own list -/
def mCompsO (i : Nat) (vs : List Nat) (t : O → M Unit) (c : M Bool) (e : M O) : Nat → Nat → List O → M (List O)
  | 0, _, _ => stop
  | n + 1, k, acc => fun ρ => match ρ[i]? with
    | some (some (.lst l)) => (match l[k]? with
      | none => .ok acc ρ
      | some (.val d) => (bnd (t (.val d)) fun _ => bnd c fun x => if x = true then bnd e fun o => bnd (mWipe vs) fun _ => mCompsO i vs t c e n (k + 1) (acc ++ [o]) else bnd (mWipe vs) fun _ => mCompsO i vs t c e n (k + 1) acc) ρ
      | _ => .fail)
    | _ => .fail
def mCompO (vs : List Nat) (i : Nat) (t : O → M Unit) (c : M Bool) (e : M O) : M O := noEx (bnd (mWipe vs) fun _ => bnd (mCompsO i vs t c e 1000000 0 []) fun os => ret (.lst os))
def isV : O → Bool
  | .val _ => true
  | .lst _ => false
theorem allV (ds : List D) : (ds.map O.val).all isV = true := by
  induction ds with
  | nil => rfl
  | cons d ds ih => rw [List.map_cons, List.all_cons, ih]; rfl
def mCompS (vs : List Nat) (i : Nat) (mi : M (List D)) (t : O → M Unit) (c : M Bool) (e : M O) : M O := fun ρ => match ρ[i]? with
  | some (some (.lst l)) => if l.all isV = true then mCompO vs i t c e ρ else mComp vs mi t c e ρ
  | _ => mComp vs mi t c e ρ
theorem wipe_ne {i : Nat} : ∀ {vs : List Nat} {σ : St}, i ∉ vs → (wipe σ vs)[i]? = σ[i]?
  | [], _, _ => rfl
  | v :: vs, σ, h => by
    show ((wipe σ vs).set v none)[i]? = _
    rw [List.getElem?_set_ne (fun z => h (by rw [z]; exact List.mem_cons_self)), wipe_ne fun z => h (List.mem_cons_of_mem _ z)]
theorem CG.mem0 {R : List Addr} {H : Hp} {v : V} {d : D} {its : List (V × O)} (c : CG R H its) (h : (v, O.val d) ∈ its) : CG R H ((v, .val d) :: its) := by
  obtain ⟨s, t, rfl⟩ := List.append_of_mem h
  exact (c.perm List.perm_middle).dup.perm (List.perm_middle.symm.cons _)
/-- an item of a slot's own list -/
theorem Conf.item {σ : St} {H : Hp} {pend : List (V × O)} {ρ : Sl} {i : Nat} {l : List O} (c : Conf σ H pend ρ) (e : ρ[i]? = some (some (.lst l))) :
    ∃ a xs, σ[i]? = some (some (.ref a)) ∧ H a = some (.lst xs) ∧ xs.length = l.length ∧ ∀ (k : Nat) (d : D) (x : V), l[k]? = some (O.val d) → xs[k]? = some x → Conf σ H ((x, .val d) :: pend) ρ := by
  obtain ⟨v, hv, c1⟩ := c.take e
  obtain ⟨p, its, rfl, rfl, hp, _, c2⟩ := c1.out1.open'
  refine ⟨p, its.map (·.1), hv, hp, by simp, fun k d x hd hx => ?_⟩
  have hm : (x, O.val d) ∈ its := by
    rw [List.getElem?_map] at hd hx
    cases q : its[k]? with
    | none => rw [q] at hx; cases hx
    | some wo =>
      rw [q] at hd hx
      have h1 : wo.2 = O.val d := Option.some.inj hd
      have h2 : wo.1 = x := Option.some.inj hx
      rw [← h1, ← h2]
      exact List.mem_of_getElem? q
  have c3 : CG [p] H (its ++ ((x, .val d) :: (sI σ (ρ.set i none) ++ pend))) := (c2.mem0 (List.mem_append_left _ hm)).perm List.perm_middle.symm
  have c4 : Conf σ H ((.ref p, .lst (its.map (·.2))) :: (x, .val d) :: pend) (ρ.set i none) := .back (pre := [_, _]) c1.sh (c3.close hp)
  have c5 := c4.putS hv
  rw [set_set, set_self e] at c5
  exact c5
theorem lc_ofO {K : PySem.W.Frag} {σ : St} {H : Hp} {Q : VK} {vs : List Nat} {i : Nat} {t : O → M Unit} {mc : M Bool} {me : M O} {pend : List (V × O)} {ρ : Sl} {l0 : List O} {bx : Ex → Sl → Prop} (hi : i ∉ vs) (c : Conf σ H pend ρ) (e0 : ρ[i]? = some (some (.lst l0)))
    (g : (mCompO vs i t mc me ρ).go (fun r ρ' => ∀ v H', Conf σ H' ((v, r) :: pend) ρ' → Q v H') bx) : tLc (iList K (tVar i)) (tGr B0 (srW vs) t) (tT B0 mc) (tE B0 me) vs σ H Q := by
  obtain ⟨a, xs0, ha, hxs0, _, _⟩ := c.item e0
  refine ⟨_, ha, a, rfl, ⟨xs0, .inl (.inl hxs0)⟩, fun p hp => ?_⟩
  have g2 := go_noEx g
  have c2 : Conf (wipe σ vs) H pend (wipeO ρ vs) := c.wipe
  have c3 : Conf (wipe σ vs) (upd H p (.lst [])) ((.ref p, .lst []) :: pend) (wipeO ρ vs) := .back1 c2.sh (CG.newL (its := []) c2.ci hp (by simp))
  refine ⟨fun k n H' => n = 1000000 - k ∧ k ≤ 1000000 ∧ ∃ ρ' acc, Conf (wipe σ vs) H' ((.ref p, .lst acc) :: pend) ρ' ∧ acc.length ≤ k ∧
    (mCompsO i vs t mc me (1000000 - k) k acc ρ').go (fun os ρ'' => ∀ v H'', Conf σ H'' ((v, .lst os) :: pend) ρ'' → Q v H'') (fun _ _ => False), ⟨1000000, rfl, Nat.zero_le _, _, [], c3, Nat.le_refl _, ?_⟩, ?_⟩
  · have g3 := go_bnd.mp g2
    exact Out.go_mono (go_bnd.mp g3) (fun os ρ2 _ g4 => g4) fun _ _ _ z => z
  rintro k n H2 ⟨rfl, hk, ρ2, acc, c4, hacc, g4⟩
  obtain ⟨N, eN⟩ : ∃ N, N = 1000000 - k := ⟨_, rfl⟩
  rw [← eN] at g4
  cases N with
  | zero => exact False.elim g4
  | succ N =>
    rw [mCompsO] at g4
    dsimp only at g4
    split at g4
    · rename_i l e1
      obtain ⟨a', xs, ha', hxs, hxl, hitem⟩ := c4.item e1
      rw [wipe_ne hi, ha] at ha'
      cases ha'
      split at g4
      · rename_i hn
        left
        refine ⟨⟨xs, .inl (.inl hxs), by rw [hxl]; exact List.getElem?_eq_none_iff.mp hn⟩, (g4 : ∀ v H'', Conf σ H'' ((v, .lst acc) :: pend) ρ2 → Q v H'') _ _ ?_⟩
        exact c4.unwipe
      · rename_i d hd
        right
        have hkl : k < xs.length := by
          rw [hxl]
          exact (List.getElem?_eq_some_iff.mp hd).1
        refine ⟨⟨xs, xs[k], .inl (.inl hxs), List.getElem?_eq_getElem hkl⟩, fun H' => ∃ ρ' acc, Conf (wipe σ vs) H' ((.ref p, .lst acc) :: pend) ρ' ∧ acc.length ≤ k + 1 ∧
          (mCompsO i vs t mc me N (k + 1) acc ρ').go (fun os ρ'' => ∀ v H'', Conf σ H'' ((v, .lst os) :: pend) ρ'' → Q v H'') (fun _ _ => False), fun H' q => ⟨1000000 - (k + 1), by omega, rfl, by omega, by rw [show 1000000 - (k + 1) = N by omega]; exact q⟩, fun x H3 y => ?_⟩
        obtain ⟨rfl, y⟩ := y
        have c5 : Conf (wipe σ vs) H3 ((x, .val d) :: (.ref p, .lst acc) :: pend) ρ2 := hitem k d x hd (y xs (.inl (.inl hxs)))
        refine ⟨_, ρ2, .val d, c5, Out.go_mono (go_bnd.mp g4) (fun _ ρ3 _ g5 σ3 H4 c6 s3 => ?_) fun _ _ _ z => z.elim⟩
        refine ⟨s3.trans (show wipe (wipe σ vs) vs = wipe σ vs from wipe_wipe σ vs), _, ρ3, c6, Out.go_mono (go_bnd.mp g5) (fun b ρ4 _ g6 H5 c7 => ?_) fun _ _ _ z => z.elim⟩
        have sw : wipe σ3 vs = wipe σ vs := s3.trans (wipe_wipe σ vs)
        cases b with
        | false =>
          rw [if_neg (by decide)] at g6
          refine iteF ?_
          have c8 : Conf (wipe σ3 vs) H5 ((.ref p, .lst acc) :: pend) (wipeO ρ4 vs) := c7.wipe
          rw [sw] at c8
          exact ⟨_, acc, c8, by omega, g6⟩
        | true =>
          rw [if_pos rfl] at g6
          refine iteT ?_
          refine ⟨_, ρ4, c7, Out.go_mono (go_bnd.mp g6) (fun o ρ5 _ g7 v H6 c8 => ?_) fun _ _ _ z => z.elim⟩
          have c9 : Conf (wipe σ3 vs) H6 ((v, o) :: (.ref p, .lst acc) :: pend) (wipeO ρ5 vs) := c8.wipe
          rw [sw] at c9
          have o1 : CI H6 ((.ref p, .lst acc) :: (v, o) :: (sI (wipe σ vs) (wipeO ρ5 vs) ++ pend)) := (Conf.out (pre := [_, _]) c9).perm (.swap ..)
          obtain ⟨q, its, e1, e2, e3, hr, o2⟩ := o1.open'
          cases e1
          have o3 : CG [p] H6 ((its ++ [(v, o)]) ++ (sI (wipe σ vs) (wipeO ρ5 vs) ++ pend)) := by
            rw [List.append_assoc]
            exact o2
          have o4 := o3.closeW
          rw [List.map_append, List.map_append] at o4
          have hlen : (its.map (·.1)).length = acc.length := by rw [e2, List.length_map, List.length_map]
          refine ⟨its.map (·.1), e3, by have := big; omega, _, acc ++ [o], .back1 c9.sh ?_, by rw [List.length_append]; simp; omega, g7⟩
          rw [e2]
          exact o4
      · exact False.elim g4
    · exact False.elim g4
end
end Dl

namespace Dl
variable [Kc]
open PySem L2

theorem CG.mem {R : List Addr} {H : Hp} {v : V} {d : D} {its : List (V × O)} (c : CG R H its) (h : (v, O.val d) ∈ its) : CG R H ((v, .val d) :: its) := by
  obtain ⟨s, t, rfl⟩ := List.append_of_mem h
  exact (c.perm List.perm_middle).dup.perm (List.perm_middle.symm.cons _)
theorem atI_map {α β : Type} (f : α → β) (l : List α) (i : Int) : atI (l.map f) i = (atI l i).map f := by
  unfold atI
  rw [List.length_map]
  cases ixN l.length i with
  | none => rfl
  | some j => simp
theorem atI_mem {α : Type} {l : List α} {i : Int} {a : α} (h : atI l i = some a) : a ∈ l := by
  unfold atI at h
  cases e : ixN l.length i with
  | none => rw [e] at h; cases h
  | some j => rw [e] at h; exact List.mem_of_getElem? h
theorem atI_zip {vs : List V} {ds : List D} (hl : vs.length = ds.length) {i : Int} {d : D} (h : atI ds i = some d) : ∃ w, atI vs i = some w ∧ (w, O.val d) ∈ vs.zip (ds.map O.val) := by
  have e1 : (vs.zip (ds.map O.val)).map (·.2) = ds.map O.val := zip_snd (by simp [hl])
  have e2 : (vs.zip (ds.map O.val)).map (·.1) = vs := zip_fst (by simp [hl])
  have h1 : atI (ds.map O.val) i = some (.val d) := by rw [atI_map, h]; rfl
  rw [← e1, atI_map] at h1
  cases q : atI (vs.zip (ds.map O.val)) i with
  | none => rw [q] at h1; cases h1
  | some p =>
    rw [q] at h1
    have h2 : p.2 = O.val d := Option.some.inj h1
    refine ⟨p.1, ?_, ?_⟩
    · have h3 : atI ((vs.zip (ds.map O.val)).map (·.1)) i = some p.1 := by rw [atI_map, q]; rfl
      rwa [e2] at h3
    · rw [← h2]; exact atI_mem q

/-! ### x[k] -/
def ixO (o : O) (k : D) : Option D := match o, k with
  | .lst l, .int i => (match atI l i with
    | some (.val d) => some d
    | _ => none)
  | .val (.tup ds), .int i => atI ds i
  | .val (.lst ds), .int i => atI ds i
  | .val (.fl ns), .int i => (atI ns i).map D.int
  | .val (.str x), .int i => if x.length ≤ 1000000 then (atI x.cps.toList i).map fun c => .str ⟨#[c]⟩ else none
  | _, _ => none
theorem le_line {n : Nat} (h : n ≤ 1000000) : n ≤ sizeLine := Nat.le_trans h (Nat.le_of_lt big)
theorem rep_fl {W : Addr → Prop} {H : Hp} {v : V} {ns : List Int} (r : Rep W H v (.fl ns)) : ∃ p, v = .ref p ∧ SqL Kc.k H p (ns.map V.int) := by
  cases r with
  | fl h =>
    rcases h with ⟨_, o, h⟩ | h
    · exact ⟨_, rfl, .inl (.inr ⟨o, h⟩)⟩
    · exact ⟨_, rfl, .inr h⟩
theorem rIx_of {o : O} {k d : D} {H : Hp} {v y : V} {its : List (V × O)} {Q : VK} (h : ixO o k = some d) (c : CI H ((v, o) :: (y, .val k) :: its)) (hQ : ∀ w, CI H ((w, .val d) :: (v, o) :: its) → Q w H) : rIx Kc.k v y H Q := by
  have cy := c.perm (.swap ..)
  have c0 : CI H ((v, o) :: its) := cy.tail
  unfold ixO at h
  split at h
  · rename_i l i
    have ey := cy.int
    obtain ⟨p, its', rfl, rfl, hp, hr, c2⟩ := c0.open'
    split at h
    · rename_i d' hd
      cases h
      rw [atI_map] at hd
      cases q : atI its' i with
      | none => rw [q] at hd; cases hd
      | some wo =>
        rw [q] at hd
        have h2 : wo.2 = O.val d := Option.some.inj hd
        have hm : (wo.1, O.val d) ∈ its' ++ its := by
          rw [← h2]
          exact List.mem_append_left _ (atI_mem q)
        refine .inl ⟨p, its'.map (·.1), i, wo.1, rfl, ey, SqL.of hp, by rw [atI_map, q]; rfl, hQ _ ?_⟩
        have c3 : CG [p] H (its' ++ ((wo.1, .val d) :: its)) := (c2.mem hm).perm List.perm_middle.symm
        exact (c3.close hp).perm (.swap ..)
    · cases h
  · rename_i ds i
    have ey := cy.int
    obtain ⟨p, vs, rfl, hr, hl, c2⟩ := c0.openT
    obtain ⟨w, h1, h2⟩ := atI_zip hl h
    refine .inr (.inl ⟨p, vs, i, w, rfl, ey, sq_t hr, h1, hQ _ ?_⟩)
    exact CG.mid (a := [_]) (c2.mem (List.mem_append_left _ h2))
  · rename_i ds i
    have ey := cy.int
    obtain ⟨p, vs, rfl, hr, hl, c2⟩ := c0.openL
    obtain ⟨w, h1, h2⟩ := atI_zip hl h
    refine .inl ⟨p, vs, i, w, rfl, ey, sq_l hr, h1, hQ _ ?_⟩
    exact CG.mid (a := [_]) (c2.mem (List.mem_append_left _ h2))
  · rename_i ns i
    have ey := cy.int
    obtain ⟨W, r⟩ := c0.rep
    obtain ⟨p, rfl, s⟩ := rep_fl r
    cases q : atI ns i with
    | none => rw [q] at h; cases h
    | some z =>
      rw [q] at h
      cases h
      exact .inl ⟨p, _, i, .int z, rfl, ey, s, by rw [atI_map, q]; rfl, hQ _ (c0.sc rfl)⟩
  · rename_i x i
    have ey := cy.int
    have ev := c0.str
    split at h
    · rename_i hz
      cases q : atI x.cps.toList i with
      | none => rw [q] at h; cases h
      | some a =>
        rw [q] at h
        have h2 : D.str ⟨#[a]⟩ = d := Option.some.inj h
        subst h2
        exact .inr (.inr ⟨x, i, a, ev, ey, le_line hz, q, hQ _ (c0.sc rfl)⟩)
    · cases h
  · cases h
section
variable {X : Cx} {B : Bx} {S : SR} {cp : List Nat}
def ixD (d k : D) : Option O := (ixO (.val d) k).map O.val
theorem op2_ix : Op2 (rIx Kc.k) ixD := fun d e o ho x y H its Q c k => by
  unfold ixD at ho
  cases q : ixO (.val d) e with
  | none => rw [q] at ho; cases ho
  | some r =>
    rw [q] at ho
    cases ho
    exact rIx_of q c fun w c2 => k w H (CG.mid (a := [_]) (m := [_]) c2)
/-- a slot's thing, k known -/
def mIxAt (i : Nat) (k : D) : M O := fun ρ => match ρ[i]? with
  | some (some o) => (match ixO o k with
    | some d => .ok (.val d) ρ
    | none => .fail)
  | _ => .fail
def mHas {α : Type} (i : Nat) (m : M α) : M α := fun ρ => match ρ[i]? with
  | some (some _) => m ρ
  | _ => .fail
def mIxS (i : Nat) (m : M O) : M O := mHas i (bnd m fun k => mIxAt i (frz k))
theorem go_has {α : Type} {i : Nat} {m : M α} {ρ : Sl} {k : α → Sl → Prop} {b : Ex → Sl → Prop} (h : (mHas i m ρ).go k b) : (∃ o, ρ[i]? = some (some o)) ∧ (m ρ).go k b := by
  unfold mHas at h
  split at h
  · rename_i o e
    exact ⟨⟨o, e⟩, h⟩
  · exact False.elim h
theorem de_ixS {e a b : Expr} {i : Nat} {m : M O} (hK : X.K = Kc.k) (ha : PE X a (tVar i)) (hb : DE X B b m) (he : ∀ {ta tb : TE}, PE X a ta → PE X b tb → PE X e (tOp (rIx X.K) ta tb)) : DE X B e (mIxS i m) := by
  refine (he ha hb).imp fun σ H Q ⟨pend, ρ, c, g⟩ => ?_
  rw [hK]
  obtain ⟨⟨o0, e0⟩, g⟩ := go_has g
  obtain ⟨v, hv⟩ := c.sh.has i o0 e0
  refine ⟨v, hv, tE_bnd c g fun k ρ1 y H1 c1 g1 => ?_⟩
  unfold mIxAt at g1
  split at g1
  · rename_i o e1
    split at g1
    · rename_i d hd
      obtain ⟨v', hv', c2⟩ := c1.frz.take e1
      rw [hv] at hv'
      cases hv'
      refine rIx_of hd (Conf.out (pre := [_, _]) c2) fun w c3 => g1 w H1 ?_
      have c4 : Conf σ H1 ((v, o) :: (w, .val d) :: pend) (ρ1.set i none) := .back (pre := [_, _]) c2.sh (c3.perm (.swap ..))
      have c5 := c4.putS hv
      rw [set_set, set_self e1] at c5
      exact c5
    · exact False.elim g1
  · exact False.elim g1

/-! ### x.append(e) -/
def mAppAt (i : Nat) (o : O) : M O := fun ρ => match ρ[i]? with
  | some (some (.lst l)) => if l.length < 1000000 then .ok (.val .non) (ρ.set i (some (.lst (l ++ [o])))) else .fail
  | _ => .fail
def mHasL {α : Type} (i : Nat) (m : M α) : M α := fun ρ => match ρ[i]? with
  | some (some (.lst _)) => m ρ
  | _ => .fail
def mApp (i : Nat) (m : M O) : M O := mHasL i (bnd m fun o => mAppAt i o)
theorem go_hasL {α : Type} {i : Nat} {m : M α} {ρ : Sl} {k : α → Sl → Prop} {b : Ex → Sl → Prop} (h : (mHasL i m ρ).go k b) : (∃ l, ρ[i]? = some (some (.lst l))) ∧ (m ρ).go k b := by
  unfold mHasL at h
  split at h
  · rename_i o e
    exact ⟨⟨o, e⟩, h⟩
  · exact False.elim h
theorem de_app {e a b : Expr} {i : Nat} {m : M O} (ha : PE X a (tVar i)) (hb : DE X B b m) (he : ∀ {ta tb : TE}, PE X a ta → PE X b tb → PE X e (tBM X.K "list" rAppend ta (tCons tb tNil))) : DE X B e (mApp i m) := by
  refine (he ha hb).imp fun σ H Q ⟨pend, ρ, c, g⟩ => ?_
  obtain ⟨⟨l0, e0⟩, g⟩ := go_hasL g
  obtain ⟨v, hv, c0⟩ := c.take e0
  obtain ⟨p, its, rfl, _, hp, _, _⟩ := c0.out1.open'
  refine ⟨_, hv, .inl ⟨rfl, _, SqL.of hp⟩, tE_bnd c g fun o ρ1 y H1 c1 g1 => ?_⟩
  unfold mAppAt at g1
  split at g1
  · rename_i l e1
    split at g1
    · rename_i hz
      obtain ⟨v', hv', c2⟩ := c1.take e1
      rw [hv] at hv'
      cases hv'
      obtain ⟨q, its2, e2, e3, hq, _, c3⟩ := (Conf.out (pre := [_, _]) c2).open'
      cases e2
      refine ⟨p, its2.map (·.1), y, rfl, rfl, hq, by rw [e3, List.length_map] at hz; rw [List.length_map]; have := big; omega, g1 _ _ ?_⟩
      have c4 : CG [p] H1 ((its2 ++ [(y, o)]) ++ (sI σ (ρ1.set i none) ++ pend)) := by
        rw [List.append_assoc]
        exact c3
      have c5 := c4.closeW
      rw [List.map_append, List.map_append, ← e3] at c5
      have c6 : Conf σ (upd H1 p (.lst (its2.map (·.1) ++ [y]))) ((.ref p, .lst (l ++ [o])) :: pend) (ρ1.set i none) := .back1 c2.sh c5
      have c7 := c6.putS hv
      rw [set_set] at c7
      exact c7.sc rfl
    · exact False.elim g1
  · exact False.elim g1

/-! ### x[k] = v -/
def mPutAt (i : Nat) (k : D) (o : O) : M Unit := fun ρ => match ρ[i]?, k with
  | some (some (.lst l)), .int z => (match ixN l.length z with
    | some n => .ok () (ρ.set i (some (.lst (l.set n o))))
    | none => .fail)
  | _, _ => .fail
def mPut (i : Nat) (m : M O) (o : O) : M Unit := mHas i (bnd m fun k => mPutAt i (frz k) o)
theorem put_of {σ : St} {H : Hp} {y v : V} {k : D} {o : O} {pend : List (V × O)} {ρ : Sl} {i : Nat} {w : V} {Q : Hp → Prop} {f : Unit → Sl → Prop} {b : Ex → Sl → Prop} (hv : σ[i]? = some (some w)) (c : Conf σ H ((y, .val k) :: (v, o) :: pend) ρ) (g : (mPutAt i k o ρ).go f b)
    (hQ : ∀ H' ρ', Conf σ H' pend ρ' → f () ρ' → Q H') : rSetL w y v H Q := by
  unfold mPutAt at g
  split at g
  · rename_i l z e1
    split at g
    · rename_i n hn
      have ey := c.out1.int
      obtain ⟨v', hv', c2⟩ := c.take e1
      rw [hv] at hv'
      cases hv'
      obtain ⟨p, its, rfl, e3, hq, _, c3⟩ := (Conf.out (pre := [_, _, _]) c2).open'
      have hlen : (its.map (·.1)).length = l.length := by rw [e3, List.length_map, List.length_map]
      refine ⟨p, its.map (·.1), z, n, rfl, ey, hq, by rw [hlen]; exact hn, hQ _ _ ?_ g⟩
      have hlt : n < its.length := by
        have := (ixN_seq hn).2.1
        rw [e3, List.length_map] at this
        exact this
      have c4 : CG [p] H (its.set n (v, o) ++ (sI σ (ρ.set i none) ++ pend)) := by
        have c5 : CG [p] H (its ++ ((v, o) :: (sI σ (ρ.set i none) ++ pend))) := CG.mid (m := [_]) c3
        have c6 : CG [p] H ((v, o) :: (its ++ (sI σ (ρ.set i none) ++ pend))) := c5.perm List.perm_middle
        obtain ⟨s, t, x, h1, h2⟩ : ∃ s t x, its = s ++ x :: t ∧ its.set n (v, o) = s ++ (v, o) :: t := by
          obtain ⟨x, _, hx⟩ := drop_eq hlt
          refine ⟨its.take n, its.drop (n + 1), x, ?_, ?_⟩
          · rw [← hx, List.take_append_drop]
          · rw [List.set_eq_take_append_cons_drop, if_pos hlt]
        rw [h2]
        rw [h1, List.append_assoc] at c6
        have c7 : CG [p] H (((v, o) :: s) ++ (t ++ (sI σ (ρ.set i none) ++ pend))) := CG.mid (a := (v, o) :: s) (m := [x]) c6
        rw [List.append_assoc]
        exact c7.perm List.perm_middle.symm
      have c5 := c4.closeW
      rw [List.map_set, List.map_set, ← e3] at c5
      have c6 : Conf σ (upd H p (.lst ((its.map (·.1)).set n v))) ((.ref p, .lst (l.set n o)) :: pend) (ρ.set i none) := .back1 c2.sh c5
      have c7 := c6.putS hv
      rwa [set_set] at c7
    · exact False.elim g
  · exact False.elim g
theorem dg_put {e a b : Expr} {i : Nat} {m : M O} (ha : PE X a (tVar i)) (hb : DE X B b m) (he : ∀ {ta tb : TE}, PE X a ta → PE X b tb → PG X e (gSub ta tb rSetL)) : DG X B S e (mPut i m) := by
  refine (he ha hb).imp fun v σ H Q ⟨pend, ρ, o, c, g⟩ => ?_
  obtain ⟨⟨o0, e0⟩, g⟩ := go_has g
  obtain ⟨w, hw⟩ := c.sh.has i o0 e0
  refine ⟨w, hw, ⟨(v, o) :: pend, ρ, c, Out.go_mono (go_bnd.mp g) (fun k ρ1 _ g1 y H1 c1 => ?_) fun x ρ1 _ g1 => B.mono _ _ _ _ _ (g1 σ (S.refl σ))⟩⟩
  exact put_of hw c1.frz g1 fun H' ρ' c2 g2 => g2 σ H' c2 (S.refl σ)

/-! ### calls -/
inductive FOut where
  | ok (r : O) (outs : List O)
  | ex (x : Ex) (outs : List O)
  | fail
abbrev FM := List O → FOut
inductive Ag where
  | sl (i : Nat)
  | ev (m : M O)
def mTake (i : Nat) : M (O × Option Nat) := fun ρ => match ρ[i]? with
  | some (some (.val d)) => .ok (.val d, none) ρ
  | some (some (.lst l)) => .ok (.lst l, some i) (ρ.set i none)
  | _ => .fail
def mArgs : List Ag → M (List (O × Option Nat))
  | [] => ret []
  | .sl i :: as => mHas i (bnd (mArgs as) fun rs => bnd (mTake i) fun r => ret (r :: rs))
  | .ev m :: as => bnd m fun o => bnd (mArgs as) fun rs => ret ((o, none) :: rs)
def Ln1 (σ : St) (v : V) (r : O × Option Nat) : Prop := ∀ i, r.2 = some i → σ[i]? = some (some v)
inductive Ln (σ : St) : List V → List (O × Option Nat) → Prop
  | nil : Ln σ [] []
  | cons {v : V} {vs : List V} {r : O × Option Nat} {rs : List (O × Option Nat)} : Ln1 σ v r → Ln σ vs rs → Ln σ (v :: vs) (r :: rs)
theorem Ln.len {σ : St} : ∀ {vs : List V} {rs : List (O × Option Nat)}, Ln σ vs rs → vs.length = rs.length
  | _, _, .nil => rfl
  | _, _, .cons _ h => by rw [List.length_cons, List.length_cons, h.len]
def tAg (B : Bx) (m : M (List (O × Option Nat))) : TA := fun σ H Q => ∃ pend ρ, Conf σ H pend ρ ∧ (m ρ).go (fun rs ρ' => ∀ vs H', Ln σ vs rs → Conf σ H' (vs.zip (rs.map (·.1)) ++ pend) ρ' → Q vs H') (fun x ρ' => B.p x ρ' pend σ)
theorem dx_nil : PA X [] (tAg B (mArgs [])) := pa_nil.imp fun σ H Q ⟨pend, ρ, c, g⟩ => (g : ∀ vs H', Ln σ vs [] → Conf σ H' (vs.zip [] ++ pend) ρ → Q vs H') [] H .nil c
theorem dx_csl {e : Expr} {es : List Expr} {i : Nat} {as : List Ag} (he : PE X e (tVar i)) (h2 : PA X es (tAg B (mArgs as))) (hs : starEach (e :: es) X.env = (false, eval e X.env) :: starEach es X.env) : PA X (e :: es) (tAg B (mArgs (.sl i :: as))) := by
  refine (pa_cons he h2 hs).imp fun σ H Q ⟨pend, ρ, c, g⟩ => ?_
  obtain ⟨⟨o, eo⟩, g⟩ := go_has g
  obtain ⟨v, hv⟩ := c.sh.has i o eo
  refine ⟨v, hv, pend, ρ, c, Out.go_mono (go_bnd.mp g) (fun rs ρ1 _ g1 vs H1 l1 c1 => ?_) fun _ _ _ z => z⟩
  have g2 := go_bnd.mp g1
  unfold mTake at g2
  split at g2
  · rename_i d ed
    obtain ⟨v', hv', c'⟩ := c1.take ed
    rw [hv] at hv'
    cases hv'
    have c3 : Conf σ H1 ((v, .val d) :: (v, .val d) :: (vs.zip (rs.map (·.1)) ++ pend)) (ρ1.set i none) := .back (pre := [_, _]) c'.sh c'.out1.dup
    have c4 := c3.putS hv
    rw [set_set, set_self ed] at c4
    exact (g2 : ∀ vs' H', Ln σ vs' ((.val d, none) :: rs) → Conf σ H' (vs'.zip (((.val d, none) :: rs).map (·.1)) ++ pend) ρ1 → Q vs' H') (v :: vs) H1 (.cons (fun _ z => nomatch z) l1) c4
  · rename_i l el
    obtain ⟨v', hv', c'⟩ := c1.take el
    rw [hv] at hv'
    cases hv'
    exact (g2 : ∀ vs' H', Ln σ vs' ((.lst l, some i) :: rs) → Conf σ H' (vs'.zip (((.lst l, some i) :: rs).map (·.1)) ++ pend) (ρ1.set i none) → Q vs' H') (v :: vs) H1 (.cons (fun j z => by cases z; exact hv) l1) c'
  · exact False.elim g2
theorem dx_cev {e : Expr} {es : List Expr} {m : M O} {as : List Ag} (h1 : DE X B e m) (h2 : PA X es (tAg B (mArgs as))) (hs : starEach (e :: es) X.env = (false, eval e X.env) :: starEach es X.env) : PA X (e :: es) (tAg B (mArgs (.ev m :: as))) := by
  refine (pa_cons h1 h2 hs).imp fun σ H Q ⟨pend, ρ, c, g⟩ => ?_
  refine ⟨pend, ρ, c, Out.go_mono (go_bnd.mp g) (fun r ρ1 _ g1 v H1 c1 => ?_) fun _ _ _ z => z⟩
  refine ⟨(v, r) :: pend, ρ1, c1, Out.go_mono (go_bnd.mp g1) (fun rs ρ2 _ g2 vs H2 l2 c2 => ?_) fun x ρ2 _ z => B.mono _ _ _ _ _ z⟩
  exact (g2 : ∀ vs H', Ln σ vs ((r, none) :: rs) → Conf σ H' (vs.zip (((r, none) :: rs).map (·.1)) ++ pend) ρ2 → Q vs H') (v :: vs) H2 (.cons (fun _ z => nomatch z) l2) (c2.perm List.perm_middle)
/-- what was lent comes back -/
def giveBack : List (O × Option Nat) → List O → Sl → Sl
  | (_, some i) :: rs, o :: outs, ρ => (giveBack rs outs ρ).set i (some o)
  | (_, none) :: rs, _ :: outs, ρ => giveBack rs outs ρ
  | _, _, ρ => ρ
theorem Conf.given {σ : St} {H : Hp} {pend : List (V × O)} {ρ : Sl} : ∀ {vs : List V} {rs : List (O × Option Nat)} {outs : List O}, Ln σ vs rs → outs.length = rs.length → Conf σ H (vs.zip outs ++ pend) ρ → Conf σ H pend (giveBack rs outs ρ)
  | _, _, [], .nil, _, c => c
  | _, _, _ :: _, .nil, h, _ => by simp at h
  | _, _, [], .cons _ _, h, _ => by simp at h
  | v :: vs, (o0, r) :: rs, o :: outs, .cons l1 l2, h, c => by
    have c1 : Conf σ H (vs.zip outs ++ ((v, o) :: pend)) ρ := c.perm List.perm_middle.symm
    have c2 := Conf.given l2 (by simpa using h) c1
    cases r with
    | none => exact c2.tail
    | some i => exact c2.putS (l1 i rfl)
def mCall (f : FM) (as : List Ag) : M O := bnd (mArgs as) fun rs => fun ρ => match f (rs.map (·.1)) with
  | .ok r outs => .ok r (giveBack rs outs ρ)
  | .ex x outs => .ex x (giveBack rs outs ρ)
  | .fail => .fail
/-- an exception: xh tells of its object -/
abbrev XH := Ex → Value → Option Addr → Hp → List (V × O) → Prop
def XR (xh : XH) (x : Ex) (cls : Value) (d : Option Addr) (H : Hp) (its : List (V × O)) : Prop := ∃ i0, xh x cls d H i0 ∧ CI H (i0 ++ its)
theorem XR.perm {xh : XH} {x : Ex} {cls : Value} {d : Option Addr} {H : Hp} {a b : List (V × O)} (h : XR xh x cls d H a) (p : a.Perm b) : XR xh x cls d H b := by
  obtain ⟨i0, h1, h2⟩ := h
  exact ⟨i0, h1, h2.perm (p.append_left _)⟩
theorem XR.drop {xh : XH} {x : Ex} {cls : Value} {d : Option Addr} {H : Hp} {a b : List (V × O)} (h : XR xh x cls d H (a ++ b)) : XR xh x cls d H b := by
  obtain ⟨i0, h1, h2⟩ := h
  exact ⟨i0, h1, CG.mid h2⟩
def spM (xh : XH) (n : Nat) (f : FM) : Sp := fun vs H Q E => vs.length = n ∧ ∃ pend args, vs.length = args.length ∧ CI H (vs.zip args ++ pend) ∧ match f args with
  | .ok r outs => outs.length = args.length ∧ ∀ v H', CI H' ((v, r) :: (vs.zip outs ++ pend)) → Q v H'
  | .ex x outs => outs.length = args.length ∧ ∀ cls d H', XR xh x cls d H' (vs.zip outs ++ pend) → E cls d H'
  | .fail => False
/-- as FnOk, while no repr is under way -/
structure FnG (P : Program) (w : World) (K : PySem.W.Frag) (mg : Str → Option Value) (base : Heap) (CX : CXT) (k : Nat) (f : Addr) (fd : FuncData) (ps : List Str) (sp : Sp) : Prop where
  len : ∀ vs H Q E, sp vs H Q E → vs.length = ps.length
  run : ∀ (A : Around) (outer : List PySem.Env) (s : Shared) (H : Hp) (args : Args) (us : List Value) (vs : List V) (Q : VK) (E : XK),
    Room k A → A.guards = some [] → Env0 P w K mg base A outer s H → BindsTo s fd args (ps.zip us) → Vals vs us → sp vs H Q E →
    codeAny (model P w) A (.call (.ref f) args) (CR CX outer P w H s Q E) s
/-- what an exception out of a call is wished to be -/
def EB (xh : XH) (B : Bx) (σ : St) : XK := fun cls d H' => ∃ x ρ pend, B.p x ρ pend σ ∧ Sh σ ρ ∧ XR xh x cls d H' (sI σ ρ ++ pend)
theorem run_G {CX : CXT} {k : Nat} {f : Addr} {fd : FuncData} {ps : List Str} {sp : Sp} {E : XK} {pins : List (Addr × Obj)} {σ : St} {H : Hp} {s : Shared} {Q : VK} {us : List Value} {vs : List V}
    (F : FnG X.prog X.w X.K X.mg X.base CX k f fd ps sp) (hr : Room k X.A) (hgd : X.A.guards = some []) (hb : Binds X.K fd ps []) (hx : PassesAt CX X σ E) (I : Inv X pins σ H s) (r : Vals vs us) (h : sp vs H Q E) :
    wpAny (model X.prog X.w) X.A (call (.ref f) us) (EP X pins σ Q) X.xe s := by
  have hl : us.length = ps.length := by
    rw [← r.length]
    exact F.len _ _ _ _ h
  have hbd := hb s us I.kIn (by rw [List.append_nil]; exact hl)
  rw [List.append_nil] at hbd
  have key := F.run X.A X.stack s H ⟨us, []⟩ us vs Q E hr hgd I.env0 hbd r h
  refine wpAny_call (codeAny_mono key fun r s' hq => ?_)
  rcases r with e | fl
  · exact hx pins H s e s' I hq
  · cases fl <;> first
      | exact I.after hq
      | exact False.elim hq
theorem sp_of {xh : XH} {n : Nat} {f : FM} {as : List Ag} {σ : St} {vs : List V} {H : Hp} {Q : VK} {rs : List (O × Option Nat)} {ρ : Sl} {pend : List (V × O)} (hn : rs.length = n) (l : Ln σ vs rs) (c : Conf σ H (vs.zip (rs.map (·.1)) ++ pend) ρ)
    (g : ((match f (rs.map (·.1)) with
      | .ok r outs => .ok r (giveBack rs outs ρ)
      | .ex x outs => .ex x (giveBack rs outs ρ)
      | .fail => .fail : Out O)).go (fun r ρ' => ∀ v H', Conf σ H' ((v, r) :: pend) ρ' → Q v H') (fun x ρ' => B.p x ρ' pend σ)) (ho : ∀ r outs, f (rs.map (·.1)) = .ok r outs → outs.length = rs.length) (hx : ∀ x outs, f (rs.map (·.1)) = .ex x outs → outs.length = rs.length) :
    spM xh n f vs H Q (EB xh B σ) := by
  refine ⟨l.len.trans hn, sI σ ρ ++ pend, rs.map (·.1), by rw [List.length_map]; exact l.len, c.out, ?_⟩
  split at g
  · rename_i r outs e
    have h1 := ho r outs e
    refine ⟨by rw [List.length_map]; exact h1, fun v H' c1 => g v H' ?_⟩
    have c2 : Conf σ H' (vs.zip outs ++ ((v, r) :: pend)) ρ := by
      refine .back c.sh (c1.perm ?_)
      refine (List.perm_middle (l₁ := vs.zip outs)).symm.trans ?_
      exact (List.perm_middle (l₁ := sI σ ρ) (a := (v, r)) (l₂ := pend)).symm.append_left _
    exact Conf.given l h1 c2
  · rename_i x outs e
    have h1 := hx x outs e
    refine ⟨by rw [List.length_map]; exact h1, fun cls d H' ⟨i0, x1, x2⟩ => ?_⟩
    have c2 : Conf σ H' (vs.zip outs ++ (i0 ++ pend)) ρ := by
      refine .back c.sh (x2.perm ?_)
      refine (perm_in i0 (vs.zip outs) _).trans (List.Perm.append_left _ ?_)
      exact perm_in i0 (sI σ ρ) pend
    have c3 := Conf.given l h1 c2
    exact ⟨x, _, pend, g, c3.sh, i0, x1, c3.out⟩
  · exact False.elim g
end
end Dl

namespace Dl
variable [Kc]
open PySem L2 PySem.Spec PyProof.Rows

section
variable {P : Program} {w : World} {K : PySem.W.Frag} {mg : Str → Option Value} {base : Heap} {CX : CXT}
/-- a def by its body, while no repr is under way -/
theorem fnG_of {x qual : Str} {st : Stmt} {f : Addr} {fd : FuncData} {N ps : List Str} {k : Nat} {sp : Sp} (F : Fun K x qual st f fd) (S : FnScope N ps (defScope st)) (len : ∀ vs H Q E, sp vs H Q E → vs.length = ps.length)
    (hb : ∀ (cd : Value), fd.code = cd → ∀ (A : Around) (outer : List PySem.Env) (s : Shared) (H : Hp) (vs : List V) (Q : VK) (E : XK), Room k (A.deeper (envOfC qual (defScope st) s.heap.objs.size f cd)) → A.guards = some [] → sp vs H Q E →
      ∃ t, PSs (cxOf CX P w K mg base N qual (defScope st) f cd A outer s H E) (defBody st) t ∧ t { nx := fun _ H' => Q .non H', rt := Q } (start N vs) H) :
    FnG P w K mg base CX (k + 1) f fd ps sp := by
  obtain ⟨oc, od, kV, doc, pm, an, cd, ct, osl, rfl, lk, hcd⟩ := F.ex
  refine ⟨len, fun A outer s H args us vs Q E hr hgd e0 hbd r hsp => ?_⟩
  have old : ∀ b o, base.get? b = some o → s.heap.get? b = some o := fun b o e => (e0.bs b o e).1
  have kin : K.In s.heap := e0.mod.kin.keeps old
  have lim : s.heap.NoLimit := e0.mod.nolimit.keeps old
  have kinds : ∀ y ∈ ps.zip us, (defScope st).names.lookup y.1 = some .local ∨
      ((defScope st).names.lookup y.1 = some .cell ∧ ((cellsFrom (s.heap.objs.size + 1) (defScope st).names []).lookup y.1).isSome = true) := by
    intro y hy
    rcases S.par y.1 (List.of_mem_zip (a := y.1) (b := y.2) hy).1 with q | q
    · exact Or.inl q
    · exact Or.inr ⟨q, PySem.W.cellsFrom_some _ _ _ (Or.inl q)⟩
  apply codeAny_call_function hr.depth (kin _ _ lk) rfl S.co S.gen rfl (PySem.W.codeRec_of kin hcd)
  apply hbd
  apply wpAny_newFunctionEnv_cells S.kind kinds
  intro env he s1 ic
  subst he
  refine ⟨lim.keeps ic.toInCall.keep, codeAny_func ?_⟩
  obtain ⟨t, ht, hq⟩ := hb cd rfl A outer s H vs Q E (hr.deeper _) hgd hsp
  have I := inv_start (CX := CX) (E := E) S hr.hd e0 (len _ _ _ _ hsp) r ic
  refine wpAny_mono (ht.run [] s1 _ H _ I hq) (fun fl s' hs => ?_) (fun _ _ z => z)
  cases fl with
  | ret u =>
    obtain ⟨v, σ', H', J, rv, q⟩ := hs
    exact ⟨v, H', J.os, J.bare, J.base, J.hok, rv, q⟩
  | next =>
    obtain ⟨σ', H', J, q⟩ := hs
    exact ⟨V.non, H', J.os, J.bare, J.base, J.hok, rfl, q⟩
  | brk =>
    obtain ⟨_, _, _, q⟩ := hs
    exact False.elim q
  | cont =>
    obtain ⟨_, _, _, q⟩ := hs
    exact False.elim q
end

/-! ### what a def does, by data -/
def outsOf : List Bool → List O → Sl → Option (List O)
  | [], [], _ => some []
  | true :: fs, _ :: as, some o :: ρ => (outsOf fs as ρ).map (o :: ·)
  | false :: fs, .val d :: as, _ :: ρ => (outsOf fs as ρ).map (.val d :: ·)
  | _, _, _ => none
theorem outsOf_len : ∀ {fs : List Bool} {as : List O} {ρ : Sl} {outs : List O}, outsOf fs as ρ = some outs → outs.length = as.length
  | [], [], _, _, h => by cases h; rfl
  | [], _ :: _, _, _, h => by simp [outsOf] at h
  | true :: fs, [], _, _, h => by simp [outsOf] at h
  | true :: fs, _ :: as, [], _, h => by simp [outsOf] at h
  | true :: fs, _ :: as, none :: ρ, _, h => by simp [outsOf] at h
  | true :: fs, _ :: as, some o :: ρ, outs, h => by
    rw [outsOf] at h
    cases e : outsOf fs as ρ with
    | none => rw [e] at h; cases h
    | some l => rw [e] at h; cases h; simp [outsOf_len e]
  | false :: fs, [], _, _, h => by simp [outsOf] at h
  | false :: fs, .lst _ :: as, _, _, h => by simp [outsOf] at h
  | false :: fs, .val d :: as, [], _, h => by simp [outsOf] at h
  | false :: fs, .val d :: as, _ :: ρ, outs, h => by
    rw [outsOf] at h
    cases e : outsOf fs as ρ with
    | none => rw [e] at h; cases h
    | some l => rw [e] at h; cases h; simp [outsOf_len e]
/-- the data handed in at names that the def stores anew -/
def kept : List Bool → List V → List O → List (V × O)
  | true :: fs, _ :: vs, _ :: as => kept fs vs as
  | false :: fs, v :: vs, .val d :: as => (v, .val d) :: kept fs vs as
  | _, _, _ => []
theorem CG.keep {R : List Addr} {H : Hp} : ∀ {fs : List Bool} {vs : List V} {as : List O} {b : List (V × O)}, CG R H (vs.zip as ++ b) → CG R H (vs.zip as ++ (kept fs vs as ++ b))
  | [], vs, as, b, c => c
  | true :: fs, [], as, b, c => c
  | true :: fs, v :: vs, [], b, c => c
  | true :: fs, v :: vs, a :: as, b, c => by
    have c1 : CG R H (vs.zip as ++ ((v, a) :: b)) := CG.perm (a := (v, a) :: (vs.zip as ++ b)) c List.perm_middle.symm
    have c2 := CG.keep (fs := fs) c1
    refine c2.perm ?_
    have p1 : (kept fs vs as ++ (v, a) :: b).Perm ((v, a) :: (kept fs vs as ++ b)) := List.perm_middle
    exact (p1.append_left _).trans List.perm_middle
  | false :: fs, [], as, b, c => c
  | false :: fs, v :: vs, [], b, c => c
  | false :: fs, v :: vs, .lst l :: as, b, c => c
  | false :: fs, v :: vs, .val d :: as, b, c => by
    have c0 : CG R H ((v, .val d) :: (v, .val d) :: (vs.zip as ++ b)) := CG.dup c
    have c1 : CG R H (vs.zip as ++ ((v, .val d) :: (v, .val d) :: b)) := c0.perm ((List.perm_middle (l₁ := vs.zip as)).symm.cons _ |>.trans List.perm_middle.symm)
    have c2 := CG.keep (fs := fs) c1
    refine c2.perm ?_
    have p1 : (kept fs vs as ++ (v, .val d) :: (v, .val d) :: b).Perm ((v, .val d) :: (v, .val d) :: (kept fs vs as ++ b)) := List.perm_middle.trans (List.perm_middle.cons _)
    exact (p1.append_left _).trans List.perm_middle
theorem CG.outs {R : List Addr} {H : Hp} : ∀ {fs : List Bool} {vs : List V} {as : List O} {σ : L2.St} {ρ : Sl} {outs : List O} {rest : List (V × O)}, vs.length = as.length → Sh σ ρ →
    (∀ i : Nat, fs[i]? = some true → ∃ v, vs[i]? = some v ∧ σ[i]? = some (some v)) → outsOf fs as ρ = some outs → CG R H (sI σ ρ ++ (kept fs vs as ++ rest)) → CG R H (vs.zip outs ++ rest)
  | [], vs, [], σ, ρ, outs, rest, hl, sh, hk, ho, c => by
    cases ho
    cases vs with
    | nil => exact CG.drop c
    | cons => simp at hl
  | [], _, _ :: _, _, _, _, _, _, _, _, ho, _ => by simp [outsOf] at ho
  | true :: fs, _, [], _, _, _, _, _, _, _, ho, _ => by simp [outsOf] at ho
  | true :: fs, _, _ :: as, _, [], _, _, _, _, _, ho, _ => by simp [outsOf] at ho
  | true :: fs, _, _ :: as, _, none :: ρ, _, _, _, _, _, ho, _ => by simp [outsOf] at ho
  | true :: fs, [], _ :: as, _, some o :: ρ, _, _, hl, _, _, _, _ => by simp at hl
  | true :: fs, v :: vs, a :: as, [], some o :: ρ, _, _, _, sh, _, _, _ => by have := sh.len; simp at this
  | true :: fs, v :: vs, a :: as, s :: σ, some o :: ρ, outs, rest, hl, sh, hk, ho, c => by
    rw [outsOf] at ho
    cases e : outsOf fs as ρ with
    | none => rw [e] at ho; cases ho
    | some l =>
      rw [e] at ho; cases ho
      obtain ⟨v', h1, h2⟩ := hk 0 rfl
      simp at h1 h2
      subst h1 h2
      have c1 : CG R H ((v, o) :: (sI σ ρ ++ (kept fs vs as ++ rest))) := c
      have c2 : CG R H (sI σ ρ ++ (kept fs vs as ++ ((v, o) :: rest))) := by
        refine c1.perm (List.perm_middle.symm.trans ?_)
        exact (List.perm_middle (l₁ := kept fs vs as)).symm.append_left _
      have c3 := CG.outs (fs := fs) (by simpa using hl) sh.tail (fun i hi => by simpa using hk (i + 1) (by simpa using hi)) e c2
      exact c3.perm List.perm_middle
  | false :: fs, _, [], _, _, _, _, _, _, _, ho, _ => by simp [outsOf] at ho
  | false :: fs, _, .lst _ :: as, _, _, _, _, _, _, _, ho, _ => by simp [outsOf] at ho
  | false :: fs, _, .val d :: as, _, [], _, _, _, _, _, ho, _ => by simp [outsOf] at ho
  | false :: fs, [], .val d :: as, _, _ :: ρ, _, _, hl, _, _, _, _ => by simp at hl
  | false :: fs, v :: vs, .val d :: as, [], _ :: ρ, _, _, _, sh, _, _, _ => by have := sh.len; simp at this
  | false :: fs, v :: vs, .val d :: as, s :: σ, q :: ρ, outs, rest, hl, sh, hk, ho, c => by
    rw [outsOf] at ho
    cases e : outsOf fs as ρ with
    | none => rw [e] at ho; cases ho
    | some l =>
      rw [e] at ho; cases ho
      have c1 : CG R H (sI σ ρ ++ (((v, .val d) :: kept fs vs as) ++ rest)) := by
        have c0 : CG R H (sI (s :: σ) (q :: ρ) ++ (((v, .val d) :: kept fs vs as) ++ rest)) := c
        cases s with
        | none => exact c0
        | some s =>
          cases q with
          | none => exact c0
          | some q => exact c0.tail
      have c2 : CG R H (sI σ ρ ++ (kept fs vs as ++ ((v, .val d) :: rest))) := c1.perm ((List.perm_middle (l₁ := kept fs vs as)).symm.append_left _)
      have c3 := CG.outs (fs := fs) (by simpa using hl) sh.tail (fun i hi => by simpa using hk (i + 1) (by simpa using hi)) e c2
      exact c3.perm List.perm_middle
def begin (n : Nat) (args : List O) : Sl := args.map some ++ List.replicate (n - args.length) none
def fOut (fs : List Bool) (args : List O) (r : Out Fl) : FOut := match r with
  | .ok (.rt r) ρ => (match outsOf fs args ρ with
    | some outs => .ok r outs
    | none => .fail)
  | .ok .nx ρ => (match outsOf fs args ρ with
    | some outs => .ok (.val .non) outs
    | none => .fail)
  | .ex x ρ => (match outsOf fs args ρ with
    | some outs => .ex x outs
    | none => .fail)
  | _ => .fail
/-- n names, the parameters first; fs: which parameters are never stored anew -/
def mDef (n : Nat) (fs : List Bool) (m : M Fl) : FM := fun args => fOut fs args (m (begin n args))
theorem sI_begin : ∀ {vs : List V} {args : List O} (n : Nat), vs.length = args.length → sI (vs.map some ++ List.replicate n none) (args.map some ++ List.replicate n none) = vs.zip args
  | [], [], n, _ => by
    induction n with
    | zero => rfl
    | succ n ih => exact ih
  | [], _ :: _, _, h => by simp at h
  | _ :: _, [], _, h => by simp at h
  | v :: vs, a :: as, n, h => by
    have ih := sI_begin (vs := vs) (args := as) n (by simpa using h)
    show (v, a) :: sI (vs.map some ++ List.replicate n none) (as.map some ++ List.replicate n none) = (v, a) :: vs.zip as
    rw [ih]
theorem sh_begin {vs : List V} {args : List O} (n : Nat) (h : vs.length = args.length) : Sh (vs.map some ++ List.replicate n none) (args.map some ++ List.replicate n none) := by
  refine ⟨by simp [h], fun i o e => ?_⟩
  by_cases hi : i < args.length
  · have hv : i < vs.length := by omega
    exact ⟨vs[i], by rw [List.getElem?_append_left (by simpa using hv)]; simp [hv]⟩
  · rw [List.getElem?_append_right (by simpa using hi), List.getElem?_replicate] at e
    split at e <;> cases e
def cpOf (fs : List Bool) : List Nat := (List.range fs.length).filter fun i => fs[i]? == some true
theorem mem_cp {fs : List Bool} {i : Nat} (h : fs[i]? = some true) : i ∈ cpOf fs := by
  have hl := (List.getElem?_eq_some_iff.mp h).1
  exact List.mem_filter.mpr ⟨List.mem_range.mpr hl, by simp [h]⟩
def BE (xh : XH) (E : XK) : Bx := ⟨fun x ρ pend σ => Sh σ ρ → ∀ cls d H', XR xh x cls d H' (sI σ ρ ++ pend) → E cls d H', fun x ρ a q σ h sh cls d H' xr => by
  have := xr.perm (b := [a] ++ (sI σ ρ ++ q)) List.perm_middle
  exact h sh cls d H' this.drop⟩
section
variable {P : Program} {w : World} {K : PySem.W.Frag} {mg : Str → Option Value} {base : Heap} {CX : CXT}
theorem fOut_ok {fs : List Bool} {args : List O} {r : Out Fl} {o : O} {outs : List O} (h : fOut fs args r = .ok o outs) : outs.length = args.length := by
  unfold fOut at h
  split at h
  · split at h
    · rename_i e; cases h; exact outsOf_len e
    · cases h
  · split at h
    · rename_i e; cases h; exact outsOf_len e
    · cases h
  · split at h <;> cases h
  · cases h
theorem fOut_ex {fs : List Bool} {args : List O} {r : Out Fl} {x : Ex} {outs : List O} (h : fOut fs args r = .ex x outs) : outs.length = args.length := by
  unfold fOut at h
  split at h
  · split at h <;> cases h
  · split at h <;> cases h
  · split at h
    · rename_i e; cases h; exact outsOf_len e
    · cases h
  · cases h
/-- the promise's own way in -/
theorem body_of {xh : XH} {N : List Str} {fs : List Bool} {np : Nat} {m : M Fl} {vs : List V} {H : Hp} {Q : VK} {E : XK} (hfs : fs.length = np) (hN : np ≤ N.length) (h : spM xh np (mDef N.length fs m) vs H Q E) :
    tS (BE xh E) (cpOf fs) m { nx := fun _ H' => Q .non H', rt := Q } (start N vs) H := by
  obtain ⟨hn, pend, args, hl, c, g⟩ := h
  have e1 : start N vs = vs.map some ++ List.replicate (N.length - vs.length) none := rfl
  have e2 : begin N.length args = args.map some ++ List.replicate (N.length - vs.length) none := by unfold begin; rw [hl]
  have cf : Conf (start N vs) H (kept fs vs args ++ pend) (begin N.length args) := by
    rw [e1, e2]
    refine ⟨sh_begin _ hl, ?_⟩
    rw [sI_begin _ hl]
    exact c.keep
  have key : ∀ {σ' : L2.St} {ρ' : Sl} {H' : Hp} {outs : List O} {i0 : List (V × O)}, outsOf fs args ρ' = some outs → Conf σ' H' (i0 ++ (kept fs vs args ++ pend)) ρ' → CP (cpOf fs) (start N vs) σ' → CI H' (i0 ++ (vs.zip outs ++ pend)) := by
    intro σ' ρ' H' outs i0 ho c' s'
    have c1 : CI H' (sI σ' ρ' ++ (kept fs vs args ++ (i0 ++ pend))) := c'.ci.perm ((perm_in i0 (kept fs vs args) pend).append_left _)
    have c2 := CG.outs hl c'.sh (fun i hi => ?_) ho c1
    · exact c2.perm (perm_in _ _ _)
    · have hs := s' i (mem_cp hi)
      have hil : i < vs.length := by
        have := (List.getElem?_eq_some_iff.mp hi).1
        omega
      refine ⟨vs[i], by simp [hil], ?_⟩
      rw [hs, e1, List.getElem?_append_left (by simpa using hil)]
      simp [hil]
  refine ⟨_, _, cf, ?_⟩
  unfold mDef at g
  cases r : m (begin N.length args) with
  | fail => rw [r] at g; exact False.elim g
  | ex x ρ' =>
    rw [r] at g
    simp only [fOut] at g
    cases ho : outsOf fs args ρ' with
    | none => rw [ho] at g; exact False.elim g
    | some outs =>
      rw [ho] at g
      intro σ' s' sh cls d H' ⟨i0, x1, x2⟩
      refine g.2 cls d H' ⟨i0, x1, key (i0 := i0) ho ?_ s'⟩
      exact .back sh x2
  | ok f ρ' =>
    rw [r] at g
    cases f with
    | bk => exact False.elim g
    | ct => exact False.elim g
    | nx =>
      simp only [fOut] at g
      cases ho : outsOf fs args ρ' with
      | none => rw [ho] at g; exact False.elim g
      | some outs =>
        rw [ho] at g
        intro σ' H' c' s'
        exact g.2 _ _ ((key (i0 := []) ho c' s').sc rfl)
    | rt o =>
      simp only [fOut] at g
      cases ho : outsOf fs args ρ' with
      | none => rw [ho] at g; exact False.elim g
      | some outs =>
        rw [ho] at g
        intro v σ' H' c' s'
        exact g.2 _ _ (key (i0 := [(v, o)]) ho c' s')
theorem fnG_def {x qual : Str} {st : Stmt} {f : Addr} {fd : FuncData} {N ps : List Str} {k : Nat} {xh : XH} {fs : List Bool} {m : M Fl} (F : Fun K x qual st f fd) (S : FnScope N ps (defScope st)) (hfs : fs.length = ps.length)
    (hb : ∀ (cd : Value), fd.code = cd → ∀ (A : Around) (outer : List PySem.Env) (s : Shared) (H : Hp) (E : XK), Room k (A.deeper (envOfC qual (defScope st) s.heap.objs.size f cd)) → A.guards = some [] →
      DSs (cxOf CX P w K mg base N qual (defScope st) f cd A outer s H E) (BE xh E) (cpOf fs) (defBody st) m) : FnG P w K mg base CX (k + 1) f fd ps (spM xh ps.length (mDef N.length fs m)) := by
  have hN : ps.length ≤ N.length := by
    have := congrArg List.length S.pre
    rw [List.length_take] at this
    omega
  refine fnG_of F S (fun vs H Q E h => h.1) fun cd hcd A outer s H vs Q E hr hg h => ⟨_, hb cd hcd A outer s H E hr hg, body_of hfs hN h⟩
end
section
variable {X : Cx} {B : Bx}
theorem mDef_len {n : Nat} {fs : List Bool} {m : M Fl} {args : List O} : (∀ r outs, mDef n fs m args = .ok r outs → outs.length = args.length) ∧ (∀ x outs, mDef n fs m args = .ex x outs → outs.length = args.length) :=
  ⟨fun r outs h => fOut_ok h, fun x outs h => fOut_ex h⟩
/-- f keeps the number of its arguments -/
def FLen (f : FM) : Prop := ∀ args, (∀ r outs, f args = .ok r outs → outs.length = args.length) ∧ (∀ x outs, f args = .ex x outs → outs.length = args.length)
theorem de_call {CX : CXT} {k : Nat} {f : Addr} {fd : FuncData} {ps : List Str} {xh : XH} {fm : FM} {x : Str} {p pos : Pos} {e : Expr} {es : List Expr} {as : List Ag} (F : FnG X.prog X.w X.K X.mg X.base CX k f fd ps (spM xh ps.length fm)) (hfl : FLen fm)
    (hr : Room k X.A) (hgd : X.A.guards = some []) (hg : Gl X x) (hm : X.mg x = some (.ref f)) (hk : PySem.W.keepIn X.K (.ref f) = true) (hb : Binds X.K fd ps []) (hx : ∀ σ, PassesAt CX X σ (EB xh B σ)) (ha : PA X (e :: es) (tAg B (mArgs as)))
    (hal : as.length = ps.length) (hdb : (x == ("__debug__" : Str)) = false) (he : starEach (e :: es) X.env = (false, eval e X.env) :: starEach es X.env) (hpl : (backTo pos (starEach es X.env)).any (·.1) = false) :
    DE X B (.Call (.Name x p) (e :: es) [] pos) (mCall fm as) := by
  refine ⟨fun pins s σ H Q I ⟨pend, ρ, c, g⟩ => ?_⟩
  refine wpAny_Call_Name_kw (ld_glob I hg hm ?_ hdb)
  have ha2 : tAg B (mArgs as) σ H (fun vs H1 => spM xh ps.length fm vs H1 Q (EB xh B σ)) := by
    refine ⟨pend, ρ, c, Out.go_mono (go_bnd.mp g) (fun rs ρ1 er g1 vs H1 l1 c1 => ?_) fun _ _ _ z => z⟩
    have hrl : rs.length = ps.length := by
      have key : ∀ (as : List Ag) (ρ ρ1 : Sl) (rs : List (O × Option Nat)), mArgs as ρ = .ok rs ρ1 → rs.length = as.length := by
        intro as
        induction as with
        | nil => intro ρ ρ1 rs h; cases h; rfl
        | cons a as ih =>
          intro ρ ρ1 rs h
          cases a with
          | sl i =>
            simp only [mArgs, mHas, bnd, ret] at h
            split at h
            · split at h
              · rename_i rs' ρ3 e3
                split at h
                · cases h
                  simp [ih _ _ _ e3]
                · cases h
                · cases h
              · cases h
              · cases h
            · cases h
          | ev m =>
            simp only [mArgs, bnd, ret] at h
            split at h
            · split at h
              · rename_i rs' ρ3 e3
                cases h
                simp [ih _ _ _ e3]
              · cases h
              · cases h
            · cases h
            · cases h
      rw [key as ρ ρ1 rs er, hal]
    refine sp_of (as := as) hrl l1 c1 g1 (fun r outs h => ?_) (fun x outs h => ?_)
    · have := (hfl _).1 r outs h
      rwa [List.length_map] at this
    · have := (hfl _).2 x outs h
      rwa [List.length_map] at this
  refine PySem.W.callWith_K (h₀ := X.base) I.ok.mod.kin hk (thn (ha.run pos pins s σ H _ I ha2) fun us s1 ⟨vs, H1, I1, r, q⟩ => ⟨I1.kIn, ?_⟩) he hpl
  exact run_G F hr hgd hb (hx σ) I1 r q
end
end Dl

namespace Dl
variable [Kc]
open PySem L2

/-! ### data as the library has it -/
def keyP : Key → PyData
  | .inl i => .int i
  | .inr x => .str x
mutual
def toP : D → PyData
  | .non => .none
  | .bl b => .bool b
  | .int i => .int i
  | .str x => .str x
  | .tup l => .tuple (toPs l)
  | .lst l => .list (toPs l)
  | .dct ks l => .dict ((ks.map keyP).zip (toPs l))
  | .fl _ => .none
  | .obj _ _ _ => .none
def toPs : List D → List PyData
  | [] => []
  | d :: l => toP d :: toPs l
end
theorem toPs_eq : ∀ l : List D, toPs l = l.map toP
  | [] => rfl
  | d :: l => by rw [toPs, List.map_cons, toPs_eq l]
mutual
/-- no dict, no script in it -/
def pl : D → Bool
  | .non | .bl _ | .int _ | .str _ => true
  | .tup l => pls l
  | .lst l => pls l
  | .dct _ _ => false
  | .fl _ => false
  | .obj _ _ _ => false
def pls : List D → Bool
  | [] => true
  | d :: l => pl d && pls l
end
mutual
/-- no script in it -/
def plr : D → Bool
  | .non | .bl _ | .int _ | .str _ => true
  | .tup l => plrs l
  | .lst l => plrs l
  | .dct ks l => plrs l && decide (ks.length = l.length)
  | .fl _ => false
  | .obj _ _ _ => false
def plrs : List D → Bool
  | [] => true
  | d :: l => plr d && plrs l
end
theorem pls_eq : ∀ l : List D, pls l = l.all pl
  | [] => rfl
  | d :: l => by rw [pls, List.all_cons, pls_eq l]
mutual
theorem Rep.dp {K : PySem.W.Frag} {W : Addr → Prop} {H : Hp} : ∀ {v : V} {d : D}, Rep W H v d → pl d = true → Dp K H v (toP d)
  | _, _, .non, _ => by rw [toP]; exact .non
  | _, _, .bl b, _ => by rw [toP]; exact .bl b
  | _, _, .int i, _ => by rw [toP]; exact .int i
  | _, _, .str x, _ => by rw [toP]; exact .str x
  | _, _, .tup _ r q, h => by rw [toP]; exact .tup (sq_t r) (Reps.dp q (by simpa only [pl] using h))
  | _, _, .lst _ r q, h => by rw [toP]; exact .lst (sq_l r) (Reps.dp q (by simpa only [pl] using h))
  | _, _, .dct _ _ _, h => by simp [pl] at h
  | _, _, .fl _, h => by simp [pl] at h
  | _, _, .exc _ _ _ _ _ _ _, h => by simp [pl] at h
  | _, _, .exc0 _ _ _ _, h => by simp [pl] at h
  | _, _, .ins _ _ _ _ _ _ _, h => by simp [pl] at h
theorem Reps.dp {K : PySem.W.Frag} {W : Addr → Prop} {H : Hp} : ∀ {vs : List V} {ds : List D}, Reps W H vs ds → pls ds = true → DpAll K H vs (toPs ds)
  | _, _, .nil, _ => by rw [toPs]; exact .nil
  | _, _, .cons a b, h => by
    rw [pls, Bool.and_eq_true] at h
    rw [toPs]
    exact .cons (Rep.dp a h.1) (Reps.dp b h.2)
end
theorem CG.rep2 {R : List Addr} {H : Hp} {x y : V} {d e : D} {b : List (V × O)} (c : CG R H ((x, .val d) :: (y, .val e) :: b)) : ∃ W, Rep W H x d ∧ Rep W H y e := by
  obtain ⟨fp, q, n, tk⟩ := c
  cases q with
  | cons r s =>
    cases r with
    | val r =>
      cases s with
      | cons r' s' =>
        cases r' with
        | val r' => exact ⟨_, r, r'⟩
/-- an operator that looks at two values alone and gives a scalar -/
def Lk2 (r : R2) (f : D → D → Option D) : Prop := ∀ (d e d' : D), f d e = some d' → ∀ (W : Addr → Prop) (x y v : V) (H : Hp) (Q : VK), Rep W H x d → Rep W H y e → sc d' = some v → Q v H → r x y H Q
def scal1 (f : D → D → Option D) : Prop := ∀ d e d', f d e = some d' → ∃ v, sc d' = some v
theorem Lk2.op {r : R2} {f : D → D → Option D} (h : Lk2 r f) (hs : scal1 f) : Op2 r (fun d e => (f d e).map O.val) := fun d e o ho x y H its Q c k => by
  cases q : f d e with
  | none => simp only [q] at ho; cases ho
  | some d' =>
    simp only [q] at ho
    cases ho
    obtain ⟨v, hv⟩ := hs d e d' q
    obtain ⟨W, r1, r2⟩ := c.rep2
    exact h d e d' q W x y v H Q r1 r2 hv (k v H ((c.tail.tail).sc hv))
theorem Op2.or {r r' : R2} {f g : D → D → Option O} (h : Op2 r f) (h' : Op2 r' g) : Op2 (fun x y H Q => r x y H Q ∨ r' x y H Q) (fun d e => match f d e with
  | some o => some o
  | none => g d e) := fun d e o ho x y H its Q c k => by
  cases q : f d e with
  | none =>
    simp only [q] at ho
    exact .inr (h' d e o ho x y H its Q c k)
  | some o' =>
    simp only [q] at ho
    cases ho
    exact .inl (h d e _ q x y H its Q c k)
theorem Lk2.or {r r' : R2} {f g : D → D → Option D} (h : Lk2 r f) (h' : Lk2 r' g) : Lk2 (fun x y H Q => r x y H Q ∨ r' x y H Q) (fun d e => match f d e with
  | some o => some o
  | none => g d e) := fun d e o ho W x y v H Q r1 r2 hv k => by
  cases q : f d e with
  | none =>
    simp only [q] at ho
    exact .inr (h' d e o ho W x y v H Q r1 r2 hv k)
  | some o' =>
    simp only [q] at ho
    cases ho
    exact .inl (h d e _ q W x y v H Q r1 r2 hv k)
def iiI (p : Int → Int → Bool) (g : Int → Int → Int) (d e : D) : Option D := match d, e with
  | .int i, .int j => if p i j = true then some (.int (g i j)) else none
  | _, _ => none
def iiB (g : Int → Int → Bool) (d e : D) : Option D := match d, e with
  | .int i, .int j => some (.bl (g i j))
  | _, _ => none
theorem iiI_sc (p : Int → Int → Bool) (g : Int → Int → Int) : scal1 (iiI p g) := fun d e d' h => by
  unfold iiI at h
  split at h
  · split at h
    · cases h; exact ⟨_, rfl⟩
    · cases h
  · cases h
theorem iiB_sc (g : Int → Int → Bool) : scal1 (iiB g) := fun d e d' h => by
  unfold iiB at h
  split at h
  · cases h; exact ⟨_, rfl⟩
  · cases h
theorem lk_rI {C : Int → Int → Prop} {p : Int → Int → Bool} {g : Int → Int → Int} (hp : ∀ i j, p i j = true → C i j) : Lk2 (rI C fun i j => .int (g i j)) (iiI p g) := fun d e d' h W x y v H Q r1 r2 hv q => by
  unfold iiI at h
  split at h
  · split at h
    · rename_i c
      cases h; cases r1; cases r2; cases hv
      exact ⟨_, _, rfl, rfl, hp _ _ c, q⟩
    · cases h
  · cases h
theorem lk_rI0 {p : Int → Int → Bool} {g : Int → Int → Int} : Lk2 (rI0 fun i j => .int (g i j)) (iiI p g) := fun d e d' h W x y v H Q r1 r2 hv q => by
  unfold iiI at h
  split at h
  · split at h
    · cases h; cases r1; cases r2; cases hv
      exact ⟨_, _, rfl, rfl, q⟩
    · cases h
  · cases h
theorem lk_rB {g : Int → Int → Bool} : Lk2 (rI0 fun i j => .bl (g i j)) (iiB g) := fun d e d' h W x y v H Q r1 r2 hv q => by
  unfold iiB at h
  split at h
  · cases h; cases r1; cases r2; cases hv
    exact ⟨_, _, rfl, rfl, q⟩
  · cases h
/-- texts -/
def ssS (d e : D) : Option D := match d, e with
  | .str x, .str y => if x.length + y.length ≤ 1000000 then some (.str (x ++ y)) else none
  | _, _ => none
theorem lk_ss : Lk2 (fun x y H Q => ∃ i j, x = .str i ∧ y = .str j ∧ i.length + j.length ≤ sizeLine ∧ Q (.str (i ++ j)) H) ssS := fun d e d' h W x y v H Q r1 r2 hv q => by
  unfold ssS at h
  split at h
  · split at h
    · rename_i c
      cases h; cases r1; cases r2; cases hv
      exact ⟨_, _, rfl, rfl, le_line c, q⟩
    · cases h
  · cases h
theorem ssS_sc : scal1 ssS := fun d e d' h => by
  unfold ssS at h
  split at h
  · split at h
    · cases h; exact ⟨_, rfl⟩
    · cases h
  · cases h
/-- lists, tuples put together -/
def llL (d e : D) : Option O := match d, e with
  | .lst x, .lst y => if x.length + y.length ≤ 1000000 then some (.lst ((x ++ y).map O.val)) else none
  | _, _ => none
theorem zip_app {vs ws : List V} {x y : List D} (h : vs.length = x.length) : vs.zip (x.map O.val) ++ ws.zip (y.map O.val) = (vs ++ ws).zip ((x ++ y).map O.val) := by
  rw [List.map_append, List.zip_append (by simpa using h)]
theorem op_ll : Op2 rCat llL := fun d e o ho x y H its Q c k => by
  unfold llL at ho
  split at ho
  · rename_i xs ys
    split at ho
    · rename_i hz
      cases ho
      obtain ⟨p, vs, rfl, hp, hl, c2⟩ := c.openL
      have c3 : CI H ((y, .val (.lst ys)) :: (vs.zip (xs.map O.val) ++ its)) := (CG.mid (m := [_]) c2).perm List.perm_middle
      obtain ⟨q, ws, rfl, hq, hl2, c4⟩ := c3.openL
      have c5 : CI H (ws.zip (ys.map O.val) ++ (vs.zip (xs.map O.val) ++ its)) := CG.mid (m := [_]) c4
      have c6 : CI H ((vs ++ ws).zip ((xs ++ ys).map O.val) ++ its) := by
        rw [← zip_app hl, List.append_assoc]
        exact c5.perm (perm_in _ _ _)
      refine ⟨p, q, vs, ws, rfl, rfl, hp, hq, by rw [hl, hl2]; exact le_line hz, fun a ha => k _ _ ?_⟩
      have c7 := c6.newL ha (by simp)
      rw [zip_fst (by simp [hl, hl2]), zip_snd (by simp [hl, hl2])] at c7
      exact c7
    · cases ho
  · cases ho
def ttT (d e : D) : Option O := match d, e with
  | .tup x, .tup y => if x.length + y.length ≤ 1000000 then some (.val (.tup (x ++ y))) else none
  | _, _ => none
theorem op_tt {K : PySem.W.Frag} : Op2 (rCatA K) ttT := fun d e o ho x y H its Q c k => by
  unfold ttT at ho
  split at ho
  · rename_i xs ys
    split at ho
    · rename_i hz
      cases ho
      obtain ⟨p, vs, rfl, hp, hl, c2⟩ := c.openT
      have c3 : CI H ((y, .val (.tup ys)) :: (vs.zip (xs.map O.val) ++ ((.ref p, .val (.tup xs)) :: its))) := by
        refine c2.perm ?_
        have := List.perm_middle (l₁ := vs.zip (xs.map O.val) ++ [(V.ref p, O.val (.tup xs))]) (a := (y, O.val (.tup ys))) (l₂ := its)
        simpa using this
      obtain ⟨q, ws, rfl, hq, hl2, c4⟩ := c3.openT
      refine ⟨p, q, vs, ws, rfl, rfl, sq_t hp, sq_t hq, by rw [hl, hl2]; exact le_line hz, fun e1 => ?_, fun _ e2 => ?_, fun _ _ a ha => ?_⟩
      · have : xs = [] := List.length_eq_zero_iff.mp (by rw [← hl, e1]; rfl)
        subst this
        subst e1
        refine k _ _ ?_
        have c5 : CI H (ws.zip (ys.map O.val) ++ ((.ref q, .val (.tup ys)) :: (.ref p, .val (.tup [])) :: its)) := c4
        exact (CG.mid (a := [_]) (m := [_]) c5.drop)
      · have : ys = [] := List.length_eq_zero_iff.mp (by rw [← hl2, e2]; rfl)
        subst this
        rw [List.append_nil] at k
        exact k _ _ c4.drop.tail.drop
      · have c5 : CI H ((vs ++ ws).zip ((xs ++ ys).map O.val) ++ its) := by
          rw [← zip_app hl, List.append_assoc]
          have c6 : CI H (ws.zip (ys.map O.val) ++ (vs.zip (xs.map O.val) ++ its)) := by
            have c7 := CG.mid (m := [_]) c4
            have c8 : CI H ((ws.zip (ys.map O.val) ++ vs.zip (xs.map O.val)) ++ ([(V.ref p, O.val (.tup xs))] ++ its)) := by
              rw [List.append_assoc]
              exact c7
            have c9 := CG.mid c8
            rwa [List.append_assoc] at c9
          exact c6.perm (perm_in _ _ _)
        exact k _ _ (c5.newT (by simp [hl, hl2]) ha (by simp))
    · cases ho
  · cases ho
/-- a list times a number -/
def lnL (d e : D) : Option O := match d, e with
  | .lst x, .int k => if -1000000 ≤ k ∧ k ≤ 1000000 ∧ x.length * k.toNat ≤ 1000000 then some (.lst ((List.replicate k.toNat x).flatten.map O.val)) else none
  | _, _ => none
theorem zip_rep {vs : List V} {x : List D} (h : vs.length = x.length) : ∀ n : Nat, (List.replicate n vs).flatten.zip ((List.replicate n x).flatten.map O.val) = (List.replicate n (vs.zip (x.map O.val))).flatten
  | 0 => rfl
  | n + 1 => by
    rw [List.replicate_succ, List.flatten_cons, List.replicate_succ, List.flatten_cons, List.replicate_succ, List.flatten_cons, List.map_append, List.zip_append (by simpa using h), zip_rep h n]
theorem CG.many {R : List Addr} {H : Hp} {vs : List V} {x : List D} {its : List (V × O)} (c : CG R H (vs.zip (x.map O.val) ++ its)) : ∀ n : Nat, CG R H ((List.replicate n (vs.zip (x.map O.val))).flatten ++ (vs.zip (x.map O.val) ++ its))
  | 0 => c
  | n + 1 => by
    have ih := CG.many c n
    have key : ∀ (l b : List (V × O)), (∀ p ∈ l, ∃ d, p.2 = O.val d) → (∀ p ∈ l, p ∈ b) → CG R H b → CG R H (l ++ b) := by
      intro l
      induction l with
      | nil => intro b _ _ h; exact h
      | cons p l ih =>
        intro b hv hm h
        obtain ⟨d, hd⟩ := hv p List.mem_cons_self
        have h2 := ih b (fun q hq => hv q (List.mem_cons_of_mem _ hq)) (fun q hq => hm q (List.mem_cons_of_mem _ hq)) h
        obtain ⟨v, o⟩ := p
        simp only at hd
        subst hd
        exact h2.mem (List.mem_append_right _ (hm _ List.mem_cons_self))
    rw [List.replicate_succ, List.flatten_cons, List.append_assoc]
    refine key _ _ (fun p hp => ?_) (fun p hp => List.mem_append_right _ (List.mem_append_left _ hp)) ih
    have := (List.of_mem_zip (a := p.1) (b := p.2) hp).2
    obtain ⟨d, _, e⟩ := List.mem_map.mp this
    exact ⟨d, e.symm⟩
theorem flat_len {α : Type} (l : List α) : ∀ n : Nat, (List.replicate n l).flatten.length = n * l.length
  | 0 => by simp
  | n + 1 => by rw [List.replicate_succ, List.flatten_cons, List.length_append, flat_len l n]; rw [Nat.add_mul]; omega
theorem op_ln : Op2 rRep lnL := fun d e o ho x y H its Q c k => by
  unfold lnL at ho
  split at ho
  · rename_i xs n
    split at ho
    · rename_i hz
      cases ho
      have ey := (c.perm (.swap ..)).int
      obtain ⟨p, vs, rfl, hp, hl, c2⟩ := c.openL
      have c3 : CI H (vs.zip (xs.map O.val) ++ its) := by
        have c4 := CG.mid (m := [_]) c2
        exact CG.mid (m := [_]) c4
      refine ⟨p, n, vs, rfl, ey, hp, by omega, by omega, by rw [hl]; exact le_line hz.2.2, fun a ha => k _ _ ?_⟩
      have c5 := CG.mid (c3.many n.toNat)
      rw [← zip_rep hl] at c5
      have c7 := c5.newL ha (by simp)
      have he : (List.replicate n.toNat vs).flatten.length = ((List.replicate n.toNat xs).flatten.map O.val).length := by
        rw [List.length_map, flat_len, flat_len, hl]
      rw [zip_fst he, zip_snd he] at c7
      exact c7
    · cases ho
  · cases ho

/-! ### == and != -/
/-- two lists of different lengths -/
def lenNe (b : Bool) (d e : D) : Option D := match d, e with
  | .lst x, .lst y => if x.length = y.length then none else some (.bl b)
  | _, _ => none
def eqD (d e : D) : Option D := if pl d = true ∧ pl e = true ∧ SeqAt.shaped (toP d) = true ∧ SeqAt.shaped (toP e) = true then some (.bl (PyData.eqv (toP d) (toP e))) else lenNe false d e
def neD (d e : D) : Option D := if pl d = true ∧ pl e = true ∧ SeqAt.shaped (toP d) = true ∧ SeqAt.shaped (toP e) = true then some (.bl (!PyData.eqv (toP d) (toP e))) else lenNe true d e
def rLenL (K : PySem.W.Frag) (b : Bool) : R2 := fun x y H Q => ∃ p q xs ys, x = .ref p ∧ y = .ref q ∧ SqL K H p xs ∧ SqL K H q ys ∧ xs.length ≠ ys.length ∧ Q (.bl b) H
theorem lk_lenNe {K : PySem.W.Frag} {b : Bool} : Lk2 (rLenL K b) (lenNe b) := fun d e d' h W x y v H Q r1 r2 hv q => by
  unfold lenNe at h
  split at h
  · split at h
    · cases h
    · rename_i xs ys hn
      cases h; cases hv
      cases r1 with
      | lst _ h1 h2 =>
        cases r2 with
        | lst _ k1 k2 => exact ⟨_, _, _, _, rfl, rfl, sq_l h1, sq_l k1, by rw [h2.len, k2.len]; exact hn, q⟩
  · cases h
def rEqX (K : PySem.W.Frag) : R2 := fun x y H Q => rEqD K x y H Q ∨ rLenL K false x y H Q
def rNeX (K : PySem.W.Frag) : R2 := fun x y H Q => rNeD K x y H Q ∨ rLenL K true x y H Q
theorem lk_eq {K : PySem.W.Frag} : Lk2 (rEqX K) eqD := fun d e d' h W x y v H Q r1 r2 hv q => by
  unfold eqD at h
  split at h
  · rename_i c
    cases h; cases hv
    exact .inl ⟨_, _, r1.dp c.1, r2.dp c.2.1, c.2.2.1, c.2.2.2, q⟩
  · exact .inr (lk_lenNe d e d' h W x y v H Q r1 r2 hv q)
theorem lk_ne {K : PySem.W.Frag} : Lk2 (rNeX K) neD := fun d e d' h W x y v H Q r1 r2 hv q => by
  unfold neD at h
  split at h
  · rename_i c
    cases h; cases hv
    exact .inl ⟨_, _, r1.dp c.1, r2.dp c.2.1, c.2.2.1, c.2.2.2, q⟩
  · exact .inr (lk_lenNe d e d' h W x y v H Q r1 r2 hv q)
theorem lenNe_sc {b : Bool} : scal1 (lenNe b) := fun d e d' h => by
  unfold lenNe at h
  split at h
  · split at h
    · cases h
    · cases h; exact ⟨_, rfl⟩
  · cases h
theorem eqD_sc : scal1 eqD := fun d e d' h => by
  unfold eqD at h
  split at h
  · cases h; exact ⟨_, rfl⟩
  · exact lenNe_sc _ _ _ h
theorem neD_sc : scal1 neD := fun d e d' h => by
  unfold neD at h
  split at h
  · cases h; exact ⟨_, rfl⟩
  · exact lenNe_sc _ _ _ h
section
variable {X : Cx}
theorem op_eqLen (hu : X.A.units < cLine) : OpR X (compareOp .Eq) (rLenL X.K false) := fun pins s σ H x y v u Q I rx ry h => by
  obtain ⟨p, q, xs, ys, rfl, rfl, h1, h2, hn, k⟩ := h
  cases rx
  cases ry
  obtain ⟨us, r1, p1, _⟩ := I.list h1
  obtain ⟨ws, r2, p2, _⟩ := I.list h2
  exact SeqAt.RcAt.lists_lengths p1.isList p2.isList (by
    rw [List.size_toArray, List.size_toArray, ← r1.length, ← r2.length]
    simpa using hn) hu _ _ _ _ ⟨.bl false, H, I, rfl, k⟩
theorem op_neLen (hu : X.A.units < cLine) : OpR X (compareOp .NotEq) (rLenL X.K true) := fun pins s σ H x y v u Q I rx ry h => by
  obtain ⟨p, q, xs, ys, rfl, rfl, h1, h2, hn, k⟩ := h
  cases rx
  cases ry
  obtain ⟨us, r1, p1, _⟩ := I.list h1
  obtain ⟨ws, r2, p2, _⟩ := I.list h2
  exact SeqAt.RcNeAt.lists_lengths p1.isList p2.isList (by
    rw [List.size_toArray, List.size_toArray, ← r1.length, ← r2.length]
    simpa using hn) hu _ _ _ _ ⟨.bl true, H, I, rfl, k⟩
end
/-- x is None -/
def isN (d e : D) : Option D := match e with
  | .non => some (.bl (match d with
    | .non => true
    | _ => false))
  | _ => none
def isNN (d e : D) : Option D := match e with
  | .non => some (.bl (match d with
    | .non => false
    | _ => true))
  | _ => none
theorem lk_isN : Lk2 (fun x y H Q => y = .non ∧ Q (.bl (decide (x = .non))) H) isN := fun d e d' h W x y v H Q r1 r2 hv q => by
  unfold isN at h
  split at h
  · cases h; cases r2; cases hv
    refine ⟨rfl, ?_⟩
    cases r1 <;> exact q
  · cases h
theorem lk_isNN : Lk2 (fun x y H Q => y = .non ∧ Q (.bl (!decide (x = .non))) H) isNN := fun d e d' h W x y v H Q r1 r2 hv q => by
  unfold isNN at h
  split at h
  · cases h; cases r2; cases hv
    refine ⟨rfl, ?_⟩
    cases r1 <;> exact q
  · cases h
theorem isN_sc : scal1 isN := fun d e d' h => by
  unfold isN at h
  split at h
  · cases h; exact ⟨_, rfl⟩
  · cases h
theorem isNN_sc : scal1 isNN := fun d e d' h => by
  unfold isNN at h
  split at h
  · cases h; exact ⟨_, rfl⟩
  · cases h

/-! ### a look at two things, a name's own thing left as it is -/
inductive Vw where
  | d (d : D)
  | s (i : Nat)
def opv : Ag → M Vw
  | .sl i => mHas i (ret (.s i))
  | .ev m => bnd m fun o => ret (.d (frz o))
def rdv (v : Vw) : M D := match v with
  | .d d => ret d
  | .s i => fun ρ => match ρ[i]? with
    | some (some o) => .ok (frz o) ρ
    | _ => .fail
def mLook (f : D → D → Option D) (a b : Ag) : M O := bnd (opv a) fun x => bnd (opv b) fun y => bnd (rdv x) fun d => bnd (rdv y) fun e => bnd (lift (f d e)) fun r => ret (.val r)
section
variable {X : Cx} {B : Bx}
/-- how an operand is read -/
def rdT (B : Bx) : Ag → TE
  | .sl i => tVar i
  | .ev m => tE B m
/-- the operand's value: pending, or a slot's -/
def VwOk (σ : St) (v : V) : Vw → List (V × O) → Prop
  | .d d, l => l = [(v, .val d)]
  | .s i, l => l = [] ∧ σ[i]? = some (some v)
theorem opv_read {α : Type} {a : Ag} {f : Vw → M α} {k : α → Sl → Prop} {σ : St} {H : Hp} {pend : List (V × O)} {ρ : Sl} {Q : VK} (c : Conf σ H pend ρ) (g : (bnd (opv a) f ρ).go k (fun x ρ' => B.p x ρ' pend σ))
    (hQ : ∀ w ρ' v H' l, VwOk σ v w l → Conf σ H' (l ++ pend) ρ' → (f w ρ').go k (fun x ρ' => B.p x ρ' pend σ) → Q v H') : rdT B a σ H Q := by
  cases a with
  | sl i =>
    have g1 := go_bnd.mp g
    obtain ⟨⟨o, e0⟩, g2⟩ := go_has (go_bnd.mp g)
    obtain ⟨v, hv⟩ := c.sh.has i o e0
    exact ⟨v, hv, hQ (.s i) ρ v H [] ⟨rfl, hv⟩ c g2⟩
  | ev m =>
    refine ⟨pend, ρ, c, Out.go_mono (go_bnd.mp (go_bnd.mp g)) (fun o ρ1 _ g1 v H1 c1 => ?_) fun _ _ _ z => z⟩
    exact hQ (.d (frz o)) ρ1 v H1 [(v, .val (frz o))] rfl c1.frz g1
def VwIs (ρ : Sl) (d : D) : Vw → Prop
  | .d e => d = e
  | .s i => ∃ o, ρ[i]? = some (some o) ∧ d = frz o
theorem go_rdv {α : Type} {w : Vw} {f : D → M α} {ρ : Sl} {k : α → Sl → Prop} {b : Ex → Sl → Prop} (g : (bnd (rdv w) f ρ).go k b) : ∃ d, VwIs ρ d w ∧ (f d ρ).go k b := by
  cases w with
  | d e => exact ⟨e, rfl, go_bnd.mp g⟩
  | s i =>
    have g1 := go_bnd.mp g
    simp only [rdv] at g1
    split at g1
    · rename_i o e
      exact ⟨_, ⟨o, e, rfl⟩, g1⟩
    · exact False.elim g1
theorem look1 {σ : St} {H : Hp} {pend : List (V × O)} {ρ : Sl} {w : Vw} {v : V} {l : List (V × O)} {d : D} (h : VwOk σ v w l) (c : Conf σ H (l ++ pend) ρ) (hd : VwIs ρ d w) : ∃ ρ', Conf σ H ((v, .val d) :: pend) ρ' ∧ ∀ j, (∀ i, w = .s i → i ≠ j) → ρ'[j]? = ρ[j]? := by
  cases w with
  | d e =>
    cases hd
    cases h
    exact ⟨ρ, c, fun _ _ => rfl⟩
  | s i =>
    obtain ⟨o, ho, rfl⟩ := hd
    obtain ⟨rfl, hv⟩ := h
    obtain ⟨v', hv', c'⟩ := c.take ho
    rw [hv] at hv'
    cases hv'
    exact ⟨_, c'.frz, fun j hj => List.getElem?_set_ne (hj i rfl)⟩
theorem look2 {σ : St} {H : Hp} {pend : List (V × O)} {ρ : Sl} {w1 w2 : Vw} {v1 v2 : V} {l1 l2 : List (V × O)} {d e : D} (h1 : VwOk σ v1 w1 l1) (h2 : VwOk σ v2 w2 l2) (c : Conf σ H (l2 ++ (l1 ++ pend)) ρ) (hd : VwIs ρ d w1) (he : VwIs ρ e w2) : ∃ W, Rep W H v1 d ∧ Rep W H v2 e := by
  have c0 : Conf σ H (l1 ++ (l2 ++ pend)) ρ := c.perm (perm_in _ _ _)
  obtain ⟨ρ1, c1, k1⟩ := look1 h1 c0 hd
  by_cases hs : ∃ i, w1 = .s i ∧ w2 = .s i
  · obtain ⟨i, rfl, rfl⟩ := hs
    obtain ⟨o, ho, rfl⟩ := hd
    obtain ⟨o', ho', rfl⟩ := he
    rw [ho] at ho'
    cases ho'
    have e1 := h1.2
    rw [h2.2] at e1
    cases e1
    obtain ⟨W, r⟩ := c1.out1.rep
    exact ⟨W, r, r⟩
  · have c2 : Conf σ H (l2 ++ ((v1, .val d) :: pend)) ρ1 := c1.perm List.perm_middle.symm
    have he' : VwIs ρ1 e w2 := by
      cases w2 with
      | d d => exact he
      | s j =>
        obtain ⟨o, ho, q⟩ := he
        refine ⟨o, ?_, q⟩
        rw [k1 j fun i z => fun z2 => hs ⟨i, z, by rw [z2]⟩]
        exact ho
    obtain ⟨ρ2, c3, _⟩ := look1 h2 c2 he'
    obtain ⟨W, r1, r2⟩ := (Conf.out (pre := [_, _]) c3).rep2
    exact ⟨W, r2, r1⟩
theorem de_look {e a b : Expr} {r : R2} {f : D → D → Option D} {ka kb : Ag} (hr : Lk2 r f) (hs : scal1 f) (ha : PE X a (rdT B ka)) (hb : PE X b (rdT B kb)) (he : ∀ {ta tb : TE}, PE X a ta → PE X b tb → PE X e (tOp r ta tb)) : DE X B e (mLook f ka kb) := by
  refine (he ha hb).imp fun σ H Q ⟨pend, ρ, c, g⟩ => ?_
  refine opv_read c g fun w1 ρ1 v1 H1 l1 k1 c1 g1 => ?_
  refine opv_read c1 (go_pend l1 g1) fun w2 ρ2 v2 H2 l2 k2 c2 g2 => ?_
  obtain ⟨d, hd, g3⟩ := go_rdv g2
  obtain ⟨e', he', g4⟩ := go_rdv g3
  obtain ⟨r', hr', g5⟩ := go_lift (go_bnd.mp g4)
  obtain ⟨W, q1, q2⟩ := look2 k1 k2 c2 hd he'
  obtain ⟨v, hv⟩ := hs _ _ _ hr'
  exact hr _ _ _ hr' W v1 v2 v H2 Q q1 q2 hv ((g5 : ∀ v H', Conf σ H' ((v, .val r') :: pend) ρ2 → Q v H') v H2 (c2.drop.drop.sc hv))
/-- as a test -/
def mLookB (f : D → D → Option D) (a b : Ag) : M Bool := mB (mLook f a b)
theorem dt_look {e a b : Expr} {r : R2} {f : D → D → Option D} {ka kb : Ag} (hr : Lk2 r f) (hs : scal1 f) (ha : PE X a (rdT B ka)) (hb : PE X b (rdT B kb)) (he : ∀ {ta tb : TE}, PE X a ta → PE X b tb → PT X e (tTest (tOp r ta tb))) : DT X B e (mLookB f ka kb) := by
  refine (he ha hb).imp fun σ H Q ⟨pend, ρ, c, g⟩ => ?_
  have g0 := go_bnd.mp g
  refine opv_read (α := O) c g0 fun w1 ρ1 v1 H1 l1 k1 c1 g1 => ?_
  refine opv_read c1 (go_pend l1 g1) fun w2 ρ2 v2 H2 l2 k2 c2 g2 => ?_
  obtain ⟨d, hd, g3⟩ := go_rdv g2
  obtain ⟨e', he', g4⟩ := go_rdv g3
  obtain ⟨r', hr', g5⟩ := go_lift (go_bnd.mp g4)
  obtain ⟨W, q1, q2⟩ := look2 k1 k2 c2 hd he'
  obtain ⟨v, hv⟩ := hs _ _ _ hr'
  obtain ⟨b, e1, g6⟩ := go_mB (σ := σ) (pend := pend) g5
  cases e1
  cases hv
  exact hr _ _ _ hr' W v1 v2 _ H2 _ q1 q2 rfl ⟨b, rfl, g6 H2 c2.drop.drop⟩
/-- a < b < c -/
def mChain (f g : D → D → Option D) (a b c : M O) : M O := bnd a fun x => bnd b fun y => bnd (lift (f (frz x) (frz y))) fun r => match r with
  | .bl true => bnd c fun z => bnd (lift (g (frz y) (frz z))) fun r => ret (.val r)
  | .bl false => ret (.val (.bl false))
  | _ => stop
theorem chain_of {r r' : R2} {f g : D → D → Option D} {ma mb mc : M O} (hr : Lk2 r f) (hs : scal1 f) (hr' : Lk2 r' g) (hs' : scal1 g) {σ : St} {H : Hp} {Q : VK} (h : tE B (mChain f g ma mb mc) σ H Q) : tChain r r' (tE B ma) (tE B mb) (tE B mc) σ H Q := by
  obtain ⟨pend, ρ, c, gg⟩ := h
  refine tE_bnd c gg fun x ρ1 v1 H1 c1 g1 => ?_
  refine tE_bnd2 [(v1, .val (frz x))] c1.frz g1 fun y ρ2 v2 H2 c2 g2 => ?_
  obtain ⟨d', hd', g3⟩ := go_lift (go_bnd.mp g2)
  obtain ⟨v, hv⟩ := hs _ _ _ hd'
  have c3 := c2.frz
  obtain ⟨W, q2, q1⟩ := (Conf.out (pre := [_, _]) c3).rep2
  refine hr _ _ _ hd' W v1 v2 v H2 _ q1 q2 hv ?_
  split at g3
  · cases hv
    refine ⟨true, rfl, iteT ?_⟩
    have c4 : Conf σ H2 ((v2, .val (frz y)) :: pend) ρ2 := .back1 c3.sh (CG.mid (a := [_]) (m := [_]) (Conf.out (pre := [_, _]) c3))
    refine tE_bnd2 [(v2, .val (frz y))] c4 g3 fun z ρ3 v3 H3 c5 g5 => ?_
    obtain ⟨d2, hd2, g6⟩ := go_lift (go_bnd.mp g5)
    obtain ⟨v', hv'⟩ := hs' _ _ _ hd2
    have c6 := c5.frz
    obtain ⟨W', q4, q3⟩ := (Conf.out (pre := [_, _]) c6).rep2
    exact hr' _ _ _ hd2 W' v2 v3 v' H3 _ q3 q4 hv' ((g6 : ∀ v H', Conf σ H' ((v, .val d2) :: pend) ρ3 → Q v H') v' H3 (c6.tail.tail.sc hv'))
  · cases hv
    exact ⟨false, rfl, iteF ((g3 : ∀ v H', Conf σ H' ((v, .val (.bl false)) :: pend) ρ2 → Q v H') _ H2 (c3.tail.tail.sc rfl))⟩
  · exact False.elim g3
end
end Dl

namespace Dv
open PySem PySem.Spec PyProof.Rows L2
/-- a list (false) or a tuple (true) -/
def SqX (t : Bool) (K : PySem.W.Frag) (H : Hp) (a : Addr) (xs : List V) : Prop := if t = true then SqT K H a xs else SqL K H a xs
def IsX (t : Bool) (h : Heap) (a : Addr) (its : Array Value) : Prop := if t = true then h.IsTuple a its else h.IsList a its
def ItX (t : Bool) (h : Heap) (it a : Addr) (i : Nat) : Prop := if t = true then h.IsTupleIter it a i else h.IsListIter it a i
def obX (t : Bool) (a : Addr) : Obj := if t = true then { cls := .type "tuple_iterator", data := .fields #[.ref a, .int 0 0] } else { cls := .type "list_iterator", data := .fields #[.ref a, .int 0 0] }
theorem drX {prog : Program} {w : World} {A : Around} (t : Bool) (hh : A.handled = none) (it a : Addr) (hne : a ≠ it) (items : Array Value) :
    Draws prog w A it [it, a] items.size (fun i v => items[i]? = some v) (fun i h => ItX t h it a i ∧ IsX t h a items) := by
  cases t with
  | true => exact Draws.tuple hh it a hne items
  | false => exact Draws.list hh it a hne items
theorem bgX (t : Bool) (a : Addr) (items : Array Value) : Begins (.ref a) (obX t a) fun h => IsX t h a items := by
  cases t with
  | true => exact begins_tuple a items
  | false => exact begins_list a items
theorem itX0 {t : Bool} {h : Heap} {it a : Addr} (e : h.get? it = some (obX t a)) : ItX t h it a 0 := by
  cases t with
  | true => exact ⟨_, e, rfl, rfl⟩
  | false => exact ⟨_, e, rfl, rfl⟩
theorem ItX.at {t : Bool} {h h' : Heap} {it a : Addr} {i : Nat} (x : ItX t h it a i) (e : ∀ o, h.get? it = some o → h'.get? it = some o) : ItX t h' it a i := by
  cases t with
  | true => exact Heap.IsTupleIter.at x e
  | false => exact Heap.IsListIter.at x e
theorem ItX.obj {t : Bool} {h : Heap} {it a : Addr} {i : Nat} (x : ItX t h it a i) : ∃ o, h.get? it = some o ∧ ∀ v, o.data ≠ .cell v := by
  cases t with
  | true =>
    obtain ⟨o, e, _, d⟩ := x
    exact ⟨o, e, fun v q => by rw [d] at q; cases q⟩
  | false =>
    obtain ⟨o, e, _, d⟩ := x
    exact ⟨o, e, fun v q => by rw [d] at q; cases q⟩
section
variable {X : Cx} {pins : List (Addr × Obj)} {σ : L2.St} {H : Hp} {s : Shared} {a : Addr} {xs ys : List V} {t : Bool}
theorem invX (I : Inv X pins σ H s) (h : SqX t X.K H a xs) : ∃ its : List Value, Vals xs its ∧ IsX t s.heap a its.toArray ∧ a < s.heap.objs.size := by
  cases t with
  | true =>
    obtain ⟨its, rv, p, _⟩ := I.tuple h
    obtain ⟨o, ho, _⟩ := id p
    exact ⟨its, rv, p, Heap.lt_size ho⟩
  | false =>
    obtain ⟨its, rv, p, _⟩ := I.list h
    exact ⟨its, rv, p.isList, p.lt⟩
theorem invX_inj (I : Inv X pins σ H s) (h : SqX t X.K H a xs) (h' : SqX t X.K H a ys) : xs = ys := by
  cases t with
  | true => exact I.tuple_inj h h'
  | false => exact I.list_inj h h'
end
/-! ### enumerate -/
def IteX (t : Bool) (K : PySem.W.Frag) (a : Addr) : It :=
  ⟨fun i H => ∃ (xs : List V) (x : V), SqX t K H a xs ∧ xs[i]? = some x, fun i H v H' => ∃ T x, v = .ref T ∧ H T = none ∧ H' = upd H T (.tup [.int (i : Nat), x]) ∧ ∀ xs, SqX t K H a xs → xs[i]? = some x, fun i H => ∃ xs : List V, SqX t K H a xs ∧ xs.length = i⟩
theorem turn_enumX {P : Program} {w : World} {K : PySem.W.Frag} {elts : List Expr} {kk : Nat} {tpos : Pos} (t : Bool) (a e it : Addr) (hae : a ≠ e) (hai : a ≠ it) (hei : e ≠ it) :
    Turn P w K (.Tuple elts kk tpos) (IteX t K a) [e, it] e (fun i h => (∃ old, IsEnum h e it ((i : Nat) : Int) old) ∧ ItX t h it a i) where
  mem := by simp
  obj := fun i h st b hb => by
    obtain ⟨⟨old, he⟩, hit⟩ := st
    have e' : b = e ∨ b = it := by simpa using hb
    rcases e' with z | z
    · rw [z]; exact ⟨_, he, fun v q => nomatch q⟩
    · rw [z]; exact hit.obj
  keep := fun i h h' st k => by
    obtain ⟨⟨old, he⟩, hit⟩ := st
    exact ⟨⟨old, k e (by simp) _ he⟩, hit.at fun o q => k it (by simp) o q⟩
  item := by
    intro X hP hw hK hc i pins s σ H E I hf st hg
    subst hP hw hK
    obtain ⟨⟨old, he⟩, hit⟩ := st
    obtain ⟨xs, x, hq, hx⟩ := hg
    obtain ⟨its, rv, p, hal⟩ := invX I hq
    obtain ⟨u, hu, ru⟩ := rv.get hx
    have hel : e < s.heap.objs.size := Heap.lt_size he
    have hil : it < s.heap.objs.size := by obtain ⟨o, q, _⟩ := hit.obj; exact Heap.lt_size q
    have hlt : i < its.toArray.size := by
      have := (List.getElem?_eq_some_iff.mp hu).1
      simpa using this
    refine wpAny_pyNext_enum_itemD (drX (A := X.A.in1) t (I.ok.hd hc) it a hai its.toArray) he ⟨hit, p⟩ hlt hei (by simp [hei, Ne.symm hae]) fun x' h' tk hx' ho hst' hT hsz hk => ?_
    have ex : x' = u := by
      have : its[i]? = some x' := by simpa using hx'
      rw [hu] at this
      exact (Option.some.inj this).symm
    subst ex
    refine ⟨_, rfl, wpAny_letOwnedTupleGo_enum (s := { s with heap := h', toks := tk + 1 }) ho fun h'' he' sb => ?_⟩
    have hT2 : h''.get? s.heap.objs.size = some { cls := .type "tuple", data := .seq #[.int i tk, x'] } := (sb.2 _ (Nat.ne_of_gt hel)).trans hT
    have new : ObjOk X.prog X.w (upd H s.heap.objs.size (.tup [.int (i : Nat), x])) h'' s.heap.objs.size (.tup [.int (i : Nat), x]) :=
      ⟨by show 2 ≤ sizeLine; decide, [.int i tk, x'], .cons ⟨_, rfl⟩ (.cons ru .nil), ⟨_, hT2, rfl, _, rfl⟩⟩
    have I1 : Inv X pins σ (upd H s.heap.objs.size (.tup [.int (i : Nat), x])) { s with heap := h'', toks := tk + 1 } :=
      I.turnedNew (ch := [e, it]) (fun b ob hb q => (sb.2 b (fun z => hb (by simp [z]))).trans (hk b ob (fun z => hb (by simp [z])) (fun z => hb (by simp [z])) q)) hf (Nat.le_refl _) new
    refine ⟨.ref s.heap.objs.size, _, I1, rfl, ⟨_, x, rfl, I.hok.fresh (Nat.le_refl _), rfl, fun ys hy => by rw [invX_inj I hy hq]; exact hx⟩, ⟨⟨x', ?_⟩, hst'.1.at fun o q => (sb.2 it (Ne.symm hei)).trans q⟩, fun b hb => ?_⟩
    · have e1 : ((i + 1 : Nat) : Int) = (i : Int) + 1 := by omega
      rw [e1]; exact he'
    · have hb' : b < s.heap.objs.size := by
        have e' : b = e ∨ b = it := by simpa using hb
        rcases e' with z | z
        · rw [z]; exact hel
        · rw [z]; exact hil
      rw [upd_ne (Nat.ne_of_lt hb')]
      exact (hf b hb).1
  done := by
    intro X hP hw hK hc i pins s σ H E I hf st hg
    subst hP hw hK
    obtain ⟨⟨old, he⟩, hit⟩ := st
    obtain ⟨xs, hq, hx⟩ := hg
    obtain ⟨its, rv, p, hal⟩ := invX I hq
    obtain ⟨f0, f1, f2, f3, f4, f5⟩ := hf it (by simp)
    have hl := rv.length
    have hi : i = its.toArray.size := by simp; omega
    subst hi
    exact wpAny_pyNext_enum_endD (drX (A := X.A.in1) t (I.ok.hd hc) it a hai its.toArray) he ⟨hit, p⟩ fun h' eb => ⟨rfl, I.turned (t' := s.toks) (fun b o hb q => eb b o hb q) f0 f1 f3 f4 f5⟩
  self := fun A i s Q E st h => let ⟨⟨_, he⟩, _⟩ := st; wpAny_pyIter_enum he h
set_option maxHeartbeats 1000000 in
theorem meets_enum1 {v : Value} {o : Obj} {H : Heap → Prop} (B : Begins v o H) :
    Meets (Builtin.«enumerate.__new__» ⟨[.type "enumerate", v], []⟩) (fun _ R s => H s.heap ∧
      R (.ok (.ret (.ref (s.heap.push o).objs.size))) { s with heap := (s.heap.push o).push { cls := .type "enumerate", data := .fields #[.none, .bool false, .ref s.heap.objs.size, rawInt 0, .none, .none] } }) :=
  .of_wp fun prog w A R s h => by
    obtain ⟨hp, g, d, tk, os⟩ := s; obtain ⟨h1, h⟩ := h
    have hsub := sub_enumerate
    have q1 : ∀ {A' : Around} {E : Value → Shared → Prop} {Q : Value → Shared → Prop}, Q (.ref hp.objs.size) ⟨hp.push o, g, d, tk, os⟩ → wpAny (model prog w) A' (pyIter v) Q E ⟨hp, g, d, tk, os⟩ :=
      fun q => B.iter prog w _ _ ⟨hp, g, d, tk, os⟩ _ h1 q
    wp_walk using q1
    refine wpAny_stack_any fun st => wpAny_pure ?_
    split
    · rename_i c _ _ _ _ _
      cases (c == Value.type "enumerate")
      · wp_walk using q1
        exact ⟨_, rfl, h⟩
      · wp_walk using q1
        exact ⟨_, rfl, h⟩
    · wp_walk using q1
      exact ⟨_, rfl, h⟩
section
variable {prog : Program} {w : World} {A : Around} {E : Value → Shared → Prop} {s : Shared}
theorem enum_begins1 {v : Value} {o : Obj} {H : Heap → Prop} {Q : Value → Shared → Prop} (B : Begins v o H) (h1 : H s.heap)
    (h : ∀ h', IsEnum h' (s.heap.objs.size + 1) s.heap.objs.size 0 .none → h'.get? s.heap.objs.size = some o → h'.objs.size = s.heap.objs.size + 2 →
      (∀ b o, s.heap.get? b = some o → h'.get? b = some o) → Q (.ref (s.heap.objs.size + 1)) { s with heap := h' }) :
    wpAny (model prog w) A (call (.type "enumerate") [v]) Q E s := by
  refine callType_new F.called_enumerate (by decide) (F.typeCall_enumerate_1 _) (F.newCall_enumerate_1 _) (fun obj => F.args_object_init_2 obj _) F.entry_enumerate_new
    (meets_enum1 B) ⟨h1, ?_⟩
  have hz : (s.heap.push o).objs.size = s.heap.objs.size + 1 := Heap.size_push ..
  show _ ∧ _
  rw [hz]
  have he : IsEnum ((s.heap.push o).push { cls := .type "enumerate", data := .fields #[.none, .bool false, .ref s.heap.objs.size, rawInt 0, .none, .none] }) (s.heap.objs.size + 1) s.heap.objs.size 0 .none := by
    have := Heap.get?_push_size (s.heap.push o) (o := { cls := .type "enumerate", data := .fields #[.none, .bool false, .ref s.heap.objs.size, rawInt 0, .none, .none] }) rfl
    rw [hz] at this; exact this
  refine ⟨⟨_, he, rfl⟩, h _ he (Heap.get?_push_of_some _ (Heap.get?_push_size _ B.free)) (by rw [Heap.size_push, hz]) fun b o x => Heap.get?_push_of_some _ (Heap.get?_push_of_some _ x)⟩
end
def iEnumX (K : PySem.W.Frag) (ta : TA) : TI := fun σ H R => ta σ H fun vs H1 => ∃ t a xs, vs = [.ref a] ∧ SqX t K H1 a xs ∧ R (IteX t K a) H1
theorem pi_enumX {X : Cx} {e : Expr} {ta : TA} {p pos tpos : Pos} {elts : List Expr} {kk : Nat} (hg : Gl X "enumerate") (hm : X.mg "enumerate" = none) (ha : PA X [e] ta) (hs : starEach [e] X.env = (false, eval e X.env) :: starEach [] X.env) :
    PI X (.Tuple elts kk tpos) (.Call (.Name "enumerate" p) [e] [] pos) (iEnumX X.K ta) := by
  refine ⟨fun pins s σ H R I h => ?_⟩
  refine Call_ (ld_blt I hg hm boot_enumerate (PyProof.Rows.callWith_type1 (thn (ha.run pos pins s σ H _ I h) fun us s1 ⟨vs, H1, I1, r1, q1⟩ => ?_) hs rfl))
  obtain ⟨t, a, xs, ex, hq, q⟩ := q1
  subst ex
  cases r1 with
  | cons r rr =>
    cases rr
    cases r
    obtain ⟨its, rv, p', hal⟩ := invX I1 hq
    refine enum_begins1 (bgX t a its.toArray) p' fun h' he hit hsz hk => wpAny_pyIter_enum he ?_
    have I2 : Inv X pins σ H1 { s1 with heap := h' } := I1.kept (t' := s1.toks) hk
    refine ⟨s1.heap.objs.size + 1, [s1.heap.objs.size + 1, s1.heap.objs.size], _, _, H1, rfl, I2, turn_enumX t a (s1.heap.objs.size + 1) s1.heap.objs.size (Nat.ne_of_lt (Nat.lt_succ_of_lt hal)) (Nat.ne_of_lt hal) (Nat.succ_ne_self _), ⟨⟨.none, he⟩, itX0 hit⟩, fun b hb => ?_, q⟩
    have e' : b = s1.heap.objs.size + 1 ∨ b = s1.heap.objs.size := by simpa using hb
    have hle : s1.heap.objs.size ≤ b := by
      rcases e' with z | z
      · rw [z]; exact Nat.le_add_right _ _
      · rw [z]; exact Nat.le_refl _
    exact I1.fpOk hle (I1.hok.fresh hle)
/-! ### zip -/
def ItzX (t t2 : Bool) (K : PySem.W.Frag) (a b : Addr) : It :=
  ⟨fun i H => ∃ (xs ys : List V) (x y : V), SqX t K H a xs ∧ SqX t2 K H b ys ∧ xs[i]? = some x ∧ ys[i]? = some y,
    fun i H v H' => ∃ T x y, v = .ref T ∧ H T = none ∧ H' = upd H T (.tup [x, y]) ∧ (∀ xs, SqX t K H a xs → xs[i]? = some x) ∧ ∀ ys, SqX t2 K H b ys → ys[i]? = some y,
    fun i H => ∃ xs ys : List V, SqX t K H a xs ∧ SqX t2 K H b ys ∧ i ≤ xs.length ∧ i ≤ ys.length ∧ (i = xs.length ∨ i = ys.length)⟩
theorem turn_zipX {P : Program} {w : World} {K : PySem.W.Frag} {elts : List Expr} {kk : Nat} {tpos : Pos} (t t2 : Bool) {a b z TI TO i1 i2 : Addr} (D : ZipSep2 z TI TO i1 i2 [i1, a] [i2, b]) (ha : a ≠ i1) (hb : b ≠ i2) :
    Turn P w K (.Tuple elts kk tpos) (ItzX t t2 K a b) [z, TI, TO, i1, i2] z (fun i h => IsZip h z TI TO .none ∧ IsTupOf2 h TI (.ref i1) (.ref i2) ∧ (∃ x y, IsTupOf2 h TO x y) ∧ ItX t h i1 a i ∧ ItX t2 h i2 b i) where
  mem := by simp
  obj := fun i h st c hc => by
    obtain ⟨hz, hTI, ⟨x, y, hTO⟩, h1, h2⟩ := st
    have e' : c = z ∨ c = TI ∨ c = TO ∨ c = i1 ∨ c = i2 := by simpa using hc
    rcases e' with q | q | q | q | q
    · rw [q]; exact ⟨_, hz, fun v q => nomatch q⟩
    · rw [q]; exact ⟨_, hTI, fun v q => nomatch q⟩
    · rw [q]; exact ⟨_, hTO, fun v q => nomatch q⟩
    · rw [q]; exact h1.obj
    · rw [q]; exact h2.obj
  keep := fun i h h' st k => by
    obtain ⟨hz, hTI, ⟨x, y, hTO⟩, h1, h2⟩ := st
    exact ⟨k z (by simp) _ hz, k TI (by simp) _ hTI, ⟨x, y, k TO (by simp) _ hTO⟩, h1.at fun o q => k i1 (by simp) o q, h2.at fun o q => k i2 (by simp) o q⟩
  item := by
    intro X hP hw hK hc i pins s σ H E I hf st hg
    subst hP hw hK
    obtain ⟨hz, hTI, ⟨x0, y0, hTO⟩, h1, h2⟩ := st
    obtain ⟨xs, ys, x, y, hqx, hqy, hx, hy⟩ := hg
    obtain ⟨its, rv, p, _⟩ := invX I hqx
    obtain ⟨its2, rv2, p2, _⟩ := invX I hqy
    obtain ⟨u, hu, ru⟩ := rv.get hx
    obtain ⟨u2, hu2, ru2⟩ := rv2.get hy
    have hzl : z < s.heap.objs.size := Heap.lt_size hz
    have hlt : i < its.toArray.size := by
      have := (List.getElem?_eq_some_iff.mp hu).1
      simpa using this
    have hlt2 : i < its2.toArray.size := by
      have := (List.getElem?_eq_some_iff.mp hu2).1
      simpa using this
    refine wpAny_pyNext_zipD2_item D (drX (A := X.A.in1) t (I.ok.hd hc) i1 a ha its.toArray) (drX (A := X.A.in1) t2 (I.ok.hd hc) i2 b hb its2.toArray) hz hTI hTO ⟨h1, p⟩ ⟨h2, p2⟩ hlt hlt2 fun v1 v2 h' tk hv1 hv2 z' TO' h1' h2' hT hsz hk => ?_
    have ex : v1 = u := by
      have : its[i]? = some v1 := by simpa using hv1
      rw [hu] at this
      exact (Option.some.inj this).symm
    have ex2 : v2 = u2 := by
      have : its2[i]? = some v2 := by simpa using hv2
      rw [hu2] at this
      exact (Option.some.inj this).symm
    subst ex ex2
    refine ⟨_, rfl, wpAny_letOwnedTupleGo_zip (s := { s with heap := h', toks := tk }) z' fun h'' z'' sb => ?_⟩
    have hT2 : h''.get? s.heap.objs.size = some { cls := .type "tuple", data := .seq #[v1, v2] } := (sb.2 _ (Nat.ne_of_gt hzl)).trans hT
    have new : ObjOk X.prog X.w (upd H s.heap.objs.size (.tup [x, y])) h'' s.heap.objs.size (.tup [x, y]) :=
      ⟨by show 2 ≤ sizeLine; decide, [v1, v2], .cons ru (.cons ru2 .nil), ⟨_, hT2, rfl, _, rfl⟩⟩
    have I1 : Inv X pins σ (upd H s.heap.objs.size (.tup [x, y])) { s with heap := h'', toks := tk } :=
      I.turnedNew (t' := tk) (ch := [z, TI, TO, i1, i2]) (fun c o hb q => (sb.2 c (fun q' => hb (by simp [q']))).trans (hk c o (fun q' => hb (by simp [q'])) (fun q' => hb (by simp [q'])) (fun q' => hb (by simp [q'])) (fun q' => hb (by simp [q'])) q)) hf (Nat.le_refl _) new
    refine ⟨.ref s.heap.objs.size, _, I1, rfl, ⟨_, x, y, rfl, I.hok.fresh (Nat.le_refl _), rfl, fun l hl => by rw [invX_inj I hl hqx]; exact hx, fun l hl => by rw [invX_inj I hl hqy]; exact hy⟩, ⟨z'', ?_, ⟨v1, v2, ?_⟩, ?_, ?_⟩, fun c hcm => ?_⟩
    · exact (sb.2 _ D.TIz).trans (hk _ _ D.TIz D.TITO D.TIi1 D.TIi2 hTI)
    · exact (sb.2 _ D.TOz).trans TO'
    · exact h1'.1.at fun o q => (sb.2 _ (Ne.symm D.zi1)).trans q
    · exact h2'.1.at fun o q => (sb.2 _ (Ne.symm D.zi2)).trans q
    · have hlt : c < s.heap.objs.size := by
        have e' : c = z ∨ c = TI ∨ c = TO ∨ c = i1 ∨ c = i2 := by simpa using hcm
        rcases e' with q | q | q | q | q
        · rw [q]; exact hzl
        · rw [q]; exact Heap.lt_size hTI
        · rw [q]; exact Heap.lt_size hTO
        · rw [q]; obtain ⟨_, e1, _⟩ := h1.obj; exact Heap.lt_size e1
        · rw [q]; obtain ⟨_, e2, _⟩ := h2.obj; exact Heap.lt_size e2
      rw [upd_ne (Nat.ne_of_lt hlt)]
      exact (hf c hcm).1
  done := by
    intro X hP hw hK hc i pins s σ H E I hf st hg
    subst hP hw hK
    obtain ⟨hz, hTI, ⟨x0, y0, hTO⟩, h1, h2⟩ := st
    obtain ⟨xs, ys, hqx, hqy, le1, le2, hend⟩ := hg
    obtain ⟨its, rv, p, _⟩ := invX I hqx
    obtain ⟨its2, rv2, p2, _⟩ := invX I hqy
    have l1 := rv.length
    have l2 := rv2.length
    refine wpAny_pyNext_zipD2_end D (drX (A := X.A.in1) t (I.ok.hd hc) i1 a ha its.toArray) (drX (A := X.A.in1) t2 (I.ok.hd hc) i2 b hb its2.toArray) hz hTI hTO ⟨h1, p⟩ ⟨h2, p2⟩ (by simp; omega) (by simp; omega) (by simp; omega) fun h' tk hk => ⟨rfl, I.turnedL (t' := tk) (ch := [z, TI, TO, i1, i2]) (fun c o hb q =>
      hk c o (fun q' => hb (by simp [q'])) (fun q' => hb (by simp [q'])) (fun q' => hb (by simp [q'])) (fun q' => hb (by simp [q'])) q) hf⟩
  self := fun A i s Q E st h => wpAny_pyIter_zip st.1 h
theorem sepZ (n a b : Nat) (la : a < n) (lb : b < n) : ZipSep2 (n + 4) (n + 2) (n + 3) n (n + 1) [n, a] [n + 1, b] := by
  have q2 : ∀ (x y z : Nat), x ≠ y → x ≠ z → x ∉ [y, z] := fun x y z h h' hm => by
    rcases List.mem_cons.mp hm with e | hm
    · exact h e
    · exact h' (List.mem_singleton.mp hm)
  exact ⟨show n + 2 ≠ n + 4 by omega, show n + 3 ≠ n + 4 by omega, show n + 2 ≠ n + 3 by omega, show n + 2 ≠ n by omega, List.mem_cons_self, q2 (n + 4) n a (by omega) (by omega), q2 (n + 3) n a (by omega) (by omega), show n + 2 ≠ n + 1 by omega, List.mem_cons_self, q2 (n + 4) (n + 1) b (by omega) (by omega), q2 (n + 3) (n + 1) b (by omega) (by omega), q2 n (n + 1) b (by omega) (by omega), q2 (n + 1) n a (by omega) (by omega)⟩
def iZipX (K : PySem.W.Frag) (ta : TA) : TI := fun σ H R => ta σ H fun vs H1 => ∃ t t2 a b xs ys, vs = [.ref a, .ref b] ∧ SqX t K H1 a xs ∧ SqX t2 K H1 b ys ∧ R (ItzX t t2 K a b) H1
theorem pi_zipX {X : Cx} {e e2 : Expr} {ta : TA} {p pos tpos : Pos} {elts : List Expr} {kk : Nat} (hg : Gl X "zip") (hm : X.mg "zip" = none) (ha : PA X [e, e2] ta)
    (hs : starEach [e, e2] X.env = (false, eval e X.env) :: starEach [e2] X.env) (hpl : (backTo pos (starEach [e2] X.env)).any (·.1) = false) :
    PI X (.Tuple elts kk tpos) (.Call (.Name "zip" p) [e, e2] [] pos) (iZipX X.K ta) := by
  refine ⟨fun pins s σ H R I h => ?_⟩
  refine Call_ (ld_blt I hg hm PyProof.Rows.boot_zip (PyProof.Rows.callWith_type1 (thn (ha.run pos pins s σ H _ I h) fun us s1 ⟨vs, H1, I1, r1, q1⟩ => ?_) hs hpl))
  obtain ⟨t, t2, a, b, xs, ys, ex, hqx, hqy, q⟩ := q1
  subst ex
  cases r1 with
  | cons r rr =>
    cases rr with
    | cons r' rr =>
      cases rr
      cases r
      cases r'
      obtain ⟨its, rv, p1, la⟩ := invX I1 hqx
      obtain ⟨its2, rv2, p2, lb⟩ := invX I1 hqy
      refine zip_begins2 (bgX t a its.toArray) (bgX t2 b its2.toArray) p1 p2 fun h' hz hTI hTO h1 h2 hsz hk => wpAny_pyIter_zip hz ?_
      have I2 : Inv X pins σ H1 { s1 with heap := h' } := I1.kept (t' := s1.toks) hk
      have sep := sepZ s1.heap.objs.size a b la lb
      refine ⟨s1.heap.objs.size + 4, [s1.heap.objs.size + 4, s1.heap.objs.size + 2, s1.heap.objs.size + 3, s1.heap.objs.size, s1.heap.objs.size + 1], _, _, H1, rfl, I2, turn_zipX t t2 sep (Nat.ne_of_lt la) (Nat.ne_of_lt (Nat.lt_succ_of_lt lb)), ⟨hz, hTI, ⟨_, _, hTO⟩, itX0 h1, itX0 h2⟩, fun c hcm => ?_, q⟩
      have e' : c = s1.heap.objs.size + 4 ∨ c = s1.heap.objs.size + 2 ∨ c = s1.heap.objs.size + 3 ∨ c = s1.heap.objs.size ∨ c = s1.heap.objs.size + 1 := by simpa using hcm
      have hle : s1.heap.objs.size ≤ c := by
        rcases e' with z | z | z | z | z <;> rw [z] <;> first | exact Nat.le_add_right _ _ | exact Nat.le_refl _
      exact I1.fpOk hle (I1.hok.fresh hle)
end Dv

namespace Dr
open PySem
/-! ### data in the heap, its dicts apart from the modules' own: repr -/
mutual
inductive RS (h : Heap) : Value → PyData → Prop
  | non : RS h .none .none
  | bl (b : Bool) : RS h (.bool b) (.bool b)
  | int (i : Int) (t : Tok) : RS h (.int i t) (.int i)
  | str (x : Str) (t : Tok) : RS h (.str x t) (.str x)
  | lst {a : Addr} {o : Obj} {vs : Array Value} {n : Nat} {xs : List PyData} : h.get? a = some o → o.cls = .type "list" → o.data = .seq vs n → RSs h vs.toList xs → RS h (.ref a) (.list xs)
  | tup {a : Addr} {o : Obj} {vs : Array Value} {n : Nat} {xs : List PyData} : h.get? a = some o → o.cls = .type "tuple" → o.data = .seq vs n → RSs h vs.toList xs → RS h (.ref a) (.tuple xs)
  | dct {a : Addr} {o : Obj} {es : Array DictEntry} {n : Nat} {kvs : List (PyData × PyData)} : h.get? a = some o → o.cls = .type "dict" → o.data = .dict es n → (a == sysModules) = false →
      RSs h (es.toList.map (·.key)) (kvs.map (·.1)) → RSs h (es.toList.map (·.val)) (kvs.map (·.2)) → RS h (.ref a) (.dict kvs)
inductive RSs (h : Heap) : List Value → List PyData → Prop
  | nil : RSs h [] []
  | cons {v : Value} {vs : List Value} {d : PyData} {ds : List PyData} : RS h v d → RSs h vs ds → RSs h (v :: vs) (d :: ds)
end
section
variable {h : Heap}
mutual
theorem RS.reads : ∀ {v : Value} {d : PyData}, RS h v d → ∃ as, Reads h v d as
  | _, _, .non => ⟨_, .none⟩
  | _, _, .bl b => ⟨_, .bool b⟩
  | _, _, .int i t => ⟨_, .int i t⟩
  | _, _, .str x t => ⟨_, .str x t⟩
  | _, _, .lst h1 h2 h3 h4 => (RSs.reads h4).elim fun _ q => ⟨_, .list h1 h2 h3 q⟩
  | _, _, .tup h1 h2 h3 h4 => (RSs.reads h4).elim fun _ q => ⟨_, .tuple h1 h2 h3 q⟩
  | _, _, .dct h1 h2 h3 _ h4 h5 => (RSs.reads h4).elim fun _ q => (RSs.reads h5).elim fun _ r => ⟨_, .dict h1 h2 h3 q r⟩
theorem RSs.reads : ∀ {vs : List Value} {ds : List PyData}, RSs h vs ds → ∃ as, ReadsAll h vs ds as
  | _, _, .nil => ⟨_, .nil⟩
  | _, _, .cons a b => (RS.reads a).elim fun _ q => (RSs.reads b).elim fun _ r => ⟨_, .cons q r⟩
end
variable {prog : Program} {w : World}
theorem am_cat {m : Nat} {x y : List Addr} (p : ReadAtMost h m x) (q : ReadAtMost h m y) : ReadAtMost h m (x ++ y) := p.append q
mutual
theorem RS.k : ∀ {v : Value} {d : PyData}, RS h v d → d.showable = true → d.shown.length ≤ sizeLine → ∃ bs, ReadAtMost h d.depth bs ∧ ReprK prog w bs h d.depth v d.shown
  | _, _, .non, _, _ => ⟨[], (fun _ z => nomatch z), by rw [PyData.shown]; exact .of_is ReprIs.none _ _ _⟩
  | _, _, .bl b, _, _ => ⟨[], (fun _ z => nomatch z), by rw [PyData.shown]; exact .of_is (ReprIs.bool b) _ _ _⟩
  | _, _, .int i t, sh, _ => ⟨[], (fun _ z => nomatch z), by rw [PyData.shown]; exact .of_is (ReprIs.int t (by simpa [PyData.showable] using sh)) _ _ _⟩
  | _, _, .str x t, _, z => ⟨[], (fun _ z => nomatch z), by rw [PyData.shown]; exact .of_is (ReprIs.str x t (by rw [PyData.shown] at z; exact z)) _ _ _⟩
  | _, _, .lst (a := a) (vs := vs) (xs := xs) h1 h2 h3 h4, sh, z => by
    have z' : (listText (PyData.shownAll xs)).length ≤ sizeLine := by rw [PyData.shown] at z; exact z
    obtain ⟨bs, hb, hk⟩ := RSs.k h4 (by simpa [PyData.showable] using sh) fun t ht => Nat.le_trans (listText_mem_le ht) z'
    obtain ⟨as, q⟩ := RSs.reads h4
    have r : Reads h (.ref a) (.list xs) (a :: as) := .list h1 h2 h3 q
    have na : a ∉ bs := not_mem_of_deeper r (by rw [PyData.depth]; omega) hb
    refine ⟨a :: bs, ReadAtMost.cons r (by rw [PyData.depth]; omega) hb, ?_⟩
    rw [PyData.depth, PyData.shown]
    obtain ⟨l⟩ := vs
    cases l with
    | nil =>
      cases (show RSs h [] xs from h4)
      simp only [PyData.shownAll, listText_nil]
      exact ReprK.listEmpty h1 h2 h3
    | cons x l => exact ReprK.list h1 h2 h3 na (by simpa using hk.length_eq) fun i y e => hk.item i y (by simpa using e)
  | _, _, .tup (a := a) (xs := xs) h1 h2 h3 h4, sh, z => by
    have z' : (tupleText (PyData.shownAll xs)).length ≤ sizeLine := by rw [PyData.shown] at z; exact z
    obtain ⟨bs, hb, hk⟩ := RSs.k h4 (by simpa [PyData.showable] using sh) fun t ht => Nat.le_trans (tupleText_mem_le ht) z'
    obtain ⟨as, q⟩ := RSs.reads h4
    have r : Reads h (.ref a) (.tuple xs) as := .tuple h1 h2 h3 q
    have na : a ∉ bs := not_mem_of_deeper r (by rw [PyData.depth]; omega) hb
    refine ⟨a :: bs, ReadAtMost.cons r (by rw [PyData.depth]; omega) hb, ?_⟩
    rw [PyData.depth, PyData.shown]
    exact ReprK.tuple h1 h2 h3 na hk
  | _, _, .dct (a := a) (es := es) (kvs := kvs) h1 h2 h3 hm h4 h5, sh, z => by
    have z' : (dictText (PyData.shownKv kvs)).length ≤ sizeLine := by rw [PyData.shown] at z; exact z
    obtain ⟨s1, s2⟩ := PyData.showableKv_split kvs (by simpa [PyData.showable] using sh)
    obtain ⟨b1, hb1, k1⟩ := RSs.k h4 s1 fun t ht => by
      obtain ⟨p, hp, hl⟩ := PyData.shownKv_key_le kvs t ht
      exact Nat.le_trans hl (Nat.le_trans (dictText_mem_le hp) z')
    obtain ⟨b2, hb2, k2⟩ := RSs.k h5 s2 fun t ht => by
      obtain ⟨p, hp, hl⟩ := PyData.shownKv_val_le kvs t ht
      exact Nat.le_trans hl (Nat.le_trans (dictText_mem_le hp) z')
    obtain ⟨as, q⟩ := RSs.reads h4
    obtain ⟨cs, q'⟩ := RSs.reads h5
    have r : Reads h (.ref a) (.dict kvs) (a :: as ++ cs) := .dict h1 h2 h3 q q'
    have hb := am_cat (hb1.mono (PyData.depthAll_keys_le kvs)) (hb2.mono (PyData.depthAll_vals_le kvs))
    have na : a ∉ b1 ++ b2 := not_mem_of_deeper r (by rw [PyData.depth]; omega) hb
    refine ⟨a :: (b1 ++ b2), ReadAtMost.cons r (by rw [PyData.depth]; omega) hb, ?_⟩
    rw [PyData.depth, PyData.shown, PyData.shownKv_eq]
    refine ReprK.dict h1 h2 h3 hm na (ReprEntriesK.of_two es.toList _ _ ?_ ?_)
    · exact k1.more_le (fun b hb => List.mem_append_left _ hb) (PyData.depthAll_keys_le kvs)
    · exact k2.more_le (fun b hb => List.mem_append_right _ hb) (PyData.depthAll_vals_le kvs)
theorem RSs.k : ∀ {vs : List Value} {ds : List PyData}, RSs h vs ds → PyData.showableAll ds = true → (∀ t ∈ PyData.shownAll ds, t.length ≤ sizeLine) → ∃ bs, ReadAtMost h (PyData.depthAll ds) bs ∧ ReprAllK prog w bs h (PyData.depthAll ds) vs (PyData.shownAll ds)
  | _, _, .nil, _, _ => ⟨[], (fun _ z => nomatch z), by rw [PyData.shownAll]; exact .nil⟩
  | _, _, .cons (d := d) (ds := ds) r rs, sh, z => by
    have sh' : d.showable = true ∧ PyData.showableAll ds = true := by simpa [PyData.showableAll] using sh
    obtain ⟨b1, hb1, k1⟩ := RS.k r sh'.1 (z _ (by rw [PyData.shownAll]; exact List.mem_cons_self))
    obtain ⟨b2, hb2, k2⟩ := RSs.k rs sh'.2 fun t ht => z t (by rw [PyData.shownAll]; exact List.mem_cons_of_mem _ ht)
    have l1 : d.depth ≤ PyData.depthAll (d :: ds) := by rw [PyData.depthAll]; exact Nat.le_max_left _ _
    have l2 : PyData.depthAll ds ≤ PyData.depthAll (d :: ds) := by rw [PyData.depthAll]; exact Nat.le_max_right _ _
    refine ⟨b1 ++ b2, am_cat (hb1.mono l1) (hb2.mono l2), ?_⟩
    rw [PyData.shownAll]
    exact .cons ((k1.more fun b hb => List.mem_append_left _ hb).level_le l1) (k2.more_le (fun b hb => List.mem_append_right _ hb) l2)
end
variable {A : Around} {E : Value → Shared → Prop} {s : Shared} {Q : Value → Shared → Prop} {a : Addr} {d : PyData}
theorem repr_RS (r : RS s.heap (.ref a) d) (sh : d.showable = true) (hg : A.guards = some []) (hu : A.units + (d.depth + 1) < cLine)
    (hQ : ∀ h' u tk, (∀ b o, s.heap.get? b = some o → h'.get? b = some o) → Q (.str d.shown u) { s with heap := h', toks := tk }) (z : d.shown.length ≤ sizeLine) : wpAny (model prog w) A (call (.builtin "repr") [.ref a]) Q E s := by
  have key : ∃ T idr, ShowsBy prog w s.heap a d T idr := by
    cases r with
    | lst h1 h2 h3 h4 =>
      rename_i o vs n xs
      have z' : (listText (PyData.shownAll xs)).length ≤ sizeLine := by rw [PyData.shown] at z; exact z
      obtain ⟨bs, hb, hk⟩ := RSs.k (prog := prog) (w := w) h4 (by simpa [PyData.showable] using sh) fun t ht => Nat.le_trans (listText_mem_le ht) z'
      obtain ⟨as, q⟩ := RSs.reads h4
      have na : a ∉ bs := not_mem_of_deeper (Reads.list h1 h2 h3 q) (by rw [PyData.depth]; omega) hb
      refine ⟨"list", "list.__repr__", F.slot_list_repr.toG, F.slot_list_str, F.slot_list_format, fun s hk0 => ⟨o, hk0 _ _ h1, h2⟩, fun A E s Q hg hu hk0 hQ => ?_⟩
      rw [PyData.depth] at hu
      rw [PyData.shown] at hQ
      obtain ⟨l⟩ := vs
      cases l with
      | nil =>
        cases (show RSs _ [] xs from h4)
        simp only [PyData.shownAll, listText_nil] at hQ
        exact call_list_repr_empty ⟨o, hk0 _ _ h1, h2⟩ (hk0 _ _ h1) h3 (hQ s.heap _ _ fun _ _ e => e)
      | cons x l => exact call_list_reprK h1 h2 h3 na (by simpa using hk.length_eq) (fun i y e => hk.item i y (by simpa using e)) hg (fun b _ => Clear.nil b) hu hk0 hQ z'
    | tup h1 h2 h3 h4 =>
      rename_i o vs n xs
      have z' : (tupleText (PyData.shownAll xs)).length ≤ sizeLine := by rw [PyData.shown] at z; exact z
      obtain ⟨bs, hb, hk⟩ := RSs.k (prog := prog) (w := w) h4 (by simpa [PyData.showable] using sh) fun t ht => Nat.le_trans (tupleText_mem_le ht) z'
      obtain ⟨as, q⟩ := RSs.reads h4
      have na : a ∉ bs := not_mem_of_deeper (Reads.tuple h1 h2 h3 q) (by rw [PyData.depth]; omega) hb
      refine ⟨"tuple", "tuple.__repr__", F.slot_tuple_repr, F.slot_tuple_str, F.slot_tuple_format, fun s hk0 => ⟨o, hk0 _ _ h1, h2⟩, fun A E s Q hg hu hk0 hQ => ?_⟩
      rw [PyData.depth] at hu
      rw [PyData.shown] at hQ
      exact call_tuple_reprK h1 h2 h3 na hk hg (fun b _ => Clear.nil b) hu hk0 hQ z'
    | dct h1 h2 h3 hm h4 h5 =>
      rename_i o es n kvs
      have z' : (dictText (PyData.shownKv kvs)).length ≤ sizeLine := by rw [PyData.shown] at z; exact z
      obtain ⟨s1, s2⟩ := PyData.showableKv_split kvs (by simpa [PyData.showable] using sh)
      obtain ⟨b1, hb1, k1⟩ := RSs.k (prog := prog) (w := w) h4 s1 fun t ht => by
        obtain ⟨p, hp, hl⟩ := PyData.shownKv_key_le kvs t ht
        exact Nat.le_trans hl (Nat.le_trans (dictText_mem_le hp) z')
      obtain ⟨b2, hb2, k2⟩ := RSs.k (prog := prog) (w := w) h5 s2 fun t ht => by
        obtain ⟨p, hp, hl⟩ := PyData.shownKv_val_le kvs t ht
        exact Nat.le_trans hl (Nat.le_trans (dictText_mem_le hp) z')
      obtain ⟨as, q⟩ := RSs.reads h4
      obtain ⟨cs, q'⟩ := RSs.reads h5
      have hb := am_cat (hb1.mono (PyData.depthAll_keys_le kvs)) (hb2.mono (PyData.depthAll_vals_le kvs))
      have na : a ∉ b1 ++ b2 := not_mem_of_deeper (Reads.dict h1 h2 h3 q q') (by rw [PyData.depth]; omega) hb
      refine ⟨"dict", "dict.__repr__", F.slot_dict_repr, F.slot_dict_str, F.slot_dict_format, fun s hk0 => ⟨o, hk0 _ _ h1, h2⟩, fun A E s Q hg hu hk0 hQ => ?_⟩
      rw [PyData.depth] at hu
      rw [PyData.shown, PyData.shownKv_eq] at hQ
      refine call_dict_reprK h1 h2 h3 hm na (ReprEntriesK.of_two es.toList _ _ ?_ ?_) hg (fun b _ => Clear.nil b) hu hk0 hQ (by rw [← PyData.shownKv_eq]; exact z')
      · exact k1.more_le (fun b hb => List.mem_append_left _ hb) (PyData.depthAll_keys_le kvs)
      · exact k2.more_le (fun b hb => List.mem_append_right _ hb) (PyData.depthAll_vals_le kvs)
  obtain ⟨T, idr, S⟩ := key
  exact call_repr_slot (by omega) (S.typeIs s fun _ _ e => e) S.slotRepr (S.call A.in1 E s _ hg (by show A.units + 1 + d.depth < cLine; omega) (fun _ _ e => e) fun h' u tk hk => ⟨_, _, rfl, hQ h' u tk hk⟩)
end
end Dr

/-! ### x[::-1], x a tuple -/
namespace Dw
open PySem PyProof.Rows HT
section
variable {prog : Program} {w : World} {A : Around} {E : Value → Shared → Prop} {s : Shared}
theorem adj_rev (n : Nat) : Builtin.Slice.sliceAdjust none none (-1) (n : Int) = ((n : Int) - 1, -1) := by
  unfold Builtin.Slice.sliceAdjust
  rfl
theorem places_rev (n : Nat) : Builtin.Slice.slicePlaces ((n : Int) - 1) (-1) (-1) = n := by
  unfold Builtin.Slice.slicePlaces
  rw [if_neg (by decide), show (-(-1) : Int) = 1 from rfl, Int.ediv_one]
  split <;> omega
theorem applied_rev {sl : Addr} {t : Tok} {n : Nat} {Q : Int × Int × Nat → Shared → Prop} (hs : s.heap.IsSliceOf sl .none .none (.int (-1) t))
    (h : Q ((n : Int) - 1, -1, n) s) : wpAny (model prog w) A (Builtin.Slice.sliceApplied (.ref sl) (pure (n : Int))) Q E s := by
  obtain ⟨os, hos, hcs, hds⟩ := id hs
  unfold Builtin.Slice.sliceApplied Builtin.Slice.sliceFields
  refine wpAny_bind (wpAny_bind (wpAny_field hos hds (x := .none) rfl (wpAny_bind (wpAny_field hos hds (x := .none) rfl (wpAny_bind (wpAny_field hos hds (x := .int (-1) t) rfl (wpAny_pure ?_)))))))
  refine wpAny_bind (slicePart_int ?_)
  show wpAny _ _ (if ((-1 : Int) == 0) = true then _ else _) _ _ s
  rw [if_neg (by decide)]
  refine wpAny_bind (slicePart_none (wpAny_bind (slicePart_none (wpAny_bind (wpAny_pure ?_)))))
  show wpAny _ _ (match Builtin.Slice.sliceAdjust none none (-1) (n : Int) with | (lo, hi) => pure (lo, (-1 : Int), Builtin.Slice.slicePlaces lo hi (-1))) _ _ s
  rw [adj_rev]
  show wpAny _ _ (pure ((n : Int) - 1, (-1 : Int), Builtin.Slice.slicePlaces ((n : Int) - 1) (-1) (-1))) _ _ s
  rw [places_rev]
  exact wpAny_pure h
theorem pick_rev (xs : Array Value) : ((List.range xs.size).filterMap fun (m : Nat) => xs[((xs.size : Int) - 1 + (m : Int) * (-1)).toNat]?).toArray = xs.toList.reverse.toArray := by
  have e : (fun (m : Nat) => xs[((xs.size : Int) - 1 + (m : Int) * (-1)).toNat]?) = fun m => xs[xs.size - 1 - m]? := by
    funext m
    have : ((xs.size : Int) - 1 + (m : Int) * (-1)).toNat = xs.size - 1 - m := by omega
    rw [this]
  have e2 : (List.range xs.size).filterMap (fun m => xs[xs.size - 1 - m]?) = ((List.range xs.size).map fun k => xs.size - 1 - k).filterMap (xs[·]?) := by
    rw [List.filterMap_map]; rfl
  rw [e, e2, PySem.W.krv_range, List.filterMap_reverse, PySem.W.krv_all]
theorem getItem_rev {t sl : Addr} {items : Array Value} {u : Tok} {Q : Value → Shared → Prop} (ht : IsTup s.heap t items) (hs : s.heap.IsSliceOf sl .none .none (.int (-1) u))
    (h : Q (.ref s.heap.objs.size) { s with heap := s.heap.push { cls := .type "tuple", data := .seq items.toList.reverse.toArray } }) (hsz : items.size ≤ sizeLine) : wpAny (model prog w) A (getItem (.ref t) (.ref sl)) Q E s := by
  have hr : sizeOk (.seq items.toList.reverse.toArray) := by
    show items.toList.reverse.toArray.size ≤ sizeLine
    rw [List.size_toArray, List.length_reverse, Array.length_toList]
    exact hsz
  obtain ⟨os, hos, hcs, hds⟩ := id hs
  have hTs : s.TypeIs (.ref sl) "slice" := ⟨os, hos, hcs⟩
  unfold getItem
  try with_reducible refine wpAny_holding ?_
  first | refine wpAny_bind (wpAny_pure ?_) | skip
  refine wpAny_bind (wpAny_sequenceKey ht.typeIs (by decide) ?_)
  refine wpAny_bind (wpAny_callSpecial?_slot (name := Str.ofString "__getitem__") ht.typeIs PyProof.Rows.slot_tuple_getitem (wpAny_call_entry PyProof.Rows.slot_tuple_getitem ht.typeIs entry_tuple_getitem ?_ (args_tuple_getitem _ _)))
  show wpAny _ _ (Builtin.Tuple.tupleItemsOf (.ref t) >>= _) _ _ s
  refine wpAny_bind (tupleItemsOf_ ht ?_)
  refine wpAny_bind (wpAny_typeOf hTs ?_)
  rw [if_pos (by decide)]
  refine wpAny_bind (applied_rev hs ?_)
  have hno : ¬ (((items.size : Int) - 1 == 0 && (-1 : Int) == 1 && items.size == items.size) = true) := by
    intro q
    rw [Bool.and_eq_true, Bool.and_eq_true] at q
    exact absurd q.1.2 (by decide)
  show wpAny _ _ (if ((items.size : Int) - 1 == 0 && (-1 : Int) == 1 && items.size == items.size) = true then _ else _) _ _ s
  rw [if_neg hno, pick_rev]
  first
    | exact wpAny_bind (m := Builtin.Tuple.tupleExact _) (wpAny_newObj_type (wpAny_pure ⟨_, rfl, wpAny_pure h⟩) hr)
    | exact wpAny_bind (m := Builtin.Tuple.tupleExact _) (wpAny_newObj_type (wpAny_bind (wpAny_pure (wpAny_pure ⟨_, rfl, wpAny_pure h⟩))) hr)
    | exact wpAny_bind (wpAny_bind (m := Builtin.Tuple.tupleExact _) (wpAny_newObj_type (wpAny_pure (wpAny_pure ⟨_, rfl, wpAny_pure h⟩)) hr))
    | exact wpAny_bind (wpAny_bind (m := Builtin.Tuple.tupleExact _) (wpAny_newObj_type (wpAny_pure ⟨_, rfl, wpAny_pure h⟩) hr))
end
end Dw
namespace Dw
open PySem PySem.Spec PyProof.Rows L2
variable {X : Cx}
def tRev (K : PySem.W.Frag) (te : TE) : TE := fun σ H Q => te σ H fun x H1 => ∃ a xs, x = .ref a ∧ SqT K H1 a xs ∧ ∀ p, H1 p = none → Q (.ref p) (upd H1 p (.tup xs.reverse))
theorem pe_revT {e : Expr} {te : TE} {k : Nat} {p1 p2 p3 pos : Pos} (he : PE X e te) : PE X (.Subscript e (.Slice none none (some (.UnaryOp .USub (.Constant (.int 1) k p1) p2)) p3) pos) (tRev X.K te) := by
  refine ⟨fun pins s σ H Q I h => ?_⟩
  refine Subscript_ (thn (he.run pins s σ H _ I h) fun v s1 ⟨x, H1, I1, r1, q1⟩ => ?_)
  obtain ⟨a, xs, ex, hx, q⟩ := q1
  subst ex
  cases r1
  have hst : PO X (some (.UnaryOp .USub (.Constant (.int 1) k p1) p2)) (tPart (tUn (rU fun i => .int (-i)) (tC (.int 1)))) := po_some (pe_un un_neg pe_int)
  refine wpAny_Slice (thn (po_none.run pins s1 σ H1 (fun o H2 => o = none ∧ H2 = H1) I1 ⟨rfl, rfl⟩) fun vl s2 ⟨l, H2, I2, pl, el, e2⟩ => ?_)
  subst el e2
  refine thn (po_none.run pins s2 σ H2 (fun o H3 => o = none ∧ H3 = H2) I2 ⟨rfl, rfl⟩) fun vu s3 ⟨u, H3, I3, pu, eu, e3⟩ => ?_
  subst eu e3
  refine thn (hst.run pins s3 σ H3 (fun o H4 => o = some (-1) ∧ H4 = H3) I3 ⟨1, rfl, -1, rfl, rfl, rfl⟩) fun vs s4 ⟨o, H4, I4, ps, eo, e4⟩ => ?_
  subst eo e4
  cases pl
  cases pu
  cases ps with
  | int i t =>
    have I5 : Inv X pins σ H4 { s4 with heap := s4.heap.push { cls := .type "slice", data := .fields #[.none, .none, .int (-1) t] } } := I4.kept (t' := s4.toks) fun b ob q => Heap.get?_push_of_some _ q
    obtain ⟨its, r, ht, hz⟩ := I5.tuple hx
    have hlen := r.length
    refine tail_any (ops := [.ref a, .ref s4.heap.objs.size]) ht.typeIs slot_tuple_getitem.lookup ?_ (by with_unfolding_all rfl)
    refine getItem_rev ht (Heap.IsSliceOf.new _ .none .none (.int (-1) t)) ?_ (by rw [List.size_toArray]; omega)
    refine ⟨.ref _, _, I5.laid (t' := s4.toks) (o := .tup xs.reverse) (fun b ob q => Heap.get?_push_of_some _ q) (Nat.le_refl _) ?_, rfl, q _ (I5.hok.fresh (Nat.le_refl _))⟩
    exact ⟨by rw [List.length_reverse]; exact hz, _, r.reverse, ⟨_, Heap.get?_push_size _ rfl, rfl, _, rfl⟩⟩
end Dw

namespace Dl
variable [Kc]
open PySem L2 PySem.Spec PyProof.Rows

/-! ### isinstance, with exceptions -/
inductive TyZ (K : PySem.W.Frag) (H : Hp) : V → Value → Prop where
  | base {x : V} {t : Value} (h : TyX K H x t) : TyZ K H x t
  | exc {a C : Addr} {d : Option Addr} (e : H a = some (XcO a C d)) (hd : d = none ∨ ∃ dd fs, d = some dd ∧ H dd = some (.xd fs)) (c : XcC K C) : TyZ K H (.ref a) (.ref C)
def rIsiZ (K : PySem.W.Frag) : List V → Hp → VK → Prop := fun xs H Q => ∃ (x c : V) (t u : Value) (b : Bool), xs = [x, c] ∧ (∀ w, RelV c w → w = u) ∧ TyZ K H x t ∧ PySem.W.kitOne K t u = some b ∧ Q (.bl b) H
section
variable {X : Cx} {pins : List (Addr × Obj)} {σ : L2.St} {H : Hp} {s : Shared}
theorem inst_at {a C : Addr} {d : Option Addr} (I : Inv X pins σ H s) (e : H a = some (XcO a C d)) (hd : d = none ∨ ∃ dd fs, d = some dd ∧ H dd = some (.xd fs)) :
    ∃ (oe : Obj) (od : Option Obj), PySem.W.InstAt s.heap a oe C od := by
  have x : ObjOk X.prog X.w H s.heap a (XcO a C d) := I.hok a _ e
  obtain ⟨⟨oe, vs, h1, h2, h3⟩, _, _⟩ := x
  have hn : PySem.W.notCls oe = true := by unfold PySem.W.notCls; rw [h3] <;> rfl
  rcases hd with rfl | ⟨dd, fs, rfl, hx⟩
  · exact ⟨oe, none, h1, h2.1, hn, by rw [h2.2]; trivial⟩
  · have y : ObjOk X.prog X.w H s.heap dd (.xd fs) := I.hok dd _ hx
    obtain ⟨mA, hns, hr⟩ := y
    obtain ⟨od, ho, hl⟩ := lookIn_ns hns
    exact ⟨oe, some od, h1, h2.1, hn, by rw [h2.2]; exact ho⟩
theorem kit_ofZ {x : V} {u t : Value} (I : Inv X pins σ H s) (rx : RelV x u) (ty : TyZ X.K H x t) : ∃ P : Heap → Prop, PySem.W.KitX X.K u t P ∧ P s.heap ∧ u ≠ .builtin "__main__.__loader__#opaque" := by
  cases ty with
  | base h => exact kit_of I rx h
  | exc e hd c =>
    cases rx
    obtain ⟨oe, od, J⟩ := inst_at I e hd
    exact ⟨_, PySem.W.kitx_exc c.cl c.ga c.gg c.ex c.ha c.hn c.ht c.hm, J, fun z => nomatch z⟩
theorem call_isiZ : CallR X (.builtin "isinstance") (rIsiZ X.K) := by
  intro pins s σ H xs us Q I r h
  obtain ⟨x, c, t, u, b, rfl, k, ty, e, q⟩ := h
  obtain ⟨u1, u2, rfl, r1, r2⟩ := vals2 r
  have e2 := k _ r2
  subst e2
  obtain ⟨P, Z, p, hx⟩ := kit_ofZ I r1 ty
  exact PySem.W.kia_one Z I.kIn p e hx fun tk => ⟨.bl b, H, I.tok tk, rfl, q⟩
/-- isinstance(x, (c1, c2, ..)) -/
def rIsiZT (K : PySem.W.Frag) : List V → Hp → VK → Prop := fun xs H Q => ∃ (x : V) (tp : Addr) (cs : List V) (t : Value) (us : List Value) (b : Bool), xs = [x, .ref tp] ∧ H tp = some (.tup cs) ∧ (∀ ws, Vals cs ws → ws = us) ∧ TyZ K H x t ∧ PySem.W.kitAny K t us = some b ∧ Q (.bl b) H
theorem call_isiZT : CallR X (.builtin "isinstance") (rIsiZT X.K) := by
  intro pins s σ H xs us Q I r h
  obtain ⟨x, tp, cs, t, ws, b, rfl, hT, k, ty, e, q⟩ := h
  obtain ⟨u1, u2, rfl, r1, r2⟩ := vals2 r
  cases (show u2 = Value.ref tp from r2)
  obtain ⟨P, Z, p, hx⟩ := kit_ofZ I r1 ty
  obtain ⟨_, its, rv, o, h1, h2, n, h3⟩ := (show ObjOk X.prog X.w H s.heap tp (.tup cs) from I.hok tp _ hT)
  have e3 := k _ rv
  subst e3
  obtain ⟨oc, od, dt, sl⟩ := o
  simp only at h2 h3
  subst h2 h3
  exact PySem.W.kia_tup Z I.kIn p h1 e hx fun tk => ⟨.bl b, H, I.tok tk, rfl, q⟩

/-! ### e.f of an exception that is held -/
def tXfH (K : PySem.W.Frag) (f : Str) (te : TE) : TE := fun σ H Q => te σ H fun x H1 => ∃ (a C dd : Addr) (fs : List (Str × V)) (v : V), x = .ref a ∧ XcC K C ∧ f ∈ attN ∧ H1 a = some (XcO a C (some dd)) ∧ H1 dd = some (.xd fs) ∧ fs.lookup f = some v ∧ Q v H1
theorem pe_xfH {e : Expr} {te : TE} {pos : Pos} {n : Str} (he : PE X e te) (hb : attributeBase e n X.env (eval e X.env) = eval e X.env := by rfl) : PE X (.Attribute e n pos) (tXfH X.K n te) := by
  refine ⟨fun pins s σ H Q I h => ?_⟩
  refine attr_of hb (thn (he.run pins s σ H _ I h) fun u s1 hh => ?_)
  obtain ⟨x, H1, I1, rx, a, C, dd, fs, v, ex, T, hn, ea, ed, l, q⟩ := hh
  subst ex
  obtain rfl : u = Value.ref a := rx
  have x : ObjOk X.prog X.w H1 s1.heap a (XcO a C (some dd)) := I1.hok a _ ea
  obtain ⟨⟨oe, vs, h1, h2, h3⟩, _, _⟩ := x
  have hx : ObjOk X.prog X.w H1 s1.heap dd (.xd fs) := I1.hok dd _ ed
  obtain ⟨mA, hns, hr⟩ := hx
  obtain ⟨od, ho, hl⟩ := lookIn_ns hns
  obtain ⟨u, hu, ru⟩ := RelO.some_of (v := v) (o := mA n) (by rw [← l]; exact hr n)
  have J : PySem.W.InstAt s1.heap a oe C (some od) := ⟨h1, h2.1, by unfold PySem.W.notCls; rw [h3] <;> rfl, by rw [h2.2]; exact ho⟩
  exact HandSPX.exc_get I1.kIn J T.ga T.gg T.ex (PySem.W.findObj_own T.hd (T.fn n hn) rfl (by rw [hl, hu])) (handed_of ru) ⟨v, H1, I1.tok _, ru, q⟩
end
end Dl

namespace Dl
variable [Kc]
open PySem L2 PySem.Spec PyProof.Rows

def bad2 (x : Str) : Bool := (x == ("__debug__" : Str)) || (x == ("__classdict__" : Str))
/-! ### a caught exception becomes a value -/
section
variable {X : Cx} {pins : List (Addr × Obj)} {σ : L2.St} {H : Hp} {s : Shared}
theorem XcO_ne {a C x : Addr} {d : Option Addr} : XcO a C d ≠ .own x := fun z => by
  have z' : HO.ext _ = HO.own x := z
  cases z'
theorem track {a C : Addr} {oe : Obj} {d : Option Addr} {vs : Array Value} (I : Inv X ((a, oe) :: pins) σ H s) (hz : Zc (.ref C) d oe) (hd : oe.data = .fields vs) (n0 : X.s_0.heap.get? a = none) (hp : ∀ p ∈ X.pn ++ pins, p.1 ≠ a) :
    Inv X pins σ (upd H a (XcO a C d)) s := by
  obtain ⟨ha, hn, nL, nF, nc⟩ := I.pin (a, oe) (List.mem_append_right _ List.mem_cons_self)
  have ne : ∀ {b : Addr} {o : HO}, H b = some o → b ≠ a := fun {b o} e => ne_of_none e hn
  refine ⟨I.ok, I.os, I.bare, ⟨I.base.keep, I.base.slot, fun b o e n hx => ?_, I.base.there, fun b xs e => ?_, fun b o xs e => ?_, fun b ps e => ?_⟩, I.loc, I.cell, ?_, fun y c e => ?_, fun p hpm => ?_, fun b o e => ?_, I.len⟩
  · have hb : b ≠ a := fun z => by rw [z, n0] at e; cases e
    rw [upd_ne hb]
    exact I.base.free b o e n hx
  · have e1 := I.base.tups b xs e
    rw [upd_ne (ne e1)]
    exact e1
  · have e1 := I.base.frzs b o xs e
    rw [upd_ne (ne e1)]
    exact e1
  · obtain ⟨more, e1⟩ := I.base.tbls b ps e
    refine ⟨more, ?_⟩
    rw [upd_ne (ne e1)]
    exact e1
  · rw [upd_ne (Ne.symm nL)]
    exact I.free
  · have hc : c ≠ a := fun z => by
      obtain ⟨v, o, ho, hdd⟩ := I.cell y c e
      rw [z] at ho
      rw [ha] at ho
      cases ho
      exact nc _ hdd
    rw [upd_ne hc]
    exact I.freeC y c e
  · obtain ⟨e1, e2, e3⟩ := I.pin p (by
      rcases List.mem_append.mp hpm with z | z
      · exact List.mem_append_left _ z
      · exact List.mem_append_right _ (List.mem_cons_of_mem _ z))
    exact ⟨e1, by rw [upd_ne (hp p hpm)]; exact e2, e3⟩
  · by_cases hb : b = a
    · subst hb
      rw [upd_same] at e
      cases e
      exact ⟨⟨oe, vs, ha, hz, hd⟩, ⟨oe, ha⟩, fun h1 h2 z k => by
        obtain ⟨o', v', q1, q2, q3⟩ := z
        exact ⟨o', v', k _ q1, q2, q3⟩⟩
    · rw [upd_ne hb] at e
      exact (I.hok b o e).stay (fun c v hc q => q) (fun c q => by rw [upd_ne (ne q)]; exact q) fun c xs q => by rw [upd_ne (ne q)]; exact q
end
/-- what 'except x as n: y = n' wishes -/
def wTrk (K : PySem.W.Frag) (c : Value) (i j : Nat) (Wout : WX) (D : Ends) : WX := fun cls d σ H =>
  ∃ b, PySem.W.exmOne K cls c = some b ∧ (b = true → ∃ C, cls = .ref C ∧ ∀ a, H a = none → D.nx (((σ.set i (some (.ref a))).set j (some (.ref a))).set i none) (upd H a (XcO a C d))) ∧ (b = false → Wout cls d σ H)
section
variable {X : Cx} {x n y : Str} {c : Value} {i j : Nat} {body : List Stmt} {np pos pos' p1 p2 p3 : Pos} {tb : WX → TS} {Wout : WX}
theorem ps_try_trk (hs : X.stack = X.env :: X.outer) (hf : X.env.frame = some X.env.locals) (hex : X.ex = []) (hN : X.N.Nodup) (hi : X.N[i]? = some n) (hln : X.env.kindOf n = some .local) (hj : X.N[j]? = some y) (hly : X.env.kindOf y = some .local) (hij : i ≠ j) (hbd : bad2 n = false) (hc : Names X x c) (tk : Takes X Wout)
    (hb : ∀ (W : WX) (pn : List (Addr × Obj)) (xe : Value → Shared → Prop), Takes (X.tr pn xe) W → PassesOwn (model X.prog X.w) X.A X.env xe → PSs (X.tr pn xe) body (tb W)) :
    PS X (.Try body [.ExceptHandler (some (.Name x np)) (some n) [.Assign [.Name y p1] (.Name n p2) p3] pos'] [] [] pos) (fun D σ H => tb (wTrk X.K c i j Wout D) D σ H) := by
  refine ⟨fun pins s σ H D I h => ?_⟩
  have ok := I.ok
  have hfr : X.A.frames = some (X.env :: X.outer) := by rw [ok.frames, hs]
  have hloc : Loc X.env.scope n := .inl hln
  have hnb : (n == ("__debug__" : Str)) = false ∧ (n == ("__classdict__" : Str)) = false := by
    unfold bad2 at hbd
    simpa using hbd
  refine wpAny_Try_except ?_
  refine wpAny_mono ((hb (wTrk X.K c i j Wout D) (X.pn ++ pins) (fun e s₁ => wpAny (model X.prog X.w) X.A (noteFrame e X.env) (fun _ s₂ => wpAny (model X.prog X.w) X.A (setFlight e none) (fun _ s₃ =>
    wpAny (model X.prog X.w) X.A (handleBy e X.env [.ExceptHandler (some (.Name x np)) (some n) [.Assign [.Name y p1] (.Name n p2) p3] pos']) (SP X pins D) X.xe s₃) X.xe s₂) X.xe s₁) (fun u s' xx => ?_) PassesOwn.looking).run [] s σ H D (I.toTry _) h) (fun f s1 hsp => ?_) (fun e s1 he => he)
  · obtain ⟨a, B, sI, pins', σ', H', cls, d, rfl, J', nb, up, sky, na, os, ag, b, hb1, hyes, hno⟩ := xx
    have J : Inv X pins σ' H' sI := J'.ofTry ok
    have sky' : Sky B (X.env :: X.outer) a (Zc cls d) X.env.locals s'.heap := by rw [← hs]; exact sky
    show wpAny (model X.prog X.w) X.A (noteFrame (.ref a) X.env) _ _ _
    refine Sky.land Zc.steady hfr hf sky' fun h3 fl3 up3 => ?_
    have J3 : Inv X pins σ' H' { s' with heap := h3 } := J.landed nb fl3.1 (up.trans up3) os ag
    obtain ⟨oe3, vs3, he3, hz3, hd3⟩ := fl3.there
    have notFr : ∀ {h : Heap} {o : Obj} {vs : Array Value}, h.FunFrames B (X.env :: X.outer) → h.get? a = some o → o.data = .fields vs → a ∉ frs (X.env :: X.outer) := fun {h o vs} ff e dd hm => by
      obtain ⟨_, o', e', hnf⟩ := ff.mem hm
      rw [e] at e'; cases e'
      exact hnf _ dd
    have nfr := notFr fl3.2.2.1 he3 hd3
    have nL : a ≠ X.env.locals := fun z => nfr (List.mem_filterMap.mpr ⟨X.env, List.mem_cons_self, by rw [hf, z]⟩)
    have nF : a ∉ X.fs := fun hm => by
      obtain ⟨e, he, q⟩ := List.mem_filterMap.mp hm
      exact nfr (List.mem_filterMap.mpr ⟨e, List.mem_cons_of_mem _ he, q⟩)
    have nst : a ∉ frs X.stack := by rw [hs]; exact nfr
    have nsI : sI.heap.get? a = none := by
      cases q : sI.heap.get? a with
      | none => rfl
      | some o =>
        have := nb a o q nst
        rw [fl3.2.1] at this
        cases this
    have n0 : X.s_0.heap.get? a = none := by
      cases q : X.s_0.heap.get? a with
      | none => rfl
      | some o =>
        obtain ⟨o', e'⟩ := J.base.there a o q (by rw [hex]; simp)
        rw [nsI] at e'
        cases e'
    have hpn : ∀ p ∈ X.pn ++ pins, p.1 ≠ a := fun p hp z => by
      have := (J.pin p hp).1
      rw [z, nsI] at this
      cases this
    have S3 := J3.suite he3 hd3 na nL nF
    refine wpAny_handleBy_cons (codeAny_handlers_test ?_) (by intro q; cases q)
    have LT : PySem.W.Looks (model X.prog X.w) h3 (typeOf (.ref a)) cls := fun A Q E s k q => wpAny_typeOf_ref (k _ _ he3) (by rw [hz3.1]; exact q)
    have LM := PySem.W.exm_one (M := model X.prog X.w) (J3.kIn) LT hb1
    have test : ∀ {Q : Value → Shared → Prop} {E : Value → Shared → Prop}, Q c { s' with heap := h3 } → wpAny (model X.prog X.w) (X.A.mark (some (.ref a))) (eval (.Name x np) X.env) Q E { s' with heap := h3 } := fun {Q E} q => by
      obtain ⟨hg, hdbg, hm | ⟨hm, hv, hnn⟩⟩ := hc
      · exact ld_glob (X := X.suite a ((a, oe3) :: (X.pn ++ pins))) S3 hg hm q hdbg
      · exact ld_blt (X := X.suite a ((a, oe3) :: (X.pn ++ pins))) S3 hg hm hv q hnn hdbg
    refine test (LM.here ?_)
    cases b with
    | true =>
      obtain ⟨C, ec, hnx⟩ := hyes rfl
      refine codeAny_handlers_suite_as ?_
      refine HandSPX.lands_againZ fl3 fun h4 fl4 up4 => ?_
      have J4 : Inv X pins σ' H' { s' with heap := h4 } := J.landed nb fl4.1 ((up.trans up3).trans up4) os ag
      obtain ⟨oe4, vs4, he4, hz4, hd4⟩ := fl4.there
      have S4 := J4.suite he4 hd4 na nL nF
      refine store_ok (X := X.suite a ((a, oe4) :: (X.pn ++ pins))) (v := .ref a) S4 hN hi hloc rfl (fun s5 S5 => ?_) (.inr hln)
      have hilt : i < σ'.length := by
        rw [J.len]
        exact (List.getElem?_eq_some_iff.mp hi).1
      have su : PSs (X.suite a ((a, oe4) :: (X.pn ++ pins))) [.Assign [.Name y p1] (.Name n p2) p3] (tAsg (tVar i) (gName j)) :=
        pss_one (ps_set (X := X.suite a ((a, oe4) :: (X.pn ++ pins))) (i := j) hN hj (.inl hly) (pe_var (X := X.suite a ((a, oe4) :: (X.pn ++ pins))) (i := i) hi (.inl hln) hnb.1 hnb.2) rfl (.inr hly))
      refine wpAny_mono (su.run [] s5 _ H' { nx := fun σ6 H6 => σ6 = (σ'.set i (some (.ref a))).set j (some (.ref a)) ∧ H6 = H', rt := fun _ _ => False, bk := fun _ _ => False, ct := fun _ _ => False } S5 ⟨.ref a, by rw [List.getElem?_set_self hilt], rfl, rfl⟩) (fun f s6 hsp => ?_) (fun _ _ z => False.elim z)
      cases f with
      | next =>
        obtain ⟨σ6, H6, S6, rfl, rfl⟩ := hsp
        have S7 : Inv X ((a, oe4) :: pins) ((σ'.set i (some (.ref a))).set j (some (.ref a))) H6 s6 := ⟨ok, S6.os, S6.bare, S6.base, S6.loc, S6.cell, S6.free, S6.freeC, fun p hp => S6.pin p (by
          rw [List.append_nil]
          rcases List.mem_append.mp hp with z | z
          · exact List.mem_cons_of_mem _ (List.mem_append_left _ z)
          · rcases List.mem_cons.mp z with z | z
            · rw [z]; exact List.mem_cons_self
            · exact List.mem_cons_of_mem _ (List.mem_append_right _ z)), S6.hok, S6.len⟩
        refine gone_ok S7 hN hi hln fun s7 J7 => ?_
        subst ec
        exact ⟨_, _, track J7 hz4 hd4 n0 hpn, hnx a na⟩
      | brk =>
        obtain ⟨σ6, H6, S6, q6⟩ := hsp
        exact q6.elim
      | cont =>
        obtain ⟨σ6, H6, S6, q6⟩ := hsp
        exact q6.elim
      | ret u =>
        obtain ⟨v6, σ6, H6, S6, r6, q6⟩ := hsp
        exact q6.elim
    | false =>
      show wpAny _ X.A (handleBy (.ref a) X.env []) _ _ _
      refine wpAny_handleBy_nil ?_
      obtain ⟨k1, k2, k3, oe, vs, T, oT, ts', he, hz, hd, h1, hr⟩ := id fl3
      unfold PySem.passOn
      refine wpAny_bind (wpAny_field he hd h1 ?_)
      rw [if_neg (show ¬ ((Value.ref T == Value.none) = true) from by simp)]
      have fin : wpAny (model X.prog X.w) X.A (setFlight (.ref a) X.env.frame) (fun _ s4 => wpAny (model X.prog X.w) X.A (throw (.ref a) : Sem Flow) (SP X pins D) X.xe s4) X.xe { s' with heap := h3 } := by
        rw [hf]
        refine HandSPX.setFlight_upZ fl3 fun h4 hh4 up4 => wpAny_throw (tk _ _ ?_)
        exact ⟨a, B, sI, pins, σ', H', cls, d, rfl, J, nb, (up.trans up3).trans up4, .inr (.inr (by rw [hs]; exact hh4)), na, os, ag, hno rfl⟩
      first
        | exact wpAny_bind (wpAny_pure (wpAny_bind fin))
        | exact wpAny_bind fin
  · cases f with
    | next =>
      obtain ⟨σ', H', J', q⟩ := hsp
      exact wpAny_execs_nil ⟨σ', H', J'.ofTry ok, q⟩
    | brk =>
      obtain ⟨σ', H', J', q⟩ := hsp
      exact ⟨σ', H', J'.ofTry ok, q⟩
    | cont =>
      obtain ⟨σ', H', J', q⟩ := hsp
      exact ⟨σ', H', J'.ofTry ok, q⟩
    | ret u =>
      obtain ⟨v, σ', H', J', r, q⟩ := hsp
      exact ⟨v, σ', H', J'.ofTry ok, r, q⟩
end
end Dl

namespace Dl
variable [Kc]
open PySem L2

/-! ### a built-in that looks at one thing and gives a scalar -/
def Lk1 (r : List V → Hp → VK → Prop) (f : D → Option D) : Prop := ∀ (d d' : D), f d = some d' → ∀ (W : Addr → Prop) (x v : V) (H : Hp) (Q : VK), Rep W H x d → sc d' = some v → Q v H → r [x] H Q
def sca1 (f : D → Option D) : Prop := ∀ d d', f d = some d' → ∃ v, sc d' = some v
def mLook1 (f : D → Option D) (a : Ag) : M O := bnd (opv a) fun x => bnd (rdv x) fun d => bnd (lift (f d)) fun r => ret (.val r)
section
variable {X : Cx} {B : Bx}
theorem de_look1 {e a : Expr} {r : List V → Hp → VK → Prop} {f : D → Option D} {ka : Ag} (hr : Lk1 r f) (hs : sca1 f) (ha : PE X a (rdT B ka)) (he : ∀ {ta : TE}, PE X a ta → PE X e (tCB r (tCons ta tNil))) : DE X B e (mLook1 f ka) := by
  refine (he ha).imp fun σ H Q ⟨pend, ρ, c, g⟩ => ?_
  refine opv_read c g fun w1 ρ1 v1 H1 l1 k1 c1 g1 => ?_
  obtain ⟨d, hd, g3⟩ := go_rdv g1
  obtain ⟨r', hr', g5⟩ := go_lift (go_bnd.mp g3)
  obtain ⟨ρ2, c2, _⟩ := look1 k1 c1 hd
  obtain ⟨W, q⟩ := c2.out1.rep
  obtain ⟨v, hv⟩ := hs _ _ hr'
  exact hr _ _ hr' W v1 v H1 Q q hv ((g5 : ∀ v H', Conf σ H' ((v, .val r') :: pend) ρ1 → Q v H') v H1 (c1.drop.sc hv))
theorem Lk1.or {r r' : List V → Hp → VK → Prop} {f g : D → Option D} (h : Lk1 r f) (h' : Lk1 r' g) : Lk1 (fun x H Q => r x H Q ∨ r' x H Q) (fun d => match f d with
  | some o => some o
  | none => g d) := fun d o ho W x v H Q r1 hv k => by
  cases q : f d with
  | none =>
    simp only [q] at ho
    exact .inr (h' d o ho W x v H Q r1 hv k)
  | some o' =>
    simp only [q] at ho
    cases ho
    exact .inl (h d _ q W x v H Q r1 hv k)
/-- len -/
def lenD (d : D) : Option D := match d with
  | .tup l => some (.int l.length)
  | .lst l => some (.int l.length)
  | .fl l => some (.int l.length)
  | .str x => if x.length ≤ 1000000 then some (.int x.length) else none
  | _ => none
theorem lenD_sc : sca1 lenD := fun d d' h => by
  unfold lenD at h
  split at h <;> first
    | (cases h; exact ⟨_, rfl⟩)
    | (split at h <;> cases h; exact ⟨_, rfl⟩)
    | cases h
theorem lk_len : Lk1 (fun xs H Q => (∃ p ys, xs = [.ref p] ∧ (SqL Kc.k H p ys ∨ SqT Kc.k H p ys) ∧ Q (.int ys.length) H) ∨ (∃ z, xs = [.str z] ∧ z.length ≤ sizeLine ∧ Q (.int z.length) H)) lenD := fun d d' h W x v H Q r hv q => by
  unfold lenD at h
  split at h
  · cases h; cases hv
    cases r with
    | tup _ e z => exact .inl ⟨_, _, rfl, .inr (sq_t e), by rw [z.len]; exact q⟩
  · cases h; cases hv
    cases r with
    | lst _ e z => exact .inl ⟨_, _, rfl, .inl (sq_l e), by rw [z.len]; exact q⟩
  · cases h; cases hv
    obtain ⟨p, rfl, s⟩ := rep_fl r
    exact .inl ⟨_, _, rfl, .inl s, by rw [List.length_map]; exact q⟩
  · split at h
    · rename_i hz
      cases h; cases hv; cases r
      exact .inr ⟨_, rfl, le_line hz, q⟩
    · cases h
  · cases h
/-- the intsD, the bools of a list -/
def intsD : List D → Option (List Int)
  | [] => some []
  | .int i :: l => (intsD l).map (i :: ·)
  | _ :: _ => none
def bls : List D → Option (List Bool)
  | [] => some []
  | .bl i :: l => (bls l).map (i :: ·)
  | _ :: _ => none
theorem ints_of : ∀ (ns : List Int), intsD (ns.map D.int) = some ns
  | [] => rfl
  | n :: ns => by rw [List.map_cons, intsD, ints_of ns]; rfl
theorem bls_of : ∀ (ns : List Bool), bls (ns.map D.bl) = some ns
  | [] => rfl
  | n :: ns => by rw [List.map_cons, bls, bls_of ns]; rfl
theorem ints_eq : ∀ {ds : List D} {ns : List Int}, intsD ds = some ns → ds = ns.map D.int
  | [], _, h => by cases h; rfl
  | .int i :: l, ns, h => by
    rw [intsD] at h
    cases q : intsD l with
    | none => rw [q] at h; cases h
    | some m => rw [q] at h; cases h; rw [List.map_cons, ints_eq q]
  | .non :: _, _, h => by cases h
  | .bl _ :: _, _, h => by cases h
  | .str _ :: _, _, h => by cases h
  | .tup _ :: _, _, h => by cases h
  | .lst _ :: _, _, h => by cases h
  | .dct _ _ :: _, _, h => by cases h
  | .fl _ :: _, _, h => by cases h
theorem bls_eq : ∀ {ds : List D} {ns : List Bool}, bls ds = some ns → ds = ns.map D.bl
  | [], _, h => by cases h; rfl
  | .bl i :: l, ns, h => by
    rw [bls] at h
    cases q : bls l with
    | none => rw [q] at h; cases h
    | some m => rw [q] at h; cases h; rw [List.map_cons, bls_eq q]
  | .non :: _, _, h => by cases h
  | .int _ :: _, _, h => by cases h
  | .str _ :: _, _, h => by cases h
  | .tup _ :: _, _, h => by cases h
  | .lst _ :: _, _, h => by cases h
  | .dct _ _ :: _, _, h => by cases h
  | .fl _ :: _, _, h => by cases h
theorem Reps.ints_ {W : Addr → Prop} {H : Hp} : ∀ {ns : List Int} {vs : List V}, Reps W H vs (ns.map D.int) → vs = ns.map V.int
  | [], _, .nil => rfl
  | n :: ns, _, .cons a b => by
    cases a
    rw [List.map_cons, Reps.ints_ b]
theorem Reps.bls {W : Addr → Prop} {H : Hp} : ∀ {ns : List Bool} {vs : List V}, Reps W H vs (ns.map D.bl) → vs = ns.map V.bl
  | [], _, .nil => rfl
  | n :: ns, _, .cons a b => by
    cases a
    rw [List.map_cons, Reps.bls b]
def lstI (d : D) : Option (List Int) := match d with
  | .lst l => intsD l
  | _ => none
def lstB (d : D) : Option (List Bool) := match d with
  | .lst l => bls l
  | _ => none
theorem rep_lstI {K : PySem.W.Frag} {W : Addr → Prop} {H : Hp} {v : V} {d : D} {ns : List Int} (r : Rep W H v d) (h : lstI d = some ns) : ∃ p, v = .ref p ∧ SqL K H p (ns.map V.int) := by
  unfold lstI at h
  split at h
  · have e := ints_eq h
    subst e
    cases r with
    | lst _ e z => exact ⟨_, rfl, by rw [← z.ints_]; exact sq_l e⟩
  · cases h
theorem rep_lstB {K : PySem.W.Frag} {W : Addr → Prop} {H : Hp} {v : V} {d : D} {ns : List Bool} (r : Rep W H v d) (h : lstB d = some ns) : ∃ p, v = .ref p ∧ SqL K H p (ns.map V.bl) := by
  unfold lstB at h
  split at h
  · have e := bls_eq h
    subst e
    cases r with
    | lst _ e z => exact ⟨_, rfl, by rw [← z.bls]; exact sq_l e⟩
  · cases h
def maxI : List Int → Option Int
  | [] => none
  | n :: l => match maxI l with
    | none => some n
    | some m => some (if n ≤ m then m else n)
def minI : List Int → Option Int
  | [] => none
  | n :: l => match minI l with
    | none => some n
    | some m => some (if m ≤ n then m else n)
theorem maxI_spec : ∀ {l : List Int} {m : Int}, maxI l = some m → m ∈ l ∧ ∀ y ∈ l, y ≤ m
  | [], _, h => by cases h
  | n :: l, m, h => by
    rw [maxI] at h
    cases q : maxI l with
    | none =>
      rw [q] at h; cases h
      cases l with
      | nil => simp
      | cons a l =>
        rw [maxI] at q
        split at q <;> cases q
    | some k =>
      rw [q] at h
      obtain ⟨h1, h2⟩ := maxI_spec q
      cases h
      constructor
      · split
        · exact List.mem_cons_of_mem _ h1
        · exact List.mem_cons_self
      · intro y hy
        rcases List.mem_cons.mp hy with e | e
        · subst e; split <;> omega
        · have := h2 y e
          split <;> omega
theorem minI_spec : ∀ {l : List Int} {m : Int}, minI l = some m → m ∈ l ∧ ∀ y ∈ l, m ≤ y
  | [], _, h => by cases h
  | n :: l, m, h => by
    rw [minI] at h
    cases q : minI l with
    | none =>
      rw [q] at h; cases h
      cases l with
      | nil => simp
      | cons a l =>
        rw [minI] at q
        split at q <;> cases q
    | some k =>
      rw [q] at h
      obtain ⟨h1, h2⟩ := minI_spec q
      cases h
      constructor
      · split
        · exact List.mem_cons_of_mem _ h1
        · exact List.mem_cons_self
      · intro y hy
        rcases List.mem_cons.mp hy with e | e
        · subst e; split <;> omega
        · have := h2 y e
          split <;> omega
def sumD (d : D) : Option D := (lstI d).map fun l => .int l.sum
def maxD (d : D) : Option D := ((lstI d).bind maxI).map .int
def minD (d : D) : Option D := ((lstI d).bind minI).map .int
def allD (d : D) : Option D := (lstB d).map fun l => .bl (l.all id)
def anyD (d : D) : Option D := (lstB d).map fun l => .bl (l.any id)
theorem map_sc {α : Type} {o : Option α} {g : α → D} {d' : D} (h : o.map g = some d') (hg : ∀ a, ∃ v, sc (g a) = some v) : ∃ v, sc d' = some v := by
  cases o with
  | none => cases h
  | some a => cases h; exact hg a
theorem sumD_sc : sca1 sumD := fun d d' h => map_sc h fun a => ⟨_, rfl⟩
theorem maxD_sc : sca1 maxD := fun d d' h => map_sc h fun a => ⟨_, rfl⟩
theorem minD_sc : sca1 minD := fun d d' h => map_sc h fun a => ⟨_, rfl⟩
theorem allD_sc : sca1 allD := fun d d' h => map_sc h fun a => ⟨_, rfl⟩
theorem anyD_sc : sca1 anyD := fun d d' h => map_sc h fun a => ⟨_, rfl⟩
theorem map_some {α β : Type} {o : Option α} {g : α → β} {b : β} (h : o.map g = some b) : ∃ a, o = some a ∧ g a = b := by
  cases o with
  | none => cases h
  | some a => exact ⟨a, rfl, Option.some.inj h⟩
theorem lk_sum {K : PySem.W.Frag} : Lk1 (rSum K) sumD := fun d d' h W x v H Q r hv q => by
  obtain ⟨l, h1, rfl⟩ := map_some h
  cases hv
  obtain ⟨p, rfl, s⟩ := rep_lstI r h1
  exact ⟨p, l, rfl, s, q⟩
theorem lk_all {K : PySem.W.Frag} : Lk1 (rAll K) allD := fun d d' h W x v H Q r hv q => by
  obtain ⟨l, h1, rfl⟩ := map_some h
  cases hv
  obtain ⟨p, rfl, s⟩ := rep_lstB r h1
  exact ⟨p, l, rfl, s, q⟩
theorem lk_any {K : PySem.W.Frag} : Lk1 (rAny K) anyD := fun d d' h W x v H Q r hv q => by
  obtain ⟨l, h1, rfl⟩ := map_some h
  cases hv
  obtain ⟨p, rfl, s⟩ := rep_lstB r h1
  exact ⟨p, l, rfl, s, q⟩
theorem lk_max {K : PySem.W.Frag} : Lk1 (rMax K) maxD := fun d d' h W x v H Q r hv q => by
  obtain ⟨m, h1, rfl⟩ := map_some h
  cases hv
  obtain ⟨l, h2, h3⟩ := Option.bind_eq_some_iff.mp h1
  obtain ⟨p, rfl, s⟩ := rep_lstI r h2
  obtain ⟨m1, m2⟩ := maxI_spec h3
  refine ⟨p, l, rfl, s, List.length_pos_of_mem m1, fun k k1 k2 => ?_⟩
  have e : k = m := Int.le_antisymm (m2 k k1) (k2 m m1)
  rw [e]; exact q
theorem lk_min {K : PySem.W.Frag} : Lk1 (rMin K) minD := fun d d' h W x v H Q r hv q => by
  obtain ⟨m, h1, rfl⟩ := map_some h
  cases hv
  obtain ⟨l, h2, h3⟩ := Option.bind_eq_some_iff.mp h1
  obtain ⟨p, rfl, s⟩ := rep_lstI r h2
  obtain ⟨m1, m2⟩ := minI_spec h3
  refine ⟨p, l, rfl, s, List.length_pos_of_mem m1, fun k k1 k2 => ?_⟩
  have e : k = m := Int.le_antisymm (k2 m m1) (m2 k k1)
  rw [e]; exact q
def absD (d : D) : Option D := match d with
  | .int i => some (.int (if i < 0 then -i else i))
  | _ => none
theorem absD_sc : sca1 absD := fun d d' h => by
  unfold absD at h
  split at h
  · cases h; exact ⟨_, rfl⟩
  · cases h
theorem lk_abs : Lk1 (fun xs H Q => ∃ i, xs = [.int i] ∧ Q (.int (if i < 0 then -i else i)) H) absD := fun d d' h W x v H Q r hv q => by
  unfold absD at h
  split at h
  · cases h; cases r; cases hv
    exact ⟨_, rfl, q⟩
  · cases h
def intD (d : D) : Option D := match d with
  | .int i => some (.int i)
  | .bl b => some (.int (if b then 1 else 0))
  | _ => none
theorem intD_sc : sca1 intD := fun d d' h => by
  unfold intD at h
  split at h
  · cases h; exact ⟨_, rfl⟩
  · cases h; exact ⟨_, rfl⟩
  · cases h
theorem lk_int : Lk1 (fun xs H Q => (∃ i, xs = [.int i] ∧ Q (.int i) H) ∨ ∃ k, xs = [.bl k] ∧ Q (.int (if k then 1 else 0)) H) intD := fun d d' h W x v H Q r hv q => by
  unfold intD at h
  split at h
  · cases h; cases r; cases hv
    exact .inl ⟨_, rfl, q⟩
  · cases h; cases r; cases hv
    exact .inr ⟨_, rfl, q⟩
  · cases h

/-! ### repr -/
theorem rs_vals {P : Program} {w : World} : ∀ {kvs : List (Key × V)} {vs : List (Key × Value)} {es : List DictEntry}, KV kvs vs → Pairs (mixKind P w) es vs → Vals (kvs.map (·.2)) (es.map (·.val)) ∧ ∀ h : Heap, Dr.RSs h (es.map (·.key)) ((kvs.map (·.1)).map keyP)
  | _, _, [], .nil, _ => ⟨.nil, fun _ => .nil⟩
  | _, _, e :: es, .nil, h => by cases h
  | _, _, [], .cons _ _, h => by cases h
  | _, _, e :: es, .cons p q, h => by
    cases h with
    | cons h1 h2 h3 =>
      obtain ⟨r1, r2⟩ := rs_vals q h3
      obtain ⟨p1, p2⟩ := p
      refine ⟨.cons ?_ r1, fun h => .cons ?_ (r2 h)⟩
      · dsimp only; rw [h2]; exact p2
      · have k := h1
        rw [← p1] at k
        rcases keyIs_shape k with ⟨i, t, e1, e2⟩ | ⟨x, t, e1, e2⟩
        · dsimp only; rw [e1, e2]; exact .int i t
        · dsimp only; rw [e1, e2]; exact .str x t
section
variable {pins : List (Addr × Obj)} {σ : St} {H : Hp} {s : Shared} {W : Addr → Prop}
mutual
theorem Rep.rs (I : Inv X pins σ H s) : ∀ {v : V} {d : D}, Rep W H v d → ∀ {u : Value}, plr d = true → RelV v u → Dr.RS s.heap u (toP d)
  | _, _, .non, _, _, r => by cases r; rw [toP]; exact .non
  | _, _, .bl b, _, _, r => by cases r; rw [toP]; exact .bl b
  | _, _, .int i, _, _, r => by obtain ⟨t, rfl⟩ := r; rw [toP]; exact .int i t
  | _, _, .str x, _, _, r => by obtain ⟨t, rfl⟩ := r; rw [toP]; exact .str x t
  | _, _, .tup _ e q, _, h, r => by
    cases r
    obtain ⟨its, rv, ⟨o, h1, h2, n, h3⟩, _⟩ := I.tuple (sq_t e)
    rw [toP]
    exact .tup h1 h2 h3 (by simpa using Reps.rs I q (by simpa only [plr] using h) rv)
  | _, _, .lst _ e q, _, h, r => by
    cases r
    obtain ⟨its, rv, p, _⟩ := I.list (sq_l e)
    obtain ⟨o, h1, h2, n, h3⟩ := p.isList
    rw [toP]
    exact .lst h1 h2 h3 (by simpa using Reps.rs I q (by simpa only [plr] using h) rv)
  | _, _, .dct (kvs := kvs) (ds := ds) _ e q, _, h, r => by
    cases r
    obtain ⟨_, hm, vs, kv, o, es, ep, h1, h2, h3, _, h4, _⟩ := (show ObjOk X.prog X.w H s.heap _ (.dK kvs) from I.hok _ _ e)
    obtain ⟨r1, r2⟩ := rs_vals kv h4
    rw [toP]
    have hl : (kvs.map (·.1)).length = ds.length := by
      have h' : (plrs ds && decide ((kvs.map (·.1)).length = ds.length)) = true := by simpa only [plr] using h
      rw [Bool.and_eq_true, decide_eq_true_eq] at h'
      exact h'.2
    have hp : plrs ds = true := by
      have h' : (plrs ds && decide ((kvs.map (·.1)).length = ds.length)) = true := by simpa only [plr] using h
      rw [Bool.and_eq_true] at h'
      exact h'.1
    have hl2 : (toPs ds).length = ds.length := by rw [toPs_eq, List.length_map]
    refine .dct h1 h2.1 h3 hm ?_ ?_
    · rw [List.map_fst_zip (by rw [List.length_map, hl2, hl]; exact Nat.le_refl _)]
      exact r2 _
    · rw [List.map_snd_zip (by rw [List.length_map, hl2, hl]; exact Nat.le_refl _)]
      exact Reps.rs I q hp r1
  | _, _, .fl _, _, h, _ => by simp [plr] at h
theorem Reps.rs (I : Inv X pins σ H s) : ∀ {vs : List V} {ds : List D}, Reps W H vs ds → ∀ {us : List Value}, plrs ds = true → Vals vs us → Dr.RSs s.heap us (toPs ds)
  | _, _, .nil, _, _, r => by cases r; rw [toPs]; exact .nil
  | _, _, .cons a b, _, h, r => by
    cases r with
    | cons r1 r2 =>
      rw [plrs, Bool.and_eq_true] at h
      rw [toPs]
      exact .cons (Rep.rs I a h.1 r1) (Reps.rs I b h.2 r2)
end
end
def rReprD : List V → Hp → VK → Prop := fun xs H Q => ∃ x d W, xs = [x] ∧ Rep W H x d ∧ plr d = true ∧ (toP d).showable = true ∧ (toP d).depth ≤ 60 ∧ (toP d).shown.length ≤ sizeLine ∧ Q (.str (toP d).shown) H
theorem cr_repr (hg : X.A.guards = some []) (hu : X.A.units + 64 < cLine) : CallR X (.builtin "repr") rReprD := by
  intro pins s σ H xs us Q I r h
  obtain ⟨x, d, W, rfl, hd, hp, hs, hdp, hz, q⟩ := h
  obtain ⟨u, rfl, ru⟩ := vals1 r
  have rs := hd.rs I hp ru
  generalize toP d = pd at *
  cases rs with
  | non => exact PySem.P.repr_of_none ⟨.str _, H, I.tok _, ⟨_, rfl⟩, q⟩
  | bl b => exact PySem.P.repr_of_bool ⟨.str _, H, I.tok _, ⟨_, rfl⟩, q⟩
  | int i t => exact PySem.P.repr_of_int (by simpa [PyData.showable] using hs) ⟨.str _, H, I.tok _, ⟨_, rfl⟩, q⟩
  | str z t => exact PySem.P.repr_of_str ⟨.str _, H, I.tok _, ⟨_, rfl⟩, q⟩ hz
  | lst h1 h2 h3 h4 => exact Dr.repr_RS (.lst h1 h2 h3 h4) hs hg (by omega) (fun h' u tk hk => ⟨.str _, H, I.kept hk, ⟨_, rfl⟩, q⟩) hz
  | tup h1 h2 h3 h4 => exact Dr.repr_RS (.tup h1 h2 h3 h4) hs hg (by omega) (fun h' u tk hk => ⟨.str _, H, I.kept hk, ⟨_, rfl⟩, q⟩) hz
  | dct h1 h2 h3 h4 h5 h6 => exact Dr.repr_RS (.dct h1 h2 h3 h4 h5 h6) hs hg (by omega) (fun h' u tk hk => ⟨.str _, H, I.kept hk, ⟨_, rfl⟩, q⟩) hz
def reprD (d : D) : Option D := if plr d = true ∧ (toP d).showable = true ∧ (toP d).depth ≤ 60 ∧ (toP d).shown.length ≤ 1000000 then some (.str (toP d).shown) else none
theorem reprD_sc : sca1 reprD := fun d d' h => by
  unfold reprD at h
  split at h
  · cases h; exact ⟨_, rfl⟩
  · cases h
theorem lk_repr : Lk1 rReprD reprD := fun d d' h W x v H Q r hv q => by
  unfold reprD at h
  split at h
  · rename_i c
    cases h; cases hv
    exact ⟨_, _, W, rfl, r, c.1, c.2.1, c.2.2.1, le_line c.2.2.2, q⟩
  · cases h

/-! ### several arguments, a scalar -/
def mScN (f : List D → Option D) (ms : M (List O)) : M O := mOpN (fun ds => (f ds).map O.val) ms
def max2 (ds : List D) : Option D := match ds with
  | [.int i, .int j] => some (.int (if j > i then j else i))
  | _ => none
def min2 (ds : List D) : Option D := match ds with
  | [.int i, .int j] => some (.int (if j < i then j else i))
  | _ => none
theorem op_max2 : OpN (fun xs H Q => ∃ i j, xs = [.int i, .int j] ∧ Q (.int (if j > i then j else i)) H) (fun ds => (max2 ds).map O.val) := fun ds o ho vs H its Q hl c k => by
  obtain ⟨d, h1, rfl⟩ := map_some ho
  unfold max2 at h1
  split at h1
  · rename_i i j
    cases h1
    match vs, hl with
    | [a, b], _ =>
      have c1 : CI H ((a, .val (.int i)) :: (b, .val (.int j)) :: its) := c
      have e1 := c1.int
      have e2 := c1.tail.int
      subst e1 e2
      exact ⟨i, j, rfl, k _ _ (c1.tail.tail.sc rfl)⟩
  · cases h1
theorem op_min2 : OpN (fun xs H Q => ∃ i j, xs = [.int i, .int j] ∧ Q (.int (if j < i then j else i)) H) (fun ds => (min2 ds).map O.val) := fun ds o ho vs H its Q hl c k => by
  obtain ⟨d, h1, rfl⟩ := map_some ho
  unfold min2 at h1
  split at h1
  · rename_i i j
    cases h1
    match vs, hl with
    | [a, b], _ =>
      have c1 : CI H ((a, .val (.int i)) :: (b, .val (.int j)) :: its) := c
      have e1 := c1.int
      have e2 := c1.tail.int
      subst e1 e2
      exact ⟨i, j, rfl, k _ _ (c1.tail.tail.sc rfl)⟩
  · cases h1
/-- tuple(x), list(x) -/
def tupN (ds : List D) : Option O := match ds with
  | [.lst l] => some (.val (.tup l))
  | [.tup l] => some (.val (.tup l))
  | _ => none
def lstN (ds : List D) : Option O := match ds with
  | [.lst l] => some (.lst (l.map O.val))
  | [.tup l] => some (.lst (l.map O.val))
  | _ => none
theorem op_tupN {K : PySem.W.Frag} : OpN (fun xs H Q => ∃ p ys, xs = [.ref p] ∧ ((SqL K H p ys ∧ ∀ l, H l = none → Q (.ref l) (upd H l (.tup ys))) ∨ (SqT K H p ys ∧ Q (.ref p) H))) tupN := fun ds o ho vs H its Q hl c k => by
  unfold tupN at ho
  split at ho
  · rename_i l
    cases ho
    match vs, hl with
    | [a], _ =>
      have c1 : CI H ((a, .val (.lst l)) :: its) := c
      obtain ⟨p, vs, rfl, hp, hl, c2⟩ := c1.openL
      refine ⟨p, vs, rfl, .inl ⟨sq_l hp, fun q hq => k _ _ ?_⟩⟩
      exact CG.newT (CG.mid (m := [_]) c2) hl hq (by simp)
  · rename_i l
    cases ho
    match vs, hl with
    | [a], _ =>
      have c1 : CI H ((a, .val (.tup l)) :: its) := c
      obtain ⟨p, vs, rfl, hp, hl, c2⟩ := c1.openT
      exact ⟨p, vs, rfl, .inr ⟨sq_t hp, k _ _ c1⟩⟩
  · cases ho
theorem op_lstN {K : PySem.W.Frag} : OpN (fun xs H Q => ∃ p ys, xs = [.ref p] ∧ (SqL K H p ys ∨ SqT K H p ys) ∧ ∀ l, H l = none → Q (.ref l) (upd H l (.lst ys))) lstN := fun ds o ho vs H its Q hl c k => by
  unfold lstN at ho
  split at ho
  · rename_i l
    cases ho
    match vs, hl with
    | [a], _ =>
      have c1 : CI H ((a, .val (.lst l)) :: its) := c
      obtain ⟨p, vs, rfl, hp, hl, c2⟩ := c1.openL
      refine ⟨p, vs, rfl, .inl (sq_l hp), fun q hq => k _ _ ?_⟩
      have c7 := CG.newL (CG.mid (m := [_]) c2) hq (by simp)
      rw [zip_fst (by simp [hl]), zip_snd (by simp [hl])] at c7
      exact c7
  · rename_i l
    cases ho
    match vs, hl with
    | [a], _ =>
      have c1 : CI H ((a, .val (.tup l)) :: its) := c
      obtain ⟨p, vs, rfl, hp, hl, c2⟩ := c1.openT
      refine ⟨p, vs, rfl, .inr (sq_t hp), fun q hq => k _ _ ?_⟩
      have c7 := CG.newL (CG.mid (m := [_]) c2) hq (by simp)
      rw [zip_fst (by simp [hl]), zip_snd (by simp [hl])] at c7
      exact c7
  · cases ho

/-! ### what a loop walks -/
def seqOf (d : D) : Option (List D) := match d with
  | .tup l => some l
  | .lst l => some l
  | _ => none
def mSeqI (m : M O) : M (List D) := bnd m fun o => lift (seqOf (frz o))
theorem walk_l {K : PySem.W.Frag} {p : Addr} {vs : List V} {l : List D} (hl : vs.length = l.length) : WalkD (Itl K p) [(.ref p, .val (.lst l))] l := by
  refine ⟨fun i H its hi c => ?_, fun i H its x H' d hd c y => ?_, fun H its c => ?_⟩
  · obtain ⟨q, ws, e, hq, hw, _⟩ := c.openL
    cases e
    exact ⟨ws, ws[i]'(by omega), sq_l hq, by simp [show i < ws.length by omega]⟩
  · obtain ⟨q, ws, e, hq, hw, c2⟩ := c.openL
    cases e
    obtain ⟨rfl, y⟩ := y
    have hx := y ws (sq_l hq)
    have hm : (x, O.val d) ∈ ws.zip (l.map O.val) := by
      apply List.mem_of_getElem? (i := i)
      rw [List.getElem?_zip_eq_some]
      exact ⟨hx, by simp [hd]⟩
    exact CG.mid (a := [_]) (c2.mem (List.mem_append_left _ hm))
  · obtain ⟨q, ws, e, hq, hw, _⟩ := c.openL
    cases e
    exact ⟨ws, sq_l hq, by omega⟩
theorem walk_t {K : PySem.W.Frag} {p : Addr} {vs : List V} {l : List D} (hl : vs.length = l.length) : WalkD (Itt K p) [(.ref p, .val (.tup l))] l := by
  refine ⟨fun i H its hi c => ?_, fun i H its x H' d hd c y => ?_, fun H its c => ?_⟩
  · obtain ⟨q, ws, e, hq, hw, _⟩ := c.openT
    cases e
    exact ⟨ws, ws[i]'(by omega), sq_t hq, by simp [show i < ws.length by omega]⟩
  · obtain ⟨q, ws, e, hq, hw, c2⟩ := c.openT
    cases e
    obtain ⟨rfl, y⟩ := y
    have hx := y ws (sq_t hq)
    have hm : (x, O.val d) ∈ ws.zip (l.map O.val) := by
      apply List.mem_of_getElem? (i := i)
      rw [List.getElem?_zip_eq_some]
      exact ⟨hx, by simp [hd]⟩
    exact CG.mid (a := [_]) (c2.mem (List.mem_append_left _ hm))
  · obtain ⟨q, ws, e, hq, hw, _⟩ := c.openT
    cases e
    exact ⟨ws, sq_t hq, by omega⟩
theorem di_seq {tg e : Expr} {m : M O} (h : DE X B e m) : DI X B tg e (mSeqI m) := by
  have h1 : PI X tg e (iList X.K (tE B m)) := pi_list h
  have h2 : PI X tg e (iTup X.K (tE B m)) := pi_tup h
  refine ⟨fun pins s σ H R I ⟨pend, ρ, c, g⟩ => ?_⟩
  cases r : m ρ with
  | fail => exact False.elim (by have g0 := go_bnd.mp g; rw [r] at g0; exact g0)
  | ex x ρ' =>
    refine h1.run pins s σ H R I ⟨pend, ρ, c, ?_⟩
    have g0 := go_bnd.mp g
    rw [r] at g0 ⊢
    exact g0
  | ok o ρ1 =>
    have g0 := go_bnd.mp g
    rw [r] at g0
    obtain ⟨l, hl, g1⟩ := go_lift (show (lift (seqOf (frz o)) ρ1).go _ _ from g0)
    unfold seqOf at hl
    generalize ed : frz o = d at hl
    cases d with
    | tup l' =>
      have el : l' = l := Option.some.inj hl
      subst el
      refine h2.run pins s σ H R I ⟨pend, ρ, c, ?_⟩
      rw [r]
      intro v H' c1
      have c2 := c1.frz
      rw [ed] at c2
      obtain ⟨p, vs, rfl, hp, hv, c3⟩ := c2.out1.openT
      exact ⟨p, rfl, ⟨vs, sq_t hp⟩, g1 (Itt X.K p) H' [(.ref p, .val (.tup l'))] (walk_t hv) c2⟩
    | lst l' =>
      have el : l' = l := Option.some.inj hl
      subst el
      refine h1.run pins s σ H R I ⟨pend, ρ, c, ?_⟩
      rw [r]
      intro v H' c1
      have c2 := c1.frz
      rw [ed] at c2
      obtain ⟨p, vs, rfl, hp, hv, c3⟩ := c2.out1.openL
      exact ⟨p, rfl, ⟨vs, sq_l hp⟩, g1 (Itl X.K p) H' [(.ref p, .val (.lst l'))] (walk_l hv) c2⟩
    | _ => cases hl
def rngL (lo : Int) (n : Nat) : List D := (List.range n).map fun i => .int (lo + (i : Nat))
def rng (ds : List D) : Option (List D) := match ds with
  | [.int j] => if -1000000000 ≤ j ∧ j ≤ 1000000000 then some (rngL 0 j.toNat) else none
  | [.int i, .int j] => if -1000000000 ≤ i ∧ i ≤ 1000000000 ∧ -1000000000 ≤ j ∧ j ≤ 1000000000 then some (rngL i (j - i).toNat) else none
  | _ => none
theorem walk_r (lo : Int) (n : Nat) : WalkD (Itr lo n) [] (rngL lo n) := by
  refine ⟨fun i H its hi c => ?_, fun i H its x H' d hd c y => ?_, fun H its c => ?_⟩
  · show i < n
    simpa [rngL] using hi
  · obtain ⟨rfl, rfl⟩ := y
    have : d = .int (lo + (i : Nat)) := by
      rw [rngL, List.getElem?_map] at hd
      cases e : (List.range n)[i]? with
      | none => rw [e] at hd; cases hd
      | some j =>
        rw [e] at hd
        cases hd
        have := List.getElem?_eq_some_iff.mp e
        obtain ⟨h1, h2⟩ := this
        simp at h2
        rw [h2]
    subst this
    exact c.sc rfl
  · show n ≤ (rngL lo n).length
    simp [rngL]
def mRng (ms : M (List O)) : M (List D) := bnd ms fun os => lift (rng (frzs os))
theorem di_rng1 {tg it e : Expr} {ms : M (List O)} (h : DA X B [e] ms) (hp : ∀ {t : TA}, PA X [e] t → PI X tg it (iRng1 t)) (hl : ∀ ρ os ρ', ms ρ = .ok os ρ' → os.length = 1) : DI X B tg it (mRng ms) := by
  refine (hp h).imp fun σ H R ⟨pend, ρ, c, g⟩ => ?_
  refine ⟨pend, ρ, c, Out.go_mono (go_bnd.mp g) (fun os ρ1 eo g1 vs H1 hv c1 => ?_) fun _ _ _ z => z⟩
  have hlen := hl ρ os ρ1 eo
  obtain ⟨l, h1, g2⟩ := go_lift g1
  match os, hlen, vs, hv with
  | [o], _, [v], _ =>
    unfold rng at h1
    generalize ed : frzs [o] = ds at h1
    have e1 : ds = [frz o] := by rw [← ed]; rfl
    subst e1
    split at h1
    · rename_i j e2
      split at h1
      · rename_i hz
        cases h1
        have e3 : frz o = .int j := (List.cons.inj e2).1
        have c2 : Conf σ H1 ((v, .val (frz o)) :: pend) ρ1 := Conf.frz c1
        rw [e3] at c2
        refine ⟨j, by rw [c2.out1.int], by omega, by omega, g2 (Itr 0 j.toNat) H1 [] (walk_r 0 j.toNat) c2.tail⟩
      · cases h1
    · rename_i i j e2
      exact absurd (congrArg List.length e2) (by simp)
    · cases h1
theorem di_rng2 {tg it e e' : Expr} {ms : M (List O)} (h : DA X B [e, e'] ms) (hp : ∀ {t : TA}, PA X [e, e'] t → PI X tg it (iRng2 t)) (hl : ∀ ρ os ρ', ms ρ = .ok os ρ' → os.length = 2) : DI X B tg it (mRng ms) := by
  refine (hp h).imp fun σ H R ⟨pend, ρ, c, g⟩ => ?_
  refine ⟨pend, ρ, c, Out.go_mono (go_bnd.mp g) (fun os ρ1 eo g1 vs H1 hv c1 => ?_) fun _ _ _ z => z⟩
  have hlen := hl ρ os ρ1 eo
  obtain ⟨l, h1, g2⟩ := go_lift g1
  match os, hlen, vs, hv with
  | [o, o'], _, [v, v'], _ =>
    unfold rng at h1
    generalize ed : frzs [o, o'] = ds at h1
    have e1 : ds = [frz o, frz o'] := by rw [← ed]; rfl
    subst e1
    split at h1
    · rename_i j e2
      exact absurd (congrArg List.length e2) (by simp)
    · rename_i i j e2
      split at h1
      · rename_i hz
        cases h1
        have e3 : frz o = .int i := (List.cons.inj e2).1
        have e4 : frz o' = .int j := (List.cons.inj (List.cons.inj e2).2).1
        have c2 : Conf σ H1 ([v, v'].zip ((frzs [o, o']).map O.val) ++ pend) ρ1 := Conf.frzAll c1 rfl
        have c3 : Conf σ H1 ((v, .val (frz o)) :: (v', .val (frz o')) :: pend) ρ1 := c2
        rw [e3, e4] at c3
        refine ⟨i, j, by rw [c3.out1.int, c3.tail.out1.int], by omega, g2 (Itr i (j - i).toNat) H1 [] (walk_r i _) c3.tail.tail⟩
      · cases h1
    · cases h1

/-! ### enumerate, zip, stars -/
open Dv
def enumL : Nat → List D → List D
  | _, [] => []
  | k, d :: l => .tup [.int (k : Nat), d] :: enumL (k + 1) l
theorem enumL_len : ∀ (k : Nat) (l : List D), (enumL k l).length = l.length
  | _, [] => rfl
  | k, d :: l => by rw [enumL, List.length_cons, List.length_cons, enumL_len]
theorem enumL_get : ∀ (k : Nat) (l : List D) (i : Nat), (enumL k l)[i]? = (l[i]?).map fun d => .tup [.int ((k + i : Nat) : Int), d]
  | _, [], i => by simp [enumL]
  | k, d :: l, 0 => by simp [enumL]
  | k, d :: l, i + 1 => by
    rw [enumL, List.getElem?_cons_succ, List.getElem?_cons_succ, enumL_get]
    rw [show k + 1 + i = k + (i + 1) by omega]
def mEnum (m : M O) : M (List D) := bnd m fun o => bnd (lift (seqOf (frz o))) fun l => ret (enumL 0 l)
def zipL : List D → List D → List D
  | a :: l, b :: r => .tup [a, b] :: zipL l r
  | _, _ => []
theorem zipL_len : ∀ (l r : List D), (zipL l r).length = min l.length r.length
  | [], r => by simp [zipL]
  | a :: l, [] => by simp [zipL]
  | a :: l, b :: r => by simp only [zipL, List.length_cons, zipL_len l r]; omega
theorem zipL_get : ∀ (l r : List D) (i : Nat) (d : D), (zipL l r)[i]? = some d → ∃ a b, l[i]? = some a ∧ r[i]? = some b ∧ d = .tup [a, b]
  | [], r, i, d, h => by simp [zipL] at h
  | a :: l, [], i, d, h => by simp [zipL] at h
  | a :: l, b :: r, 0, d, h => by simp [zipL] at h; exact ⟨a, b, rfl, rfl, h.symm⟩
  | a :: l, b :: r, i + 1, d, h => by
    rw [zipL, List.getElem?_cons_succ] at h
    simpa using zipL_get l r i d h
def zipD (ds : List D) : Option (List D) := match ds with
  | [a, b] => (match seqOf a, seqOf b with
    | some l, some r => some (zipL l r)
    | _, _ => none)
  | _ => none
def mZip (ms : M (List O)) : M (List D) := bnd ms fun os => lift (zipD (frzs os))
def sqD (t : Bool) (l : List D) : D := if t = true then .tup l else .lst l
theorem seqOf_sq {d : D} {l : List D} (h : seqOf d = some l) : ∃ t, d = sqD t l := by
  unfold seqOf at h
  split at h
  · cases h; exact ⟨true, rfl⟩
  · cases h; exact ⟨false, rfl⟩
  · cases h
theorem CG.openX {R : List Addr} {H : Hp} {v : V} {t : Bool} {ds : List D} {b : List (V × O)} {K : PySem.W.Frag} (c : CG R H ((v, .val (sqD t ds)) :: b)) :
    ∃ p vs, v = .ref p ∧ SqX t K H p vs ∧ vs.length = ds.length ∧ CG R H (vs.zip (ds.map O.val) ++ (v, .val (sqD t ds)) :: b) := by
  cases t with
  | true =>
    obtain ⟨p, vs, e, h1, h2, h3⟩ := CG.openT c
    exact ⟨p, vs, e, sq_t h1, h2, h3⟩
  | false =>
    obtain ⟨p, vs, e, h1, h2, h3⟩ := CG.openL c
    exact ⟨p, vs, e, sq_l h1, h2, h3⟩
theorem zip_mem {vs : List V} {l : List D} {i : Nat} {x : V} {d : D} (h1 : vs[i]? = some x) (h2 : l[i]? = some d) : (x, O.val d) ∈ vs.zip (l.map O.val) := by
  apply List.mem_of_getElem? (i := i)
  rw [List.getElem?_zip_eq_some]
  exact ⟨h1, by simp [h2]⟩
theorem CG.pick {R : List Addr} {H : Hp} {vs : List V} {l : List D} {i : Nat} {x : V} {d : D} {b : List (V × O)} (c : CG R H (vs.zip (l.map O.val) ++ b)) (h1 : vs[i]? = some x) (h2 : l[i]? = some d) : CG R H ((x, .val d) :: b) :=
  CG.mid (a := [_]) (c.mem (List.mem_append_left _ (zip_mem h1 h2)))
theorem walk_e {K : PySem.W.Frag} {p : Addr} {t : Bool} {l : List D} : WalkD (IteX t K p) [(.ref p, .val (sqD t l))] (enumL 0 l) := by
  refine ⟨fun i H its hi c => ?_, fun i H its x H' d hd c y => ?_, fun H its c => ?_⟩
  · obtain ⟨q, ws, e, hq, hw, _⟩ := CG.openX (K := K) c
    cases e
    rw [enumL_len] at hi
    exact ⟨ws, ws[i]'(by omega), hq, by simp [show i < ws.length by omega]⟩
  · obtain ⟨q, ws, e, hq, hw, c2⟩ := CG.openX (K := K) c
    cases e
    obtain ⟨T, x', rfl, hT, rfl, y⟩ := y
    have hx := y ws hq
    rw [enumL_get] at hd
    cases h0 : l[i]? with
    | none => rw [h0] at hd; cases hd
    | some d0 =>
      rw [h0] at hd
      cases hd
      have c3 := c2.pick hx h0
      have c4 : CI H ([V.int (i : Nat), x'].zip ([D.int (i : Nat), d0].map O.val) ++ ((.ref p, .val (sqD t l)) :: its)) := c3.sc rfl
      have c5 := c4.newT rfl hT (by simp)
      simpa using c5
  · obtain ⟨q, ws, e, hq, hw, _⟩ := CG.openX (K := K) c
    cases e
    exact ⟨ws, hq, by rw [enumL_len]; exact hw⟩
theorem walk_z {K : PySem.W.Frag} {p q : Addr} {t t2 : Bool} {l r : List D} : WalkD (ItzX t t2 K p q) [(.ref p, .val (sqD t l)), (.ref q, .val (sqD t2 r))] (zipL l r) := by
  have op : ∀ (H : Hp) (its : List (V × O)), CI H ([(V.ref p, O.val (sqD t l)), (.ref q, .val (sqD t2 r))] ++ its) → ∃ ws us, SqX t K H p ws ∧ SqX t2 K H q us ∧ ws.length = l.length ∧ us.length = r.length ∧
      CI H (us.zip (r.map O.val) ++ (ws.zip (l.map O.val) ++ ([(V.ref p, O.val (sqD t l)), (.ref q, .val (sqD t2 r))] ++ its))) := fun H its c => by
    obtain ⟨p', ws, e, hq, hw, c2⟩ := CG.openX (K := K) (show CI H ((V.ref p, O.val (sqD t l)) :: ((.ref q, .val (sqD t2 r)) :: its)) from c)
    cases e
    have c3 : CI H ((V.ref q, O.val (sqD t2 r)) :: (ws.zip (l.map O.val) ++ ((V.ref p, O.val (sqD t l)) :: its))) := c2.perm (by
      refine List.Perm.trans ?_ (List.perm_middle (a := (V.ref q, O.val (sqD t2 r))))
      exact ((List.Perm.swap _ _ _).append_left _))
    obtain ⟨q', us, e, hq2, hu, c4⟩ := CG.openX (K := K) c3
    cases e
    refine ⟨ws, us, hq, hq2, hw, hu, c4.perm (List.Perm.append_left _ ?_)⟩
    refine (List.perm_middle (a := (V.ref q, O.val (sqD t2 r)))).symm.trans ?_
    exact (List.Perm.swap _ _ _).append_left _
  refine ⟨fun i H its hi c => ?_, fun i H its x H' d hd c y => ?_, fun H its c => ?_⟩
  · obtain ⟨ws, us, h1, h2, l1, l2, _⟩ := op H its c
    rw [zipL_len] at hi
    exact ⟨ws, us, ws[i]'(by omega), us[i]'(by omega), h1, h2, by simp [show i < ws.length by omega], by simp [show i < us.length by omega]⟩
  · obtain ⟨ws, us, h1, h2, l1, l2, c2⟩ := op H its c
    obtain ⟨T, x', y', rfl, hT, rfl, y1, y2⟩ := y
    obtain ⟨a, b, ha, hb, rfl⟩ := zipL_get _ _ _ _ hd
    have c3 := c2.pick (y2 us h2) hb
    have c4 : CI H (ws.zip (l.map O.val) ++ ((y', .val b) :: ([(V.ref p, O.val (sqD t l)), (.ref q, .val (sqD t2 r))] ++ its))) := c3.perm List.perm_middle.symm
    have c5 := c4.pick (y1 ws h1) ha
    have c6 : CI H ([x', y'].zip ([a, b].map O.val) ++ ([(V.ref p, O.val (sqD t l)), (.ref q, .val (sqD t2 r))] ++ its)) := c5
    exact c6.newT rfl hT (by simp)
  · obtain ⟨ws, us, h1, h2, l1, l2, _⟩ := op H its c
    refine ⟨ws, us, h1, h2, ?_, ?_, ?_⟩ <;> (rw [zipL_len]; omega)
theorem di_enum {e : Expr} {m : M O} {p pos tpos : Pos} {elts : List Expr} {kk : Nat} (hg : Gl X "enumerate") (hm : X.mg "enumerate" = none) (h : DE X B e m) (hs : starEach [e] X.env = (false, eval e X.env) :: starEach [] X.env) :
    DI X B (.Tuple elts kk tpos) (.Call (.Name "enumerate" p) [e] [] pos) (mEnum m) := by
  have ha : DA X B [e] (mCons m (ret [])) := da_cons h da_nil hs
  refine (pi_enumX hg hm ha hs).imp fun σ H R ⟨pend, ρ, c, g⟩ => ?_
  refine ⟨pend, ρ, c, ?_⟩
  have g0 := go_bnd.mp g
  show (bnd m (fun o => bnd (ret []) fun os => ret (o :: os)) ρ).go _ _
  refine go_bnd.mpr (Out.go_mono g0 (fun o ρ1 _ g1 => ?_) fun _ _ _ z => z)
  obtain ⟨l, hl, g2⟩ := go_lift (go_bnd.mp g1)
  obtain ⟨t, et⟩ := seqOf_sq hl
  intro vs H' hv c1
  match vs, hv with
  | [v], _ =>
    have c2 : Conf σ H' ((v, .val (frz o)) :: pend) ρ1 := Conf.frz c1
    rw [et] at c2
    obtain ⟨q, ws, rfl, hq, hw, c3⟩ := CG.openX (K := X.K) c2.out1
    exact ⟨t, q, ws, rfl, hq, g2 (IteX t X.K q) H' [(.ref q, .val (sqD t l))] walk_e c2⟩
theorem di_zip {e e2 : Expr} {ms : M (List O)} {p pos tpos : Pos} {elts : List Expr} {kk : Nat} (hg : Gl X "zip") (hm : X.mg "zip" = none) (ha : DA X B [e, e2] ms) (hlen : ∀ ρ os ρ', ms ρ = .ok os ρ' → os.length = 2)
    (hs : starEach [e, e2] X.env = (false, eval e X.env) :: starEach [e2] X.env) (hpl : (backTo pos (starEach [e2] X.env)).any (·.1) = false) :
    DI X B (.Tuple elts kk tpos) (.Call (.Name "zip" p) [e, e2] [] pos) (mZip ms) := by
  refine (pi_zipX hg hm ha hs hpl).imp fun σ H R ⟨pend, ρ, c, g⟩ => ?_
  refine ⟨pend, ρ, c, Out.go_mono (go_bnd.mp g) (fun os ρ1 eo g1 => ?_) fun _ _ _ z => z⟩
  obtain ⟨ds, hd, g2⟩ := go_lift g1
  have hl := hlen _ _ _ eo
  match os, hl with
  | [o1, o2], _ =>
    have hd : zipD [frz o1, frz o2] = some ds := hd
    unfold zipD at hd
    dsimp only at hd
    cases s1 : seqOf (frz o1) with
    | none => rw [s1] at hd; cases hd
    | some l =>
      cases s2 : seqOf (frz o2) with
      | none => rw [s1, s2] at hd; cases hd
      | some r =>
        rw [s1, s2] at hd
        cases hd
        obtain ⟨t, et⟩ := seqOf_sq s1
        obtain ⟨t2, et2⟩ := seqOf_sq s2
        intro vs H' hv c1
        match vs, hv with
        | [v, w], _ =>
          have c2 : Conf σ H' ((v, .val (frz o1)) :: (w, o2) :: pend) ρ1 := Conf.frz c1
          have c3 : Conf σ H' ((w, .val (frz o2)) :: (v, .val (frz o1)) :: pend) ρ1 := Conf.frz (c2.perm (.swap ..))
          rw [et, et2] at c3
          obtain ⟨q2, us, rfl, hq2, _, _⟩ := CG.openX (K := X.K) c3.out1
          have c4 : Conf σ H' ((v, .val (sqD t l)) :: (.ref q2, .val (sqD t2 r)) :: pend) ρ1 := c3.perm (.swap ..)
          obtain ⟨q, ws, rfl, hq, _, _⟩ := CG.openX (K := X.K) c4.out1
          exact ⟨t, t2, q, q2, ws, us, rfl, hq, hq2, g2 (ItzX t t2 X.K q q2) H' [(.ref q, .val (sqD t l)), (.ref q2, .val (sqD t2 r))] walk_z c4⟩
/-- *e in a display -/
def mStar (m : M O) (ms : M (List O)) : M (List O) := bnd m fun o => bnd (lift (seqOf (frz o))) fun l => bnd ms fun os => ret (l.map O.val ++ os)
theorem da_star {e : Expr} {p : Pos} {es : List Expr} {m : M O} {ms : M (List O)} (h1 : DE X B e m) (h2 : DA X B es ms) : DA X B (.Starred e p :: es) (mStar m ms) := by
  refine (StX.pa_star (p := p) h1 h2 rfl).imp fun σ H Q ⟨pend, ρ, c, g⟩ => ?_
  refine tE_bnd c g fun o ρ1 v H1 c1 g1 => ?_
  obtain ⟨l, hl, g2⟩ := go_lift (go_bnd.mp g1)
  obtain ⟨t, et⟩ := seqOf_sq hl
  have c2 := c1.frz
  rw [et] at c2
  obtain ⟨q, ws, rfl, hq, hw, c3⟩ := CG.openX (K := X.K) c2.out1
  refine ⟨q, ws, rfl, ?_, ?_⟩
  · cases t with
    | true => exact .inl hq
    | false => exact .inr hq
  have c4 : Conf σ H1 (ws.zip (l.map O.val) ++ pend) ρ1 := .back c2.sh (CG.mid (m := [_]) c3)
  refine tA_bnd (pend := ws.zip (l.map O.val) ++ pend) c4 (go_pend _ g2) fun os ρ2 vs H2 hl2 c5 g3 => ?_
  refine (g3 : ∀ us H', us.length = (l.map O.val ++ os).length → Conf σ H' (us.zip (l.map O.val ++ os) ++ pend) ρ2 → Q us H') (ws ++ vs) H2 (by simp [hw, hl2]) ?_
  rw [List.zip_append (by simp [hw]), List.append_assoc]
  exact c5.perm (perm_in _ _ _)

/-! ### in, not in -/
def inI (d e : D) : Option Bool := match d, e with
  | .int i, .tup l => (intsD l).map fun ns => ns.any (· == i)
  | .int i, .lst l => (intsD l).map fun ns => ns.any (· == i)
  | _, _ => none
def inG (d e : D) : Option Bool := match e with
  | .lst l => if pl d = true ∧ pl (.lst l) = true ∧ SeqAt.shaped (toP d) = true ∧ SeqAt.shaped (toP (.lst l)) = true then some ((toPs l).any fun z => PyData.eqv z (toP d)) else none
  | _ => none
def inB (d e : D) : Option Bool := match inI d e with
  | some b => some b
  | none => inG d e
def inF (d e : D) : Option D := (inB d e).map fun b => .bl b
def notInF (d e : D) : Option D := (inB d e).map fun b => .bl (!b)
def rInA (K : PySem.W.Frag) (neg : Bool) : R2 := fun x y H Q => rIn K neg x y H Q ∨ (if neg = true then rNotInD K x y H Q else rInD K x y H Q)
theorem intsD_inv : ∀ {l : List D} {ns : List Int}, intsD l = some ns → l = ns.map D.int
  | [], _, h => by cases h; rfl
  | d :: l, ns, h => by
    cases d with
    | int i =>
      obtain ⟨m, h1, rfl⟩ := map_some (show (intsD l).map (i :: ·) = some ns from h)
      rw [intsD_inv h1]; rfl
    | _ => cases h
theorem inV_ints (i : Int) : ∀ ns : List Int, inV (.int i) (ns.map V.int) = ns.any (· == i)
  | [] => rfl
  | n :: ns => by
    show (eqV (.int n) (.int i) || inV (.int i) (ns.map V.int)) = _
    rw [inV_ints i ns]; rfl
theorem flat_ints : ∀ ns : List Int, (ns.map V.int).all flatV = true
  | [] => rfl
  | n :: ns => by rw [List.map_cons, List.all_cons, flat_ints ns]; rfl
theorem lk_inA {K : PySem.W.Frag} {neg : Bool} : Lk2 (rInA K neg) (fun d e => (inB d e).map fun b => .bl (if neg = true then !b else b)) := fun d e d' h W x y v H Q r1 r2 hv q => by
  obtain ⟨b, h1, rfl⟩ := map_some h
  cases hv
  unfold inB at h1
  split at h1
  · rename_i b' hb
    cases h1
    unfold inI at hb
    split at hb
    · rename_i i l
      obtain ⟨ns, h2, rfl⟩ := map_some hb
      have h3 := intsD_inv h2
      subst h3
      cases r1
      cases r2 with
      | tup h4 h5 h6 =>
        have h7 := Reps.ints_ h6
        subst h7
        refine .inl ⟨_, _, rfl, .inr (sq_t h5), rfl, flat_ints ns, ?_⟩
        rw [inV_ints]
        exact q
    · rename_i i l
      obtain ⟨ns, h2, rfl⟩ := map_some hb
      have h3 := intsD_inv h2
      subst h3
      cases r1
      cases r2 with
      | lst h4 h5 h6 =>
        have h7 := Reps.ints_ h6
        subst h7
        refine .inl ⟨_, _, rfl, .inl (sq_l h5), rfl, flat_ints ns, ?_⟩
        rw [inV_ints]
        exact q
    · cases hb
  · unfold inG at h1
    split at h1
    · rename_i l
      split at h1
      · rename_i c
        cases h1
        refine .inr ?_
        cases neg with
        | true => exact ⟨_, _, r1.dp c.1, r2.dp c.2.1, c.2.2.1, c.2.2.2, q⟩
        | false => exact ⟨_, _, r1.dp c.1, r2.dp c.2.1, c.2.2.1, c.2.2.2, q⟩
      · cases h1
    · cases h1
theorem op_inA (hu : X.A.units + 65 < cLine) : OpR X (compareOp .In) (rInA X.K false) := fun pins s σ H x y v u Q I r1 r2 h => by
  rcases h with h | h
  · exact op_in_seq pins s σ H x y v u Q I r1 r2 h
  · exact op_inD hu pins s σ H x y v u Q I r1 r2 h
theorem op_notInA (hu : X.A.units + 65 < cLine) : OpR X (compareOp .NotIn) (rInA X.K true) := fun pins s σ H x y v u Q I r1 r2 h => by
  rcases h with h | h
  · exact op_notIn_seq pins s σ H x y v u Q I r1 r2 h
  · exact op_notInD hu pins s σ H x y v u Q I r1 r2 h
/-! ### x is True -/
def isB2 (d e : D) : Option D := match d, e with
  | .bl a, .bl b => some (.bl (decide (a = b)))
  | d, e => isN d e
def isNB2 (d e : D) : Option D := match d, e with
  | .bl a, .bl b => some (.bl (!decide (a = b)))
  | d, e => isNN d e
/-! ### isinstance -/
def tyN : D → String
  | .non => "NoneType"
  | .bl _ => "bool"
  | .int _ => "int"
  | .str _ => "str"
  | .tup _ => "tuple"
  | .lst _ => "list"
  | .dct _ _ => "dict"
  | .fl _ => "list"
  | .obj _ _ _ => "?"
def isiD (T : String) (d : D) : Option D := match d with
  | .obj _ _ _ => if T ∈ sixT then some (.bl false) else none
  | d => (kitB (tyN d) T).map D.bl
theorem isiD_sc {T : String} : sca1 (isiD T) := fun d d' h => by
  unfold isiD at h
  split at h
  · split at h
    · cases h; exact ⟨_, rfl⟩
    · cases h
  · exact map_sc h fun a => ⟨_, rfl⟩
def isO : D → Bool
  | .obj _ _ _ => true
  | _ => false
theorem rep_ty {W : Addr → Prop} {H : Hp} {v : V} {d : D} (r : Rep W H v d) (ho : isO d = false) : TyZ Kc.k H v (.type (tyN d)) := by
  cases r with
  | non => exact .base (.base .non)
  | bl b => exact .base (.base (.bl b))
  | int i => exact .base (.base (.int i))
  | str x => exact .base (.base (.str x))
  | tup _ h _ => exact .base (.base (.tup h))
  | lst _ h _ => exact .base (.base (.lst h))
  | dct _ h _ => exact .base (.base (.dK h))
  | fl h =>
    rcases h with ⟨_, o, h⟩ | ⟨o, its, n, h1, h2, _⟩
    · exact .base (.base (.frz h))
    · exact .base (.kList h1 h2)
  | _ => cases ho
theorem rep_tyO {W : Addr → Prop} {H : Hp} {v : V} {c : Str} {ks : List Str} {l : List D} (r : Rep W H v (.obj c ks l)) : ∃ C, Kc.cls.lookup c = some C ∧ TyZ Kc.k H v (.ref C) ∧ ∀ T ∈ sixT, PySem.W.kitOne Kc.k (.ref C) (.type T) = some false := by
  cases r with
  | exc hc hx _ _ h1 h2 _ => exact ⟨_, hc, .exc h1 (.inr ⟨_, _, rfl, h2⟩) hx, hx.bt⟩
  | exc0 hc hx _ h1 => exact ⟨_, hc, .exc h1 (.inl rfl) hx, hx.bt⟩
  | ins hc hx _ _ h1 h2 _ => exact ⟨_, hc, .base (.base (.ins h1 hx.cl hx.ha hx.hn hx.ht hx.hm)), hx.bt⟩
theorem relTy {T : String} {w : Value} (h : RelV (.ty T) w) : w = .type T := h
theorem lk_isi {T : String} : Lk1 (fun xs H Q => rIsiZ Kc.k (xs ++ [.ty T]) H Q) (isiD T) := fun d d' h W x v H Q r hv q => by
  unfold isiD at h
  split at h
  · rename_i c ks l
    split at h
    · rename_i hT
      cases h; cases hv
      obtain ⟨C, _, h2, h3⟩ := rep_tyO r
      exact ⟨x, .ty T, .ref C, .type T, false, rfl, fun w hw => relTy hw, h2, h3 T hT, q⟩
    · cases h
  · rename_i hno
    obtain ⟨b, h1, rfl⟩ := map_some h
    cases hv
    have ho : isO d = false := by
      cases d with
      | obj c ks l => exact absurd rfl (hno c ks l)
      | _ => rfl
    exact ⟨x, .ty T, .type (tyN d), .type T, b, rfl, fun w hw => relTy hw, rep_ty r ho, kit_ty h1, q⟩
/-! ### sorted -/
def ins1 (a : Int) : List Int → List Int
  | [] => [a]
  | b :: l => if a ≤ b then a :: b :: l else b :: ins1 a l
def isort : List Int → List Int
  | [] => []
  | a :: l => ins1 a (isort l)
theorem ins1_perm (a : Int) : ∀ l : List Int, (ins1 a l).Perm (a :: l)
  | [] => .refl _
  | b :: l => by
    rw [ins1]
    split
    · exact .refl _
    · exact ((ins1_perm a l).cons b).trans (.swap ..)
theorem isort_perm : ∀ l : List Int, (isort l).Perm l
  | [] => .refl _
  | a :: l => (ins1_perm a _).trans ((isort_perm l).cons a)
theorem ins1_sorted (a : Int) : ∀ {l : List Int}, l.Pairwise (· ≤ ·) → (ins1 a l).Pairwise (· ≤ ·)
  | [], _ => by simp [ins1]
  | b :: l, h => by
    rw [ins1]
    have h1 := List.pairwise_cons.mp h
    split
    · rename_i hab
      refine List.pairwise_cons.mpr ⟨fun x hx => ?_, h⟩
      rcases List.mem_cons.mp hx with rfl | hx
      · exact hab
      · exact Int.le_trans hab (h1.1 x hx)
    · rename_i hab
      refine List.pairwise_cons.mpr ⟨fun x hx => ?_, ins1_sorted a h1.2⟩
      rcases List.mem_cons.mp ((ins1_perm a l).mem_iff.mp hx) with rfl | hx
      · omega
      · exact h1.1 x hx
theorem isort_sorted : ∀ l : List Int, (isort l).Pairwise (· ≤ ·)
  | [] => .nil
  | a :: l => ins1_sorted a (isort_sorted l)
theorem sorted_uniq : ∀ {l m : List Int}, l.Perm m → l.Pairwise (· ≤ ·) → m.Pairwise (· ≤ ·) → l = m
  | [], m, h, _, _ => h.nil_eq
  | a :: l, [], h, _, _ => absurd h.length_eq (by simp)
  | a :: l, b :: m, h, h1, h2 => by
    have h3 := List.pairwise_cons.mp h1
    have h4 := List.pairwise_cons.mp h2
    have e : a = b := by
      have m1 : b ∈ a :: l := h.mem_iff.mpr List.mem_cons_self
      have m2 : a ∈ b :: m := h.mem_iff.mp List.mem_cons_self
      have q1 : a ≤ b := by
        rcases List.mem_cons.mp m1 with z | z
        · omega
        · exact h3.1 b z
      have q2 : b ≤ a := by
        rcases List.mem_cons.mp m2 with z | z
        · omega
        · exact h4.1 a z
      omega
    subst e
    rw [sorted_uniq h.cons_inv h3.2 h4.2]
def sortN (ds : List D) : Option O := match ds with
  | [.lst l] => (intsD l).map fun ns => .lst ((isort ns).map fun i => .val (.int i))
  | _ => none
/-! ### str -/
def strD (d : D) : Option D := match d with
  | .int i => if i.natAbs.log2 < 1920 then some (.str (toString i : String)) else none
  | _ => none
theorem strD_sc : sca1 strD := fun d d' h => by
  unfold strD at h
  split at h
  · split at h
    · cases h; exact ⟨_, rfl⟩
    · cases h
  · cases h

theorem op_sortN {K : PySem.W.Frag} : OpN (rSortedI K) sortN := fun ds o ho vs H its Q hl c k => by
  unfold sortN at ho
  split at ho
  · rename_i l
    obtain ⟨ns, h1, rfl⟩ := map_some ho
    have h2 := intsD_inv h1
    subst h2
    match vs, hl with
    | [a], _ =>
      have c1 : CI H ((a, .val (.lst (ns.map D.int))) :: its) := c
      obtain ⟨p, vs, rfl, hp, hl, c2⟩ := c1.openL
      obtain ⟨W, r⟩ := c1.rep
      have hv : vs = ns.map V.int := by
        cases r with
        | lst _ h3 h4 =>
          rw [hp] at h3
          cases h3
          exact Reps.ints_ h4
      subst hv
      refine ⟨p, ns, rfl, sq_l hp, fun ns' q hpm hso hq => k _ _ ?_⟩
      have e := sorted_uniq (hpm.trans (isort_perm ns).symm) hso (isort_sorted ns)
      subst e
      have c3 : ∀ (l : List Int) (b : List (V × O)), CI H b → CI H ((l.map V.int).zip ((l.map D.int).map O.val) ++ b) := fun l b => by
        induction l with
        | nil => exact fun x => x
        | cons a l ih => exact fun x => (ih x).sc rfl
      have c4 := (c3 (isort ns) _ c1.tail).newL hq (by simp)
      rw [zip_fst (by simp), zip_snd (by simp)] at c4
      rw [List.map_map] at c4
      exact c4
  · cases ho
theorem lk_str : Lk1 (fun xs H Q => ∃ i, xs = [.int i] ∧ i.natAbs.log2 < 1920 ∧ Q (.str (toString i : String)) H) strD := fun d d' h W x v H Q r hv q => by
  unfold strD at h
  split at h
  · split at h
    · rename_i hz
      cases h; cases hv; cases r
      exact ⟨_, rfl, hz, q⟩
    · cases h
  · cases h
theorem lk_isB {K : PySem.W.Frag} : Lk2 (fun x y H Q => (y = .non ∧ Q (.bl (decide (x = .non))) H) ∨ ∃ a b : Bool, x = .bl a ∧ y = .bl b ∧ Q (.bl (decide (a = b))) H) isB2 := fun d e d' h W x y v H Q r1 r2 hv q => by
  unfold isB2 at h
  split at h
  · cases h; cases hv; cases r1; cases r2
    exact .inr ⟨_, _, rfl, rfl, q⟩
  · exact .inl (lk_isN _ _ _ h W x y v H Q r1 r2 hv q)
theorem lk_isNB {K : PySem.W.Frag} : Lk2 (fun x y H Q => (y = .non ∧ Q (.bl (!decide (x = .non))) H) ∨ ∃ a b : Bool, x = .bl a ∧ y = .bl b ∧ Q (.bl (!decide (a = b))) H) isNB2 := fun d e d' h W x y v H Q r1 r2 hv q => by
  unfold isNB2 at h
  split at h
  · cases h; cases hv; cases r1; cases r2
    exact .inr ⟨_, _, rfl, rfl, q⟩
  · exact .inl (lk_isNN _ _ _ h W x y v H Q r1 r2 hv q)
theorem isB2_sc : scal1 isB2 := fun d e d' h => by
  unfold isB2 at h
  split at h
  · cases h; exact ⟨_, rfl⟩
  · exact isN_sc _ _ _ h
theorem isNB2_sc : scal1 isNB2 := fun d e d' h => by
  unfold isNB2 at h
  split at h
  · cases h; exact ⟨_, rfl⟩
  · exact isNN_sc _ _ _ h
theorem op_isB2 : OpR X (compareOp .Is) (fun x y H Q => (y = .non ∧ Q (.bl (decide (x = .non))) H) ∨ ∃ a b : Bool, x = .bl a ∧ y = .bl b ∧ Q (.bl (decide (a = b))) H) := fun pins s σ H x y v u Q I r1 r2 h => by
  rcases h with h | h
  · exact op_isN pins s σ H x y v u Q I r1 r2 h
  · exact op_isBl pins s σ H x y v u Q I r1 r2 h
theorem op_isNB2 : OpR X (compareOp .IsNot) (fun x y H Q => (y = .non ∧ Q (.bl (!decide (x = .non))) H) ∨ ∃ a b : Bool, x = .bl a ∧ y = .bl b ∧ Q (.bl (!decide (a = b))) H) := fun pins s σ H x y v u Q I r1 r2 h => by
  rcases h with h | h
  · exact op_notN pins s σ H x y v u Q I r1 r2 h
  · exact op_notBl pins s σ H x y v u Q I r1 r2 h
theorem inF_sc : scal1 (fun d e => (inB d e).map fun b => .bl b) := fun d e d' h => map_sc h fun a => ⟨_, rfl⟩
theorem notInF_sc : scal1 (fun d e => (inB d e).map fun b => .bl (!b)) := fun d e d' h => map_sc h fun a => ⟨_, rfl⟩

/-! ### {} and {'a': x} -/
theorem CG.newD {R : List Addr} {H : Hp} {p : Addr} {kvs : List (Key × V)} {ds : List D} {b : List (V × O)} (c : CG R H ((kvs.map (·.2)).zip (ds.map O.val) ++ b)) (hl : (kvs.map (·.2)).length = ds.length) (hp : H p = none) (hr : p ∉ R) :
    CG R (upd H p (.dK kvs)) ((.ref p, .val (.dct (kvs.map (·.1)) ds)) :: b) := by
  obtain ⟨fp, q, n, tk⟩ := ((c.fresh hp hr).write (.dK kvs))
  obtain ⟨f, g, rfl, q1, q2⟩ := q.split
  obtain ⟨rfl, q1⟩ := RIs.vals hl q1
  have st : Stay (fun a => a ∈ p :: R ++ ([] ++ g)) (upd H p (.dK kvs)) (fun a => a ∈ R ++ g) (upd H p (.dK kvs)) := fun a u hn e => ⟨e, fun z => hn (List.mem_cons_of_mem _ z)⟩
  have n' := List.nodup_cons.mp n
  exact ⟨g, .cons (f := []) (.val (.dct n'.1 upd_same (q1.stay st))) (q2.stay st fun _ _ => rfl), n'.2, tk.sub fun a z => List.mem_cons_of_mem _ z⟩
theorem upd2 {H : Hp} {p : Addr} {x y : HO} : upd (upd H p x) p y = upd H p y := by
  funext a
  by_cases h : a = p
  · subst h; rw [upd_same, upd_same]
  · rw [upd_ne h, upd_ne h, upd_ne h]
theorem de_d0 {pos : Pos} : DE X B (.Dict [] [] pos) (ret (.val (.dct [] []))) := by
  refine pe_dnewK.imp fun σ H Q ⟨pend, ρ, c, g⟩ p hp => ?_
  exact (g : ∀ v H', Conf σ H' ((v, .val (.dct [] [])) :: pend) ρ → Q v H') _ _ (.back1 c.sh (CG.newD (kvs := []) (ds := []) c.ci rfl hp (by simp)))
def mDct1 (k : Str) (m : M O) : M O := bnd m fun o => ret (.val (.dct [.inr k] [frz o]))
theorem de_d1S {k : Str} {q r : Expr} {pos : Pos} {i : Nat} (hk : PE X q (tC (.str k))) (hv : PE X r (tVar i)) : DE X B (.Dict [some q] [r] pos) (mDct1 k (mVar i)) := by
  refine (pe_disp (pps_cons hk hv pps_nil) rfl rfl (by simp) (by simp)).imp fun σ H Q ⟨pend, ρ, c, g⟩ p hp => ?_
  have g1 := go_bnd.mp g
  unfold mVar at g1
  split at g1
  · rename_i o e
    obtain ⟨v, hv, c2⟩ := c.take e
    have c3 : Conf σ H ((v, .val (frz o)) :: (v, .val (frz o)) :: pend) (ρ.set i none) := .back (pre := [_, _]) c2.sh c2.frz.out1.dup
    have c4 := c3.putS hv
    rw [set_set] at c4
    refine ⟨v, hv, upd_same, [(.inr k, v)], rfl, by simp, ?_⟩
    rw [upd2]
    exact (g1 : ∀ w H', Conf σ H' ((w, .val (.dct [.inr k] [frz (.val (frz o))])) :: pend) (ρ.set i (some (.val (frz o)))) → Q w H') _ _ (.back1 c4.sh (CG.newD (kvs := [(.inr k, v)]) (ds := [frz o]) c4.out1 rfl hp (by simp)))
  · exact False.elim g1
theorem de_d1C {k : Str} {q r : Expr} {pos : Pos} {d : D} {v : V} (hd : Dl.sc d = some v) (hk : PE X q (tC (.str k))) (hv : PE X r (tC v)) : DE X B (.Dict [some q] [r] pos) (mDct1 k (ret (.val d))) := by
  refine (pe_disp (pps_cons hk hv pps_nil) rfl rfl (by simp) (by simp)).imp fun σ H Q ⟨pend, ρ, c, g⟩ p hp => ?_
  refine ⟨upd_same, [(.inr k, v)], rfl, by simp, ?_⟩
  rw [upd2]
  exact (g : ∀ w H', Conf σ H' ((w, .val (.dct [.inr k] [d])) :: pend) ρ → Q w H') _ _ (.back1 c.sh (CG.newD (kvs := [(.inr k, v)]) (ds := [d]) (c.ci.sc hd) rfl hp (by simp)))

/-! ### list(range(n)), tuple(range(n)) -/
def mLstR (m : M O) : M O := bnd m fun o => bnd (lift (rng [frz o])) fun ds => if ds.length ≤ 1000000 then ret (.lst (ds.map O.val)) else stop
def mTupR (m : M O) : M O := bnd m fun o => bnd (lift (rng [frz o])) fun ds => if ds.length ≤ 1000000 then ret (.val (.tup ds)) else stop
theorem rng_one {d : D} {ds : List D} (h : rng [d] = some ds) : ∃ n, d = .int n ∧ -1000000000 ≤ n ∧ n ≤ 1000000000 ∧ ds = rngL 0 n.toNat := by
  cases d with
  | int n =>
    unfold rng at h
    dsimp only at h
    split at h
    · rename_i c
      cases h
      exact ⟨n, rfl, c.1, c.2, rfl⟩
    · cases h
  | _ => cases h
theorem rg_zip {H : Hp} {b : List (V × O)} (n : Int) (c : CI H b) : CI H ((rgV 0 n).zip ((rngL 0 n.toNat).map O.val) ++ b) := by
  have e : rgV 0 n = (List.range n.toNat).map fun i => V.int (0 + (i : Nat)) := by unfold rgV; rw [Int.sub_zero]
  rw [e]
  unfold rngL
  generalize List.range n.toNat = l
  induction l with
  | nil => exact c
  | cons a l ih => exact CG.sc ih rfl
theorem rg_len (n : Int) : (rgV 0 n).length = (rngL 0 n.toNat).length := by
  rw [rgV_length, Int.sub_zero]; simp [rngL]
theorem rg_ok {n : Int} (h1 : -1000000000 ≤ n) (h2 : n ≤ 1000000000) (h3 : (rngL 0 n.toNat).length ≤ 1000000) : RgOk 0 n := by
  have : n.toNat ≤ 1000000 := by simpa [rngL] using h3
  exact ⟨by omega, by omega, by omega, by omega, by omega⟩
theorem de_lstR {e : Expr} {a : Expr} {m : M O} (ha : DE X B a m) (he : ∀ {ta : TE}, PE X a ta → PE X e (tLstRg (tRg1 ta))) : DE X B e (mLstR m) := by
  refine (he ha).imp fun σ H Q ⟨pend, ρ, c, g⟩ => ?_
  refine tE_bnd c g fun o ρ1 v H1 c1 g1 => ?_
  obtain ⟨ds, hd, g2⟩ := go_lift (go_bnd.mp g1)
  obtain ⟨n, en, h1, h2, rfl⟩ := rng_one hd
  have c2 := c1.frz
  rw [en] at c2
  split at g2
  · rename_i hz
    refine ⟨n, c2.out1.int, rg_ok h1 h2 hz, fun q hq => ?_⟩
    have c3 := (rg_zip n c2.tail.ci).newL hq (by simp)
    rw [zip_fst (by rw [List.length_map]; exact rg_len n), zip_snd (by rw [List.length_map]; exact rg_len n)] at c3
    exact (g2 : ∀ v H', Conf σ H' ((v, .lst ((rngL 0 n.toNat).map O.val)) :: pend) ρ1 → Q v H') _ _ (.back1 c2.sh c3)
  · exact False.elim g2
theorem de_tupR {e : Expr} {a : Expr} {m : M O} (ha : DE X B a m) (he : ∀ {ta : TE}, PE X a ta → PE X e (tTupRg (tRg1 ta))) : DE X B e (mTupR m) := by
  refine (he ha).imp fun σ H Q ⟨pend, ρ, c, g⟩ => ?_
  refine tE_bnd c g fun o ρ1 v H1 c1 g1 => ?_
  obtain ⟨ds, hd, g2⟩ := go_lift (go_bnd.mp g1)
  obtain ⟨n, en, h1, h2, rfl⟩ := rng_one hd
  have c2 := c1.frz
  rw [en] at c2
  split at g2
  · rename_i hz
    refine ⟨n, c2.out1.int, rg_ok h1 h2 hz, fun q hq => ?_⟩
    have c3 := (rg_zip n c2.tail.ci).newT (rg_len n) hq (by simp)
    exact (g2 : ∀ v H', Conf σ H' ((v, .val (.tup (rngL 0 n.toNat))) :: pend) ρ1 → Q v H') _ _ (.back1 c2.sh c3)
  · exact False.elim g2

/-! ### sorted(set(x)), x a tuple of ints -/
def insU (a : Int) : List Int → List Int
  | [] => [a]
  | b :: l => if a < b then a :: b :: l else if a = b then b :: l else b :: insU a l
def usort : List Int → List Int
  | [] => []
  | a :: l => insU a (usort l)
theorem insU_mem (a k : Int) : ∀ l : List Int, k ∈ insU a l ↔ k = a ∨ k ∈ l
  | [] => by simp [insU]
  | b :: l => by
    rw [insU]
    split
    · simp
    · split
      · rename_i e
        subst e
        simp
      · rw [List.mem_cons, insU_mem a k l, List.mem_cons]
        constructor
        · rintro (h | h | h)
          · exact .inr (.inl h)
          · exact .inl h
          · exact .inr (.inr h)
        · rintro (h | h | h)
          · exact .inr (.inl h)
          · exact .inl h
          · exact .inr (.inr h)
theorem usort_mem (k : Int) : ∀ l : List Int, k ∈ usort l ↔ k ∈ l
  | [] => Iff.rfl
  | a :: l => by rw [usort, insU_mem, usort_mem k l, List.mem_cons]
theorem insU_sorted (a : Int) : ∀ {l : List Int}, l.Pairwise (· < ·) → (insU a l).Pairwise (· < ·)
  | [], _ => by simp [insU]
  | b :: l, h => by
    have h1 := List.pairwise_cons.mp h
    rw [insU]
    split
    · rename_i hab
      refine List.pairwise_cons.mpr ⟨fun x hx => ?_, h⟩
      rcases List.mem_cons.mp hx with rfl | hx
      · exact hab
      · exact Int.lt_trans hab (h1.1 x hx)
    · split
      · exact h
      · rename_i n1 n2
        refine List.pairwise_cons.mpr ⟨fun x hx => ?_, insU_sorted a h1.2⟩
        rcases (insU_mem a x l).mp hx with rfl | hx
        · omega
        · exact h1.1 x hx
theorem usort_sorted : ∀ l : List Int, (usort l).Pairwise (· < ·)
  | [] => .nil
  | a :: l => insU_sorted a (usort_sorted l)
theorem strict_uniq : ∀ {l m : List Int}, l.Pairwise (· < ·) → m.Pairwise (· < ·) → (∀ k, k ∈ l ↔ k ∈ m) → l = m
  | [], [], _, _, _ => rfl
  | [], b :: m, _, _, h => absurd ((h b).mpr List.mem_cons_self) (by simp)
  | a :: l, [], _, _, h => absurd ((h a).mp List.mem_cons_self) (by simp)
  | a :: l, b :: m, h1, h2, h => by
    have p1 := List.pairwise_cons.mp h1
    have p2 := List.pairwise_cons.mp h2
    have e : a = b := by
      have q1 : a ≤ b := by
        rcases List.mem_cons.mp ((h b).mpr List.mem_cons_self) with z | z
        · omega
        · exact Int.le_of_lt (p1.1 b z)
      have q2 : b ≤ a := by
        rcases List.mem_cons.mp ((h a).mp List.mem_cons_self) with z | z
        · omega
        · exact Int.le_of_lt (p2.1 a z)
      omega
    subst e
    rw [strict_uniq p1.2 p2.2 fun k => ?_]
    have hk := h k
    rw [List.mem_cons, List.mem_cons] at hk
    constructor
    · intro z
      rcases hk.mp (.inr z) with e | e
      · subst e; exact absurd (p1.1 k z) (Int.lt_irrefl _)
      · exact e
    · intro z
      rcases hk.mpr (.inr z) with e | e
      · subst e; exact absurd (p2.1 k z) (Int.lt_irrefl _)
      · exact e
def rSetTI (K : PySem.W.Frag) (w : World) : List V → Hp → VK → Prop := fun xs H Q => ∃ (p : Addr) (ns : List Int), xs = [.ref p] ∧ SqT K H p (ns.map V.int) ∧ ns.length ≤ 60 ∧ ∀ q c, H q = none → c ≤ ns.length → Q (.ref q) (upd H q (SetO w q (fun j => decide (j ∈ ns)) c))
theorem cr_setTI (hc : X.calm = true) : CallR X (.type "set") (rSetTI X.K X.w) := by
  intro pins s σ H xs us Q I r h
  obtain ⟨p, ns, rfl, hp, hn, q⟩ := h
  obtain ⟨u, rfl, ru⟩ := vals1 r
  cases ru
  obtain ⟨its, rv, ht, _⟩ := I.tuple hp
  refine call_set_tupI ns (I.ok.hd hc) (show s.heap.IsTuple p its.toArray from ht) (by simpa using intsAre_of rv) (by show ns.length + 1 < 4096; omega) fun h' tk c R hcn hk => ?_
  exact ⟨.ref _, _, I.laid (t' := tk) hk (Nat.le_refl _) (setO_new R), rfl, q _ _ (I.hok.fresh (Nat.le_refl _)) hcn⟩
def ssetF (d : D) : Option O := match d with
  | .tup l => (match intsD l with
    | some ns => if ns.length ≤ 60 then some (.lst ((usort ns).map fun i => .val (.int i))) else none
    | none => none)
  | _ => none
theorem ssetF_inv {d : D} {o : O} (h : ssetF d = some o) : ∃ ns : List Int, d = .tup (ns.map D.int) ∧ ns.length ≤ 60 ∧ o = .lst ((usort ns).map fun i => .val (.int i)) := by
  unfold ssetF at h
  split at h
  · split at h
    · rename_i ns e
      split at h
      · rename_i hz
        cases h
        exact ⟨ns, by rw [intsD_inv e], hz, rfl⟩
      · cases h
    · cases h
  · cases h
theorem ints_zip {H : Hp} {b : List (V × O)} (c : CI H b) : ∀ l : List Int, CI H ((l.map V.int).zip ((l.map D.int).map O.val) ++ b)
  | [] => c
  | a :: l => CG.sc (ints_zip c l) rfl
theorem CG.weak0 {R : List Addr} {H : Hp} {b : List (V × O)} {p : Addr} (c : CG (p :: R) H b) : CG R H b := by
  obtain ⟨fp, q, n, tk⟩ := c
  have st : Stay (fun a => a ∈ p :: R ++ fp) H (fun a => a ∈ R ++ fp) H := fun a u hn e => ⟨e, fun z => hn (List.mem_cons_of_mem _ z)⟩
  exact ⟨fp, q.stay st fun _ _ => rfl, (List.nodup_cons.mp n).2, tk.sub fun a z => List.mem_cons_of_mem _ z⟩
theorem de_sset {e a : Expr} {m : M O} (hK : X.K = Kc.k) (ha : DE X B a m) (he : ∀ {ta : TE}, PE X a ta → PE X e (tCB (rSortedSet X.w) (tCons (tCB (rSetTI X.K X.w) (tCons ta tNil)) tNil))) : DE X B e (mOp1 ssetF m) := by
  refine (he ha).imp fun σ H Q ⟨pend, ρ, c, g⟩ => ?_
  refine tE_bnd c g fun o ρ1 v H1 c1 g1 => ?_
  obtain ⟨r, hr, g2⟩ := go_lift g1
  obtain ⟨ns, en, hz, rfl⟩ := ssetF_inv hr
  have c2 := c1.frz
  rw [en] at c2
  obtain ⟨p, vs, rfl, hp, hl, c3⟩ := c2.out1.openT
  obtain ⟨W, rp⟩ := c2.out1.rep
  have hv : vs = ns.map V.int := by
    cases rp with
    | tup _ h3 h4 =>
      rw [hp] at h3
      cases h3
      exact Reps.ints_ h4
  subst hv
  refine ⟨p, ns, rfl, sq_t hp, hz, fun q cn hq hcn => ?_⟩
  have c4 : CI (upd H1 q (SetO X.w q (fun j => decide (j ∈ ns)) cn)) (sI σ ρ1 ++ pend) := ((c2.tail.ci.fresh hq (by simp)).write _).weak0
  refine ⟨q, _, cn, rfl, upd_same, by omega, fun ms p' h1 h2 h3 hp' => ?_⟩
  have e := strict_uniq h1 (usort_sorted ns) fun k => by rw [h2 k, usort_mem]; simp
  subst e
  have c5 := (ints_zip c4 (usort ns)).newL hp' (by simp)
  rw [zip_fst (by simp), zip_snd (by simp), List.map_map] at c5
  exact (g2 : ∀ v H', Conf σ H' ((v, .lst ((usort ns).map fun i => .val (.int i))) :: pend) ρ1 → Q v H') _ _ (.back1 c2.sh c5)

/-! ### x[::-1] -/
def revF (d : D) : Option O := match d with
  | .lst l => some (.lst (l.reverse.map O.val))
  | .tup l => some (.val (.tup l.reverse))
  | _ => none
theorem zip_rev {vs : List V} {l : List D} (hl : vs.length = l.length) {H : Hp} {b : List (V × O)} (c : CI H (vs.zip (l.map O.val) ++ b)) : CI H (vs.reverse.zip (l.reverse.map O.val) ++ b) := by
  have e : ∀ {vs : List V} {l : List D}, vs.length = l.length → vs.reverse.zip (l.reverse.map O.val) = (vs.zip (l.map O.val)).reverse := by
    intro vs
    induction vs with
    | nil => intro l h; rfl
    | cons v vs ih =>
      intro l h
      cases l with
      | nil => cases h
      | cons d l =>
        have h' : vs.length = l.length := by simpa using h
        rw [List.reverse_cons, List.reverse_cons, List.map_append, List.zip_append (by simp [h']), ih h']
        show _ = ((v, O.val d) :: vs.zip (l.map O.val)).reverse
        rw [List.reverse_cons]
        rfl
  rw [e hl]
  exact c.perm ((List.reverse_perm _).symm.append_right _)
theorem de_rev {e a : Expr} {m : M O} (ha : DE X B a m) (h1 : ∀ {ta : TE}, PE X a ta → PE X e (tRevL X.K ta)) (h2 : ∀ {ta : TE}, PE X a ta → PE X e (Dw.tRev X.K ta)) : DE X B e (mOp1 revF m) := by
  have k1 := h1 ha
  have k2 := h2 ha
  refine ⟨fun pins s σ H Q I ⟨pend, ρ, c, g⟩ => ?_⟩
  cases r : m ρ with
  | fail => exact False.elim (by have g0 := go_bnd.mp g; rw [r] at g0; exact g0)
  | ex x ρ' =>
    refine k1.run pins s σ H Q I ⟨pend, ρ, c, ?_⟩
    have g0 := go_bnd.mp g
    rw [r] at g0 ⊢
    exact g0
  | ok o ρ1 =>
    have g0 := go_bnd.mp g
    rw [r] at g0
    obtain ⟨q, hq, g1⟩ := go_lift (show (lift (revF (frz o)) ρ1).go _ _ from g0)
    generalize ed : frz o = d at hq
    cases d with
    | tup l =>
      cases hq
      refine k2.run pins s σ H Q I ⟨pend, ρ, c, ?_⟩
      rw [r]
      intro v H' c1
      have c2 := c1.frz
      rw [ed] at c2
      obtain ⟨p, vs, rfl, hp, hv, c3⟩ := c2.out1.openT
      refine ⟨p, vs, rfl, sq_t hp, fun p' hp' => ?_⟩
      have c4 := (zip_rev hv (CG.mid (m := [_]) c3)).newT (by simp [hv]) hp' (by simp)
      exact (g1 : ∀ v H', Conf σ H' ((v, .val (.tup l.reverse)) :: pend) ρ1 → Q v H') _ _ (.back1 c2.sh c4)
    | lst l =>
      cases hq
      refine k1.run pins s σ H Q I ⟨pend, ρ, c, ?_⟩
      rw [r]
      intro v H' c1
      have c2 := c1.frz
      rw [ed] at c2
      obtain ⟨p, vs, rfl, hp, hv, c3⟩ := c2.out1.openL
      refine ⟨p, vs, rfl, sq_l hp, fun p' hp' => ?_⟩
      have c4 := (zip_rev hv (CG.mid (m := [_]) c3)).newL hp' (by simp)
      rw [zip_fst (by simp [hv]), zip_snd (by simp [hv])] at c4
      exact (g1 : ∀ v H', Conf σ H' ((v, .lst (l.reverse.map O.val)) :: pend) ρ1 → Q v H') _ _ (.back1 c2.sh c4)
    | _ => cases hq
end
end Dl

namespace Dl
variable [Kc]
open PySem L2 PySem.Spec PyProof.Rows

/-! ### TableError.__init__(self, ..) -/
structure TeC (K : PySem.W.Frag) (CT : Addr) : Prop where
  rd : PySem.W.readsIn K CT (.type "type") = true
  ga : PySem.W.specialIn K (.ref CT) "__getattribute__" = some (some (.builtin "type.__getattribute__"))
  vi : PySem.W.findCls K (.ref CT) (.type "type") "__init__" = some (.val (.builtin "ValueError.__init__"))
section
variable {X : Cx} {e : Expr} {es : List Expr} {ta : TA} {p1 p2 pos : Pos}
/-- the call of TE.__init__ as a method call -/
def TeCall (TE : Str) (es : List Expr) (p1 p2 pos : Pos) : Prop := ∀ env : PySem.Env, ∃ pl : Sem Bool, eval (.Call (.Attribute (.Name TE p1) "__init__" p2) es [] pos) env = (do
      let ov ← eval (.Name TE p1) env
      standAt p2.atName
      let (f, first) ← holding [ov] (getMethod ov "__init__" pl)
      callWith pos f first (backTo pos (starEach es env)) (backToKw pos (keywordEach [] env)))
theorem pe_teinit {TE : Str} {CT : Addr} (hg : Gl X TE) (hm : X.mg TE = some (.ref CT)) (T : TeC X.K CT) (ha : PA X (e :: es) ta) (hdb : (TE == ("__debug__" : Str)) = false)
    (hc : TeCall TE (e :: es) p1 p2 pos)
    (he : starEach (e :: es) X.env = (false, eval e X.env) :: starEach es X.env := by rfl) (hpl : (backTo pos (starEach es X.env)).any (·.1) = false := by rfl) :
    PE X (.Call (.Attribute (.Name TE p1) "__init__" p2) (e :: es) [] pos) (tVeI X.K ta) := by
  refine ⟨fun pins s σ H Q I h => ?_⟩
  obtain ⟨pl, hc⟩ := hc X.env
  refine PySem.W.methodCall_KW (ld_glob I hg hm ?_ hdb) hc
  refine PySem.W.method_cls I.kIn T.ga (PySem.W.cls_value I.kIn T.rd T.vi (by decide +kernel) ?_)
  show wpAny _ _ (callWith pos (Value.builtin "ValueError.__init__") [] (backTo pos (starEach (e :: es) X.env)) []) _ _ _
  refine PyProof.Rows.callWith_method1 (thn (ha.run pos pins _ σ H _ (I.tok _) h) fun us s1 ⟨vs, H1, I1, r1, a, C, ws, ev, hl, T, ea, q⟩ => ?_) he hpl
  subst ev
  cases r1 with
  | @cons _ u0 _ ur ra rw' =>
    obtain rfl : u0 = Value.ref a := ra
    have hlen : ur.length ≤ sizeLine := by
      rw [← Paired.length rw', sizeLine_eq]
      omega
    exact oinit_ok T I1 ea hlen fun s' J => ⟨.non, H1, J, rfl, q⟩
end
/-! ### an exception's __init__ -/
/-- it stores its parameters by their names -/
def spInit (K : PySem.W.Frag) (C : Addr) (ks : List Str) : Sp := fun vs H Q _ => ∃ (a : Addr) (ws : List V), vs = .ref a :: ws ∧ ws.length = ks.length ∧ OexC K C ∧ (∀ k ∈ ks, PySem.W.findIn K (.ref C) k = some none) ∧ H a = some (exo a C none) ∧
  (ks = [] → Q .non H) ∧ (ks ≠ [] → ∀ dx, H dx = none → dx ≠ a → Q .non (upd (upd H dx (exd dx (ks.zip ws).reverse)) a (exo a C (some dx))))
section
variable {P : Program} {w : World} {K : PySem.W.Frag} {mg : Str → Option Value} {base : Heap}
theorem vis_par {N ps : List Str} {sc : Scope} (S : FnScope N ps sc) {x : Str} (h : x ∈ ps) : Vis sc x := by
  rcases S.par x h with q | q
  · exact .inl q
  · exact .inr (.inl q)
theorem init0_ok {TE x qual m : Str} {st : Stmt} {fI C CT : Addr} {fd : FuncData} {j : Nat} {q1 q2 q3 q4 q5 q6 : Pos} (F : Fun K x qual st fI fd) (S : FnScope ["self"] ["self"] (defScope st))
    (hb : defBody st = [.Expr (.Call (.Attribute (.Name TE q1) "__init__" q2) [.Name "self" q3, .Constant (.str m) j q4] [] q5) q6])
    (hgl : (defScope st).names.lookup TE = some .globalImplicit) (hdb : (TE == ("__debug__" : Str)) = false) (hm : mg TE = some (.ref CT)) (T : TeC K CT) (hc : TeCall TE [.Name "self" q3, .Constant (.str m) j q4] q1 q2 q5) : FnOk P w K mg base C8.CX0 1 fI fd ["self"] (spInit K C []) := by
  refine F.ok S (fun vs H Q E h => ?_) fun cdv A outer s H vs Q E hr hsp => ?_
  · obtain ⟨a, ws, rfl, hl, _⟩ := h
    simp only [List.length_cons, hl]
  · obtain ⟨a, ws, rfl, hl, hC, hk, ha, h0, h1⟩ := hsp
    obtain rfl : ws = [] := List.length_eq_zero_iff.mp hl
    rw [hb]
    have v0 : Vis (defScope st) "self" := vis_par S (by simp)
    refine ⟨_, pss_one (ps_expr (pe_teinit (TE := TE) hgl hm T (pa_cons (pe_var (i := 0) rfl v0 (by decide) (by decide)) (pa_cons pe_str pa_nil)) hdb hc)), ?_⟩
    exact ⟨.ref a, rfl, a, C, _, rfl, by simp, hC, ha, h0 rfl⟩
theorem init1_ok {TE x qual m f : Str} {st : Stmt} {fI C CT : Addr} {fd : FuncData} {j : Nat} {q1 q2 q3 q4 q5 q6 q7 q8 q9 q10 : Pos} (F : Fun K x qual st fI fd) (S : FnScope ["self", f] ["self", f] (defScope st))
    (hb : defBody st = [.Expr (.Call (.Attribute (.Name TE q1) "__init__" q2) [.Name "self" q3, .Constant (.str m) j q4] [] q5) q6, .Assign [.Attribute (.Name "self" q7) f q8] (.Name f q9) q10])
    (hgl : (defScope st).names.lookup TE = some .globalImplicit) (hdb : (TE == ("__debug__" : Str)) = false) (hfb : bad2 f = false) (hm : mg TE = some (.ref CT)) (T : TeC K CT) (hc : TeCall TE [.Name "self" q3, .Constant (.str m) j q4] q1 q2 q5) : FnOk P w K mg base C8.CX0 1 fI fd ["self", f] (spInit K C [f]) := by
  refine F.ok S (fun vs H Q E h => ?_) fun cdv A outer s H vs Q E hr hsp => ?_
  · obtain ⟨a, ws, rfl, hl, _⟩ := h
    simp only [List.length_cons, hl]
  · obtain ⟨a, ws, rfl, hl, hC, hk, ha, h0, h1⟩ := hsp
    obtain ⟨v, rfl⟩ : ∃ v, ws = [v] := List.length_eq_one_iff.mp hl
    rw [hb]
    have v0 : Vis (defScope st) "self" := vis_par S (by simp)
    have v1 : Vis (defScope st) f := vis_par S (by simp)
    have hfb : (f == ("__debug__" : Str)) = false ∧ (f == ("__classdict__" : Str)) = false := by unfold bad2 at hfb; simpa using hfb
    refine ⟨_, pss_cons (ps_expr (pe_teinit (TE := TE) hgl hm T (pa_cons (pe_var (i := 0) rfl v0 (by decide) (by decide)) (pa_cons pe_str pa_nil)) hdb hc)) (pss_one (ps_ost (pe_var (i := 0) rfl v0 (by decide) (by decide)) (pe_var (i := 1) rfl v1 hfb.1 hfb.2))), ?_⟩
    refine ⟨.ref a, rfl, a, C, _, rfl, by simp, hC, ha, ?_⟩
    refine ⟨v, rfl, .ref a, rfl, a, C, rfl, hC, hk f (by simp), .inl ⟨ha, fun dx hdx hne => ?_⟩⟩
    exact h1 (by simp) dx hdx hne
theorem init2_ok {TE x qual m f g : Str} {st : Stmt} {fI C CT : Addr} {fd : FuncData} {j : Nat} {q1 q2 q3 q4 q5 q6 q7 q8 q9 q10 r7 r8 r9 r10 : Pos} (F : Fun K x qual st fI fd) (S : FnScope ["self", f, g] ["self", f, g] (defScope st))
    (hb : defBody st = [.Expr (.Call (.Attribute (.Name TE q1) "__init__" q2) [.Name "self" q3, .Constant (.str m) j q4] [] q5) q6, .Assign [.Attribute (.Name "self" q7) f q8] (.Name f q9) q10, .Assign [.Attribute (.Name "self" r7) g r8] (.Name g r9) r10])
    (hgl : (defScope st).names.lookup TE = some .globalImplicit) (hdb : (TE == ("__debug__" : Str)) = false) (hfb : bad2 f = false) (hgb : bad2 g = false) (hm : mg TE = some (.ref CT)) (T : TeC K CT) (hc : TeCall TE [.Name "self" q3, .Constant (.str m) j q4] q1 q2 q5) : FnOk P w K mg base C8.CX0 1 fI fd ["self", f, g] (spInit K C [f, g]) := by
  refine F.ok S (fun vs H Q E h => ?_) fun cdv A outer s H vs Q E hr hsp => ?_
  · obtain ⟨a, ws, rfl, hl, _⟩ := h
    simp only [List.length_cons, hl]
  · obtain ⟨a, ws, rfl, hl, hC, hk, ha, h0, h1⟩ := hsp
    obtain ⟨v, v', rfl⟩ : ∃ v v', ws = [v, v'] := (match ws, hl with | [v, v2], _ => ⟨v, v2, rfl⟩)
    rw [hb]
    have v0 : Vis (defScope st) "self" := vis_par S (by simp)
    have v1 : Vis (defScope st) f := vis_par S (by simp)
    have v2 : Vis (defScope st) g := vis_par S (by simp)
    have hfb : (f == ("__debug__" : Str)) = false ∧ (f == ("__classdict__" : Str)) = false := by unfold bad2 at hfb; simpa using hfb
    have hgb : (g == ("__debug__" : Str)) = false ∧ (g == ("__classdict__" : Str)) = false := by unfold bad2 at hgb; simpa using hgb
    refine ⟨_, pss_cons (ps_expr (pe_teinit (TE := TE) hgl hm T (pa_cons (pe_var (i := 0) rfl v0 (by decide) (by decide)) (pa_cons pe_str pa_nil)) hdb hc)) (pss_cons (ps_ost (pe_var (i := 0) rfl v0 (by decide) (by decide)) (pe_var (i := 1) rfl v1 hfb.1 hfb.2))
      (pss_one (ps_ost (pe_var (i := 0) rfl v0 (by decide) (by decide)) (pe_var (i := 2) rfl v2 hgb.1 hgb.2)))), ?_⟩
    refine ⟨.ref a, rfl, a, C, _, rfl, by simp, hC, ha, ?_⟩
    refine ⟨v, rfl, .ref a, rfl, a, C, rfl, hC, hk f (by simp), .inl ⟨ha, fun dx hdx hne => ?_⟩⟩
    refine ⟨v', rfl, .ref a, rfl, a, C, rfl, hC, hk g (by simp), .inr ⟨dx, [(f, v)], upd_same, by rw [upd_ne hne, upd_same], by simp, ?_⟩⟩
    have e : upd (upd (upd H dx (exd dx [(f, v)])) a (exo a C (some dx))) dx (exd dx [(g, v'), (f, v)]) = upd (upd H dx (exd dx [(g, v'), (f, v)])) a (exo a C (some dx)) := by
      funext b
      by_cases h1 : b = dx
      · subst h1; rw [upd_same, upd_ne hne, upd_same]
      · rw [upd_ne h1]
        by_cases h2 : b = a
        · subst h2; rw [upd_same, upd_same]
        · rw [upd_ne h2, upd_ne h2, upd_ne h1, upd_ne h1]
    show Q .non _
    rw [e]
    exact h1 (by simp) dx hdx hne
end
end Dl

namespace Dl
variable [Kc]
open PySem L2 PySem.Spec PyProof.Rows
section
variable {X : Cx} {e : Expr} {es : List Expr} {ta : TA} {p pos : Pos}
/-- the end of C(): the exception is let go, it has no dict -/
theorem mk_none {pins : List (Addr × Obj)} {σ : L2.St} {H1 H2 : Hp} {hp hp2 h2 : Heap} {g1 g2 : Array GenState} {d1 d2 : Drawn} {t1 t2 : Nat} {os1 os2 : OsState} {a C : Addr} (I1 : Inv X pins σ H1 ⟨hp, g1, d1, t1, os1⟩)
    (ha : hp.objs.size ≤ a) (k : ∀ b o, hp.get? b = some o → hp2.get? b = some o) (un : Un (frs X.stack) [] (upd H1 a (exo a C none)) H2 hp2 h2) (hok : HOk X.prog X.w H2 h2) (ho : os2 = os1) (hb : AllBare g2)
    (ea : H2 a = some (exo a C none)) :
    ∃ (t0 : Addr) (G : Heap), Inv X pins σ (del H2 a) ⟨G, g2, d2, t2, os2⟩ ∧ (∀ b o, G.get? b = some o → h2.get? b = some o) ∧ G.get? a = none ∧
      h2.get? a = some ({ cls := .ref C, dict := none, data := .fields #[.ref t0, .none, .none, .none, .bool false, .none] } : Obj) ∧ (del H2 a) a = none := by
  obtain ⟨t0, hoe⟩ := exo_at hok ea
  have hn : H1 a = none := I1.hok.fresh ha
  obtain ⟨G, g1', g2'⟩ := restrict h2 fun b => decide (b ≠ a)
  have gk : ∀ b, b ≠ a → G.get? b = h2.get? b := fun b hb => g1' b (decide_eq_true hb)
  have ge : G.get? a = none := g2' a (by simp)
  have nha : ∀ {b : Addr} {o : Obj}, hp.get? b = some o → b ≠ a := fun {b o} z => Nat.ne_of_lt (Nat.lt_of_lt_of_le (Heap.lt_size z) ha)
  have up : ∀ {b : Addr}, b ≠ a → H1 b = none → upd H1 a (exo a C none) b = none := fun {b} hb n => by rw [upd_ne hb]; exact n
  have U : Un (frs X.stack) [] H1 (del H2 a) hp G := {
    keep := fun b o z n hf hx => by
      rw [gk b (nha z)]
      exact un.keep b o (k b o z) (up (nha z) n) hf hx
    slot := fun b o z n hf hx => by
      rw [gk b (nha z)]
      exact un.slot b o (k b o z) (up (nha z) n) hf hx
    free := fun b o z n hx => by
      rw [del_ne (nha z)]
      exact un.free b o (k b o z) (up (nha z) n) hx
    there := fun b o z hx => by
      rw [gk b (nha z)]
      exact un.there b o (k b o z) hx
    tups := fun b xs z => by
      rw [del_ne (ne_of_none z hn)]
      exact un.tups b xs (by rw [upd_ne (ne_of_none z hn)]; exact z)
    frzs := fun b o v z => by
      rw [del_ne (ne_of_none z hn)]
      exact un.frzs b o v (by rw [upd_ne (ne_of_none z hn)]; exact z)
    tbls := fun b ps z => by
      rw [del_ne (ne_of_none z hn)]
      exact un.tbls b ps (by rw [upd_ne (ne_of_none z hn)]; exact z) }
  have hok3 : HOk X.prog X.w (del H2 a) G := fun b o z => by
    have hba : b ≠ a := fun e => by
      rw [e, del_same] at z
      cases z
    rw [del_ne hba] at z
    have noa : ∀ {c : Addr}, H2 c = some (.own b) → c ≠ a := fun {c} hc => at_ne ea hc exo_own
    exact (hok b o z).stay (fun c v hc y => by
        have hca : c ≠ a := by
          rcases hc with hc | hc
          · rw [hc]
            exact hba
          · exact noa hc
        rw [gk c hca]
        exact y)
      (fun c hc => by rw [del_ne (noa hc)]; exact hc) (fun c xs hc => by rw [del_ne (at_ne ea hc exo_tup)]; exact hc)
  have J : Inv X pins σ (del H2 a) ⟨G, g2, d2, t2, os2⟩ := I1.call' (ch := []) ho U hok3 hb (fun b z => absurd z (by simp))
  refine ⟨t0, G, J, fun b o z => ?_, ge, hoe, del_same⟩
  by_cases hba : b = a
  · rw [hba, ge] at z
    cases z
  · exact (gk b hba).symm.trans z
/-- C() -/
theorem pmk_none {CX : CXT} {x : Str} {C fI : Addr} {k : Nat} {fd : FuncData} {ps : List Str} {sp : Sp} (T : OexC X.K C) (iC : PySem.W.findIn X.K (.ref C) "__init__" = some (some (.ref fI))) (tI : PySem.W.typeIn X.K (.ref fI) = some (.type "function"))
    (F1 : FnOk X.prog X.w X.K X.mg X.base CX k fI fd ps sp) (hr : Room (k + 1) X.A) (hb : Binds X.K fd ps []) (hx : Passes CX X (fun _ _ _ => False)) (hg : Gl X x) (hm : X.mg x = some (.ref C))
    (hdb : (x == ("__debug__" : Str)) = false := by decide) :
    PMk X (.Call (.Name x p) [] [] pos) (fun σ H Q => ∀ a, H a = none → sp [.ref a] (upd H a (exo a C none)) (fun v H2 => v = .non ∧ H2 a = some (exo a C none) ∧ Q (.ref C) none (del H2 a)) (fun _ _ _ => False)) := by
  intro pins s σ H Q I1 q1
  obtain ⟨nm, q, N, bs, bm, sn, sub, ab, col, dd, k0, k1, k2, k3, k5, hC, hbm⟩ := T.cls
  refine wpAny_Call_Name_kw (ld_glob I1 hg hm ?_ hdb)
  refine PySem.W.callWith_K0 I1.kIn T.kC ?_
  show wpAny _ _ (call (.ref C) []) _ _ _
  obtain ⟨hp, g, dr, tk, os⟩ := s
  have hsz : hp.objs.size ≤ hp.objs.size + 1 := Nat.le_succ _
  have hn : H (hp.objs.size + 1) = none := I1.hok.fresh hsz
  have hq := q1 (hp.objs.size + 1) hn
  have kk : ∀ b o, hp.get? b = some o → ((hp.push (PySem.W.kdv_tup [])).push (PySem.HandSPX.excO C hp.objs.size)).get? b = some o := fun b o e => Heap.get?_push_of_some _ (Heap.get?_push_of_some _ e)
  have hget : ((hp.push (PySem.W.kdv_tup [])).push (PySem.HandSPX.excO C hp.objs.size)).get? (hp.objs.size + 1) = some (PySem.HandSPX.excO C hp.objs.size) := by heap_get
  have I2 : Inv X pins σ (upd H (hp.objs.size + 1) (exo (hp.objs.size + 1) C none)) ⟨(hp.push (PySem.W.kdv_tup [])).push (PySem.HandSPX.excO C hp.objs.size), g, dr, tk, os⟩ :=
    I1.laid (t' := tk) (a := hp.objs.size + 1) (o := exo (hp.objs.size + 1) C none) (h' := (hp.push (PySem.W.kdv_tup [])).push (PySem.HandSPX.excO C hp.objs.size)) kk hsz (exo_ok hget)
  have r2 : Vals [V.ref (hp.objs.size + 1)] [Value.ref (hp.objs.size + 1)] := .cons rfl .nil
  have hl : (Value.ref (hp.objs.size + 1) :: [] ++ ([] : List Value)).length = ps.length := by
    have e := r2.length
    rw [F1.len _ _ _ _ hq] at e
    exact e.symm
  refine wpAny_call (PySem.HandSPX.call_own F.excBase_ValueError (fun Y => PySem.HandSPX.refsVE_contains Y bm hbm) (I1.kIn _ _ hC) (PySem.W.looks_findIn I1.kIn iC) (fun self => PySem.W.bind_fn I1.kIn self tI) (Nat.zero_le _)
    (codeAny_mono (F1.run _ X.stack _ _ ⟨Value.ref (hp.objs.size + 1) :: [], []⟩ [Value.ref (hp.objs.size + 1)] _ _ (fun _ _ _ => False) (hr.make C [] []) (I2.env0.make C [] []) (hb _ (Value.ref (hp.objs.size + 1) :: []) I2.kIn hl) r2 hq) fun r s' hq' => ?_))
  cases r with
  | error er => exact hx pins σ _ _ er s' I2 hq'
  | ok fl =>
    cases fl with
    | ret u =>
      obtain ⟨v, H2, os2, bare2, un2, hok2, rv, ev, ea, q2⟩ := hq'
      subst ev
      obtain ⟨h2, g2, d2, t2, os'⟩ := s'
      obtain ⟨t0, G, J, kG, ge, hoe, na⟩ := mk_none (d2 := d2) (t2 := t2) I1 hsz kk un2 hok2 os2 bare2 ea
      exact ⟨rv, _, _, _, ⟨G, g2, d2, t2, os'⟩, _, .ref C, none, rfl, J, kG, ge, hoe, ⟨rfl, rfl⟩, rfl, rfl, na, rfl, bare2, raises_own T.exC T.tyC, q2⟩
    | next => exact False.elim hq'
    | brk => exact False.elim hq'
    | cont => exact False.elim hq'
end
/-- a class of exceptions that this context can make -/
structure ExM (P : Program) (w : World) (K : PySem.W.Frag) (mg : Str → Option Value) (base : Heap) (x : Str) (C : Addr) (ks : List Str) : Prop where
  T : OexC K C
  hm : mg x = some (.ref C)
  fk : ∀ k ∈ ks, PySem.W.findIn K (.ref C) k = some none
  ex : ∃ (fI : Addr) (fd : FuncData), PySem.W.findIn K (.ref C) "__init__" = some (some (.ref fI)) ∧ PySem.W.typeIn K (.ref fI) = some (.type "function") ∧ FnOk P w K mg base C8.CX0 1 fI fd ("self" :: ks) (spInit K C ks) ∧ Binds K fd ("self" :: ks) []
/-- raise C(..) -/
def tRaiseX (W : WX) (C : Addr) (ks : List Str) (ta : TA) : TS := fun _ σ H => ta σ H fun vs H1 => vs.length = ks.length ∧ vs.length ≤ 1000 ∧ (ks = [] → W (.ref C) none σ H1) ∧ (ks ≠ [] → ∀ d, H1 d = none → W (.ref C) (some d) σ (upd H1 d (.xd (ks.zip vs).reverse)))
section
variable {X : Cx} {W : WX} {x : Str} {C : Addr} {ks : List Str} {e : Expr} {es : List Expr} {ta : TA} {p pos pos2 : Pos}
theorem no_pass {X : Cx} : Passes C8.CX0 X (fun _ _ _ => False) := fun _ _ _ _ _ _ _ h => h.elim
theorem ps_raiseX0 (hc : X.calm = true) (tk : Takes X W) (hr : Room 2 X.A) (E : ExM X.prog X.w X.K X.mg X.base x C []) (hg : Gl X x) (hdb : (x == ("__debug__" : Str)) = false) :
    PS X (.Raise (some (.Call (.Name x p) [] [] pos)) none pos2) (tRaiseX W C [] (fun σ H Q => Q [] H)) := by
  obtain ⟨fI, fd, iC, tI, F1, hb⟩ := E.ex
  refine (ps_raise hc tk (pmk_none E.T iC tI F1 hr hb no_pass hg E.hm hdb)).imp fun D σ H h a ha => ?_
  obtain ⟨_, _, h0, _⟩ := h
  refine ⟨a, [], rfl, rfl, E.T, E.fk, upd_same, fun _ => ⟨rfl, upd_same, ?_⟩, fun z => absurd rfl z⟩
  have e : del (upd H a (exo a C none)) a = H := by
    funext b
    by_cases hb : b = a
    · subst hb; rw [del_same, ha]
    · rw [del_ne hb, upd_ne hb]
  rw [e]
  exact h0 rfl
theorem ps_raiseX (hc : X.calm = true) (tk : Takes X W) (hr : Room 2 X.A) (E : ExM X.prog X.w X.K X.mg X.base x C ks) (hk : ks ≠ []) (hg : Gl X x) (ha : PA X (e :: es) ta) (hdb : (x == ("__debug__" : Str)) = false)
    (he : starEach (e :: es) X.env = (false, eval e X.env) :: starEach es X.env) (hpl : (backTo pos (starEach es X.env)).any (·.1) = false) (hmo : ∀ (σ : L2.St) (H : Hp) (Q Q' : List V → Hp → Prop), (∀ v H, Q v H → Q' v H) → ta σ H Q → ta σ H Q') :
    PS X (.Raise (some (.Call (.Name x p) (e :: es) [] pos)) none pos2) (tRaiseX W C ks ta) := by
  obtain ⟨fI, fd, iC, tI, F1, hb⟩ := E.ex
  refine (ps_raise hc tk (pmk_oex (dvs := []) E.T iC tI F1 hr hb .nil no_pass hg E.hm ha hdb he hpl)).imp fun D σ H h => ?_
  refine hmo _ _ _ _ (fun vs H1 q => ?_) h
  obtain ⟨q1, q2, _, q4⟩ := q
  refine ⟨q2, fun a ha => ⟨a, vs, by rw [List.append_nil], q1, E.T, E.fk, upd_same, fun z => absurd z hk, fun _ dx hdx hne => ⟨rfl, dx, (ks.zip vs).reverse, upd_same, by rw [upd_ne hne, upd_same], by rw [upd_ne hne] at hdx; exact hdx, ?_⟩⟩⟩
  rw [upd_ne hne] at hdx
  have e : upd (del (upd (upd (upd H1 a (exo a C none)) dx (exd dx (ks.zip vs).reverse)) a (exo a C (some dx))) a) dx (.xd (ks.zip vs).reverse) = upd H1 dx (.xd (ks.zip vs).reverse) := by
    funext b
    by_cases h1 : b = dx
    · subst h1; rw [upd_same, upd_same]
    · rw [upd_ne h1, upd_ne h1]
      by_cases h2 : b = a
      · subst h2; rw [del_same, ha]
      · rw [del_ne h2, upd_ne h2, upd_ne h1, upd_ne h2]
  rw [e]
  exact q4 hk dx hdx
end
end Dl

namespace Dl
variable [Kc]
open PySem L2 PySem.Spec PyProof.Rows
/-! ### all but the tables stays -/
def StayN (W : Addr → Prop) (H : Hp) (W' : Addr → Prop) (H' : Hp) : Prop := ∀ p o, ¬ W p → H p = some o → (∀ ps, o ≠ .tbl ps) → H' p = some o ∧ ¬ W' p
theorem XcO_tbl {a C : Addr} {d : Option Addr} (ps : Array Value) : XcO a C d ≠ .tbl ps := fun z => by
  unfold XcO at z
  cases z
mutual
theorem Rep.stayN {W W' : Addr → Prop} {H H' : Hp} (s : StayN W H W' H') : ∀ {v : V} {d : D}, Rep W H v d → Rep W' H' v d
  | _, _, .non => .non
  | _, _, .bl b => .bl b
  | _, _, .int i => .int i
  | _, _, .str x => .str x
  | _, _, .tup n r q => .tup (s _ _ n r (fun _ z => nomatch z)).2 (s _ _ n r (fun _ z => nomatch z)).1 (Reps.stayN s q)
  | _, _, .lst n r q => .lst (s _ _ n r (fun _ z => nomatch z)).2 (s _ _ n r (fun _ z => nomatch z)).1 (Reps.stayN s q)
  | _, _, .dct n r q => .dct (s _ _ n r (fun _ z => nomatch z)).2 (s _ _ n r (fun _ z => nomatch z)).1 (Reps.stayN s q)
  | _, _, .fl (.inl ⟨n, o, r⟩) => .fl (.inl ⟨(s _ _ n r (fun _ z => nomatch z)).2, o, (s _ _ n r (fun _ z => nomatch z)).1⟩)
  | _, _, .fl (.inr q) => .fl (.inr q)
  | _, _, .exc hc hx n1 n2 r1 r2 q => .exc hc hx (s _ _ n1 r1 XcO_tbl).2 (s _ _ n2 r2 (fun _ z => nomatch z)).2 (s _ _ n1 r1 XcO_tbl).1 (s _ _ n2 r2 (fun _ z => nomatch z)).1 (Reps.stayN s q)
  | _, _, .exc0 hc hx n1 r1 => .exc0 hc hx (s _ _ n1 r1 XcO_tbl).2 (s _ _ n1 r1 XcO_tbl).1
  | _, _, .ins hc hx n1 n2 r1 r2 q => .ins hc hx (s _ _ n1 r1 (fun _ z => nomatch z)).2 (s _ _ n2 r2 (fun _ z => nomatch z)).2 (s _ _ n1 r1 (fun _ z => nomatch z)).1 (s _ _ n2 r2 (fun _ z => nomatch z)).1 (Reps.stayN s q)
theorem Reps.stayN {W W' : Addr → Prop} {H H' : Hp} (s : StayN W H W' H') : ∀ {vs : List V} {ds : List D}, Reps W H vs ds → Reps W' H' vs ds
  | _, _, .nil => .nil
  | _, _, .cons a b => .cons (Rep.stayN s a) (Reps.stayN s b)
end
mutual
theorem RO.stayN {W W' : Addr → Prop} {H H' : Hp} (s : StayN W H W' H') : ∀ {v : V} {o : O} {fp : List Addr}, RO W H v o fp → (∀ p ∈ fp, H' p = H p) → RO W' H' v o fp
  | _, _, _, .val r, _ => .val (r.stayN s)
  | _, _, _, .lst e q, k => .lst (by rw [k _ List.mem_cons_self]; exact e) (RIs.stayN s q fun p hp => k p (List.mem_cons_of_mem _ hp))
theorem RIs.stayN {W W' : Addr → Prop} {H H' : Hp} (s : StayN W H W' H') : ∀ {its : List (V × O)} {fp : List Addr}, RIs W H its fp → (∀ p ∈ fp, H' p = H p) → RIs W' H' its fp
  | _, _, .nil, _ => .nil
  | _, _, .cons a b, k => .cons (RO.stayN s a fun p hp => k p (List.mem_append_left _ hp)) (RIs.stayN s b fun p hp => k p (List.mem_append_right _ hp))
end
/-- the tables of the written part -/
theorem CG.tabs {H : Hp} {its : List (V × O)} (c : CI H its) : LamX.Tabs Kc.tb H := fun p hp => by
  obtain ⟨fp, q, n, tk⟩ := c
  obtain ⟨h1, ps, h2, h3, h4⟩ := tk p hp
  refine ⟨ps, h2, h3, fun pos cv e => ?_⟩
  obtain ⟨c, e1, e2, e3⟩ := h4 pos cv e
  exact ⟨c, e1, e3⟩
theorem CG.extN {H H' : Hp} {its : List (V × O)} (c : CI H its) (e : LamX.ExtN H H') (t : LamX.Tabs Kc.tb H') : CI H' its := by
  obtain ⟨fp, q, n, tk⟩ := c
  have hl : ∀ p ∈ fp, H' p = H p := fun p hp => by
    obtain ⟨xs, ex⟩ := q.there p hp
    rw [ex]
    exact e p _ ex fun ps z => nomatch z
  have q' := q.stayN (W' := fun a => a ∈ ([] : List Addr) ++ fp) (H' := H') (fun p o hn ho hnt => ⟨e p o ho hnt, hn⟩) hl
  refine ⟨fp, q', n, fun p hp => ?_⟩
  obtain ⟨ps, h2, h3, h4⟩ := t p hp
  have nl : ∀ {b : Addr} {o : HO}, H' b = some o → (∀ xs, o ≠ .lst xs) → b ∉ ([] : List Addr) ++ fp := fun {b o} eb hn hb => by
    obtain ⟨xs, e2⟩ := q'.there b (by simpa using hb)
    rw [eb] at e2
    cases e2
    exact hn xs rfl
  refine ⟨nl h2 (fun xs z => nomatch z), ps, h2, h3, fun pos cv ec => ?_⟩
  obtain ⟨c, e1, e2⟩ := h4 pos cv ec
  exact ⟨c, e1, nl e2 (fun xs z => by unfold LamX.CodeO at z; cases z), e2⟩
theorem Conf.extN {σ : L2.St} {H H' : Hp} {pend : List (V × O)} {ρ : Sl} (c : Conf σ H pend ρ) (e : LamX.ExtN H H') (t : LamX.Tabs Kc.tb H') : Conf σ H' pend ρ := ⟨c.sh, c.ci.extN e t⟩
/-- what a def makes of what the lambda that it got gives or raises -/
abbrev TF := Sum O Ex → Option O
section
variable {X : Cx} {pins : List (Addr × Obj)} {σ : L2.St} {H HZ : Hp} {s s1 : Shared}
open LamX
/-- x(), in the def that got the lambda: as pe_act, the wish told at the very slots, the guards kept -/
theorem pe_actM {CXg : CXT} {Eg : XK} {Ng : List Str} {qg : Str} {sg : Scope} {g f c' : Addr} {cdg pm ctv : Value} {params : Arguments} {body : Expr} {scope : Scope} {k i : Nat} {a : Str} {pn : List (Addr × Obj)} {xe : Value → Shared → Prop} {W : WX} {tb : XK → TE} {p1 p2 : Pos}
    (I : Inv X pins σ H s) (L : LamS X.env.scope scope) (hf : s.heap.get? f = some (PySem.W.kla_obj "<lambda>" (X.env.qual ++ "<lambda>") params body scope (cloFrom X.env.cells scope.names []) pm c' ctv)) (hfn : H f = none) (hfr : f ∉ frs X.stack)
    (hbind : bindArgs (PySem.W.kla_fn "<lambda>" (X.env.qual ++ "<lambda>") params body scope (cloFrom X.env.cells scope.names []) pm (.ref c') ctv) ⟨[], []⟩ = pure [])
    (tk : Takes ((cxOf CXg X.prog X.w X.K X.mg X.base Ng qg sg g cdg X.A X.stack s H Eg).tr pn xe) W) (hr : Room (k + 1) (X.A.deeper (envOfC qg sg s.heap.objs.size g cdg)))
    (hbody : ∀ (A : Around) (outer : List Env) (s : Shared) (H : Hp) (E : XK), A.guards = X.A.guards → Room k (A.deeper (lamEnv X scope s.heap.objs.size f c')) → PE (lamCx X A outer s H E scope f c') body (tb E))
    (hN : Ng[i]? = some a) (hv : Vis sg a) (hd : (a == ("__debug__" : Str)) = false) (hcd : (a == ("__classdict__" : Str)) = false) :
    PE ((cxOf CXg X.prog X.w X.K X.mg X.base Ng qg sg g cdg X.A X.stack s H Eg).tr pn xe) (.Call (.Name a p1) [] [] p2)
      (fun σZ HZ Q => σZ[i]? = some (some (.ref f)) ∧ HZ c' = some (CodeO c' (X.env.qual ++ "<lambda>")) ∧ ∃ E : XK, (∀ cls d H', E cls d H' → W cls d σZ H') ∧ tb E σ HZ Q) := by
  refine ⟨fun pinsZ sZ σZ HZ Q IZ h => ?_⟩
  obtain ⟨hs, hc, E, hW, ht⟩ := h
  refine wpAny_Call_Name_kw (thn ((pe_var (pos := p1) (i := i) hN hv hd hcd).run pinsZ sZ σZ HZ (fun v H1 => v = .ref f ∧ H1 = HZ) IZ ⟨.ref f, hs, rfl, rfl⟩) fun u s1 ⟨v, H1, I1, r1, q1⟩ => ?_)
  obtain ⟨ev, eH⟩ := q1
  subst ev
  rw [eH] at I1
  obtain rfl : u = Value.ref f := r1
  have of1 : s1.heap.get? f = some (PySem.W.kla_obj "<lambda>" (X.env.qual ++ "<lambda>") params body scope (cloFrom X.env.cells scope.names []) pm c' ctv) := I1.base.keep f _ hf hfn hfr (fun z => nomatch (show f ∈ ([] : List Addr) from z))
  refine PySem.W.callWith_F0 ⟨_, _, _, _, of1⟩ ?_
  have un : Un (frs X.stack) [] H HZ s.heap s1.heap := I1.base
  obtain ⟨⟨oc, vs, t, hoc, hdc, hvc⟩, _, _⟩ := I1.hok c' _ hc
  have rc : codeAny (model X.prog X.w) (X.A.deeper (envOfC qg sg s.heap.objs.size g cdg)) (.call (.ref f) ⟨[], []⟩) (CR (L2.CX X.prog X.w) (envOfC qg sg s.heap.objs.size g cdg :: X.stack) X.prog X.w HZ s1 Q E) s1 := by
    refine PySem.W.kla_callFunE hr.depth of1 rfl L.co L.gen rfl ⟨c', oc, vs, t, rfl, hoc, hdc, hvc⟩ ?_
    rw [hbind]
    refine wpAny_pure (wpAny_newFunctionEnv (fun y hy => (L.own y hy).2) (fun y hy => absurd hy (by simp)) (fun h₁ hns hsb => ⟨I1.nolimit.fresh _ hsb, ?_⟩) L.kind)
    show codeAny _ _ (.expr body (lamEnv X scope s1.heap.objs.size f c')) _ _
    have kp : ∀ b o, s1.heap.get? b = some o → h₁.get? b = some o := fun b o e => hsb.extBut b o (Nat.ne_of_lt (Heap.lt_size e)) (Heap.get?_push_of_some _ e)
    have J : Inv (lamCx X (X.A.deeper (envOfC qg sg s.heap.objs.size g cdg)) (envOfC qg sg s.heap.objs.size g cdg :: X.stack) s1 HZ E scope f c') [] σ HZ { s1 with heap := h₁, toks := s1.toks + ([] : List (Str × Value)).length } :=
      lam_start2 I L I1.env0 hr.hd un hns kp
    refine PySem.W.kla_codeExpr (wpAny_mono ((hbody (X.A.deeper (envOfC qg sg s.heap.objs.size g cdg)) _ s1 HZ E rfl (hr.deeper _)).run [] _ _ HZ Q J ht) (fun v s' hq => ?_) fun e s' hq => hq)
    obtain ⟨w', H', J', rv, q⟩ := hq
    exact ⟨w', H', J'.os, J'.bare, J'.base, J'.hok, rv, q⟩
  refine wpAny_call (codeAny_mono rc fun r s' hq => ?_)
  cases r with
  | error e => exact tk e s' (XE.of_call I1 (fun cls d H' h => hW cls d H' h) hq)
  | ok fl =>
    cases fl with
    | ret u => exact I1.after hq
    | next => exact False.elim hq
    | brk => exact False.elim hq
    | cont => exact False.elim hq
/-- the def that calls what it got -/
def GivesM (X : Cx) (Ng : List Str) (x : Str) (sg : Scope) (g : Addr) (cdg : Value) (bg : List Stmt) (a : Str) (q : Str) (TT : (XK → Hp → VK → Prop) → Hp → VK → Prop) : Prop :=
  ∀ (f c' : Addr) (s : Shared) (H : Hp) (Q : VK) (tl : XK → Hp → VK → Prop), (∀ E H (Q Q' : VK), (∀ v H, Q v H → Q' v H) → tl E H Q → tl E H Q') → Room 2 (X.A.deeper (envOfC x sg s.heap.objs.size g cdg)) →
    (∀ (W : WX) (pn : List (Addr × Obj)) (xe : Value → Shared → Prop) (p1 p2 : Pos), Takes ((cxOf C8.CX0 X.prog X.w X.K X.mg X.base Ng x sg g cdg X.A X.stack s H C8.E0).tr pn xe) W →
      PE ((cxOf C8.CX0 X.prog X.w X.K X.mg X.base Ng x sg g cdg X.A X.stack s H C8.E0).tr pn xe) (.Call (.Name a p1) [] [] p2) (fun σZ HZ Q => σZ[0]? = some (some (.ref f)) ∧ HZ c' = some (CodeO c' q) ∧ ∃ E : XK, (∀ cls d H', E cls d H' → W cls d σZ H') ∧ tl E HZ Q)) →
    H c' = some (CodeO c' q) → TT tl H Q →
    ∃ t, PSs (cxOf C8.CX0 X.prog X.w X.K X.mg X.base Ng x sg g cdg X.A X.stack s H C8.E0).nox bg t ∧ t { nx := fun _ H' => Q .non H', rt := Q } (L2.start Ng [.ref f]) H
/-- x(lambda: body) -/
theorem pe_lamM {T : List (Addr × Str)} {TT : (XK → Hp → VK → Prop) → Hp → VK → Prop} {x a : Str} {g c P : Addr} {k : Nat} {pg : Arguments} {bg : List Stmt} {sg : Scope} {dV kV doc pm cdv ct oc : Value} {an od : Option Addr} {osl : Array (Option Value)} {Ng : List Str}
    {params : Arguments} {body : Expr} {scope : Scope} {t : XK → TE} {p lpos pos : Pos} (hg : Gl X x) (hm : X.mg x = some (.ref g)) (hk : PySem.W.keepIn X.K (.ref g) = true)
    (lk : X.K.lookup g = some ⟨oc, od, .func (PySem.W.fnOf x x pg bg sg dV kV doc pm an cdv ct), osl⟩) (hcg : PySem.W.codeIn X.K cdv x = true) (hb : L2.Binds X.K (PySem.W.fnOf x x pg bg sg dV kV doc pm an cdv ct) [a] []) (Sg : FnScope Ng [a] sg) (hNg : Ng[0]? = some a) (hva : Vis sg a)
    (hG : GivesM X Ng x sg g cdv bg a (X.env.qual ++ "<lambda>") TT)
    (TB : TabB X.base X.mg c P) (hcode : X.env.code = .ref c) (hmT : (P, X.env.qual ++ "<lambda>") ∈ T) (hu : ∀ p ∈ T, p.1 = P → p.2 = X.env.qual ++ "<lambda>") (hr : Room (k + 2) X.A) (hk1 : 1 ≤ k) (L : LamS X.env.scope scope) (hdef : defaultsOf params X.env = ([], []))
    (hbind : ∀ (q : Str) (cl : List (Str × Addr)) (pm cv ctv : Value), bindArgs (PySem.W.kla_fn "<lambda>" q params body scope cl pm cv ctv) ⟨[], []⟩ = pure [])
    (hbody : ∀ (A : Around) (outer : List Env) (s : Shared) (H : Hp) (E : XK) (f c' : Addr), A.guards = X.A.guards → Room k (A.deeper (lamEnv X scope s.heap.objs.size f c')) → PE (lamCx X A outer s H E scope f c') body (t E))
    (hmo : ∀ E σ H (Q Q' : VK), (∀ v H, Q v H → Q' v H) → t E σ H Q → t E σ H Q') (hdb : (x == ("__debug__" : Str)) = false) (hd : (a == ("__debug__" : Str)) = false) (hcd : (a == ("__classdict__" : Str)) = false) :
    PE X (.Call (.Name x p) [.Lambda params body scope lpos] [] pos) (tLam T TT t) := by
  refine ⟨fun pins s σ H Q I h => ?_⟩
  obtain ⟨hT, h⟩ := h
  refine wpAny_Call_Name_kw (ld_glob I hg hm ?_ hdb)
  refine PySem.W.callWith_K (h₀ := X.base) I.ok.mod.kin hk ?_ (by rfl) (by rfl)
  show wpAny _ _ (spliced ((false, eval (.Lambda params body scope lpos) X.env) :: backTo pos (starEach [] X.env))) _ _ s
  refine Calls.spliced_cons (lam_make2 I TB hcode hmT hu hT hdef (L.has I.ok) fun f c' pm' ctv H1 s' I1 eN T1 hf hfn hfr hco => ?_)
  refine Calls.spliced_nil ⟨I1.kIn, ?_⟩
  have rc : codeAny (model X.prog X.w) X.A (.call (.ref g) ⟨[.ref f], []⟩) (CR C8.CX0 X.stack X.prog X.w H1 s' Q C8.E0) s' := by
    refine run_ofS (N := Ng) (ps := [a]) (us := [.ref f]) (vs := [.ref f]) lk hcg Sg hr I1.env0 (hb s' [.ref f] I1.kIn rfl) (.cons rfl .nil) rfl fun hr' => ?_
    obtain ⟨t', ht', hq'⟩ := hG f c' s' H1 Q (fun E H' Q' => t E σ H' Q') (fun E H Q Q' hq => hmo E σ H Q Q' hq) (hr'.mono (by omega)) (fun W pn xe p1 p2 tk => pe_actM (i := 0) I1 L hf hfn hfr (hbind _ _ _ _ _) tk hr' (fun A outer s H E hg hr2 => hbody A outer s H E f c' hg hr2) hNg hva hd hcd) hco (h H1 eN T1)
    exact ⟨t', ht'.nox, hq'⟩
  refine wpAny_call (codeAny_mono rc fun r s2 hq => ?_)
  cases r with
  | error e => exact (show False from hq).elim
  | ok fl =>
    cases fl with
    | ret u => exact I1.after hq
    | next => exact False.elim hq
    | brk => exact False.elim hq
    | cont => exact False.elim hq
end
end Dl

namespace Dl
variable [Kc]
open PySem L2

/-- what is known of a def's text as it runs -/
structure Gm where
  N : List Str
  sc : Scope
  F : List (Str × FM × Nat)
  cst : List (Str × D)
  blt : List Str
  ok : Nat → Bool
  top : Bool
  /-- the names that may be stored though they are cells -/
  fn : Str → Bool
  /-- the exceptions that can be made -/
  exc : List (Str × List Str)
  /-- which class is which -/
  isa : List (Str × List (Str × Bool))
  /-- the defs that are handed a lambda -/
  T : List (Str × TF)
  /-- 2 where lambdas are made -/
  up : Nat
def ixIn (N : List Str) (x : Str) : Option Nat := match N with
  | [] => none
  | y :: N => if y = x then some 0 else (ixIn N x).map (· + 1)
theorem ixIn_get : ∀ {N : List Str} {x : Str} {i : Nat}, ixIn N x = some i → N[i]? = some x
  | [], _, _, h => by cases h
  | y :: N, x, i, h => by
    rw [ixIn] at h
    split at h
    · rename_i e
      cases h
      rw [e]; rfl
    · obtain ⟨j, h1, rfl⟩ := map_some h
      simpa using ixIn_get h1
def isVis (sc : Scope) (x : Str) : Bool := match sc.names.lookup x with
  | some .local => true
  | some .cell => true
  | some .free => true
  | _ => false
def isLoc (sc : Scope) (x : Str) : Bool := match sc.names.lookup x with
  | some .local => true
  | some .cell => true
  | _ => false
def isGl (sc : Scope) (x : Str) : Bool := match sc.names.lookup x with
  | some .globalImplicit => true
  | _ => false
def isLcl (sc : Scope) (x : Str) : Bool := match sc.names.lookup x with
  | some .local => true
  | _ => false
theorem isVis_ok {sc : Scope} {x : Str} (h : isVis sc x = true) : Vis sc x := by
  unfold isVis at h
  split at h
  · rename_i e; exact .inl e
  · rename_i e; exact .inr (.inl e)
  · rename_i e; exact .inr (.inr e)
  · cases h
theorem isLoc_ok {sc : Scope} {x : Str} (h : isLoc sc x = true) : Loc sc x := by
  unfold isLoc at h
  split at h
  · rename_i e; exact .inl e
  · rename_i e; exact .inr e
  · cases h
theorem isGl_ok {sc : Scope} {x : Str} (h : isGl sc x = true) : sc.names.lookup x = some .globalImplicit := by
  unfold isGl at h
  split at h
  · assumption
  · cases h
theorem isLcl_ok {sc : Scope} {x : Str} (h : isLcl sc x = true) : sc.names.lookup x = some .local := by
  unfold isLcl at h
  split at h
  · assumption
  · cases h
def bad (x : Str) : Bool := (x == ("__debug__" : Str)) || (x == ("__classdict__" : Str)) || (x == ("__name__" : Str))
theorem bad_no {x : Str} (h : bad x = false) : (x == ("__debug__" : Str)) = false ∧ (x == ("__classdict__" : Str)) = false ∧ x ≠ "__name__" := by
  unfold bad at h
  simp only [Bool.or_eq_false_iff] at h
  exact ⟨h.1.1, h.1.2, fun e => by rw [e] at h; simp at h⟩
/-- a slot of this name -/
def slot (Γ : Gm) (x : Str) : Option Nat := match ixIn Γ.N x with
  | some i => if isVis Γ.sc x = true ∧ bad x = false then some i else none
  | none => none
def fnOf (Γ : Gm) (x : Str) : Option (FM × Nat) := match Γ.F.lookup x with
  | some q => if isGl Γ.sc x = true ∧ bad x = false then some q else none
  | none => none
def isB (Γ : Gm) (x : Str) : Bool := decide (x ∈ Γ.blt) && isGl Γ.sc x && !bad x

/-- an exception that is under way -/
def xhE : XH := fun x cls d H i0 => ∃ C, Kc.cls.lookup x.cls = some C ∧ XcC Kc.k C ∧ cls = .ref C ∧ ((x.ks = [] ∧ x.ds = [] ∧ d = none ∧ i0 = []) ∨
  ∃ (dd : Addr) (fvs : List (Str × V)), d = some dd ∧ x.ks = fvs.map (·.1) ∧ fvs.length = x.ds.length ∧ H dd = some (.xd fvs) ∧ i0 = (fvs.map (·.2)).zip (x.ds.map O.val))
/-- what is wished of the exceptions -/
def WB (B : Bx) : WX := fun cls d σ H => EB xhE B σ cls d H
theorem passAt {X : Cx} {B : Bx} (tk : Takes X (WB B)) (σ : St) : PassesAt (L2.CX X.prog X.w) X σ (EB xhE B σ) := fun _ _ _ e s' I c => tk e s' (XE.of_call I (fun _ _ _ h => h) c)
structure FHas (X : Cx) (B : Bx) (x : Str) (fm : FM) (n up : Nat) : Prop where
  fl : FLen fm
  ex : ∃ (k : Nat) (f : Addr) (fd : FuncData) (ps : List Str), ps.length = n ∧ FnG X.prog X.w X.K X.mg X.base (L2.CX X.prog X.w) k f fd ps (spM xhE ps.length fm) ∧ 2 ≤ k ∧ Room (k + up) X.A ∧ X.mg x = some (.ref f) ∧
    PySem.W.keepIn X.K (.ref f) = true ∧ Binds X.K fd ps []
/-- what a def asks of the lambda's reading -/
def TTm (tf : TF) : (XK → Hp → VK → Prop) → Hp → VK → Prop := fun tl H Q => ∀ H', (H' = H ∨ ∃ p o, H p = none ∧ H' = upd H p o) →
  tl (fun cls d H2 => ∃ (x : Ex) (pz : List (V × O)) (r : O), XR xhE x cls d H2 pz ∧ tf (.inr x) = some r ∧ ∀ v H3, CI H3 ((v, r) :: pz) → Q v H3) H'
    (fun v H2 => ∃ (o : O) (pz : List (V × O)) (r : O), CI H2 ((v, o) :: pz) ∧ tf (.inl o) = some r ∧ ∀ v H3, CI H3 ((v, r) :: pz) → Q v H3)
structure THas (X : Cx) (x : Str) (tf : TF) : Prop where
  ex : ∃ (a : Str) (g : Addr) (pg : Arguments) (bg : List Stmt) (sg : Scope) (dV kV doc pm cdv ct oc : Value) (an od : Option Addr) (osl : Array (Option Value)) (Ng : List Str), X.mg x = some (.ref g) ∧ PySem.W.keepIn X.K (.ref g) = true ∧
    X.K.lookup g = some ⟨oc, od, .func (PySem.W.fnOf x x pg bg sg dV kV doc pm an cdv ct), osl⟩ ∧ PySem.W.codeIn X.K cdv x = true ∧ L2.Binds X.K (PySem.W.fnOf x x pg bg sg dV kV doc pm an cdv ct) [a] [] ∧ FnScope Ng [a] sg ∧ Ng[0]? = some a ∧ Vis sg a ∧ bad2 a = false ∧
    ∀ q, GivesM X Ng x sg g cdv bg a q (TTm tf)
/-- a def at a level at most K0 -/
def FAt (X : Cx) (K0 : Nat) (x : Str) (q : FM × Nat) : Prop := ∃ k, k ≤ K0 ∧ ∃ (f : Addr) (fd : FuncData) (ps : List Str), 2 ≤ k ∧ ps.length = q.2 ∧ FnG X.prog X.w X.K X.mg X.base (L2.CX X.prog X.w) k f fd ps (spM xhE ps.length q.1) ∧ X.mg x = some (.ref f) ∧ PySem.W.keepIn X.K (.ref f) = true ∧ Binds X.K fd ps []
/-- where lambdas can be made -/
def LamHas (X : Cx) : Prop := ∃ c P, LamX.TabB X.base X.mg c P ∧ X.env.code = .ref c ∧ (P, X.env.qual ++ "<lambda>") ∈ Kc.tb ∧ ∀ p ∈ Kc.tb, p.1 = P → p.2 = X.env.qual ++ "<lambda>"
/-- a name of a class -/
structure ClsV (mg : Str → Option Value) (x : Str) (v : V) (u : Value) : Prop where
  rel : RelV v u
  one : ∀ w, RelV v w → w = u
  at_ : mg x = some u ∨ (mg x = none ∧ bootBuiltins x = some u)
structure CtxOk (X : Cx) (Γ : Gm) (B : Bx) : Prop where
  N : X.N = Γ.N
  nd : Γ.N.Nodup
  scp : X.env.scope = Γ.sc
  kind : Γ.sc.kind = .function
  calm : X.calm = true
  K : X.K = Kc.k
  gd : X.A.guards = some []
  un : X.A.units + 190 < cLine
  fn : ∀ x, Γ.fn x = true → X.fn x = true
  po : PassesOwn (model X.prog X.w) X.A X.env X.xe
  F : ∀ x q, Γ.F.lookup x = some q → FHas X B x q.1 q.2 Γ.up
  cst : ∀ x d, Γ.cst.lookup x = some d → ∃ u v, X.mg x = some u ∧ sc d = some v ∧ RelV v u
  blt : ∀ x, x ∈ Γ.blt → X.mg x = none
  tk : Takes X (WB B)
  rm : Room (2 + Γ.up) X.A
  st : Γ.top = true → X.stack = X.env :: X.outer ∧ X.env.frame = some X.env.locals ∧ X.ex = []
  exc : ∀ x ks, Γ.exc.lookup x = some ks → ∃ C, Kc.cls.lookup x = some C ∧ XcC Kc.k C ∧ ExM X.prog X.w X.K X.mg X.base x C ks
  isa : ∀ x l, Γ.isa.lookup x = some l → ∃ v u, ClsV X.mg x v u ∧ ∀ c b, l.lookup c = some b → ∃ C, Kc.cls.lookup c = some C ∧ PySem.W.kitOne X.K (.ref C) u = some b ∧ PySem.W.exmOne X.K (.ref C) u = some b
  T : ∀ x tf, Γ.T.lookup x = some tf → THas X x tf
  lam : Γ.up = 2 → LamHas X
  lv : Γ.up = 2 → ∃ K0, 2 ≤ K0 ∧ Room (K0 + 2) X.A ∧ ∀ x q, Γ.F.lookup x = some q → FAt X K0 x q
section
variable {X : Cx} {Γ : Gm} {B : Bx}
theorem slot_pe (C : CtxOk X Γ B) {x : Str} {i : Nat} {pos : Pos} (h : slot Γ x = some i) : PE X (.Name x pos) (tVar i) := by
  unfold slot at h
  split at h
  · rename_i j e
    split at h
    · rename_i c
      cases h
      obtain ⟨b1, b2, b3⟩ := bad_no c.2
      refine pe_var (by rw [C.N]; exact ixIn_get e) ?_ b1 b2
      rw [C.scp]
      exact isVis_ok c.1
    · cases h
  · cases h
theorem gl_of (C : CtxOk X Γ B) {x : Str} (h : isGl Γ.sc x = true) : Gl X x := by
  show X.env.scope.names.lookup x = _
  rw [C.scp]
  exact isGl_ok h

/-! ### the operators -/
def sumF : D → D → Option O := fun d e => match (iiI (fun _ _ => true) (fun i j => i + j) d e).map O.val with
  | some o => some o
  | none => match (ssS d e).map O.val with
    | some o => some o
    | none => match llL d e with
      | some o => some o
      | none => ttT d e
def lim4 : Nat := 2 ^ 4000
def okMul (i j : Int) : Bool := decide (i.natAbs < lim4) && decide (j.natAbs < lim4)
def okDiv (_ j : Int) : Bool := decide (0 < j) && decide (j.natAbs < lim4)
def okPow (i j : Int) : Bool := decide (0 ≤ j) && decide (j ≤ 1000) && decide (i.natAbs < 2 ^ 64)
def mulF : D → D → Option O := fun d e => match (iiI okMul (fun i j => i * j) d e).map O.val with
  | some o => some o
  | none => lnL d e
def binF (op : Operator) : D → D → Option O := match op with
  | .Add => sumF
  | .Sub => fun d e => (iiI (fun _ _ => true) (fun i j => i - j) d e).map O.val
  | .Mult => mulF
  | .FloorDiv => fun d e => (iiI okDiv (fun i j => i / j) d e).map O.val
  | .Mod => fun d e => (iiI (fun _ j => decide (0 < j)) (fun i j => i % j) d e).map O.val
  | .Pow => fun d e => (iiI okPow (fun i j => i ^ j.toNat) d e).map O.val
  | _ => fun _ _ => none
theorem de_bin {a b : Expr} {op : Operator} {pos : Pos} {ma mb : M O} (ha : DE X B a ma) (hb : DE X B b mb) : DE X B (.BinOp a op b pos) (mOp2 (binF op) ma mb) := by
  have nothing : DE X B (.BinOp a op b pos) (mOp2 (fun _ _ => none) ma mb) := by
    refine de_op2 (r := fun _ _ _ _ => False) (fun d e o ho => by cases ho) ha hb fun {ta tb} h1 h2 => pe_op (fun pins s σ H x y v u Q I r1 r2 h => h.elim) h1 h2
  cases op with
  | Add =>
    refine de_op2 (r := fun x y H Q => rI0 (fun i j => .int (i + j)) x y H Q ∨ (fun x y H Q => (∃ i j, x = .str i ∧ y = .str j ∧ i.length + j.length ≤ sizeLine ∧ Q (.str (i ++ j)) H) ∨ (rCat x y H Q ∨ rCatA X.K x y H Q)) x y H Q) ?_ ha hb fun {ta tb} h1 h2 => pe_op (op_add.or (op_add_str.or (op_cat.or op_catA))) h1 h2
    exact Op2.or (Lk2.op lk_rI0 (iiI_sc _ _)) (Op2.or (Lk2.op lk_ss ssS_sc) (Op2.or op_ll op_tt))
  | Sub => exact de_op2 (Lk2.op lk_rI0 (iiI_sc _ _)) ha hb fun {ta tb} h1 h2 => pe_op op_sub h1 h2
  | Mult =>
    refine de_op2 (r := fun x y H Q => rI CMulW (fun i j => .int (i * j)) x y H Q ∨ rRep x y H Q) ?_ ha hb fun {ta tb} h1 h2 => pe_op (op_mulW.or op_rep) h1 h2
    refine Op2.or (Lk2.op (lk_rI fun i j h => ?_) (iiI_sc _ _)) op_ln
    unfold okMul at h
    simp only [Bool.and_eq_true, decide_eq_true_eq] at h
    exact wide_mul (a := 4000) (b := 4000) h.1 h.2 (by decide) (by decide) (by decide)
  | FloorDiv =>
    refine de_op2 (Lk2.op (lk_rI (C := CDivW) fun i j h => ?_) (iiI_sc _ _)) ha hb fun {ta tb} h1 h2 => pe_op op_fdivW h1 h2
    unfold okDiv at h
    simp only [Bool.and_eq_true, decide_eq_true_eq] at h
    exact wide_div (b := 4000) h.1 h.2 (by decide) (by decide)
  | Mod =>
    refine de_op2 (Lk2.op (lk_rI (C := fun _ j => 0 < j) fun i j h => ?_) (iiI_sc _ _)) ha hb fun {ta tb} h1 h2 => pe_op op_mod h1 h2
    exact of_decide_eq_true h
  | Pow =>
    refine de_op2 (Lk2.op (lk_rI (C := CPow) fun i j h => ?_) (iiI_sc _ _)) ha hb fun {ta tb} h1 h2 => pe_op op_pow h1 h2
    unfold okPow at h
    simp only [Bool.and_eq_true, decide_eq_true_eq] at h
    exact ⟨h.1.1, by omega, h.2⟩
  | _ => exact nothing
def negF (d : D) : Option O := match d with
  | .int i => some (.val (.int (-i)))
  | _ => none
theorem de_neg {a : Expr} {pos : Pos} {ma : M O} (ha : DE X B a ma) : DE X B (.UnaryOp .USub a pos) (mOp1 negF ma) := by
  refine de_op1 (r := rU fun i => .int (-i)) (fun d o ho x H its Q c k => ?_) ha fun {ta} h1 => pe_un un_neg h1
  unfold negF at ho
  split at ho
  · cases ho
    exact ⟨_, c.int, k _ _ (c.tail.sc rfl)⟩
  · cases ho
def notF (d : D) : Option O := match d with
  | .bl b => some (.val (.bl (!b)))
  | _ => none
theorem de_notV {a : Expr} {pos : Pos} {ma : M O} (ha : DE X B a ma) : DE X B (.UnaryOp .Not a pos) (mOp1 notF ma) := by
  refine de_op1 (r := fun x H Q => ∃ c, x = .bl c ∧ Q (.bl (!c)) H) (fun d o ho x H its Q c k => ?_) ha fun {ta} h1 => pe_not h1
  unfold notF at ho
  split at ho
  · cases ho
    exact ⟨_, c.bl, k _ _ (c.tail.sc rfl)⟩
  · cases ho
def cmpF (op : CmpOp) : D → D → Option D := match op with
  | .Lt => iiB fun i j => decide (i < j)
  | .LtE => iiB fun i j => decide (i ≤ j)
  | .Gt => iiB fun i j => decide (j < i)
  | .GtE => iiB fun i j => decide (j ≤ i)
  | .Eq => eqD
  | .NotEq => neD
  | .Is => isB2
  | .IsNot => isNB2
  | .In => inF
  | .NotIn => notInF
def cmpR (K : PySem.W.Frag) (op : CmpOp) : R2 := match op with
  | .Lt => rI0 fun i j => .bl (decide (i < j))
  | .LtE => rI0 fun i j => .bl (decide (i ≤ j))
  | .Gt => rI0 fun i j => .bl (decide (j < i))
  | .GtE => rI0 fun i j => .bl (decide (j ≤ i))
  | .Eq => rEqX K
  | .NotEq => rNeX K
  | .Is => fun x y H Q => (y = .non ∧ Q (.bl (decide (x = .non))) H) ∨ ∃ a b : Bool, x = .bl a ∧ y = .bl b ∧ Q (.bl (decide (a = b))) H
  | .IsNot => fun x y H Q => (y = .non ∧ Q (.bl (!decide (x = .non))) H) ∨ ∃ a b : Bool, x = .bl a ∧ y = .bl b ∧ Q (.bl (!decide (a = b))) H
  | .In => rInA K false
  | .NotIn => rInA K true
theorem cmp_ok (C : CtxOk X Γ B) (op : CmpOp) : OpR X (compareOp op) (cmpR X.K op) ∧ Lk2 (cmpR X.K op) (cmpF op) ∧ scal1 (cmpF op) := by
  cases op with
  | Lt => exact ⟨op_lt, lk_rB, iiB_sc _⟩
  | LtE => exact ⟨op_le, lk_rB, iiB_sc _⟩
  | Gt => exact ⟨op_gt, lk_rB, iiB_sc _⟩
  | GtE => exact ⟨op_ge, lk_rB, iiB_sc _⟩
  | Eq => exact ⟨(op_eqD (by have := C.un; omega)).or (op_eqLen (by have := C.un; omega)), lk_eq, eqD_sc⟩
  | NotEq => exact ⟨(op_neD (by have := C.un; omega)).or (op_neLen (by have := C.un; omega)), lk_ne, neD_sc⟩
  | Is => exact ⟨op_isB2, lk_isB (K := X.K), isB2_sc⟩
  | IsNot => exact ⟨op_isNB2, lk_isNB (K := X.K), isNB2_sc⟩
  | In => exact ⟨op_inA (by have := C.un; omega), lk_inA (neg := false), inF_sc⟩
  | NotIn => exact ⟨op_notInA (by have := C.un; omega), lk_inA (neg := true), notInF_sc⟩
def isIn (op : CmpOp) : Bool := match op with
  | .In => true
  | .NotIn => true
  | _ => false
theorem marks_ok {op : CmpOp} (h : isIn op = false) (b : Expr) : behindInMarks op b = false := nobehind b (fun e => by rw [e] at h; cases h) (fun e => by rw [e] at h; cases h)
theorem de_cmp (C : CtxOk X Γ B) {a b : Expr} {op : CmpOp} {pos : Pos} {ka kb : Ag} (hi : behindInMarks op b = false) (ha : PE X a (rdT B ka)) (hb : PE X b (rdT B kb)) : DE X B (.Compare a [op] [b] pos) (mLook (cmpF op) ka kb) :=
  de_look (cmp_ok C op).2.1 (cmp_ok C op).2.2 ha hb fun {ta tb} h1 h2 => pe_cmpR (cmp_ok C op).1 h1 h2 hi
theorem dt_cmp (C : CtxOk X Γ B) {a b : Expr} {op : CmpOp} {pos : Pos} {ka kb : Ag} (hi : behindInMarks op b = false) (ha : PE X a (rdT B ka)) (hb : PE X b (rdT B kb)) : DT X B (.Compare a [op] [b] pos) (mLookB (cmpF op) ka kb) :=
  dt_look (cmp_ok C op).2.1 (cmp_ok C op).2.2 ha hb fun {ta tb} h1 h2 => pt_cmpR (cmp_ok C op).1 h1 h2 hi
end
end Dl

namespace Dl
variable [Kc]
open PySem L2 PySem.Spec PyProof.Rows
section
variable {X : Cx} {Γ : Gm} {B : Bx}
theorem CG.lay {R : List Addr} {H : Hp} {p : Addr} {b : List (V × O)} (c : CG R H b) (hp : H p = none) (hr : p ∉ R) (o : HO) : CG R (upd H p o) b :=
  CG.relT (vs := []) ((c.fresh hp hr).write o)
theorem Conf.lay {σ : L2.St} {H : Hp} {pend : List (V × O)} {ρ : Sl} {p : Addr} (c : Conf σ H pend ρ) (hp : H p = none) (o : HO) : Conf σ (upd H p o) pend ρ := ⟨c.sh, c.ci.lay hp (by simp) o⟩
theorem pe_cls (C : CtxOk X Γ B) {x : Str} {v : V} {u : Value} {pos : Pos} (hg : isGl Γ.sc x = true) (hb : bad x = false) (h : ClsV X.mg x v u) : PE X (.Name x pos) (tC v) := by
  rcases h.at_ with e | ⟨e, e2⟩
  · exact pe_glob (gl_of C hg) e h.rel (bad_no hb).1
  · exact pe_bltn (gl_of C hg) e e2 h.rel (bad_no hb).2.2 (bad_no hb).1
/-! ### isinstance with classes of the program -/
def isaD (l : List (Str × Bool)) (d : D) : Option D := match d with
  | .obj c _ _ => (l.lookup c).map D.bl
  | _ => none
theorem isaD_sc {l : List (Str × Bool)} : sca1 (isaD l) := fun d d' h => by
  unfold isaD at h
  split at h
  · exact map_sc h fun a => ⟨_, rfl⟩
  · cases h
theorem lk_isa {v : V} {u : Value} {l : List (Str × Bool)} (h1 : ∀ w, RelV v w → w = u) (h2 : ∀ c b, l.lookup c = some b → ∃ C, Kc.cls.lookup c = some C ∧ PySem.W.kitOne Kc.k (.ref C) u = some b) :
    Lk1 (fun xs H Q => rIsiZ Kc.k (xs ++ [v]) H Q) (isaD l) := fun d d' h W x w H Q r hv q => by
  unfold isaD at h
  split at h
  · rename_i c ks ds
    obtain ⟨b, hb, rfl⟩ := map_some h
    cases hv
    obtain ⟨C, hC, hT, _⟩ := rep_tyO r
    obtain ⟨C', hC', hk⟩ := h2 c b hb
    rw [hC] at hC'
    cases hC'
    exact ⟨x, v, .ref C, u, b, rfl, h1, hT, hk, q⟩
  · cases h
/-- one of several classes -/
def anyOf (c : Str) : List (List (Str × Bool)) → Option Bool
  | [] => some false
  | l :: r => match l.lookup c with
    | some true => some true
    | some false => anyOf c r
    | none => none
def isaT (ls : List (List (Str × Bool))) (d : D) : Option D := match d with
  | .obj c _ _ => (anyOf c ls).map D.bl
  | _ => none
theorem isaT_sc {l : List (List (Str × Bool))} : sca1 (isaT l) := fun d d' h => by
  unfold isaT at h
  split at h
  · exact map_sc h fun a => ⟨_, rfl⟩
  · cases h
/-- as Lk1, when a thing more may have been laid -/
def LkN (r : List V → Hp → VK → Prop) (f : D → Option D) : Prop := ∀ (d d' : D), f d = some d' → ∀ (W : Addr → Prop) (x v : V) (H : Hp) (Q : VK), Rep W H x d → sc d' = some v → (∀ p o, H p = none → Q v (upd H p o)) → r [x] H Q
theorem de_lookN {e a : Expr} {r : List V → Hp → VK → Prop} {f : D → Option D} {ka : Ag} (hr : LkN r f) (hs : sca1 f) (ha : PE X a (rdT B ka)) (he : ∀ {ta : TE}, PE X a ta → PE X e (tCB r (tCons ta tNil))) : DE X B e (mLook1 f ka) := by
  refine (he ha).imp fun σ H Q ⟨pend, ρ, c, g⟩ => ?_
  refine opv_read c g fun w1 ρ1 v1 H1 l1 k1 c1 g1 => ?_
  obtain ⟨d, hd, g3⟩ := go_rdv g1
  obtain ⟨r', hr', g5⟩ := go_lift (go_bnd.mp g3)
  obtain ⟨ρ2, c2, _⟩ := look1 k1 c1 hd
  obtain ⟨W, q⟩ := c2.out1.rep
  obtain ⟨v, hv⟩ := hs _ _ hr'
  exact hr _ _ hr' W v1 v H1 Q q hv fun p o hp => (g5 : ∀ v H', Conf σ H' ((v, .val r') :: pend) ρ1 → Q v H') v _ ((c1.drop.lay hp o).sc hv)
/-- the classes' names -/
inductive ClsL (K : PySem.W.Frag) (mg : Str → Option Value) : List Str → List V → List Value → List (List (Str × Bool)) → Prop
  | nil : ClsL K mg [] [] [] []
  | cons {x : Str} {xs : List Str} {v : V} {vs : List V} {u : Value} {us : List Value} {l : List (Str × Bool)} {ls : List (List (Str × Bool))} : ClsV mg x v u → (∀ c b, l.lookup c = some b → ∃ C, Kc.cls.lookup c = some C ∧ PySem.W.kitOne K (.ref C) u = some b) → ClsL K mg xs vs us ls → ClsL K mg (x :: xs) (v :: vs) (u :: us) (l :: ls)
theorem ClsL.vals {K : PySem.W.Frag} {mg : Str → Option Value} : ∀ {xs : List Str} {vs : List V} {us : List Value} {ls : List (List (Str × Bool))}, ClsL K mg xs vs us ls → ∀ ws, Vals vs ws → ws = us
  | _, _, _, _, .nil, ws, h => by cases h; rfl
  | _, _, _, _, .cons h1 _ h3, ws, h => by
    cases h with
    | cons a b => rw [h1.one _ a, ClsL.vals h3 _ b]
theorem ClsL.any {mg : Str → Option Value} {c : Str} {C : Addr} (hC : Kc.cls.lookup c = some C) : ∀ {xs : List Str} {vs : List V} {us : List Value} {ls : List (List (Str × Bool))}, ClsL Kc.k mg xs vs us ls → ∀ b, anyOf c ls = some b → PySem.W.kitAny Kc.k (.ref C) us = some b
  | _, _, _, _, .nil, b, h => by cases h; rfl
  | _, _, _, _, .cons _ h2 h3, b, h => by
    rw [anyOf] at h
    rw [PySem.W.kitAny]
    split at h
    · rename_i hl
      cases h
      obtain ⟨C', e1, e2⟩ := h2 _ _ hl
      rw [hC] at e1; cases e1
      rw [e2]
    · rename_i hl
      obtain ⟨C', e1, e2⟩ := h2 _ _ hl
      rw [hC] at e1; cases e1
      rw [e2]
      exact ClsL.any hC h3 b h
    · cases h
theorem Rep.lay {W : Addr → Prop} {H : Hp} {v : V} {d : D} {p : Addr} {o : HO} (r : Rep W H v d) (hp : H p = none) : Rep W (upd H p o) v d := r.stay fun q u hn e => ⟨by rw [upd_ne (fun z => by rw [z, hp] at e; cases e)]; exact e, hn⟩
theorem lk_isaT {mg : Str → Option Value} {xs : List Str} {vs : List V} {us : List Value} {ls : List (List (Str × Bool))} (hL : ClsL Kc.k mg xs vs us ls) (hs : vs.length ≤ sizeLine) :
    LkN (fun ys H Q => vs.length ≤ sizeLine ∧ ∀ tp, H tp = none → rIsiZT Kc.k (ys ++ [.ref tp]) (upd H tp (.tup vs)) Q) (isaT ls) := fun d d' h W x w H Q r hv q => by
  refine ⟨hs, fun tp htp => ?_⟩
  unfold isaT at h
  split at h
  · rename_i c ks ds
    obtain ⟨b, hb, rfl⟩ := map_some h
    cases hv
    obtain ⟨C, hC, hT, _⟩ := rep_tyO (r.lay (o := .tup vs) htp)
    exact ⟨x, tp, vs, .ref C, us, b, rfl, upd_same, hL.vals, hT, hL.any hC b hb, q tp _ htp⟩
  · cases h
theorem ClsL.len {K : PySem.W.Frag} {mg : Str → Option Value} : ∀ {xs : List Str} {vs : List V} {us : List Value} {ls : List (List (Str × Bool))}, ClsL K mg xs vs us ls → vs.length = xs.length
  | _, _, _, _, .nil => rfl
  | _, _, _, _, .cons _ _ h => by rw [List.length_cons, List.length_cons, h.len]
/-- the names of a tuple -/
def clsNs (Γ : Gm) : List Expr → Option (List Str)
  | [] => some []
  | .Name x _ :: es => if isGl Γ.sc x = true ∧ bad x = false then (clsNs Γ es).map (x :: ·) else none
  | _ => none
def isaOf (Γ : Gm) : List Str → Option (List (List (Str × Bool)))
  | [] => some []
  | x :: xs => match Γ.isa.lookup x, isaOf Γ xs with
    | some l, some r => some (l :: r)
    | _, _ => none
theorem clsL_of (C : CtxOk X Γ B) : ∀ {es : List Expr} {xs : List Str} {ls : List (List (Str × Bool))}, clsNs Γ es = some xs → isaOf Γ xs = some ls → ∃ vs us, ClsL X.K X.mg xs vs us ls ∧ PA X es (fun _ H Q => Q vs H)
  | [], xs, ls, h1, h2 => by
    cases h1; cases h2
    exact ⟨[], [], .nil, pa_nil⟩
  | e :: es, xs, ls, h1, h2 => by
    unfold clsNs at h1
    split at h1
    · rename_i e1; cases e1
    · rename_i x p es' e1
      cases e1
      split at h1
      · rename_i hc
        obtain ⟨ys, hy, rfl⟩ := map_some h1
        unfold isaOf at h2
        split at h2
        · rename_i l r hl hr
          cases h2
          obtain ⟨vs, us, q1, q2⟩ := clsL_of C hy hr
          obtain ⟨v, u, c1, c2⟩ := C.isa x l hl
          exact ⟨v :: vs, u :: us, .cons c1 (fun c b hb => by obtain ⟨C', d1, d2, _⟩ := c2 c b hb; exact ⟨C', d1, d2⟩) q1, pa_cons (pe_cls C hc.1 hc.2 c1) q2 rfl⟩
        · cases h2
      · cases h1
    · cases h1
end
end Dl

namespace Dl
variable [Kc]
open PySem L2 PySem.Spec PyProof.Rows
/-! ### e.f -/
def attrF (f : Str) (d : D) : Option O := match d with
  | .obj _ ks l => if f ∈ attN then ((ks.zip l).lookup f).map O.val else none
  | _ => none
def rAttr (K : PySem.W.Frag) (f : Str) : V → Hp → VK → Prop := fun x H Q =>
  (∃ (a C dd : Addr) (fs : List (Str × V)) (v : V), x = .ref a ∧ XcC K C ∧ f ∈ attN ∧ H a = some (XcO a C (some dd)) ∧ H dd = some (.xd fs) ∧ fs.lookup f = some v ∧ Q v H) ∨
  (∃ (a C dx : Addr) (fs : List (Str × V)) (v : V), x = .ref a ∧ H a = some (.ins C dx fs) ∧ Cls K C ∧ NoAttr K C f ∧ fs.lookup f = some v ∧ Q v H)
section
variable {X : Cx} {Γ : Gm} {B : Bx} {cp : List Nat}
theorem pe_attr {e : Expr} {te : TE} {pos : Pos} {n : Str} (he : PE X e te) (hb : attributeBase e n X.env (eval e X.env) = eval e X.env) : PE X (.Attribute e n pos) (tUn (rAttr X.K n) te) := by
  refine ⟨fun pins s σ H Q I h => ?_⟩
  refine attr_of hb (thn (he.run pins s σ H _ I h) fun u s1 hh => ?_)
  obtain ⟨x, H1, I1, rx, q⟩ := hh
  rcases q with ⟨a, C, dd, fs, v, ex, T, hn, ea, ed, l, q⟩ | ⟨a, C, dx, fs, v, ex, ea, c, n', l, q⟩
  · subst ex
    obtain rfl : u = Value.ref a := rx
    have x : ObjOk X.prog X.w H1 s1.heap a (XcO a C (some dd)) := I1.hok a _ ea
    obtain ⟨⟨oe, vs, h1, h2, h3⟩, _, _⟩ := x
    have hx : ObjOk X.prog X.w H1 s1.heap dd (.xd fs) := I1.hok dd _ ed
    obtain ⟨mA, hns, hr⟩ := hx
    obtain ⟨od, ho, hl⟩ := lookIn_ns hns
    obtain ⟨u, hu, ru⟩ := RelO.some_of (v := v) (o := mA n) (by rw [← l]; exact hr n)
    have J : PySem.W.InstAt s1.heap a oe C (some od) := ⟨h1, h2.1, by unfold PySem.W.notCls; rw [h3] <;> rfl, by rw [h2.2]; exact ho⟩
    exact HandSPX.exc_get I1.kIn J T.ga T.gg T.ex (PySem.W.findObj_own T.hd (T.fn n hn) rfl (by rw [hl, hu])) (handed_of ru) ⟨v, H1, I1.tok _, ru, q⟩
  · subst ex
    obtain rfl : u = Value.ref a := rx
    exact getattr_ok I1 ea c n' l fun u' s2 I2 ru => ⟨v, H1, I2, ru, q⟩
theorem Reps.at {W : Addr → Prop} {H : Hp} {f : Str} : ∀ {fvs : List (Str × V)} {ds : List D} {d : D}, Reps W H (fvs.map (·.2)) ds → ((fvs.map (·.1)).zip ds).lookup f = some d → ∃ v, fvs.lookup f = some v ∧ Rep W H v d
  | [], _, d, _, h => by simp at h
  | (k, v) :: fvs, d0 :: ds, d, .cons a b, h => by
    rw [List.map_cons, List.zip_cons_cons, List.lookup_cons] at h
    rw [List.lookup_cons]
    cases hk : (f == k) with
    | true =>
      rw [hk] at h
      cases h
      exact ⟨v, rfl, a⟩
    | false =>
      rw [hk] at h
      exact Reps.at b h
theorem op_attr {f : Str} : Op1 (rAttr Kc.k f) (attrF f) := fun d o ho x H its Q c k => by
  unfold attrF at ho
  split at ho
  · rename_i cn ks l
    split at ho
    · rename_i hf
      obtain ⟨d, hd, rfl⟩ := map_some ho
      obtain ⟨fp, q, nd, tk⟩ := c
      cases q with
      | cons r s =>
        rename_i f0 fs0
        cases r with
        | val r =>
          have fin : ∀ v, Rep (fun a => a ∈ [] ++ ([] ++ fs0)) H v d → Q v H := fun v rv => k v H ⟨_, .cons (.val rv) s, nd, tk⟩
          cases r with
          | exc hc hx n1 n2 h1 h2 h3 =>
            obtain ⟨v, hl, rv⟩ := Reps.at h3 hd
            exact .inl ⟨_, _, _, _, v, rfl, hx, hf, h1, h2, hl, fin v rv⟩
          | exc0 hc hx n1 h1 => simp at hd
          | ins hc hx n1 n2 h1 h2 h3 =>
            obtain ⟨v, hl, rv⟩ := Reps.at h3 hd
            exact .inr ⟨_, _, _, _, v, rfl, h1, hx.cl, hx.na f hf, hl, fin v rv⟩
    · cases ho
  · cases ho
theorem de_attr (hK : X.K = Kc.k) {e : Expr} {pos : Pos} {n : Str} {m : M O} (he : DE X B e m) (hb : attributeBase e n X.env (eval e X.env) = eval e X.env) : DE X B (.Attribute e n pos) (mOp1 (attrF n) m) := by
  refine de_op1 op_attr he fun {ta} h => ?_
  have := pe_attr (n := n) (pos := pos) h hb
  rw [hK] at this
  exact this
/-! ### raise -/
def mRaise (c : Str) (ks : List Str) (m : M (List O)) : M Fl := bnd m fun os => fun ρ => if os.length = ks.length ∧ os.length ≤ 1000 then .ex ⟨c, ks.reverse, (frzs os).reverse⟩ ρ else .fail
theorem zip_frz : ∀ {vs : List V} {os : List O}, vs.length = os.length → ∀ {R : List Addr} {H : Hp} {b : List (V × O)}, CG R H (vs.zip os ++ b) → CG R H (vs.zip ((frzs os).map O.val) ++ b)
  | [], [], _, R, H, b, c => c
  | v :: vs, o :: os, h, R, H, b, c => by
    have c1 : CG R H ((v, .val (frz o)) :: (vs.zip os ++ b)) := CG.frz c
    have c2 : CG R H (vs.zip os ++ ((v, .val (frz o)) :: b)) := c1.perm List.perm_middle.symm
    have c3 := zip_frz (by simpa using h) c2
    exact c3.perm List.perm_middle
  | [], o :: os, h, _, _, _, _ => by simp at h
  | v :: vs, [], h, _, _, _, _ => by simp at h
theorem zip_rv {α β : Type} : ∀ {as : List α} {bs : List β}, as.length = bs.length → as.reverse.zip bs.reverse = (as.zip bs).reverse
  | [], [], _ => rfl
  | a :: as, b :: bs, h => by
    rw [List.reverse_cons, List.reverse_cons, List.zip_cons_cons, List.reverse_cons, List.zip_append (by simpa using h), zip_rv (by simpa using h)]
    rfl
  | [], b :: bs, h => by simp at h
  | a :: as, [], h => by simp at h
theorem frzs_len (os : List O) : (frzs os).length = os.length := by rw [frzs_eq, List.length_map]
theorem ds_raise (C : CtxOk X Γ B) {x : Str} {ks : List Str} {s : Stmt} {m : M (List O)} {ta : TA} {C' : Addr} (hC : Kc.cls.lookup x = some C') (hX : XcC Kc.k C') (he : PS X s (tRaiseX (WB B) C' ks ta)) (hta : ∀ σ H Q, tA B m σ H Q → ta σ H Q) : DS X B cp s (mRaise x ks m) := by
  refine he.imp fun D σ H ⟨pend, ρ, c, g⟩ => ?_
  refine hta σ H _ ⟨pend, ρ, c, Out.go_mono (go_bnd.mp g) (fun os ρ1 _ g1 vs H1 hl c1 => ?_) fun x ρ' _ z => z σ (CP.refl _ _)⟩
  by_cases h : os.length = ks.length ∧ os.length ≤ 1000
  · have g2 : (Out.ex ⟨x, ks.reverse, (frzs os).reverse⟩ ρ1 : Out Fl).go (flGo cp D σ pend) (fun x ρ' => ∀ σ', CP cp σ σ' → B.p x ρ' pend σ') := by
      have := g1
      rw [if_pos h] at this
      exact this
    have g3 := (g2 : ∀ σ', CP cp σ σ' → B.p ⟨x, ks.reverse, (frzs os).reverse⟩ ρ1 pend σ') σ (CP.refl _ _)
    refine ⟨by rw [hl, h.1], by rw [hl]; exact h.2, fun hk => ?_, fun hk d hd => ?_⟩
    · subst hk
      obtain rfl : os = [] := List.length_eq_zero_iff.mp h.1
      obtain rfl : vs = [] := List.length_eq_zero_iff.mp hl
      exact ⟨_, ρ1, pend, g3, c1.sh, [], ⟨C', hC, hX, rfl, .inl ⟨rfl, rfl, rfl, rfl⟩⟩, c1.ci⟩
    · have hkv : ks.length = vs.length := by rw [hl, h.1]
      refine ⟨_, ρ1, pend, g3, c1.sh, (vs.zip ((frzs os).map O.val)).reverse, ⟨C', hC, hX, rfl, .inr ⟨d, (ks.zip vs).reverse, rfl, ?_, ?_, upd_same, ?_⟩⟩, ?_⟩
      · show ks.reverse = _
        rw [List.map_reverse, List.map_fst_zip (by omega)]
      · show _ = ((frzs os).reverse).length
        rw [List.length_reverse, List.length_reverse, List.length_zip, frzs_len, h.1, hkv, Nat.min_self]
      · show _ = ((ks.zip vs).reverse.map (·.2)).zip (((frzs os).reverse).map O.val)
        rw [List.map_reverse, List.map_snd_zip (by omega), List.map_reverse, zip_rv (by rw [List.length_map, frzs_len]; exact hl)]
      · have c2 : CI H1 (vs.zip os ++ (sI σ ρ1 ++ pend)) := c1.out
        have c3 := (zip_frz hl c2).lay hd (by simp) (.xd (ks.zip vs).reverse)
        exact c3.perm ((List.reverse_perm _).symm.append_right _)
  · have g2 : (Out.fail : Out Fl).go (flGo cp D σ pend) (fun x ρ' => ∀ σ', CP cp σ σ' → B.p x ρ' pend σ') := by
      have := g1
      rw [if_neg h] at this
      exact this
    exact False.elim g2
/-! ### try: .. except C as n: y = n -/
def mTry (l : List (Str × Bool)) (i j : Nat) (m : M Fl) : M Fl := fun ρ => match m ρ with
  | .ok f ρ' => .ok f ρ'
  | .ex x ρ' => (match l.lookup x.cls with
    | some true => .ok .nx ((ρ'.set i none).set j (some (.val (.obj x.cls x.ks x.ds))))
    | some false => .ex x ρ'
    | none => .fail)
  | .fail => .fail
def BW (W : WX) : Bx := ⟨fun x ρ pend σ => Sh σ ρ → ∀ cls d H', XR xhE x cls d H' (sI σ ρ ++ pend) → W cls d σ H', fun x ρ a q σ h sh cls d H' xr => by
  have := xr.perm (b := [a] ++ (sI σ ρ ++ q)) List.perm_middle
  exact h sh cls d H' this.drop⟩
theorem ctx_try (C : CtxOk X Γ B) {W : WX} {pn : List (Addr × Obj)} {xe : Value → Shared → Prop} (tk : Takes (X.tr pn xe) W) (po : PassesOwn (model X.prog X.w) X.A X.env xe) : CtxOk (X.tr pn xe) Γ (BW W) := by
  refine ⟨C.N, C.nd, C.scp, C.kind, C.calm, C.K, C.gd, C.un, C.fn, po, fun x q hq => ?_, C.cst, C.blt, ?_, C.rm, C.st, C.exc, C.isa, fun x tf hx => ⟨(C.T x tf hx).ex⟩, fun h => C.lam h, fun h => C.lv h⟩
  · obtain ⟨fl, k, fa, fd, ps, e1, F, h2, hr, hm, hkp, hb⟩ := C.F x q hq
    exact ⟨fl, k, fa, fd, ps, e1, F, h2, hr, hm, hkp, hb⟩
  · exact tk.imp fun cls d σ H ⟨x, ρ, pend, h1, h2, h3⟩ => h1 h2 cls d H h3
/-- an exception that was under way is held -/
theorem xr_hold {x : Ex} {C' a : Addr} {d : Option Addr} {H : Hp} {its : List (V × O)} (h : XR xhE x (.ref C') d H its) (ha : H a = none) : CI (upd H a (XcO a C' d)) ((.ref a, .val (.obj x.cls x.ks x.ds)) :: its) := by
  obtain ⟨i0, ⟨C, hC, hX, ec, hh⟩, ci⟩ := h
  cases ec
  have ci2 := ci.lay ha (by simp) (XcO a C' d)
  obtain ⟨fp, q, nd, tk⟩ := ci2
  have nl : ∀ {b : Addr} {o : HO}, upd H a (XcO a C' d) b = some o → (∀ xs, o ≠ .lst xs) → b ∉ fp := fun {b o} e hn hb => by
    obtain ⟨xs, e2⟩ := q.there b hb
    rw [e] at e2
    cases e2
    exact hn xs rfl
  have na : a ∉ fp := nl upd_same fun xs z => by
    have z' : HO.ext _ = HO.lst xs := z
    cases z'
  obtain ⟨xc, xk, xd⟩ := x
  rcases hh with ⟨e1, e2, rfl, rfl⟩ | ⟨dd, fvs, rfl, e1, e2, e3, rfl⟩
  · have e1 : xk = [] := e1
    have e2 : xd = [] := e2
    subst e1 e2
    refine ⟨fp, .cons (f := []) (.val (.exc0 hC hX ?_ upd_same)) q, nd, tk⟩
    simpa using na
  · have e1 : xk = fvs.map (·.1) := e1
    have e2 : fvs.length = xd.length := e2
    subst e1
    have hda : dd ≠ a := fun z => by rw [z, ha] at e3; cases e3
    have e4 : upd H a (XcO a C' (some dd)) dd = some (.xd fvs) := by rw [upd_ne hda]; exact e3
    have nd' : dd ∉ fp := nl e4 fun xs z => by cases z
    obtain ⟨f, g, rfl, q1, q2⟩ := q.split
    obtain ⟨rfl, q3⟩ := RIs.vals (by rw [List.length_map]; exact e2) q1
    refine ⟨g, .cons (f := []) (.val (.exc hC hX ?_ ?_ upd_same e4 q3)) q2, nd, tk⟩
    · simpa using na
    · simpa using nd'
theorem sh_none {σ : L2.St} {ρ : Sl} (h : Sh σ ρ) (i : Nat) : Sh (σ.set i none) (ρ.set i none) := by
  refine ⟨by rw [List.length_set, List.length_set, h.len], fun j p e => ?_⟩
  by_cases hij : i = j
  · subst hij
    have hl : i < ρ.length := by
      have := (List.getElem?_eq_some_iff.mp e).1
      simpa using this
    rw [List.getElem?_set_self hl] at e
    cases e
  · rw [List.getElem?_set_ne hij] at e
    rw [List.getElem?_set_ne hij]
    exact h.has j p e
theorem sI_none : ∀ {σ : L2.St} {ρ : Sl} {i : Nat}, ρ[i]? = some none → sI (σ.set i none) ρ = sI σ ρ
  | [], ρ, i, h => rfl
  | a :: σ, [], i, h => by simp at h
  | a :: σ, b :: ρ, 0, h => by
    simp at h
    subst h
    cases a <;> rfl
  | a :: σ, b :: ρ, i + 1, h => by
    have ih := sI_none (σ := σ) (ρ := ρ) (i := i) (by simpa using h)
    rw [List.set_cons_succ]
    cases a with
    | none => exact ih
    | some a =>
      cases b with
      | none => exact ih
      | some b => show (a, b) :: sI (σ.set i none) ρ = (a, b) :: sI σ ρ; rw [ih]
theorem Conf.gone {σ : L2.St} {H : Hp} {pend : List (V × O)} {ρ : Sl} (c : Conf σ H pend ρ) (i : Nat) : Conf (σ.set i none) H pend (ρ.set i none) := by
  by_cases hi : i < ρ.length
  · by_cases hn : ∃ u, ρ[i]? = some (some u)
    · obtain ⟨u, hu⟩ := hn
      obtain ⟨v, hv, c2⟩ := c.take hu
      have c3 := c2.tail
      refine ⟨sh_none c.sh i, ?_⟩
      rw [sI_none (List.getElem?_set_self hi)]
      exact c3.ci
    · have e : ρ[i]? = some none := by
        cases e : ρ[i]? with
        | none => rw [List.getElem?_eq_none_iff] at e; omega
        | some z =>
          cases z with
          | none => rfl
          | some u => exact absurd ⟨u, e⟩ hn
      refine ⟨sh_none c.sh i, ?_⟩
      rw [sI_none (List.getElem?_set_self hi), set_self e]
      exact c.ci
  · rw [List.set_eq_of_length_le (by rw [c.sh.len]; omega), List.set_eq_of_length_le (by omega)]
    exact c
theorem ds_try (C : CtxOk X Γ B) {x n y : Str} {l : List (Str × Bool)} {i j : Nat} {body : List Stmt} {np pos pos' p1 p2 p3 : Pos} {m : M Fl} (ht : Γ.top = true) (hl : Γ.isa.lookup x = some l) (hg : isGl Γ.sc x = true) (hb : bad x = false)
    (hi : Γ.N[i]? = some n) (hli : isLcl Γ.sc n = true) (hbn : bad n = false) (hj : Γ.N[j]? = some y) (hlj : isLcl Γ.sc y = true) (hij : i ≠ j) (ci : i ∉ cp) (cj : j ∉ cp)
    (hm : ∀ {X' : Cx} {B' : Bx}, CtxOk X' Γ B' → DSs X' B' cp body m) :
    DS X B cp (.Try body [.ExceptHandler (some (.Name x np)) (some n) [.Assign [.Name y p1] (.Name n p2) p3] pos'] [] [] pos) (mTry l i j m) := by
  obtain ⟨st1, st2, st3⟩ := C.st ht
  obtain ⟨v, u, cv, cl⟩ := C.isa x l hl
  have hkn : X.env.kindOf n = some .local := by
    show X.env.scope.names.lookup n = _
    rw [C.scp]; exact isLcl_ok hli
  have hky : X.env.kindOf y = some .local := by
    show X.env.scope.names.lookup y = _
    rw [C.scp]; exact isLcl_ok hlj
  have hb2 : bad2 n = false := by
    have := bad_no hbn
    unfold bad2
    rw [this.1, this.2.1]; rfl
  have hnm : Names X x u := by
    refine ⟨gl_of C hg, (bad_no hb).1, ?_⟩
    rcases cv.at_ with e | ⟨e1, e2⟩
    · exact .inl e
    · exact .inr ⟨e1, e2, (bad_no hb).2.2⟩
  refine (ps_try_trk (tb := fun W => tS (BW W) cp m) st1 st2 st3 (by rw [C.N]; exact C.nd) (by rw [C.N]; exact hi) hkn (by rw [C.N]; exact hj) hky hij hb2 hnm C.tk fun W pn xe tk po => hm (ctx_try C tk po)).imp fun D σ H ⟨pend, ρ, c, g⟩ => ?_
  refine ⟨pend, ρ, c, ?_⟩
  unfold mTry at g
  split at g
  · rename_i f ρ' e
    rw [e]
    exact g
  · rename_i x' ρ' e
    rw [e]
    intro σ' hσ sh cls d H' xr
    obtain ⟨i0, ⟨C', hC, hX, ec, hh⟩, ci0⟩ := id xr
    subst ec
    split at g
    · rename_i hb'
      obtain ⟨C2, d1, d2, d3⟩ := cl _ _ hb'
      rw [hC] at d1
      cases d1
      refine ⟨true, d3, fun _ => ⟨C', rfl, fun a ha => ?_⟩, fun z => (Bool.noConfusion z)⟩
      have q1 := xr_hold xr ha
      have q2 : Conf σ' (upd H' a (XcO a C' d)) ((.ref a, .val (.obj x'.cls x'.ks x'.ds)) :: pend) ρ' := .back1 sh q1
      have e1 : ((σ'.set i (some (V.ref a))).set j (some (V.ref a))).set i none = (σ'.set i none).set j (some (V.ref a)) := by
        rw [List.set_comm _ _ (Ne.symm hij), set_set]
      rw [e1]
      refine (g : ∀ σ'' H'', Conf σ'' H'' pend ((ρ'.set i none).set j (some (.val (.obj x'.cls x'.ks x'.ds)))) → CP cp σ σ'' → D.nx σ'' H'') _ _ ?_ fun k hk => ?_
      · have q3 := q2.gone i
        by_cases hjl : j < (σ'.set i none).length
        · exact q3.put hjl
        · rw [List.set_eq_of_length_le (l := σ'.set i none) (by omega), List.set_eq_of_length_le (l := ρ'.set i none) (by have := q3.sh.len; omega)]
          exact q3.tail
      · have k1 : i ≠ k := fun z => ci (by rw [z]; exact hk)
        have k2 : j ≠ k := fun z => cj (by rw [z]; exact hk)
        rw [List.getElem?_set_ne k2, List.getElem?_set_ne k1]
        exact hσ k hk
    · rename_i hb'
      obtain ⟨C2, d1, d2, d3⟩ := cl _ _ hb'
      rw [hC] at d1
      cases d1
      refine ⟨false, d3, fun z => (Bool.noConfusion z), fun _ => ?_⟩
      exact ⟨x', ρ', pend, (g : ∀ σ', CP cp σ σ' → B.p x' ρ' pend σ') σ' hσ, sh, xr⟩
    · exact False.elim g
  · exact False.elim g
end
end Dl

namespace Dl
variable [Kc]
open PySem L2 PySem.Spec PyProof.Rows
/-- f(lambda: m) -/
def mLam (tf : TF) (m : M O) : M O := fun ρ => match m ρ with
  | .ok o ρ' => (match tf (.inl o) with
    | some r => .ok r ρ'
    | none => .fail)
  | .ex x ρ' => (match tf (.inr x) with
    | some r => .ok r ρ'
    | none => .fail)
  | .fail => .fail
def lamG (Γ : Gm) (scope : Scope) : Gm := { Γ with sc := scope, ok := fun _ => false, top := false, fn := fun _ => false, T := [], up := 0 }
section
variable {X : Cx} {Γ : Gm} {B : Bx}
/-- the context of a lambda's body -/
theorem ctx_lam (C : CtxOk X Γ B) {scope : Scope} {f c' : Addr} {A : Around} {outer : List Env} {s : Shared} {H : Hp} {E : XK} (L : LamX.LamS X.env.scope scope) (hg : A.guards = X.A.guards) {K0 : Nat} (hK : ∀ x q, Γ.F.lookup x = some q → FAt X K0 x q) (h2 : 2 ≤ K0) (hr : Room K0 (A.deeper (LamX.lamEnv X scope s.heap.objs.size f c'))) :
    CtxOk (LamX.lamCx X A outer s H E scope f c') (lamG Γ scope) (BE xhE E) := by
  refine ⟨C.N, C.nd, rfl, L.kind, rfl, C.K, ?_, ?_, (fun _ h => nomatch h), PassesOwn.leaving, fun x q hq => ?_, C.cst, C.blt, ?_, hr.mono h2, (fun h => nomatch h), C.exc, C.isa, (fun x tf h => nomatch h), (fun h => nomatch h), fun h => (nomatch h)⟩
  · show A.guards = some []
    rw [hg]
    exact C.gd
  · have := hr.un
    show (A.deeper _).units + 190 < cLine
    omega
  · obtain ⟨fl, _⟩ := C.F x q hq
    obtain ⟨k, hk, f', fd, ps, k2, e, G, h1, h2, h3⟩ := hK x q hq
    exact ⟨fl, k, f', fd, ps, e, G, k2, hr.mono hk, h1, h2, h3⟩
  · exact (takes_of (E := E) rfl rfl rfl rfl).imp fun cls d σ' H z => by
      obtain ⟨x, ρ, pend, z1, z2, z3⟩ := z
      exact z1 z2 cls d H z3
theorem de_lam (C : CtxOk X Γ B) {x : Str} {tf : TF} {params : Arguments} {body : Expr} {scope : Scope} {p lpos pos : Pos} {m : M O} (hup : Γ.up = 2) (hT : Γ.T.lookup x = some tf) (hg : isGl Γ.sc x = true) (hb : bad x = false) (hS : LamX.lamSB Γ.sc scope = true) (hdef : defaultsOf params X.env = ([], []))
    (hbind : ∀ (q : Str) (cl : List (Str × Addr)) (pm cv ctv : Value), bindArgs (PySem.W.kla_fn "<lambda>" q params body scope cl pm cv ctv) ⟨[], []⟩ = pure [])
    (hm : ∀ {X' : Cx} {B' : Bx}, CtxOk X' (lamG Γ scope) B' → DE X' B' body m) : DE X B (.Call (.Name x p) [.Lambda params body scope lpos] [] pos) (mLam tf m) := by
  obtain ⟨a, g, pg, bg, sg, dV, kV, doc, pm, cdv, ct, oc, an, od, osl, Ng, t1, t2, t3, t4, t5, t6, t7, t8, t9, t10⟩ := (C.T x tf hT).ex
  obtain ⟨c, P, l1, l2, l3, l4⟩ := C.lam hup
  obtain ⟨K0, h2, hr, hK⟩ := C.lv hup
  have L : LamX.LamS X.env.scope scope := by rw [C.scp]; exact LamX.lamS_by hS
  have ha : (a == ("__debug__" : Str)) = false ∧ (a == ("__classdict__" : Str)) = false := by unfold bad2 at t9; simpa using t9
  refine (pe_lamM (T := Kc.tb) (TT := TTm tf) (t := fun E => tE (BE xhE E) m) (gl_of C hg) t1 t2 t3 t4 t5 t6 t7 t8 (t10 _) l1 l2 l3 l4 hr (by omega) L hdef hbind (fun A outer s H E f c' hg2 hr2 => hm (ctx_lam C L hg2 hK h2 hr2)) (fun E σ H Q Q' hq ⟨pend, ρ, c, g⟩ => ⟨pend, ρ, c, Out.go_mono g (fun r ρ' _ k v H' c' => hq v H' (k v H' c')) fun _ _ _ z => z⟩) (bad_no hb).1 ha.1 ha.2).imp fun σ H Q ⟨pend, ρ, c0, g0⟩ => ?_
  refine ⟨c0.ci.tabs, fun H1 eN T1 H' hH' => ?_⟩
  have c1 : Conf σ H1 pend ρ := c0.extN eN T1
  have c2 : Conf σ H' pend ρ := by
    rcases hH' with rfl | ⟨p, o, hp, rfl⟩
    · exact c1
    · exact c1.lay hp o
  refine ⟨pend, ρ, c2, ?_⟩
  unfold mLam at g0
  cases q : m ρ with
  | ok o ρ' =>
    rw [q] at g0
    dsimp only at g0
    cases q2 : tf (.inl o) with
    | none => rw [q2] at g0; exact False.elim g0
    | some r =>
      rw [q2] at g0
      intro v H2 c3
      exact ⟨o, sI σ ρ' ++ pend, r, c3.out1, q2, fun v' H3 ci => (g0 : ∀ v H', Conf σ H' ((v, r) :: pend) ρ' → Q v H') v' H3 (.back1 c3.sh ci)⟩
  | ex x ρ' =>
    rw [q] at g0
    dsimp only at g0
    cases q2 : tf (.inr x) with
    | none => rw [q2] at g0; exact False.elim g0
    | some r =>
      rw [q2] at g0
      intro sh cls d H2 xr
      exact ⟨x, sI σ ρ' ++ pend, r, xr, q2, fun v' H3 ci => (g0 : ∀ v H', Conf σ H' ((v, r) :: pend) ρ' → Q v H') v' H3 (.back1 sh ci)⟩
  | fail => rw [q] at g0; exact False.elim g0
/-- a lambda that takes nothing -/
def noArgs (p : Arguments) : Bool := match p with
  | ⟨[], [], none, [], [], none, []⟩ => true
  | _ => false
theorem noArgs_ok {p : Arguments} (h : noArgs p = true) : p = ⟨[], [], none, [], [], none, []⟩ := by
  unfold noArgs at h
  split at h
  · rfl
  · cases h
end
end Dl

namespace Dl
variable [Kc]
open PySem L2

/-- the ways down -/
structure Rc where
  e : Gm → Expr → M O
  t : Gm → Expr → M Bool
  g : Gm → Expr → O → M Unit
  s : Gm → List Stmt → M Fl
def isStar (e : Expr) : Bool := match e with
  | .Starred _ _ => true
  | _ => false
theorem star_no {e : Expr} (h : isStar e = false) (es : List Expr) (env : PySem.Env) : starEach (e :: es) env = (false, eval e env) :: starEach es env := by
  cases e <;> first
    | rfl
    | cases h
theorem star_any {es : List Expr} (h : es.all (fun e => !isStar e) = true) (env : PySem.Env) (pos : Pos) : (backTo pos (starEach es env)).any (·.1) = false := by
  induction es with
  | nil => rfl
  | cons e es ih =>
    rw [List.all_cons, Bool.and_eq_true] at h
    rw [star_no (by simpa using h.1)]
    show (false || _) = false
    exact ih h.2
def evA (R : Rc) (Γ : Gm) : List Expr → M (List O)
  | [] => ret []
  | e :: es => if isStar e = true then stop else mCons (R.e Γ e) (evA R Γ es)
/-- with stars -/
def evAs (R : Rc) (Γ : Gm) : List Expr → M (List O)
  | [] => ret []
  | .Starred e _ :: es => mStar (R.e Γ e) (evAs R Γ es)
  | e :: es => if isStar e = true then stop else mCons (R.e Γ e) (evAs R Γ es)
def isTupE (e : Expr) : Bool := match e with
  | .Tuple _ _ _ => true
  | _ => false
def agOf (R : Rc) (Γ : Gm) (e : Expr) : Ag := match e with
  | .Name x p => match slot Γ x with
    | some i => .sl i
    | none => .ev (R.e Γ (.Name x p))
  | e => .ev (R.e Γ e)
def evName (Γ : Gm) (x : Str) : M O := match slot Γ x with
  | some i => mVar i
  | none => match Γ.cst.lookup x with
    | some d => if isGl Γ.sc x = true ∧ bad x = false then ret (.val d) else stop
    | none => stop
def isOne (es : List Expr) : Bool := es.length == 1
/-- the built-in types that isinstance is asked for -/
def tyOf (x : Str) : Option String :=
  if x = "int" then some "int" else if x = "bool" then some "bool" else if x = "tuple" then some "tuple" else if x = "list" then some "list" else if x = "dict" then some "dict" else if x = "str" then some "str" else none
def evIsi (R : Rc) (Γ : Gm) (a b : Expr) : M O := match b with
  | .Name x _ => (match tyOf x with
    | some T => if isB Γ x = true then mLook1 (isiD T) (agOf R Γ a) else stop
    | none => (match Γ.isa.lookup x with
      | some l => if isGl Γ.sc x = true ∧ bad x = false then mLook1 (isaD l) (agOf R Γ a) else stop
      | none => stop))
  | .Tuple es _ _ => (match clsNs Γ es with
    | some xs => (match isaOf Γ xs with
      | some ls => if xs.length ≤ 100 then mLook1 (isaT ls) (agOf R Γ a) else stop
      | none => stop)
    | none => stop)
  | _ => stop
/-- range(e) -/
def rgArg (Γ : Gm) (a : Expr) : Option Expr := match a with
  | .Call (.Name f _) [b] [] _ => if f = "range" ∧ fnOf Γ f = none ∧ isB Γ f = true ∧ isStar b = false then some b else none
  | _ => none
/-- set(e) -/
def setArg (Γ : Gm) (a : Expr) : Option Expr := match a with
  | .Call (.Name f _) [b] [] _ => if f = "set" ∧ fnOf Γ f = none ∧ isB Γ f = true ∧ isStar b = false then some b else none
  | _ => none
def evB (R : Rc) (Γ : Gm) (f : Str) (args : List Expr) : M O := match args with
  | [a] =>
    if isStar a = true then stop
    else if f = "len" then mLook1 lenD (agOf R Γ a)
    else if f = "abs" then mLook1 absD (agOf R Γ a)
    else if f = "sum" then mLook1 sumD (agOf R Γ a)
    else if f = "all" then mLook1 allD (agOf R Γ a)
    else if f = "any" then mLook1 anyD (agOf R Γ a)
    else if f = "max" then mLook1 maxD (agOf R Γ a)
    else if f = "min" then mLook1 minD (agOf R Γ a)
    else if f = "repr" then mLook1 reprD (agOf R Γ a)
    else if f = "int" then mLook1 intD (agOf R Γ a)
    else if f = "tuple" then (match rgArg Γ a with
      | some b => mTupR (R.e Γ b)
      | none => mOpN tupN (evA R Γ [a]))
    else if f = "list" then (match rgArg Γ a with
      | some b => mLstR (R.e Γ b)
      | none => mOpN lstN (evA R Γ [a]))
    else if f = "sorted" then (match setArg Γ a with
      | some b => mOp1 ssetF (R.e Γ b)
      | none => mOpN sortN (evA R Γ [a]))
    else if f = "str" then mLook1 strD (agOf R Γ a)
    else stop
  | [a, b] =>
    if isStar a = true ∨ isStar b = true then stop
    else if f = "max" then mScN max2 (evA R Γ [a, b])
    else if f = "min" then mScN min2 (evA R Γ [a, b])
    else if f = "isinstance" then evIsi R Γ a b
    else stop
  | _ => stop
/-- f(lambda: body) -/
def evLam (R : Rc) (Γ : Gm) (f : Str) (params : Arguments) (body : Expr) (scope : Scope) : M O := match Γ.T.lookup f with
  | some tf => if Γ.up = 2 ∧ isGl Γ.sc f = true ∧ bad f = false ∧ LamX.lamSB Γ.sc scope = true ∧ noArgs params = true then mLam tf (R.e (lamG Γ scope) body) else stop
  | none => stop
def evC (R : Rc) (Γ : Gm) (f : Str) (args : List Expr) : M O := match fnOf Γ f with
  | some (fm, n) => if args.length = n ∧ args ≠ [] ∧ args.all (fun e => !isStar e) = true then mCall fm (args.map (agOf R Γ)) else stop
  | none => if isB Γ f = true then evB R Γ f args else stop
def evI (R : Rc) (Γ : Gm) (tg it : Expr) : M (List D) := match it with
  | .Call (.Name f p) args [] q =>
    if f = "range" ∧ fnOf Γ f = none ∧ isB Γ f = true then (match args with
      | [a] => if isStar a = true then stop else mRng (evA R Γ [a])
      | [a, b] => if isStar a = true ∨ isStar b = true then stop else mRng (evA R Γ [a, b])
      | _ => stop)
    else if f = "enumerate" ∧ fnOf Γ f = none ∧ isB Γ f = true then (match args with
      | [a] => if isStar a = true ∨ isTupE tg = false then stop else mEnum (R.e Γ a)
      | _ => stop)
    else if f = "zip" ∧ fnOf Γ f = none ∧ isB Γ f = true then (match args with
      | [a, b] => if isStar a = true ∨ isStar b = true ∨ isTupE tg = false then stop else mZip (evA R Γ [a, b])
      | _ => stop)
    else mSeqI (R.e Γ (.Call (.Name f p) args [] q))
  | .Set _ _ _ => stop
  | e => mSeqI (R.e Γ e)
/-- the names that a target stores -/
def tgNames : Nat → Expr → List Str
  | 0, _ => []
  | _, .Name x _ => [x]
  | n + 1, .Tuple es _ _ => es.flatMap (tgNames n)
  | _, _ => []
def ixs (N : List Str) : List Str → Option (List (Str × Nat))
  | [] => some []
  | x :: xs => match ixIn N x, ixs N xs with
    | some i, some l => some ((x, i) :: l)
    | _, _ => none
def blkG (Γ : Gm) (scope : Scope) (own : List (Str × Nat)) : Gm := { Γ with sc := relS scope Γ.sc, ok := fun i => decide (i ∈ own.map (·.2)), top := false, fn := fun x => scope.names.lookup x == some .cell, T := [], up := 0 }
def evIfs (R : Rc) (Γ : Gm) : List Expr → M Bool
  | [] => ret true
  | [c] => R.t Γ c
  | _ => stop
/-- the slot whose thing is walked -/
def itSlot (Γ : Gm) (it : Expr) (vs : List Nat) : Option Nat := match it with
  | .Name x _ => (match slot Γ x with
    | some i => if i ∈ vs then none else some i
    | none => none)
  | _ => none
def evLc (R : Rc) (Γ : Gm) (elt tg it : Expr) (ifs : List Expr) (scope : Scope) : M O := match ixs Γ.N (tgNames 4 tg) with
  | some own => if blkC Γ.N Γ.sc scope own = true then (match itSlot Γ it (own.map (·.2)) with
    | some i => mCompS (own.map (·.2)) i (mSeqI (mVar i)) (R.g (blkG Γ scope own) tg) (evIfs R (blkG Γ scope own) ifs) (R.e (blkG Γ scope own) elt)
    | none => mComp (own.map (·.2)) (evI R Γ tg it) (R.g (blkG Γ scope own) tg) (evIfs R (blkG Γ scope own) ifs) (R.e (blkG Γ scope own) elt)) else stop
  | none => stop
/-- what is to be shown of the ways down -/
structure RcOk (R : Rc) : Prop where
  e : ∀ {X Γ B} (e : Expr), CtxOk X Γ B → DE X B e (R.e Γ e)
  t : ∀ {X Γ B} (e : Expr), CtxOk X Γ B → DT X B e (R.t Γ e)
  g : ∀ {X Γ B} {S : SR} (e : Expr), CtxOk X Γ B → (∀ i, Γ.ok i = true → ∀ σ v, S.r σ (σ.set i (some v))) → DG X B S e (R.g Γ e)
  s : ∀ {X Γ B} {cp : List Nat} (e : List Stmt), CtxOk X Γ B → (∀ i, Γ.ok i = true → i ∉ cp) → DSs X B cp e (R.s Γ e)
section
variable {X : Cx} {Γ : Gm} {B : Bx} {R : Rc}
theorem da_of (K : RcOk R) (C : CtxOk X Γ B) : ∀ es : List Expr, DA X B es (evA R Γ es)
  | [] => da_nil
  | e :: es => by
    rw [evA]
    split
    · exact da_stop
    · rename_i h
      exact da_cons (K.e e C) (da_of K C es) (star_no (by simpa using h) _ _)
theorem das_of (K : RcOk R) (C : CtxOk X Γ B) : ∀ es : List Expr, DA X B es (evAs R Γ es)
  | [] => da_nil
  | e :: es => by
    have ih := das_of K C es
    cases e with
    | Starred a p => exact da_star (K.e a C) ih
    | _ => exact da_cons (K.e _ C) ih rfl
theorem ag_of (K : RcOk R) (C : CtxOk X Γ B) (e : Expr) : PE X e (rdT B (agOf R Γ e)) := by
  unfold agOf
  split
  · split
    · rename_i i h
      exact slot_pe C h
    · exact K.e _ C
  · exact K.e _ C
theorem ags_of (K : RcOk R) (C : CtxOk X Γ B) : ∀ es : List Expr, es.all (fun e => !isStar e) = true → PA X es (tAg B (mArgs (es.map (agOf R Γ))))
  | [], _ => dx_nil
  | e :: es, h => by
    rw [List.all_cons, Bool.and_eq_true] at h
    have q1 := ag_of K C e
    have q2 := ags_of K C es h.2
    have q3 := star_no (es := es) (by simpa using h.1) X.env
    rw [List.map_cons]
    cases q : agOf R Γ e with
    | sl i => rw [q] at q1; exact dx_csl q1 q2 q3
    | ev m => rw [q] at q1; exact dx_cev q1 q2 q3
theorem name_of (C : CtxOk X Γ B) (x : Str) (pos : Pos) : DE X B (.Name x pos) (evName Γ x) := by
  unfold evName
  split
  · rename_i i h
    exact de_var (slot_pe C h)
  · split
    · rename_i d h
      split
      · rename_i c
        obtain ⟨u, v, h1, h2, h3⟩ := C.cst x d h
        exact de_sc h2 (pe_glob (gl_of C c.1) h1 h3 (bad_no c.2).1)
      · exact de_stop
    · exact de_stop
theorem isB_ok (C : CtxOk X Γ B) {x : Str} (h : isB Γ x = true) : Gl X x ∧ X.mg x = none ∧ x ≠ "__name__" ∧ (x == ("__debug__" : Str)) = false := by
  unfold isB at h
  simp only [Bool.and_eq_true, decide_eq_true_eq, Bool.not_eq_true'] at h
  obtain ⟨⟨h1, h2⟩, h3⟩ := h
  exact ⟨gl_of C h2, C.blt x h1, (bad_no h3).2.2, (bad_no h3).1⟩
theorem lk1_of (K : RcOk R) (C : CtxOk X Γ B) {f : Str} {id : String} {a : Expr} {p pos : Pos} {r : List V → Hp → VK → Prop} {fd : D → Option D} (hs : isStar a = false) (hb : isB Γ f = true) (hv : bootBuiltins f = some (.builtin id)) (hc : CallR X (.builtin id) r) (h1 : Lk1 r fd) (h2 : sca1 fd) :
    DE X B (.Call (.Name f p) [a] [] pos) (mLook1 fd (agOf R Γ a)) := by
  obtain ⟨b1, b2, b3, b4⟩ := isB_ok C hb
  exact de_look1 h1 h2 (ag_of K C a) fun {ta} h => pe_callB hc b1 b2 hv (pa_cons h pa_nil (star_no hs _ _)) b3 b4 (star_no hs _ _)
theorem lk1T_of (K : RcOk R) (C : CtxOk X Γ B) {f : Str} {T : String} {a : Expr} {p pos : Pos} {r : List V → Hp → VK → Prop} {fd : D → Option D} (hs : isStar a = false) (hb : isB Γ f = true) (hv : bootBuiltins f = some (.type T)) (hc : CallR X (.type T) r) (h1 : Lk1 r fd) (h2 : sca1 fd) :
    DE X B (.Call (.Name f p) [a] [] pos) (mLook1 fd (agOf R Γ a)) := by
  obtain ⟨b1, b2, b3, b4⟩ := isB_ok C hb
  exact de_look1 h1 h2 (ag_of K C a) fun {ta} h => pe_callTy hc b1 b2 hv (pa_cons h pa_nil (star_no hs _ _)) b3 b4 (star_no hs _ _)
theorem opN_of (K : RcOk R) (C : CtxOk X Γ B) {f : Str} {id : String} {a : Expr} {es : List Expr} {p pos : Pos} {r : List V → Hp → VK → Prop} {fd : List D → Option O} (hs : isStar a = false) (hss : es.all (fun e => !isStar e) = true) (hb : isB Γ f = true) (hv : bootBuiltins f = some (.builtin id)) (hc : CallR X (.builtin id) r) (h1 : OpN r fd) :
    DE X B (.Call (.Name f p) (a :: es) [] pos) (mOpN fd (evA R Γ (a :: es))) := by
  obtain ⟨b1, b2, b3, b4⟩ := isB_ok C hb
  exact de_opN h1 (da_of K C _) fun {t} h => pe_callB hc b1 b2 hv h b3 b4 (star_no hs _ _) (star_any hss _ _)
theorem opT_of (K : RcOk R) (C : CtxOk X Γ B) {f : Str} {T : String} {a : Expr} {es : List Expr} {p pos : Pos} {r : List V → Hp → VK → Prop} {fd : List D → Option O} (hs : isStar a = false) (hss : es.all (fun e => !isStar e) = true) (hb : isB Γ f = true) (hv : bootBuiltins f = some (.type T)) (hc : CallR X (.type T) r) (h1 : OpN r fd) :
    DE X B (.Call (.Name f p) (a :: es) [] pos) (mOpN fd (evA R Γ (a :: es))) := by
  obtain ⟨b1, b2, b3, b4⟩ := isB_ok C hb
  exact de_opN h1 (da_of K C _) fun {t} h => pe_callTy hc b1 b2 hv h b3 b4 (star_no hs _ _) (star_any hss _ _)
theorem lenR (C : CtxOk X Γ B) : CallR X (.builtin "len") (fun xs H Q => (∃ p ys, xs = [.ref p] ∧ (SqL Kc.k H p ys ∨ SqT Kc.k H p ys) ∧ Q (.int ys.length) H) ∨ (∃ z, xs = [.str z] ∧ z.length ≤ sizeLine ∧ Q (.int z.length) H)) := by
  have h := (call_len_seq (X := X)).or call_len_str
  rw [C.K] at h
  exact h
end
end Dl

namespace Dl
variable [Kc]
open PySem L2

/-! ### slices -/
def cutD (ds : List D) (lo hi : Option Int) : List D := (ds.drop (HT.sIx ds.length 0 lo)).take (HT.sIx ds.length ds.length hi - HT.sIx ds.length 0 lo)
def slF (d : D) (lo hi : Option Int) : Option O := match d with
  | .lst l => some (.lst ((cutD l lo hi).map O.val))
  | .tup l => some (.val (.tup (cutD l lo hi)))
  | _ => none
theorem CG.cut {R : List Addr} {H : Hp} {vs : List V} {ds : List D} {lo hi : Option Int} {its : List (V × O)} (hl : vs.length = ds.length) (c : CG R H (vs.zip (ds.map O.val) ++ its)) :
    (cutV vs lo hi).length = (cutD ds lo hi).length ∧ CG R H ((cutV vs lo hi).zip ((cutD ds lo hi).map O.val) ++ its) := by
  unfold cutV cutD
  rw [hl]
  generalize HT.sIx ds.length 0 lo = a
  generalize HT.sIx ds.length ds.length hi - a = b
  refine ⟨by simp [hl], ?_⟩
  rw [List.map_take, List.map_drop, List.zip_eq_zipWith, ← List.take_zipWith, ← List.drop_zipWith, ← List.zip_eq_zipWith]
  generalize vs.zip (ds.map O.val) = l at c
  have c1 : CG R H (l.take a ++ (l.drop a ++ its)) := by
    rw [← List.append_assoc, List.take_append_drop]
    exact c
  have c2 := c1.drop
  have c3 : CG R H ((l.drop a).take b ++ ((l.drop a).drop b ++ its)) := by
    rw [← List.append_assoc, List.take_append_drop]
    exact c2
  exact CG.mid c3
def Sl3 (r : V → Option Int → Option Int → Hp → VK → Prop) (f : D → Option Int → Option Int → Option O) : Prop := ∀ d l h o, f d l h = some o → ∀ x H its Q, CI H ((x, .val d) :: its) → (∀ v H', CI H' ((v, o) :: its) → Q v H') → r x l h H Q
theorem sl3_of {K : PySem.W.Frag} : Sl3 (fun x lo hi H Q => rSlL K x lo hi H Q ∨ rSlA K x lo hi H Q) slF := fun d l h o ho x H its Q c k => by
  unfold slF at ho
  split at ho
  · cases ho
    obtain ⟨p, vs, rfl, hp, hl, c2⟩ := c.openL
    refine .inl ⟨p, vs, rfl, sq_l hp, fun q hq => k _ _ ?_⟩
    obtain ⟨e1, c3⟩ := CG.cut (lo := l) (hi := h) hl (CG.mid (m := [_]) c2)
    have c7 := c3.newL hq (by simp)
    rw [zip_fst (by simp [e1]), zip_snd (by simp [e1])] at c7
    exact c7
  · rename_i ds
    cases ho
    obtain ⟨p, vs, rfl, hp, hl, c2⟩ := c.openT
    refine .inr ⟨p, vs, rfl, sq_t hp, fun e => ?_, fun _ q hq => k _ _ ?_⟩
    · have e1 : cutD ds l h = ds := by
        unfold cutD
        rw [← hl, e.1, e.2]
        simp [hl]
      rw [e1] at k
      exact k _ _ c
    · obtain ⟨e1, c3⟩ := CG.cut (lo := l) (hi := h) hl (CG.mid (m := [_]) c2)
      exact c3.newT e1 hq (by simp)
  · cases ho
def tO (B : Bx) (m : M (Option Int)) : St → Hp → (Option Int → Hp → Prop) → Prop := fun σ H Q => ∃ pend ρ, Conf σ H pend ρ ∧ (m ρ).go (fun r ρ' => ∀ H', Conf σ H' pend ρ' → Q r H') (fun x ρ' => B.p x ρ' pend σ)
def mPart (m : M O) : M (Option Int) := bnd m fun o => match frz o with
  | .int i => ret (some i)
  | _ => stop
def mSlc (a : M O) (l h : M (Option Int)) : M O := bnd a fun x => bnd l fun lo => bnd h fun hi => lift (slF (frz x) lo hi)
def evP (R : Rc) (Γ : Gm) (o : Option Expr) : M (Option Int) := match o with
  | none => ret none
  | some e => mPart (R.e Γ e)
section
variable {X : Cx} {Γ : Gm} {B : Bx} {R : Rc}
theorem part_of (K : RcOk R) (C : CtxOk X Γ B) (o : Option Expr) : ∃ t : St → Hp → (Option Int → Hp → Prop) → Prop, PO X o t ∧ ∀ σ H Q, tO B (evP R Γ o) σ H Q → t σ H Q := by
  cases o with
  | none => exact ⟨_, po_none, fun σ H Q ⟨pend, ρ, c, g⟩ => (g : ∀ H', Conf σ H' pend ρ → Q none H') H c⟩
  | some e =>
    refine ⟨_, po_some (K.e e C), fun σ H Q ⟨pend, ρ, c, g⟩ => ?_⟩
    refine tE_bnd c g fun o ρ1 v H1 c1 g1 => ?_
    have c2 := c1.frz
    cases q : frz o with
    | int i =>
      rw [q] at c2 g1
      exact ⟨i, c2.out1.int, (g1 : ∀ H', Conf σ H' pend ρ1 → Q (some i) H') H1 c2.tail⟩
    | _ => rw [q] at g1; exact False.elim g1
theorem slc_of (K : RcOk R) (C : CtxOk X Γ B) {a : Expr} {m : M O} {lo hi : Option Expr} {p2 pos : Pos} (ha : DE X B a m) : DE X B (.Subscript a (.Slice lo hi none p2) pos) (mSlc m (evP R Γ lo) (evP R Γ hi)) := by
  obtain ⟨t1, h1, k1⟩ := part_of K C lo
  obtain ⟨t2, h2, k2⟩ := part_of K C hi
  refine (pe_slice (sl_list.or sl_tupA) ha h1 h2).imp fun σ H Q ⟨pend, ρ, c, g⟩ => ?_
  refine tE_bnd c g fun x ρ1 v H1 c1 g1 => ?_
  refine k1 _ _ _ ⟨(v, .val (frz x)) :: pend, ρ1, c1.frz, Out.go_mono (go_bnd.mp g1) (fun l ρ2 _ g2 H2 c2 => ?_) fun x ρ2 _ z => B.mono _ _ _ _ _ z⟩
  refine k2 _ _ _ ⟨(v, .val (frz x)) :: pend, ρ2, c2, Out.go_mono (go_bnd.mp g2) (fun h ρ3 _ g3 H3 c3 => ?_) fun x ρ2 _ z => B.mono _ _ _ _ _ z⟩
  obtain ⟨o, ho, g4⟩ := go_lift g3
  exact sl3_of _ _ _ _ ho _ _ _ _ c3.out1 fun v H' c4 => g4 v H' (.back1 c3.sh c4)
/-- a slice of a name's thing, which stays its own -/
def valsO : List O → Option (List D)
  | [] => some []
  | .val d :: l => (valsO l).map (d :: ·)
  | _ :: _ => none
theorem valsO_eq : ∀ {l : List O} {ds : List D}, valsO l = some ds → l = ds.map O.val
  | [], _, h => by cases h; rfl
  | .val d :: l, _, h => by
    rw [valsO] at h
    cases q : valsO l with
    | none => rw [q] at h; cases h
    | some r =>
      rw [q] at h
      cases h
      rw [valsO_eq q]; rfl
  | .lst _ :: l, _, h => by cases h
def frzV (o : O) : Option D := match o with
  | .val d => some d
  | .lst l => (valsO l).map .lst
def mSlcAt (i : Nat) (lo hi : Option Int) : M O := fun ρ => match ρ[i]? with
  | some (some o) => (match frzV o with
    | some d => (match slF d lo hi with
      | some r => .ok r ρ
      | none => .fail)
    | none => .fail)
  | _ => .fail
def mSlcS (i : Nat) (l h : M (Option Int)) : M O := mHas i (bnd l fun lo => bnd h fun hi => mSlcAt i lo hi)
theorem CG.dups {R : List Addr} {H : Hp} : ∀ (l b : List (V × O)), (∀ p ∈ l, ∃ d, p.2 = O.val d) → (∀ p ∈ l, p ∈ b) → CG R H b → CG R H (l ++ b)
  | [], b, _, _, h => h
  | p :: l, b, hv, hm, h => by
    obtain ⟨d, hd⟩ := hv p List.mem_cons_self
    have h2 := CG.dups l b (fun q hq => hv q (List.mem_cons_of_mem _ hq)) (fun q hq => hm q (List.mem_cons_of_mem _ hq)) h
    obtain ⟨v, o⟩ := p
    simp only at hd
    subst hd
    exact h2.mem (List.mem_append_right _ (hm _ List.mem_cons_self))
theorem slcS_of (K : RcOk R) (C : CtxOk X Γ B) {a : Expr} {lo hi : Option Expr} {p2 pos : Pos} {i : Nat} (ha : PE X a (tVar i)) : DE X B (.Subscript a (.Slice lo hi none p2) pos) (mSlcS i (evP R Γ lo) (evP R Γ hi)) := by
  obtain ⟨t1, h1, k1⟩ := part_of K C lo
  obtain ⟨t2, h2, k2⟩ := part_of K C hi
  refine (pe_slice (sl_list.or sl_tupA) ha h1 h2).imp fun σ H Q ⟨pend, ρ, c, g⟩ => ?_
  obtain ⟨⟨o0, e0⟩, g⟩ := go_has g
  obtain ⟨v, hv⟩ := c.sh.has i o0 e0
  refine ⟨v, hv, ?_⟩
  refine k1 _ _ _ ⟨pend, ρ, c, Out.go_mono (go_bnd.mp g) (fun l ρ2 _ g2 H2 c2 => ?_) fun x ρ2 _ z => z⟩
  refine k2 _ _ _ ⟨pend, ρ2, c2, Out.go_mono (go_bnd.mp g2) (fun h ρ3 _ g3 H3 c3 => ?_) fun x ρ2 _ z => z⟩
  unfold mSlcAt at g3
  split at g3
  · rename_i o e1
    obtain ⟨v', hv', c4⟩ := c3.take e1
    rw [hv] at hv'
    cases hv'
    split at g3
    · rename_i d hd
      split at g3
      · rename_i r hr
        cases o with
        | val d' =>
          cases hd
          refine sl3_of _ _ _ _ hr _ _ _ _ c4.out1.dup fun w H' c5 => g3 w H' ?_
          have c6 : Conf σ H' ((v, .val d) :: (w, r) :: pend) (ρ3.set i none) := .back (pre := [_, _]) c4.sh (c5.perm (.swap ..))
          have c7 := c6.putS hv
          rw [set_set, set_self e1] at c7
          exact c7
        | lst lo' =>
          cases q : valsO lo' with
          | none =>
            have hd' : (valsO lo').map D.lst = some d := hd
            rw [q] at hd'
            cases hd'
          | some ds =>
            have hd' : (valsO lo').map D.lst = some d := hd
            rw [q] at hd'
            cases hd'
            have el := valsO_eq q
            obtain ⟨p, its, rfl, e3, hp, _, c5⟩ := c4.out1.open'
            have hsn : its.map (·.2) = ds.map O.val := e3.symm.trans el
            have hr' : some (O.lst ((cutD ds l h).map O.val)) = some r := hr
            cases hr'
            have hlen : its.length = ds.length := by
              have := congrArg List.length hsn
              simpa using this
            refine .inl ⟨p, its.map (·.1), rfl, sq_l hp, fun w hw => g3 _ _ ?_⟩
            have hz : its = (its.map (·.1)).zip (ds.map O.val) := by
              rw [← hsn, List.zip_map', List.map_id'']
              intro x; rfl
            have hnp : w ≠ p := fun z => by rw [z, hp] at hw; cases hw
            have hsub : ∀ x ∈ (cutV (its.map (·.1)) l h).zip ((cutD ds l h).map O.val), x ∈ its := by
              intro x hx
              rw [hz]
              unfold cutV cutD at hx
              have hl1 : (its.map (·.1)).length = ds.length := by simpa using hlen
              rw [hl1, List.map_take, List.map_drop, List.zip_eq_zipWith, ← List.take_zipWith, ← List.drop_zipWith, ← List.zip_eq_zipWith] at hx
              exact List.mem_of_mem_drop (List.mem_of_mem_take hx)
            have hcl : (cutV (its.map (·.1)) l h).length = ((cutD ds l h).map O.val).length := by
              unfold cutV cutD
              simp [hlen]
            have c6 : CG [p] H3 ((cutV (its.map (·.1)) l h).zip ((cutD ds l h).map O.val) ++ (its ++ (sI σ (ρ3.set i none) ++ pend))) := by
              refine CG.dups _ _ (fun x hx => ?_) (fun x hx => List.mem_append_left _ (hsub x hx)) c5
              have := (List.of_mem_zip (a := x.1) (b := x.2) hx).2
              obtain ⟨d, _, e⟩ := List.mem_map.mp this
              exact ⟨d, e.symm⟩
            have c7 := c6.newL hw (by simpa using hnp)
            rw [zip_fst hcl, zip_snd hcl] at c7
            have c8 : CG [p] (upd H3 w (.lst (cutV (its.map (·.1)) l h))) (its ++ ((.ref w, .lst ((cutD ds l h).map O.val)) :: (sI σ (ρ3.set i none) ++ pend))) := c7.perm List.perm_middle.symm
            have c9 := c8.close (by rw [upd_ne (Ne.symm hnp)]; exact hp)
            rw [← e3] at c9
            have c10 : Conf σ (upd H3 w (.lst (cutV (its.map (·.1)) l h))) ((.ref p, .lst lo') :: (.ref w, .lst ((cutD ds l h).map O.val)) :: pend) (ρ3.set i none) := .back (pre := [_, _]) c4.sh c9
            have c11 := c10.putS hv
            rw [set_set, set_self e1] at c11
            exact c11
      · exact False.elim g3
    · exact False.elim g3
  · exact False.elim g3
/-! ### built-ins -/
theorem sizeOk : (1000000 : Nat) ≤ sizeLine := Nat.le_of_lt big
theorem de_ite {e : Expr} {c : Prop} [Decidable c] {m1 m2 : M O} (h1 : c → DE X B e m1) (h2 : ¬ c → DE X B e m2) : DE X B e (if c then m1 else m2) := by
  by_cases h : c
  · rw [if_pos h]; exact h1 h
  · rw [if_neg h]; exact h2 h
theorem no_star {e : Expr} (h : ¬ isStar e = true) : isStar e = false := by
  cases q : isStar e with
  | false => rfl
  | true => exact absurd q h
theorem tyOf_ok {x : Str} {T : String} (h : tyOf x = some T) : bootBuiltins x = some (.type T) := by
  unfold tyOf at h
  by_cases e : x = "int"
  · rw [if_pos e] at h; cases h; subst e; decide +kernel
  rw [if_neg e] at h
  by_cases e : x = "bool"
  · rw [if_pos e] at h; cases h; subst e; decide +kernel
  rw [if_neg e] at h
  by_cases e : x = "tuple"
  · rw [if_pos e] at h; cases h; subst e; decide +kernel
  rw [if_neg e] at h
  by_cases e : x = "list"
  · rw [if_pos e] at h; cases h; subst e; decide +kernel
  rw [if_neg e] at h
  by_cases e : x = "dict"
  · rw [if_pos e] at h; cases h; subst e; decide +kernel
  rw [if_neg e] at h
  by_cases e : x = "str"
  · rw [if_pos e] at h; cases h; subst e; decide +kernel
  rw [if_neg e] at h
  cases h
theorem isi_of (K : RcOk R) (C : CtxOk X Γ B) {a b : Expr} {p pos : Pos} (hb : isB Γ "isinstance" = true) (hs : isStar a = false) : DE X B (.Call (.Name "isinstance" p) [a, b] [] pos) (evIsi R Γ a b) := by
  unfold evIsi
  split
  · rename_i x px
    split
    · rename_i T hT
      refine de_ite (fun hx => ?_) fun _ => de_stop
      obtain ⟨b1, b2, b3, b4⟩ := isB_ok C hb
      obtain ⟨x1, x2, x3, x4⟩ := isB_ok C hx
      refine de_look1 (lk_isi (T := T)) isiD_sc (ag_of K C a) fun {ta} h => ?_
      have hn : PE X (.Name x px) (tC (.ty T)) := pe_bltn x1 x2 (tyOf_ok hT) rfl x3 x4
      refine (pe_callB (call_isiZ (X := X)) b1 b2 (by decide +kernel) (pa_cons h (pa_cons hn pa_nil rfl) (star_no hs _ _)) b3 b4 (star_no hs _ _) rfl).imp fun σ H Q q => ?_
      rw [C.K]
      exact q
    · split
      · rename_i l hl
        refine de_ite (fun hx => ?_) fun _ => de_stop
        obtain ⟨b1, b2, b3, b4⟩ := isB_ok C hb
        obtain ⟨v, u, cv, cl⟩ := C.isa x l hl
        rw [C.K] at cl
        refine de_look1 (lk_isa cv.one fun c b hb => by obtain ⟨C', d1, d2, _⟩ := cl c b hb; exact ⟨C', d1, d2⟩) isaD_sc (ag_of K C a) fun {ta} h => ?_
        refine (pe_callB (call_isiZ (X := X)) b1 b2 (by decide +kernel) (pa_cons h (pa_cons (pe_cls C hx.1 hx.2 cv) pa_nil rfl) (star_no hs _ _)) b3 b4 (star_no hs _ _) rfl).imp fun σ H Q q => ?_
        rw [C.K]
        exact q
      · exact de_stop
  · split
    · rename_i xs hxs
      split
      · rename_i ls hls
        refine de_ite (fun hx => ?_) fun _ => de_stop
        obtain ⟨b1, b2, b3, b4⟩ := isB_ok C hb
        obtain ⟨vs, us, q1, q2⟩ := clsL_of C hxs hls
        rw [C.K] at q1
        refine de_lookN (lk_isaT q1 (by rw [q1.len, sizeLine_eq]; omega)) isaT_sc (ag_of K C a) fun {ta} h => ?_
        refine (pe_callB (call_isiZT (X := X)) b1 b2 (by decide +kernel) (pa_cons h (pa_cons (pe_tup q2) pa_nil rfl) (star_no hs _ _)) b3 b4 (star_no hs _ _) rfl).imp fun σ H Q q => ?_
        rw [C.K]
        exact q
      · exact de_stop
    · exact de_stop
  · exact de_stop
theorem set_of (C : CtxOk X Γ B) {a b : Expr} (h : setArg Γ a = some b) : ∃ p pos, a = .Call (.Name "set" p) [b] [] pos ∧ isStar b = false ∧ Gl X "set" ∧ X.mg "set" = none ∧ isB Γ "set" = true := by
  unfold setArg at h
  split at h
  · rename_i f p b' pos
    split at h
    · rename_i c
      cases h
      obtain ⟨rfl, _, c2, c3⟩ := c
      obtain ⟨b1, b2, _, _⟩ := isB_ok C c2
      exact ⟨p, pos, rfl, c3, b1, b2, c2⟩
    · cases h
  · cases h
theorem rg_of (C : CtxOk X Γ B) {a b : Expr} (h : rgArg Γ a = some b) : ∃ p pos, a = .Call (.Name "range" p) [b] [] pos ∧ isStar b = false ∧ Gl X "range" ∧ X.mg "range" = none := by
  unfold rgArg at h
  split at h
  · rename_i f p b' pos
    split at h
    · rename_i c
      cases h
      obtain ⟨rfl, _, c2, c3⟩ := c
      obtain ⟨b1, b2, _, _⟩ := isB_ok C c2
      exact ⟨p, pos, rfl, c3, b1, b2⟩
    · cases h
  · cases h
theorem b_of (K : RcOk R) (C : CtxOk X Γ B) {f : Str} {args : List Expr} {p pos : Pos} (hb : isB Γ f = true) : DE X B (.Call (.Name f p) args [] pos) (evB R Γ f args) := by
  unfold evB
  match args with
  | [] => exact de_stop
  | [a] =>
    refine de_ite (fun _ => de_stop) fun hs => ?_
    have hs := no_star hs
    refine de_ite (fun e => ?_) fun _ => ?_
    · subst e
      exact lk1_of K C hs hb PySem.boot_len (lenR C) lk_len lenD_sc
    refine de_ite (fun e => ?_) fun _ => ?_
    · subst e
      exact lk1_of K C hs hb (by decide +kernel) call_abs lk_abs absD_sc
    refine de_ite (fun e => ?_) fun _ => ?_
    · subst e
      exact lk1_of K C hs hb (by decide +kernel) (cr_sum C.calm) lk_sum sumD_sc
    refine de_ite (fun e => ?_) fun _ => ?_
    · subst e
      exact lk1_of K C hs hb (by decide +kernel) (cr_all C.calm) lk_all allD_sc
    refine de_ite (fun e => ?_) fun _ => ?_
    · subst e
      exact lk1_of K C hs hb (by decide +kernel) (cr_any C.calm) lk_any anyD_sc
    refine de_ite (fun e => ?_) fun _ => ?_
    · subst e
      exact lk1_of K C hs hb (by decide +kernel) (cr_max C.calm) lk_max maxD_sc
    refine de_ite (fun e => ?_) fun _ => ?_
    · subst e
      exact lk1_of K C hs hb (by decide +kernel) (cr_min C.calm) lk_min minD_sc
    refine de_ite (fun e => ?_) fun _ => ?_
    · subst e
      exact lk1_of K C hs hb (by decide +kernel) (cr_repr C.gd (by have := C.un; omega)) lk_repr reprD_sc
    refine de_ite (fun e => ?_) fun _ => ?_
    · subst e
      exact lk1T_of K C hs hb (by decide +kernel) call_int1 lk_int intD_sc
    refine de_ite (fun e => ?_) fun _ => ?_
    · subst e
      split
      · rename_i b hr
        obtain ⟨p', pos', rfl, hsb, r1, r2⟩ := rg_of C hr
        obtain ⟨b1, b2, b3, b4⟩ := isB_ok C hb
        exact de_tupR (K.e b C) fun {ta} h => pe_tupRg C.calm b1 b2 (prg_1 r1 r2 h (star_no hsb _ _)) (star_no hs _ _)
      · exact opT_of K C hs rfl hb (by decide +kernel) call_tuple_of op_tupN
    refine de_ite (fun e => ?_) fun _ => ?_
    · subst e
      split
      · rename_i b hr
        obtain ⟨p', pos', rfl, hsb, r1, r2⟩ := rg_of C hr
        obtain ⟨b1, b2, b3, b4⟩ := isB_ok C hb
        exact de_lstR (K.e b C) fun {ta} h => pe_listRg C.calm b1 b2 (prg_1 r1 r2 h (star_no hsb _ _)) (star_no hs _ _)
      · exact opT_of K C hs rfl hb (by decide +kernel) call_list_of op_lstN
    refine de_ite (fun e => ?_) fun _ => ?_
    · subst e
      split
      · rename_i b hr
        obtain ⟨p', pos', rfl, hsb, r1, r2, hb2⟩ := set_of C hr
        obtain ⟨b1, b2, b3, b4⟩ := isB_ok C hb
        obtain ⟨s1, s2, s3, s4⟩ := isB_ok C hb2
        exact de_sset C.K (K.e b C) fun {ta} h => pe_callB (cr_sortedSet C.calm) b1 b2 (by decide +kernel) (pa_cons (pe_callTy (cr_setTI C.calm) s1 s2 (by decide +kernel) (pa_cons h pa_nil (star_no hsb _ _)) s3 s4 (star_no hsb _ _)) pa_nil (star_no hs _ _)) b3 b4 (star_no hs _ _)
      · exact opN_of K C hs rfl hb (by decide +kernel) (cr_sortedI (X := X)) op_sortN
    refine de_ite (fun e => ?_) fun _ => de_stop
    · subst e
      exact lk1T_of K C hs hb (by decide +kernel) call_str_int lk_str strD_sc
  | [a, b] =>
    refine de_ite (fun _ => de_stop) fun hs => ?_
    have hs1 := no_star fun z => hs (.inl z)
    have hs2 := no_star fun z => hs (.inr z)
    refine de_ite (fun e => ?_) fun _ => ?_
    · subst e
      exact opN_of K C hs1 (by simp [hs2]) hb (by decide +kernel) (call_max2 C.calm) op_max2
    refine de_ite (fun e => ?_) fun _ => ?_
    · subst e
      exact opN_of K C hs1 (by simp [hs2]) hb (by decide +kernel) (call_min2 C.calm) op_min2
    refine de_ite (fun e => ?_) fun _ => de_stop
    · subst e
      exact isi_of K C hb hs1
  | _ :: _ :: _ :: _ => exact de_stop
theorem c_of (K : RcOk R) (C : CtxOk X Γ B) {f : Str} {args : List Expr} {p pos : Pos} : DE X B (.Call (.Name f p) args [] pos) (evC R Γ f args) := by
  unfold evC
  split
  · rename_i fm n h
    split
    · rename_i hh
      obtain ⟨h1, h2, h3⟩ := hh
      unfold fnOf at h
      split at h
      · rename_i q hq
        split at h
        · rename_i hg
          cases h
          obtain ⟨fl, k, fa, fd, ps, e1, F, hk2, hr, hm, hk, hb⟩ := C.F f _ hq
          cases args with
          | nil => exact absurd rfl h2
          | cons a es =>
            have h4 := h3
            rw [List.all_cons, Bool.and_eq_true] at h4
            exact de_call F fl (hr.mono (Nat.le_add_right _ _)) C.gd (gl_of C hg.1) hm hk hb (passAt C.tk) (ags_of K C _ h3) (by rw [List.length_map]; exact h1.trans e1.symm) (bad_no hg.2).1 (star_no (by simpa using h4.1) _ _) (star_any h4.2 _ _)
        · cases h
      · cases h
    · exact de_stop
  · split
    · rename_i hb
      exact b_of K C hb
    · exact de_stop
theorem evA_len : ∀ (es : List Expr) (ρ : Sl) (os : List O) (ρ' : Sl), evA R Γ es ρ = .ok os ρ' → os.length = es.length
  | [], ρ, os, ρ', h => by cases h; rfl
  | e :: es, ρ, os, ρ', h => by
    rw [evA] at h
    split at h
    · cases h
    · simp only [mCons, bnd] at h
      split at h
      · split at h
        · rename_i os' ρ2 h2
          cases h
          simp [evA_len es _ _ _ h2]
        · cases h
        · cases h
      · cases h
      · cases h
theorem i_of (K : RcOk R) (C : CtxOk X Γ B) (tg it : Expr) : DI X B tg it (evI R Γ tg it) := by
  unfold evI
  split
  · rename_i f p args q
    split
    · rename_i h
      obtain ⟨rfl, h1, h2⟩ := h
      obtain ⟨b1, b2, b3, b4⟩ := isB_ok C h2
      split
      · rename_i a
        split
        · exact di_stop
        · rename_i hs
          exact di_rng1 (da_of K C [a]) (fun {t} h => pi_range1 b1 b2 h (star_no (by simpa using hs) _ _)) fun ρ os ρ' h => evA_len _ _ _ _ h
      · rename_i a b
        split
        · exact di_stop
        · rename_i hs
          have hs1 : isStar a = false := by cases h : isStar a <;> simp_all
          have hs2 : isStar b = false := by cases h : isStar b <;> simp_all
          exact di_rng2 (da_of K C [a, b]) (fun {t} h => pi_range2 b1 b2 h (by rw [star_no hs1, star_no hs2]; rfl) (star_no hs2 _ _)) fun ρ os ρ' h => evA_len _ _ _ _ h
      · exact di_stop
    · split
      · rename_i h
        obtain ⟨rfl, h1, h2⟩ := h
        obtain ⟨b1, b2, b3, b4⟩ := isB_ok C h2
        split
        · rename_i a
          split
          · exact di_stop
          · rename_i hs
            have hs1 : isStar a = false := by cases h : isStar a <;> simp_all
            cases tg with
            | Tuple elts kk tpos => exact di_enum b1 b2 (K.e a C) (star_no hs1 _ _)
            | _ => exact absurd (.inr rfl) hs
        · exact di_stop
      · split
        · rename_i h
          obtain ⟨rfl, h1, h2⟩ := h
          obtain ⟨b1, b2, b3, b4⟩ := isB_ok C h2
          split
          · rename_i a b
            split
            · exact di_stop
            · rename_i hs
              have hs1 : isStar a = false := by cases h : isStar a <;> simp_all
              have hs2 : isStar b = false := by cases h : isStar b <;> simp_all
              cases tg with
              | Tuple elts kk tpos => exact di_zip b1 b2 (da_of K C [a, b]) (fun ρ os ρ' h => evA_len _ _ _ _ h) (star_no hs1 _ _) (star_any (by simp [hs2]) _ _)
              | _ => exact absurd (.inr (.inr rfl)) hs
          · exact di_stop
        · exact di_seq (K.e _ C)
  · exact di_stop
  · exact di_seq (K.e _ C)
theorem set_no {it : Expr} (h : ∀ a b c, it ≠ .Set a b c) (env : PySem.Env) (x : Value) : foldedSetIterable it env x = pure x := by
  cases it <;> first
    | rfl
    | exact absurd rfl (h _ _ _)
theorem ixs_ok {N : List Str} : ∀ {l : List Str} {own : List (Str × Nat)}, ixs N l = some own → ∀ p ∈ own, N[p.2]? = some p.1
  | [], _, h, p, hp => by cases h; simp at hp
  | x :: l, own, h, p, hp => by
    rw [ixs] at h
    split at h
    · rename_i i l' h1 h2
      cases h
      rcases List.mem_cons.mp hp with e | e
      · subst e; exact ixIn_get h1
      · exact ixs_ok h2 p e
    · cases h
/-- within a comprehension's block -/
theorem blk_ok (C : CtxOk X Γ B) {scope : Scope} {own : List (Str × Nat)} (hk : blkC Γ.N Γ.sc scope own = true) (s : Shared) (H : Hp) (A : Addr) (cl : List (Str × Addr)) (fp : List Addr) :
    CtxOk (X.blk s H scope (compEnvC scope cl A X.env) fp) (blkG Γ scope own) B0 := by
  have bo := blkOk_by hk
  have hsc : (compEnvC scope cl A X.env).scope = relS scope Γ.sc := by rw [← C.scp]; rfl
  refine ⟨C.N, C.nd, hsc, bo.kind, C.calm, C.K, C.gd, C.un, (fun _ h => h), PassesOwn.never, fun x q hq => ?_, C.cst, C.blt, ?_, C.rm.mono (by show 2 + 0 ≤ _; omega), (fun h => by cases h), C.exc, C.isa, (fun x tf h => nomatch h), (fun h => nomatch h), fun h => (nomatch h)⟩
  · obtain ⟨fl, k, fa, fd, ps, e1, F, h2, hr, hm, hkp, hb⟩ := C.F x q hq
    exact ⟨fl, k, fa, fd, ps, e1, F, h2, hr.mono (by show k + 0 ≤ _; omega), hm, hkp, hb⟩
  · exact takes0.imp fun cls d σ' H z => by obtain ⟨_, _, _, z, _⟩ := z; exact z
end
end Dl

namespace Dl
variable [Kc]
open PySem L2

/-! ### x.pop(k) -/
def mPopAt (i : Nat) (k : D) : M O := fun ρ => match ρ[i]?, k with
  | some (some (.lst l)), .int z => (match ixN l.length z with
    | some n => (match l[n]? with
      | some o => if l.length ≤ 1000000 then .ok o (ρ.set i (some (.lst (l.eraseIdx n)))) else .fail
      | none => .fail)
    | none => .fail)
  | _, _ => .fail
theorem erase_map {α β : Type} (f : α → β) : ∀ (l : List α) (n : Nat), (l.eraseIdx n).map f = (l.map f).eraseIdx n
  | [], _ => rfl
  | a :: l, 0 => rfl
  | a :: l, n + 1 => by
    show f a :: (l.eraseIdx n).map f = f a :: (l.map f).eraseIdx n
    rw [erase_map f l n]
def mPop (i : Nat) (m : M O) : M O := mHasL i (bnd m fun k => mPopAt i (frz k))
section
variable {X : Cx} {B : Bx}
theorem de_pop {e a b : Expr} {i : Nat} {m : M O} (ha : PE X a (tVar i)) (hb : DE X B b m) (he : ∀ {ta tb : TE}, PE X a ta → PE X b tb → PE X e (tBM X.K "list" rPopAt ta (tCons tb tNil))) : DE X B e (mPop i m) := by
  refine (he ha hb).imp fun σ H Q ⟨pend, ρ, c, g⟩ => ?_
  obtain ⟨⟨l0, e0⟩, g⟩ := go_hasL g
  obtain ⟨v, hv, c0⟩ := c.take e0
  obtain ⟨p, its, rfl, _, hp, _, _⟩ := c0.out1.open'
  refine ⟨_, hv, .inl ⟨rfl, _, SqL.of hp⟩, tE_bnd c g fun o ρ1 y H1 c1 g1 => ?_⟩
  have c1 := c1.frz
  unfold mPopAt at g1
  split at g1
  · rename_i l z e1 ez
    rw [ez] at c1
    split at g1
    · rename_i n hn
      split at g1
      · rename_i o' ho'
        split at g1
        · rename_i hz
          have ey := c1.out1.int
          obtain ⟨v', hv', c2⟩ := c1.tail.take e1
          rw [hv] at hv'
          cases hv'
          obtain ⟨q, its2, e2, e3, hq, _, c3⟩ := (Conf.out (pre := [_]) c2).open'
          cases e2
          have hlen : (its2.map (·.1)).length = l.length := by rw [e3, List.length_map, List.length_map]
          obtain ⟨n1, n2, n3, n4⟩ := ixN_seq hn
          have hlt : n < its2.length := by
            rw [e3, List.length_map] at n2
            exact n2
          obtain ⟨x, hx1, hx2⟩ := drop_eq hlt
          obtain ⟨v, o⟩ := x
          have hxo : o = o' := by
            rw [e3, List.getElem?_map, hx1] at ho'
            exact Option.some.inj ho'
          subst hxo
          refine ⟨p, its2.map (·.1), z, n, v, rfl, by rw [ey], hq, by omega, by omega, by rw [hlen]; exact n1, by rw [List.getElem?_map, hx1]; rfl, g1 _ _ ?_⟩
          have sp : its2 = its2.take n ++ (v, o) :: its2.drop (n + 1) := by rw [← hx2, List.take_append_drop]
          have er : its2.eraseIdx n = its2.take n ++ its2.drop (n + 1) := List.eraseIdx_eq_take_drop_succ ..
          have c4 : CG [p] H1 (its2.eraseIdx n ++ ((v, o) :: (sI σ (ρ1.set i none) ++ pend))) := by
            rw [sp, List.append_assoc] at c3
            rw [er, List.append_assoc]
            have c5 : CG [p] H1 ((v, o) :: (its2.take n ++ (its2.drop (n + 1) ++ (sI σ (ρ1.set i none) ++ pend)))) := c3.perm List.perm_middle
            refine c5.perm ?_
            refine (List.perm_middle (l₁ := its2.take n)).symm.trans ?_
            exact (List.perm_middle (l₁ := its2.drop (n + 1))).symm.append_left _
          have c5 := c4.closeW
          have m1 : (its2.eraseIdx n).map (·.1) = (its2.map (·.1)).eraseIdx n := erase_map _ _ _
          have m2 : (its2.eraseIdx n).map (·.2) = l.eraseIdx n := by rw [e3]; exact erase_map _ _ _
          rw [m1, m2] at c5
          have c6 : Conf σ (upd H1 p (.lst ((its2.map (·.1)).eraseIdx n))) ((.ref p, .lst (l.eraseIdx n)) :: (v, o) :: pend) (ρ1.set i none) := .back (pre := [_, _]) c2.sh c5
          have c7 := c6.putS hv
          rw [set_set] at c7
          exact c7
        · exact False.elim g1
      · exact False.elim g1
    · exact False.elim g1
  · exact False.elim g1

/-! ### x.count(e), x.index(e) of lists of bools -/
def cntB (d e : D) : Option D := match lstB d, e with
  | some bs, .bl b => some (.int ((bs.filter (· == b)).length : Nat))
  | _, _ => none
def ixB (bs : List Bool) (b : Bool) : Option Nat := match bs with
  | [] => none
  | c :: bs => if c = b then some 0 else (ixB bs b).map (· + 1)
def idxB (d e : D) : Option D := match lstB d, e with
  | some bs, .bl b => (ixB bs b).map fun (j : Nat) => .int (j : Int)
  | _, _ => none
theorem ixB_ok {b : Bool} : ∀ {bs : List Bool} {j : Nat}, ixB bs b = some j → bs[j]? = some b ∧ ∀ m, m < j → bs[m]? ≠ some b
  | [], _, h => by cases h
  | c :: bs, j, h => by
    rw [ixB] at h
    split at h
    · rename_i e
      cases h
      exact ⟨by rw [e]; rfl, fun m hm => by omega⟩
    · rename_i e
      cases q : ixB bs b with
      | none => rw [q] at h; cases h
      | some k =>
        rw [q] at h
        cases h
        obtain ⟨h1, h2⟩ := ixB_ok q
        refine ⟨by simpa using h1, fun m hm => ?_⟩
        cases m with
        | zero => intro z; exact e (Option.some.inj z)
        | succ m => simpa using h2 m (by have hm : m + 1 < k + 1 := hm; omega)
theorem flat_bls : ∀ bs : List Bool, (bs.map V.bl).all flatV = true
  | [] => rfl
  | b :: bs => by rw [List.map_cons, List.all_cons, flat_bls bs]; rfl
def rCntB (K : PySem.W.Frag) : V → List V → Hp → VK → Prop := fun x xs H Q => ∃ (p : Addr) (bs : List Bool) (k : Bool), x = .ref p ∧ xs = [.bl k] ∧ SqL K H p (bs.map V.bl) ∧ Q (.int ((bs.filter (· == k)).length : Nat)) H
theorem cntU {k : Bool} : ∀ {bs : List Bool} {its : List Value}, Vals (bs.map V.bl) its → its.countP (eqU (.bl k)) = (bs.filter (· == k)).length
  | [], _, .nil => rfl
  | b :: bs, u :: its, .cons r t => by
    have ih := cntU (k := k) t
    have e : eqU (.bl k) u = (b == k) := eqU_of r rfl
    rw [List.countP_cons, ih, e, List.filter_cons]
    cases (b == k) <;> simp
theorem mt_cntB : MtR X "list.count" (rCntB X.K) := by
  intro pins s σ H x xs v us Q I rx rxs h
  obtain ⟨p, bs, k, rfl, rfl, hs, q⟩ := h
  cases rx
  obtain ⟨u, rfl, ru⟩ := rxs.one
  obtain ⟨its, rv, ⟨⟨cls, dd, data, sl⟩, n, ho, hc, hdn, hd⟩, hlen⟩ := I.list hs
  simp only at hc hd
  subst hc hd
  refine call_meets PySem.F.slot_list_count ⟨_, ho, rfl⟩ PySem.F.entry_list_count (PySem.F.args_list_count_2 _ _)
    (SeqAt.list_countAt p its.toArray n dd sl u (eqU (.bl k))) ⟨ho, fun y hy => mem_eqAt ru rfl rv (flat_bls bs) y (by simpa using hy), ?_⟩
  have ec : its.toArray.toList.countP (eqU (.bl k)) = (bs.filter (· == k)).length := cntU rv
  refine ⟨.int ((bs.filter (· == k)).length : Nat), H, I.tok _, ⟨s.toks, ?_⟩, q⟩
  show Value.int ((its.toArray.toList.countP (eqU (.bl k)) : Nat) : Int) s.toks = _
  rw [ec]
/-- a method that looks at a list and a scalar -/
def LkM (r : V → List V → Hp → VK → Prop) (f : D → D → Option D) : Prop := ∀ (d e d' : D), f d e = some d' → ∀ (W : Addr → Prop) (x y v : V) (H : Hp) (Q : VK), Rep W H x d → Rep W H y e → sc d' = some v → Q v H → r x [y] H Q
theorem lk_cntB {K : PySem.W.Frag} : LkM (rCntB K) cntB := fun d e d' h W x y v H Q r1 r2 hv q => by
  unfold cntB at h
  split at h
  · rename_i bs b e1
    cases h; cases r2; cases hv
    obtain ⟨p, rfl, hs⟩ := rep_lstB (K := K) r1 e1
    exact ⟨p, bs, b, rfl, rfl, hs, q⟩
  · cases h
theorem lk_idxB {K : PySem.W.Frag} : LkM (rIndex K) idxB := fun d e d' h W x y v H Q r1 r2 hv q => by
  unfold idxB at h
  split at h
  · rename_i bs b e1
    cases q1 : ixB bs b with
    | none => rw [q1] at h; cases h
    | some j =>
      rw [q1] at h
      cases h; cases r2; cases hv
      obtain ⟨p, rfl, hs⟩ := rep_lstB (K := K) r1 e1
      obtain ⟨h1, h2⟩ := ixB_ok q1
      refine ⟨p, bs.map V.bl, .bl b, j, .bl b, rfl, rfl, hs, rfl, flat_bls bs, by rw [List.getElem?_map, h1]; rfl, by simp [eqV], fun m z' hm hz => ?_, q⟩
      rw [List.getElem?_map] at hz
      cases e2 : bs[m]? with
      | none => rw [e2] at hz; cases hz
      | some c =>
        rw [e2] at hz
        cases hz
        have := h2 m hm
        rw [e2] at this
        show (c == b) = false
        simpa using this
  · cases h
theorem cntB_sc : scal1 cntB := fun d e d' h => by
  unfold cntB at h
  split at h
  · cases h; exact ⟨_, rfl⟩
  · cases h
theorem idxB_sc : scal1 idxB := fun d e d' h => by
  unfold idxB at h
  split at h
  · rename_i bs b e1
    cases q1 : ixB bs b with
    | none => rw [q1] at h; cases h
    | some j => rw [q1] at h; cases h; exact ⟨_, rfl⟩
  · cases h
def mLkM (f : D → D → Option D) (i : Nat) (m : M O) : M O := mHasL i (bnd m fun k => fun ρ => match ρ[i]? with
  | some (some o) => (match f (frz o) (frz k) with
    | some d => .ok (.val d) ρ
    | none => .fail)
  | _ => .fail)
theorem de_lkM {e a b : Expr} {i : Nat} {m : M O} {r : V → List V → Hp → VK → Prop} {f : D → D → Option D} (hr : LkM r f) (hsc : scal1 f) (ha : PE X a (tVar i)) (hb : DE X B b m) (he : ∀ {ta tb : TE}, PE X a ta → PE X b tb → PE X e (tBM X.K "list" r ta (tCons tb tNil))) : DE X B e (mLkM f i m) := by
  refine (he ha hb).imp fun σ H Q ⟨pend, ρ, c, g⟩ => ?_
  obtain ⟨⟨l0, e0⟩, g⟩ := go_hasL g
  obtain ⟨v, hv, c0⟩ := c.take e0
  obtain ⟨p, its, rfl, _, hp, _, _⟩ := c0.out1.open'
  refine ⟨_, hv, .inl ⟨rfl, _, SqL.of hp⟩, tE_bnd c g fun o ρ1 y H1 c1 g1 => ?_⟩
  split at g1
  · rename_i o' e1
    split at g1
    · rename_i d hd
      obtain ⟨v', hv', c2⟩ := c1.frz.take e1
      rw [hv] at hv'
      cases hv'
      obtain ⟨W, r1, r2⟩ := (Conf.out (pre := [_, _]) c2.frz).rep2
      obtain ⟨w, hw⟩ := hsc _ _ _ hd
      exact hr _ _ _ hd W _ _ w H1 Q r1 r2 hw (g1 w H1 (c1.tail.sc hw))
    · exact False.elim g1
  · exact False.elim g1
end
end Dl

namespace Dl
variable [Kc]
open PySem L2

section
variable {X : Cx} {Γ : Gm} {B : Bx} {R : Rc}
theorem ifs_of (K : RcOk R) (C : CtxOk X Γ B) (ifs : List Expr) : PTs X ifs (tT B (evIfs R Γ ifs)) := by
  unfold evIfs
  match ifs with
  | [] => exact ⟨fun pins s σ H Q I ⟨pend, ρ, c, g⟩ => pts_nil.run pins s σ H Q I ((g : ∀ H', Conf σ H' pend ρ → Q true H') H c)⟩
  | [c] => exact pts_one (K.t c C)
  | _ :: _ :: _ => exact ⟨fun _ _ _ _ _ _ ⟨_, _, _, h⟩ => False.elim h⟩
theorem noset {tg it : Expr} (h : evI R Γ tg it ≠ stop) : ∀ a b c, it ≠ .Set a b c := fun a b c e => by
  subst e
  exact h rfl
def isSet (e : Expr) : Bool := match e with
  | .Set _ _ _ => true
  | _ => false
theorem isSet_no {it : Expr} (h : isSet it = false) (env : PySem.Env) (x : Value) : foldedSetIterable it env x = pure x := set_no (fun a b c e => by subst e; cases h) env x
theorem lcs_of (K : RcOk R) (C : CtxOk X Γ B) {elt tg it : Expr} {ifs : List Expr} {scope : Scope} : (∀ {pos : Pos}, DE X B (.ListComp elt [⟨tg, it, ifs, 0⟩] scope pos) (if isSet it = true then stop else evLc R Γ elt tg it ifs scope)) ∧
    (∀ {ok : Nat → Bool} {i : Nat} {y : Str} {py pos spos : Pos} {cp : List Nat}, X.N[i]? = some y → X.env.scope.names.lookup y = some .local → swapsWith (.ListComp elt [⟨tg, it, ifs, 0⟩] scope pos) (some (.Name y py)) spos.line X.env = pure true → (∀ i, ok i = true → ∀ σ v, CP cp σ (σ.set i (some v))) →
      DS X B cp (.Assign [.Name y py] (.ListComp elt [⟨tg, it, ifs, 0⟩] scope pos) spos) (mAsg (if isSet it = true then stop else evLc R Γ elt tg it ifs scope) (mSet ok i))) := by
  by_cases hs : isSet it = true
  · rw [if_pos hs]
    refine ⟨de_stop, fun _ _ _ _ => ⟨fun _ _ _ _ _ _ ⟨_, _, _, h⟩ => False.elim h⟩⟩
  rw [if_neg hs]
  have hs : isSet it = false := by simpa using hs
  unfold evLc
  split
  · rename_i own ho
    split
    · rename_i hk
      have bo : BlkOk X.N X.env.scope scope own := by rw [C.N, C.scp]; exact blkOk_by hk
      have nd : X.N.Nodup := by rw [C.N]; exact C.nd
      have hg : ∀ (s : Shared) (H : Hp) (A : Addr) (cl : List (Str × Addr)) (fp : List Addr), PG (X.blk s H scope (compEnvC scope cl A X.env) fp) tg (tGr B0 (srW (own.map (·.2))) (R.g (blkG Γ scope own) tg)) :=
        fun s H A cl fp => K.g tg (blk_ok C hk s H A cl fp) fun i hi σ v => wipe_set i (some v) (of_decide_eq_true hi)
      have ht : ∀ (s : Shared) (H : Hp) (A : Addr) (cl : List (Str × Addr)) (fp : List Addr), PTs (X.blk s H scope (compEnvC scope cl A X.env) fp) ifs (tT B0 (evIfs R (blkG Γ scope own) ifs)) := fun s H A cl fp => ifs_of K (blk_ok C hk s H A cl fp) ifs
      have he : ∀ (s : Shared) (H : Hp) (A : Addr) (cl : List (Str × Addr)) (fp : List Addr), PE (X.blk s H scope (compEnvC scope cl A X.env) fp) elt (tE B0 (R.e (blkG Γ scope own) elt)) := fun s H A cl fp => K.e elt (blk_ok C hk s H A cl fp)
      have plain : ∀ {mi : M (List D)}, DI X B tg it mi → (∀ {pos : Pos}, DE X B (.ListComp elt [⟨tg, it, ifs, 0⟩] scope pos) (mComp (own.map (·.2)) mi (R.g (blkG Γ scope own) tg) (evIfs R (blkG Γ scope own) ifs) (R.e (blkG Γ scope own) elt))) ∧
          (∀ {ok : Nat → Bool} {i : Nat} {y : Str} {py pos spos : Pos} {cp : List Nat}, X.N[i]? = some y → X.env.scope.names.lookup y = some .local → swapsWith (.ListComp elt [⟨tg, it, ifs, 0⟩] scope pos) (some (.Name y py)) spos.line X.env = pure true → (∀ i, ok i = true → ∀ σ v, CP cp σ (σ.set i (some v))) →
            DS X B cp (.Assign [.Name y py] (.ListComp elt [⟨tg, it, ifs, 0⟩] scope pos) spos) (mAsg (mComp (own.map (·.2)) mi (R.g (blkG Γ scope own) tg) (evIfs R (blkG Γ scope own) ifs) (R.e (blkG Γ scope own) elt)) (mSet ok i))) := fun {mi} hmi => by
        refine ⟨fun {pos} => ?_, fun {ok i y py pos spos cp} hy hyl hsw hS => ?_⟩
        · exact (pe_lc (pos := pos) C.calm nd hmi bo hg ht he (isSet_no hs _)).imp fun σ H Q h => lc_of h
        · have base := ps_setLc (py := py) (spos := spos) (pos := pos) C.calm nd hy hyl hsw hmi bo hg ht he (isSet_no hs _)
          refine base.imp fun D σ H ⟨pend, ρ, c, g⟩ => ?_
          show tLc _ _ _ _ _ σ H _
          refine lc_of (tE_st c g fun r ρ1 v H1 c1 g1 => ?_)
          have g2 := go_bnd.mp g1
          unfold mSet at g2
          split at g2
          · rename_i h
            exact g2 _ _ (c1.put (by rw [c1.sh.len]; exact h.2)) (hS i h.1 σ v)
          · exact False.elim g2
      cases hsl : itSlot Γ it (own.map (·.2)) with
      | none => exact plain (i_of K C tg it)
      | some j =>
        dsimp only
        obtain ⟨hj, hpe⟩ : j ∉ own.map (·.2) ∧ PE X it (tVar j) := by
          unfold itSlot at hsl
          split at hsl
          · rename_i x p
            split at hsl
            · rename_i j' hx
              split at hsl
              · cases hsl
              · rename_i hnm
                cases hsl
                exact ⟨hnm, slot_pe C hx⟩
            · cases hsl
          · cases hsl
        obtain ⟨p1, p2⟩ := plain (di_seq (de_var hpe))
        have o1 : PI X tg it (iList X.K (tVar j)) := pi_list hpe
        have go_S : ∀ {vs : List Nat} {mi : M (List D)} {t : O → M Unit} {mc : M Bool} {me : M O} {ρ : Sl}, (∃ l, ρ[j]? = some (some (.lst l)) ∧ mCompS vs j mi t mc me ρ = mCompO vs j t mc me ρ) ∨ mCompS vs j mi t mc me ρ = mComp vs mi t mc me ρ := fun {vs mi t mc me ρ} => by
          unfold mCompS
          split
          · rename_i l e
            by_cases hv : l.all isV = true
            · rw [if_pos hv]
              exact .inl ⟨l, e, rfl⟩
            · rw [if_neg hv]
              exact .inr rfl
          · exact .inr rfl
        refine ⟨fun {pos} => ?_, fun {ok i y py pos spos cp} hy hyl hsw hS => ?_⟩
        · have q1 := pe_lc (pos := pos) C.calm nd o1 bo hg ht he (isSet_no hs _)
          refine ⟨fun pins s σ H Q I ⟨pend, ρ, c, g⟩ => ?_⟩
          rcases go_S (ρ := ρ) with ⟨l, el, eg⟩ | eg
          · rw [eg] at g
            exact q1.run pins s σ H Q I (lc_ofO hj c el g)
          · rw [eg] at g
            exact (p1 (pos := pos)).run pins s σ H Q I ⟨pend, ρ, c, g⟩
        · have q1 := ps_setLc (py := py) (spos := spos) (pos := pos) C.calm nd hy hyl hsw o1 bo hg ht he (isSet_no hs _)
          have q2 := p2 (py := py) (spos := spos) (pos := pos) (cp := cp) hy hyl hsw hS
          refine ⟨fun pins s σ H D I ⟨pend, ρ, c, g⟩ => ?_⟩
          rcases go_S (ρ := ρ) with ⟨l, el, eg⟩ | eg
          · refine q1.run pins s σ H D I ?_
            show tLc _ _ _ _ _ σ H _
            have g0 := go_bnd.mp g
            rw [eg] at g0
            refine lc_ofO hj c el (Out.go_mono g0 (fun r ρ1 _ g1 v H1 c1 => ?_) fun _ _ _ z => z)
            have g2 := go_bnd.mp g1
            unfold mSet at g2
            split at g2
            · rename_i h
              exact g2 _ _ (c1.put (by rw [c1.sh.len]; exact h.2)) (hS i h.1 σ v)
            · exact False.elim g2
          · refine q2.run pins s σ H D I ⟨pend, ρ, c, ?_⟩
            have e2 : mAsg (mCompS (own.map (·.2)) j (mSeqI (mVar j)) (R.g (blkG Γ scope own) tg) (evIfs R (blkG Γ scope own) ifs) (R.e (blkG Γ scope own) elt)) (mSet ok i) ρ = mAsg (mComp (own.map (·.2)) (mSeqI (mVar j)) (R.g (blkG Γ scope own) tg) (evIfs R (blkG Γ scope own) ifs) (R.e (blkG Γ scope own) elt)) (mSet ok i) ρ := by
              unfold mAsg bnd
              rw [eg]
            rw [e2] at g
            exact g
    · refine ⟨de_stop, fun _ _ _ _ => ⟨fun _ _ _ _ _ _ ⟨_, _, _, h⟩ => False.elim h⟩⟩
  · refine ⟨de_stop, fun _ _ _ _ => ⟨fun _ _ _ _ _ _ ⟨_, _, _, h⟩ => False.elim h⟩⟩

def isSlice (e : Expr) : Bool := match e with
  | .Slice _ _ _ _ => true
  | _ => false
theorem plainIx {b : Expr} (h : isSlice b = false) : PlainIx b := by
  intro o i
  cases b <;> first
    | rfl
    | cases h
def evSub (R : Rc) (Γ : Gm) (a b : Expr) : M O := match b with
  | .Slice lo hi none _ => (match agOf R Γ a with
    | .sl i => mSlcS i (evP R Γ lo) (evP R Γ hi)
    | .ev m => mSlc m (evP R Γ lo) (evP R Γ hi))
  | .Slice none none (some (.UnaryOp .USub (.Constant (.int 1) _ _) _)) _ => mOp1 revF (R.e Γ a)
  | .Slice _ _ _ _ => stop
  | b => match agOf R Γ a with
    | .sl i => mIxS i (R.e Γ b)
    | .ev m => mOp2 ixD m (R.e Γ b)
theorem sub_of (K : RcOk R) (C : CtxOk X Γ B) {a b : Expr} {pos : Pos} : DE X B (.Subscript a b pos) (evSub R Γ a b) := by
  have base : isSlice b = false → DE X B (.Subscript a b pos) (match agOf R Γ a with
    | .sl i => mIxS i (R.e Γ b)
    | .ev m => mOp2 ixD m (R.e Γ b)) := fun hs => by
    have h := ag_of K C a
    cases q : agOf R Γ a with
    | sl i =>
      rw [q] at h
      exact de_ixS C.K h (K.e b C) fun {ta tb} h1 h2 => pe_ix ix_seq h1 h2 (plainIx hs)
    | ev m =>
      rw [q] at h
      refine de_op2 (r := rIx X.K) ?_ h (K.e b C) fun {ta tb} h1 h2 => pe_ix ix_seq h1 h2 (plainIx hs)
      rw [C.K]
      exact op2_ix
  unfold evSub
  split
  · have h := ag_of K C a
    cases q : agOf R Γ a with
    | sl i =>
      rw [q] at h
      exact slcS_of K C h
    | ev m =>
      rw [q] at h
      exact slc_of K C h
  · exact de_rev (K.e a C) (fun {ta} h => pe_revL h) fun {ta} h => Dw.pe_revT h
  · exact de_stop
  · rename_i h1 h2 h3
    refine base ?_
    cases b <;> first
      | rfl
      | exact absurd rfl (h3 _ _ _ _)
def evM (R : Rc) (Γ : Gm) (o : Expr) (m : Str) (apos : Pos) (args : List Expr) (pos : Pos) : M O := match o, args with
  | .Name x _, [a] => (match slot Γ x with
    | some i => if isStar a = false ∧ (apos.endLine == pos.line) = true then
        (if m = "append" then mApp i (R.e Γ a)
        else if m = "pop" then mPop i (R.e Γ a)
        else if m = "count" then mLkM cntB i (R.e Γ a)
        else if m = "index" then mLkM idxB i (R.e Γ a)
        else stop) else stop
    | none => stop)
  | _, _ => stop
theorem m_of (K : RcOk R) (C : CtxOk X Γ B) {o : Expr} {m : Str} {apos pos : Pos} {args : List Expr} : DE X B (.Call (.Attribute o m apos) args [] pos) (evM R Γ o m apos args pos) := by
  unfold evM
  split
  · rename_i x px a
    split
    · rename_i i hi
      refine de_ite (fun h => ?_) fun _ => de_stop
      obtain ⟨hs, hl⟩ := h
      have hh := slot_pe (pos := px) C hi
      refine de_ite (fun e => ?_) fun _ => ?_
      · subst e
        refine de_app hh (K.e a C) fun {ta tb} h1 h2 => ?_
        exact pe_bm PySem.F.plainAttrs_list PySem.F.slot_list_append PySem.F.type_list_append mt_append h1 (pa_cons h2 pa_nil (star_no hs _ _)) rfl (by rw [star_no hs]; rfl) hl (star_no hs _ _)
      refine de_ite (fun e => ?_) fun _ => ?_
      · subst e
        refine de_pop hh (K.e a C) fun {ta tb} h1 h2 => ?_
        exact pe_bm PySem.F.plainAttrs_list PySem.F.slot_list_pop PySem.F.type_list_pop mt_popAt h1 (pa_cons h2 pa_nil (star_no hs _ _)) rfl (by rw [star_no hs]; rfl) hl (star_no hs _ _)
      refine de_ite (fun e => ?_) fun _ => ?_
      · subst e
        refine de_lkM (lk_cntB (K := X.K)) cntB_sc hh (K.e a C) fun {ta tb} h1 h2 => ?_
        exact pe_bm PySem.F.plainAttrs_list PySem.F.slot_list_count PySem.F.type_list_count mt_cntB h1 (pa_cons h2 pa_nil (star_no hs _ _)) rfl (by rw [star_no hs]; rfl) hl (star_no hs _ _)
      refine de_ite (fun e => ?_) fun _ => de_stop
      · subst e
        refine de_lkM (lk_idxB (K := X.K)) idxB_sc hh (K.e a C) fun {ta tb} h1 h2 => ?_
        exact pe_bm PySem.F.plainAttrs_list PySem.F.slot_list_index PySem.F.type_list_index mt_index h1 (pa_cons h2 pa_nil (star_no hs _ _)) rfl (by rw [star_no hs]; rfl) hl (star_no hs _ _)
    · exact de_stop
  · exact de_stop
def evD (R : Rc) (Γ : Gm) (k : Str) (v : Expr) : M O := match v with
  | .Constant (.int i) _ _ => mDct1 k (ret (.val (.int i)))
  | .Name x _ => (match slot Γ x with
    | some i => mDct1 k (mVar i)
    | none => stop)
  | _ => stop
theorem d_of (C : CtxOk X Γ B) {k : Str} {kk : Nat} {kp pos : Pos} {v : Expr} : DE X B (.Dict [some (.Constant (.str k) kk kp)] [v] pos) (evD R Γ k v) := by
  unfold evD
  split
  · exact de_d1C rfl pe_str pe_int
  · split
    · rename_i i h
      exact de_d1S pe_str (slot_pe C h)
    · exact de_stop
  · exact de_stop
def isCall (e : Expr) : Bool := match e with
  | .Call _ _ _ _ => true
  | _ => false
theorem base_no {e : Expr} (h : isCall e = false) (n : Str) (env : PySem.Env) : attributeBase e n env (eval e env) = eval e env := by
  cases e <;> first
    | rfl
    | cases h
def evE1' (R : Rc) (Γ : Gm) (e : Expr) : M O := match e with
  | .Constant (.int i) _ _ => ret (.val (.int i))
  | .Constant (.bool b) _ _ => ret (.val (.bl b))
  | .Constant .none _ _ => ret (.val .non)
  | .Constant (.str x) _ _ => ret (.val (.str x))
  | .Name x _ => evName Γ x
  | .BinOp a op b _ => mOp2 (binF op) (R.e Γ a) (R.e Γ b)
  | .UnaryOp .USub a _ => mOp1 negF (R.e Γ a)
  | .UnaryOp .Not a _ => mOp1 notF (R.e Γ a)
  | .Compare a [op] [b] _ => if behindInMarks op b = true then stop else mLook (cmpF op) (agOf R Γ a) (agOf R Γ b)
  | .Compare a [op, op'] [b, c] _ => if isIn op = true ∨ isIn op' = true then stop else mChain (cmpF op) (cmpF op') (R.e Γ a) (R.e Γ b) (R.e Γ c)
  | .BoolOp .And (a :: b :: rest) pos => mAndV (R.e Γ a) (R.e Γ (.BoolOp .And (b :: rest) pos))
  | .BoolOp .Or (a :: b :: rest) pos => mOrV (R.e Γ a) (R.e Γ (.BoolOp .Or (b :: rest) pos))
  | .BoolOp _ [a] _ => R.e Γ a
  | .IfExp c a b _ => mIf (R.t Γ c) (R.e Γ a) (R.e Γ b)
  | .Tuple es _ _ => mTup (evAs R Γ es)
  | .List es _ => mLst (evAs R Γ es)
  | .Subscript a b _ => evSub R Γ a b
  | .Call (.Name f _) [.Lambda params body scope _] [] _ => evLam R Γ f params body scope
  | .Call (.Name f _) args [] _ => evC R Γ f args
  | .Call (.Attribute o m apos) args [] pos => evM R Γ o m apos args pos
  | .ListComp elt [⟨tg, it, ifs, 0⟩] scope _ => if isSet it = true then stop else evLc R Γ elt tg it ifs scope
  | .Dict [] [] _ => ret (.val (.dct [] []))
  | .Dict [some (.Constant (.str k) _ _)] [v] _ => evD R Γ k v
  | .Attribute e n _ => if isCall e = true then stop else mOp1 (attrF n) (R.e Γ e)
  | _ => stop
theorem bf {b : Bool} (h : ¬ b = true) : b = false := by
  cases b with
  | false => rfl
  | true => exact absurd rfl h
theorem isIn_no {op : CmpOp} (h : ¬ isIn op = true) : isIn op = false := by
  cases q : isIn op with
  | false => rfl
  | true => exact absurd q h
theorem last_ok {op op' : CmpOp} {b c : Expr} (h : isIn op' = false) : lastMarks [op, op'] [b, c] = false := marks_ok h c
theorem lam_of (K : RcOk R) (C : CtxOk X Γ B) {f : Str} {params : Arguments} {body : Expr} {scope : Scope} {p lpos pos : Pos} : DE X B (.Call (.Name f p) [.Lambda params body scope lpos] [] pos) (evLam R Γ f params body scope) := by
  unfold evLam
  split
  · rename_i tf h
    refine de_ite (fun hh => ?_) fun _ => de_stop
    obtain ⟨h1, h2, h3, h4, h5⟩ := hh
    have e := noArgs_ok h5
    subst e
    exact de_lam C h1 h h2 h3 h4 rfl (fun _ _ _ _ _ => rfl) fun {X' B'} C' => K.e body C'
  · exact de_stop
theorem e1_of (K : RcOk R) (C : CtxOk X Γ B) (e : Expr) : DE X B e (evE1' R Γ e) := by
  unfold evE1'
  split
  · exact de_sc rfl pe_int
  · exact de_sc rfl pe_bl
  · exact de_sc rfl pe_non
  · exact de_sc rfl pe_str
  · exact name_of C _ _
  · exact de_bin (K.e _ C) (K.e _ C)
  · exact de_neg (K.e _ C)
  · exact de_notV (K.e _ C)
  · exact de_ite (fun _ => de_stop) fun h => de_cmp C (bf h) (ag_of K C _) (ag_of K C _)
  · refine de_ite (fun _ => de_stop) fun h => ?_
    have h2 := isIn_no fun z => h (.inr z)
    exact (pe_chain (cmp_ok C _).1 (cmp_ok C _).1 (K.e _ C) (K.e _ C) (K.e _ C) (last_ok h2)).imp fun σ H Q q => chain_of (cmp_ok C _).2.1 (cmp_ok C _).2.2 (cmp_ok C _).2.1 (cmp_ok C _).2.2 q
  · exact de_and (K.e _ C) (K.e _ C)
  · exact de_or (K.e _ C) (K.e _ C)
  · exact pe_one (K.e _ C)
  · exact de_ifE (K.t _ C) (K.e _ C) (K.e _ C)
  · exact de_tup (das_of K C _)
  · exact de_lst (das_of K C _)
  · exact sub_of K C
  · exact lam_of K C
  · exact c_of K C
  · exact m_of K C
  · exact (lcs_of K C).1
  · exact de_d0
  · exact d_of C
  · exact de_ite (fun _ => de_stop) fun h => de_attr C.K (K.e _ C) (base_no (by simpa using h) _ _)
  · exact de_stop

/-! ### tests -/
def evAll (R : Rc) (Γ : Gm) : List Expr → M Bool
  | [] => stop
  | [a] => R.t Γ a
  | a :: rest => mAnd (R.t Γ a) (evAll R Γ rest)
def evAny (R : Rc) (Γ : Gm) : List Expr → M Bool
  | [] => stop
  | [a] => R.t Γ a
  | a :: rest => mOr (R.t Γ a) (evAny R Γ rest)
theorem all_of (K : RcOk R) (C : CtxOk X Γ B) : ∀ (es : List Expr) (pos : Pos), PW X (.BoolOp .And es pos) (tT B (evAll R Γ es))
  | [], pos => ⟨fun _ _ _ _ _ _ _ ⟨_, _, _, h⟩ => False.elim h⟩
  | [a], pos => pw_and1 (K.t a C)
  | a :: b :: rest, pos => (pw_and (K.t a C) (all_of K C (b :: rest) pos)).imp fun σ H Q h => tAnd_of h
theorem any_of (K : RcOk R) (C : CtxOk X Γ B) : ∀ (es : List Expr) (pos : Pos), PW X (.BoolOp .Or es pos) (tT B (evAny R Γ es))
  | [], pos => ⟨fun _ _ _ _ _ _ _ ⟨_, _, _, h⟩ => False.elim h⟩
  | [a], pos => pw_or1 (K.t a C)
  | a :: b :: rest, pos => (pw_or (K.t a C) (any_of K C (b :: rest) pos)).imp fun σ H Q h => tOr_of h
def evT1 (R : Rc) (Γ : Gm) (e : Expr) : M Bool := match e with
  | .UnaryOp .Not a _ => mNot (R.t Γ a)
  | .BoolOp .And es _ => evAll R Γ es
  | .BoolOp .Or es _ => evAny R Γ es
  | .Compare a [op] [b] _ => if behindInMarks op b = true then stop else mLookB (cmpF op) (agOf R Γ a) (agOf R Γ b)
  | .Compare a [op, op'] [b, c] _ => if isIn op = true ∨ isIn op' = true then stop else mB (mChain (cmpF op) (cmpF op') (R.e Γ a) (R.e Γ b) (R.e Γ c))
  | .Compare _ _ _ _ => stop
  | .IfExp _ _ _ _ => stop
  | e => mB (R.e Γ e)
theorem dt_ite {e : Expr} {c : Prop} [Decidable c] {m1 m2 : M Bool} (h1 : c → DT X B e m1) (h2 : ¬ c → DT X B e m2) : DT X B e (if c then m1 else m2) := by
  by_cases h : c
  · rw [if_pos h]; exact h1 h
  · rw [if_neg h]; exact h2 h
theorem tB_of {t : TE} {σ : St} {H : Hp} {Q : Bool → Hp → Prop} {m : M O} (k : ∀ Q, tE B m σ H Q → t σ H Q) (h : tT B (mB m) σ H Q) : tTest t σ H Q := by
  obtain ⟨pend, ρ, c, g⟩ := h
  refine k _ (tE_bnd c g fun o ρ1 v H1 c1 g1 => ?_)
  obtain ⟨b, rfl, g2⟩ := go_mB (σ := σ) (pend := pend) g1
  exact ⟨b, c1.out1.bl, g2 H1 c1.tail⟩
theorem t1_of (K : RcOk R) (C : CtxOk X Γ B) (e : Expr) : DT X B e (evT1 R Γ e) := by
  unfold evT1
  split
  · exact dt_not (K.t _ C)
  · exact (all_of K C _ _).pt
  · exact (any_of K C _ _).pt
  · exact dt_ite (fun _ => dt_stop) fun h => dt_cmp C (bf h) (ag_of K C _) (ag_of K C _)
  · refine dt_ite (fun _ => dt_stop) fun h => ?_
    have h2 := isIn_no fun z => h (.inr z)
    exact (pt_chain (cmp_ok C _).1 (cmp_ok C _).1 (K.e _ C) (K.e _ C) (K.e _ C) (last_ok h2)).imp fun σ H Q q => tB_of (fun Q q => chain_of (cmp_ok C _).2.1 (cmp_ok C _).2.2 (cmp_ok C _).2.1 (cmp_ok C _).2.2 q) q
  · exact dt_stop
  · exact dt_stop
  · rename_i n1 n2 n3 n4 n5 n6 n7
    refine dt_val (K.e _ C) fun {t} h => pt_val h fun whole => ?_
    cases e with
    | UnaryOp op a p =>
      cases op with
      | Not => exact absurd rfl (n1 _ _)
      | _ => rfl
    | BoolOp op es p =>
      cases op with
      | And => exact absurd rfl (n2 _ _)
      | Or => exact absurd rfl (n3 _ _)
    | Compare a b c p => exact absurd rfl (n6 _ _ _ _)
    | IfExp a b c p => exact absurd rfl (n7 _ _ _ _)
    | _ => rfl
end
end Dl

namespace Dl
variable [Kc]
open PySem L2

/-! ### targets -/
def evGs (R : Rc) (Γ : Gm) : List Expr → List O → M Unit
  | [] => mGNil
  | e :: es => mGCons (R.g Γ e) (evGs R Γ es)
def setOk (Γ : Gm) (x : Str) : Bool := isLcl Γ.sc x || (Γ.fn x && isLoc Γ.sc x)
def evG1 (R : Rc) (Γ : Gm) (e : Expr) : O → M Unit := match e with
  | .Name x _ => (match ixIn Γ.N x with
    | some i => if setOk Γ x = true then mSet Γ.ok i else fun _ => stop
    | none => fun _ => stop)
  | .Tuple es _ _ => if es.all (fun e => !isStar e) = true then mGTup es.length (evGs R Γ es) else fun _ => stop
  | .Subscript a b _ => (match agOf R Γ a with
    | .sl i => if isSlice b = true then fun _ => stop else mPut i (R.e Γ b)
    | .ev _ => fun _ => stop)
  | _ => fun _ => stop
section
variable {X : Cx} {Γ : Gm} {B : Bx} {R : Rc} {S : SR}
theorem ae_no {e : Expr} (h : isStar e = false) (es : List Expr) (env : PySem.Env) : assignEach (e :: es) env = (false, assign e env) :: assignEach es env := by
  cases e <;> first
    | rfl
    | cases h
theorem ae_len : ∀ {es : List Expr} {env : PySem.Env}, es.all (fun e => !isStar e) = true → (assignEach es env).length = es.length ∧ (assignEach es env).findIdx? (·.1) = none
  | [], _, _ => ⟨rfl, rfl⟩
  | e :: es, env, h => by
    rw [List.all_cons, Bool.and_eq_true] at h
    obtain ⟨h1, h2⟩ := ae_len (es := es) (env := env) h.2
    rw [ae_no (by simpa using h.1)]
    refine ⟨by simp [h1], ?_⟩
    rw [List.findIdx?_cons, h2]
    rfl
theorem gs_of (K : RcOk R) (C : CtxOk X Γ B) (hS : ∀ i, Γ.ok i = true → ∀ σ v, S.r σ (σ.set i (some v))) : ∀ es : List Expr, es.all (fun e => !isStar e) = true → DGs X B S es (evGs R Γ es)
  | [], _ => dgs_nil
  | e :: es, h => by
    rw [List.all_cons, Bool.and_eq_true] at h
    exact dgs_cons (K.g e C hS) (gs_of K C hS es h.2) (by rw [ae_no (by simpa using h.1)]; rfl)
theorem setOk_ok (C : CtxOk X Γ B) {x : Str} (h : setOk Γ x = true) : Loc X.env.scope x ∧ (X.fn x = true ∨ X.env.scope.names.lookup x = some .local) := by
  rw [C.scp]
  unfold setOk at h
  rw [Bool.or_eq_true, Bool.and_eq_true] at h
  rcases h with h | h
  · exact ⟨.inl (isLcl_ok h), .inr (isLcl_ok h)⟩
  · exact ⟨isLoc_ok h.2, .inl (C.fn x h.1)⟩
theorem dg_ite {e : Expr} {c : Prop} [Decidable c] {m1 m2 : O → M Unit} (h1 : c → DG X B S e m1) (h2 : ¬ c → DG X B S e m2) : DG X B S e (if c then m1 else m2) := by
  by_cases h : c
  · rw [if_pos h]; exact h1 h
  · rw [if_neg h]; exact h2 h
theorem g1_of (K : RcOk R) (C : CtxOk X Γ B) (hS : ∀ i, Γ.ok i = true → ∀ σ v, S.r σ (σ.set i (some v))) (e : Expr) : DG X B S e (evG1 R Γ e) := by
  unfold evG1
  split
  · split
    · rename_i i h
      refine dg_ite (fun hk => ?_) fun _ => dg_stop
      obtain ⟨h1, h2⟩ := setOk_ok C hk
      exact dg_name (pg_name (by rw [C.N]; exact C.nd) (by rw [C.N]; exact ixIn_get h) h1 h2) hS
    · exact dg_stop
  · refine dg_ite (fun h => ?_) fun _ => dg_stop
    exact dg_tup C.calm (gs_of K C hS _ h) (ae_len h).1 (ae_len h).2
  · rename_i a b p
    have h := ag_of K C a
    cases q : agOf R Γ a with
    | sl i =>
      rw [q] at h
      refine dg_ite (fun _ => dg_stop) fun hs => ?_
      refine dg_put h (K.e b C) fun {ta tb} h1 h2 => pg_sub h1 h2 set_list fun v => ?_
      cases b <;> first
        | rfl
        | exact absurd rfl hs
    | ev m => exact dg_stop
  · exact dg_stop
end

/-! ### statements -/
def isCmp (e : Expr) : Bool := match e with
  | .ListComp _ _ _ _ => true
  | .SetComp _ _ _ _ => true
  | .DictComp _ _ _ _ _ => true
  | _ => false
theorem sw_no {e : Expr} (h : isCmp e = false) (t : Option Expr) (l : Nat) (env : PySem.Env) : swapsWith e t l env = pure false := by
  cases e <;> first
    | rfl
    | cases h
/-- which names are stored from the right -/
def swv (sc : Scope) (ts vs : List Expr) : Option (Option (List Str)) :=
  if (!(ts.length == 2 || ts.length == 3) || vs.length != ts.length) = true then some none
  else if (vs.any fun | .Starred .. => true | _ => false) = true then some none
  else
    let line := (ts.head?.map (·.pos.line)).getD 0
    let names := ts.filterMap fun
      | .Name id pos => if sc.names.lookup id == some .local && pos.line == line then some id else none
      | _ => none
    if (names.length != ts.length || names.eraseDups.length != names.length) = true then some none
    else if vs.all (foldedForSure 8) = true then some none
    else if vs.all (constantsAlone 8) = true then none
    else some (some names)
theorem swv_ok {sc : Scope} {ts vs : List Expr} {k1 k2 : Nat} {p1 p2 : Pos} {env : PySem.Env} {r : Option (List Str)} (hs : env.scope = sc) (hk : sc.kind = .function) (h : swv sc ts vs = some r) : swappedStores [.Tuple ts k1 p1] (.Tuple vs k2 p2) env = pure r := by
  have hb : env.blockKind = .function := by
    unfold Env.blockKind
    rw [hs, hk]
    rfl
  unfold swv at h
  unfold swappedStores Env.kindOf
  rw [hb, hs]
  simp only [bne_self_eq_false, Bool.or_false]
  split at h
  · rename_i c
    cases h
    exact if_pos c
  · rename_i c
    refine (if_neg c).trans ?_
    split at h
    · rename_i c2
      cases h
      exact if_pos c2
    · rename_i c2
      refine (if_neg c2).trans ?_
      dsimp only at h
      split at h
      · rename_i c3
        cases h
        exact if_pos c3
      · rename_i c3
        refine (if_neg c3).trans ?_
        split at h
        · rename_i c4
          cases h
          exact if_pos c4
        · rename_i c4
          refine (if_neg c4).trans ?_
          split at h
          · cases h
          · rename_i c5
            cases h
            exact if_neg c5
end Dl

namespace Dl
variable [Kc]
open PySem L2

def mPar2 (ok : Nat → Bool) (i j : Nat) (ms : M (List O)) : M Fl := bnd ms fun os => match os with
  | [a, b] => bnd (mSet ok i a) fun _ => bnd (mSet ok j b) fun _ => ret .nx
  | _ => stop
def mPar3 (ok : Nat → Bool) (i j l : Nat) (ms : M (List O)) : M Fl := bnd ms fun os => match os with
  | [a, b, c] => bnd (mSet ok i a) fun _ => bnd (mSet ok j b) fun _ => bnd (mSet ok l c) fun _ => ret .nx
  | _ => stop
/-- a, b = x, y through a tuple -/
def mUnp (n : Nat) (ms : M (List O)) (mg : List O → M Unit) : M Fl := bnd ms fun os => if os.length ≤ 1000 ∧ os.length = n then bnd (mg os) fun _ => ret .nx else stop
theorem CG.weak {R : List Addr} {H : Hp} {b : List (V × O)} {p : Addr} (c : CG (p :: R) H b) : CG R H b := by
  obtain ⟨fp, q, n, tk⟩ := c
  have st : Stay (fun a => a ∈ p :: R ++ fp) H (fun a => a ∈ R ++ fp) H := fun a u hn e => ⟨e, fun z => hn (List.mem_cons_of_mem _ z)⟩
  exact ⟨fp, q.stay st fun _ _ => rfl, (List.nodup_cons.mp n).2, tk.sub fun a z => List.mem_cons_of_mem _ z⟩
/-- x += e, ints -/
def augI (op : Operator) : Option (Int → Int → Int) := match op with
  | .Add => some fun i j => i + j
  | .Sub => some fun i j => i - j
  | _ => none
def mRdI (i : Nat) : M Int := fun ρ => match ρ[i]? with
  | some (some (.val (.int a))) => .ok a ρ
  | _ => .fail
def asI (o : O) : M Int := match frz o with
  | .int b => ret b
  | _ => stop
def mAug (ok : Nat → Bool) (f : Int → Int → Int) (i : Nat) (m : M O) : M Fl := bnd (mRdI i) fun a => bnd m fun o => bnd (asI o) fun b => bnd (mSet ok i (.val (.int (f a b)))) fun _ => ret .nx
/-- x[k] += e, ints -/
def mAugS (f : Int → Int → Int) (i : Nat) (mk mv : M O) : M Fl := mHas i (bnd mk fun k => bnd (mIxAt i (frz k)) fun x => bnd (asI x) fun a => bnd mv fun o => bnd (asI o) fun b => bnd (mPutAt i (frz k) (.val (.int (f a b)))) fun _ => ret .nx)
def wfuel : Nat := 100000000
def evNm (Γ : Gm) (x : Str) : Option Nat := match ixIn Γ.N x with
  | some i => if setOk Γ x = true then some i else none
  | none => none
def evLn (Γ : Gm) (x : Str) : Option Nat := match ixIn Γ.N x with
  | some i => if isLcl Γ.sc x = true then some i else none
  | none => none
def evPar (R : Rc) (Γ : Gm) (ts vs : List Expr) : M Fl := match ts, vs with
  | [.Name x _, .Name y _], [a, b] => (match evLn Γ x, evLn Γ y with
    | some i, some j => if i ≠ j ∧ isStar a = false ∧ isStar b = false ∧ swv Γ.sc ts vs = some (some [x, y]) then mPar2 Γ.ok i j (evA R Γ [a, b]) else stop
    | _, _ => stop)
  | [.Name x _, .Name y _, .Name z _], [a, b, c] => (match evLn Γ x, evLn Γ y, evLn Γ z with
    | some i, some j, some l => if i ≠ j ∧ i ≠ l ∧ j ≠ l ∧ isStar a = false ∧ isStar b = false ∧ isStar c = false ∧ swv Γ.sc ts vs = some (some [x, y, z]) then mPar3 Γ.ok i j l (evA R Γ [a, b, c]) else stop
    | _, _, _ => stop)
  | _, _ => stop
def evAsg (R : Rc) (Γ : Gm) (ts : List Expr) (e : Expr) : M Fl := match ts, e with
  | [.Name x _], .ListComp elt [⟨tg, it, ifs, 0⟩] scope _ => (match evNm Γ x with
    | some i => mAsg (if isSet it = true then stop else evLc R Γ elt tg it ifs scope) (mSet Γ.ok i)
    | none => stop)
  | [.Tuple ts k p], .Tuple vs k2 p2 => (match swv Γ.sc ts vs with
    | some (some _) => evPar R Γ ts vs
    | some none => if ts.all (fun e => !isStar e) = true then mUnp ts.length (evAs R Γ vs) (evGs R Γ ts) else stop
    | none => stop)
  | [.Name x _], e => if isCmp e = true then stop else (match evNm Γ x with
    | some i => mAsg (R.e Γ e) (mSet Γ.ok i)
    | none => stop)
  | [.Tuple ts k p], e => if isCmp e = true then stop else mAsg (R.e Γ e) (R.g Γ (.Tuple ts k p))
  | [.Subscript a b p], e => if isCmp e = true then stop else mAsg (R.e Γ e) (R.g Γ (.Subscript a b p))
  | _, _ => stop
def evRaise (R : Rc) (Γ : Gm) (x : Str) (args : List Expr) : M Fl := match Γ.exc.lookup x with
  | some ks => if isGl Γ.sc x = true ∧ bad x = false then (match args with
    | [] => if ks = [] then mRaise x ks (ret []) else stop
    | e :: es => if ks = [] ∨ ¬ (e :: es).all (fun e => !isStar e) = true then stop else mRaise x ks (evA R Γ (e :: es))) else stop
  | none => stop
def evTry (R : Rc) (Γ : Gm) (body : List Stmt) (x n y n' : Str) : M Fl := match Γ.isa.lookup x, ixIn Γ.N n, ixIn Γ.N y with
  | some l, some i, some j => if Γ.top = true ∧ isGl Γ.sc x = true ∧ bad x = false ∧ bad n = false ∧ n' = n ∧ i ≠ j ∧ Γ.ok i = true ∧ Γ.ok j = true ∧ isLcl Γ.sc n = true ∧ isLcl Γ.sc y = true then mTry l i j (R.s Γ body) else stop
  | _, _, _ => stop
def evS1 (R : Rc) (Γ : Gm) (s : Stmt) : M Fl := match s with
  | .Expr e _ => if isCmp e = true then stop else mDo (R.e Γ e)
  | .Return (some e) _ => mRet (R.e Γ e)
  | .Return none _ => ret (.rt (.val .non))
  | .Pass _ => ret .nx
  | .Break _ => ret .bk
  | .Continue _ => ret .ct
  | .If c a b _ => mIfS (R.t Γ c) (R.s Γ a) (R.s Γ b)
  | .For tg it body [] _ => if isSet it = true then stop else mFor (evI R Γ tg it) (R.g Γ tg) (R.s Γ body)
  | .While c body [] _ => mWhile (R.t Γ c) (R.s Γ body) wfuel
  | .Assign ts e _ => evAsg R Γ ts e
  | .AugAssign (.Name x _) op e _ => (match evNm Γ x, augI op with
    | some i, some f => mAug Γ.ok f i (R.e Γ e)
    | _, _ => stop)
  | .AugAssign (.Subscript a b _) op e _ => (match agOf R Γ a, augI op with
    | .sl i, some f => if isSlice b = true then stop else mAugS f i (R.e Γ b) (R.e Γ e)
    | _, _ => stop)
  | .Raise (some (.Call (.Name x _) args [] _)) none _ => evRaise R Γ x args
  | .Try body [.ExceptHandler (some (.Name x _)) (some n) [.Assign [.Name y _] (.Name n' _) _] _] [] [] _ => evTry R Γ body x n y n'
  | _ => stop
def evSs (R : Rc) (Γ : Gm) : List Stmt → M Fl
  | [] => ret .nx
  | s :: ss => mSeq (evS1 R Γ s) (evSs R Γ ss)
section
variable {X : Cx} {Γ : Gm} {B : Bx} {R : Rc} {cp : List Nat}
theorem ds_ite {e : Stmt} {c : Prop} [Decidable c] {m1 m2 : M Fl} (h1 : c → DS X B cp e m1) (h2 : ¬ c → DS X B cp e m2) : DS X B cp e (if c then m1 else m2) := by
  by_cases h : c
  · rw [if_pos h]; exact h1 h
  · rw [if_neg h]; exact h2 h
theorem bfalse {b : Bool} (h : ¬ b = true) : b = false := by
  cases b with
  | false => rfl
  | true => exact absurd rfl h
theorem evNm_ok (C : CtxOk X Γ B) {x : Str} {i : Nat} (h : evNm Γ x = some i) : X.N[i]? = some x ∧ Loc X.env.scope x ∧ (X.fn x = true ∨ X.env.scope.names.lookup x = some .local) := by
  unfold evNm at h
  split at h
  · rename_i j e
    split at h
    · rename_i hk
      cases h
      exact ⟨by rw [C.N]; exact ixIn_get e, setOk_ok C hk⟩
    · cases h
  · cases h
theorem evLn_ok (C : CtxOk X Γ B) {x : Str} {i : Nat} (h : evLn Γ x = some i) : X.N[i]? = some x ∧ X.env.scope.names.lookup x = some .local := by
  unfold evLn at h
  split at h
  · rename_i j e
    split at h
    · rename_i hk
      cases h
      exact ⟨by rw [C.N]; exact ixIn_get e, by rw [C.scp]; exact isLcl_ok hk⟩
    · cases h
  · cases h
theorem cp_set (hc : ∀ i, Γ.ok i = true → i ∉ cp) : ∀ i, Γ.ok i = true → ∀ (σ : St) (v : V), CP cp σ (σ.set i (some v)) := fun i hi σ v j hj => by
  rw [List.getElem?_set_ne]
  intro e
  exact hc i hi (by rw [e]; exact hj)
theorem nd_of (C : CtxOk X Γ B) : X.N.Nodup := by rw [C.N]; exact C.nd
theorem go_set {ok : Nat → Bool} {i : Nat} {o : O} {ρ : Sl} {α : Type} {f : Unit → M α} {k : α → Sl → Prop} {b : Ex → Sl → Prop} (h : (bnd (mSet ok i o) f ρ).go k b) : ok i = true ∧ i < ρ.length ∧ (f () (ρ.set i (some o))).go k b := by
  have g := go_bnd.mp h
  unfold mSet at g
  split at g
  · rename_i c
    exact ⟨c.1, c.2, g⟩
  · exact False.elim g
theorem tA_st {α : Type} {m : M (List O)} {f : List O → M α} {k : α → Sl → Prop} {σ : St} {H : Hp} {pend : List (V × O)} {ρ : Sl} {Q : List V → Hp → Prop} (c : Conf σ H pend ρ) (h : (bnd m f ρ).go k (fun x ρ' => ∀ σ', CP cp σ σ' → B.p x ρ' pend σ'))
    (hQ : ∀ r ρ' vs H', vs.length = r.length → Conf σ H' (vs.zip r ++ pend) ρ' → (f r ρ').go k (fun x ρ' => ∀ σ', CP cp σ σ' → B.p x ρ' pend σ') → Q vs H') : tA B m σ H Q :=
  ⟨pend, ρ, c, Out.go_mono (go_bnd.mp h) (fun r ρ' _ g v H' hl c' => hQ r ρ' v H' hl c' g) fun _ _ _ g => g σ (CP.refl _ _)⟩
theorem ds_unp {s : Stmt} {ts vs : List Expr} {k k2 n : Nat} {p p2 : Pos} {ms : M (List O)} {mg : List O → M Unit} (hc : X.calm = true) (ha : DA X B vs ms) (hg : DGs X B (srC cp) ts mg) (hn : (assignEach ts X.env).length = n) (hst : (assignEach ts X.env).findIdx? (·.1) = none)
    (hp : ∀ {te : TE} {g : TG}, PE X (.Tuple vs k2 p2) te → PG X (.Tuple ts k p) g → PS X s (tAsg te g)) : DS X B cp s (mUnp n ms mg) := by
  refine (hp (pe_tup ha) (pg_tup hc hg hn hst)).imp fun D σ H ⟨pend, ρ, c, g⟩ => ?_
  refine tA_st c g fun os ρ1 vs H1 hl c1 g1 => ?_
  split at g1
  · rename_i hz
    refine ⟨by rw [hl]; exact sz1000 hz.1, fun q hq => ?_⟩
    have c2 : Conf σ (upd H1 q (.tup vs)) (vs.zip os ++ pend) ρ1 := ⟨c1.sh, ((c1.ci.fresh hq (by simp)).write (.tup vs)).weak⟩
    exact ⟨q, vs, rfl, sq_t upd_same, hl.trans hz.2, pend, ρ1, os, hl, c2, Out.go_mono (go_bnd.mp g1) (fun _ ρ2 _ g2 => g2) fun x ρ2 _ g2 => g2⟩
  · exact False.elim g1
theorem par_of (K : RcOk R) (C : CtxOk X Γ B) (hc : ∀ i, Γ.ok i = true → i ∉ cp) {ts vs : List Expr} {k k2 : Nat} {p p2 pos : Pos} : DS X B cp (.Assign [.Tuple ts k p] (.Tuple vs k2 p2) pos) (evPar R Γ ts vs) := by
  unfold evPar
  split
  · rename_i x px y py a b
    split
    · rename_i i j hi hj
      refine ds_ite (fun h => ?_) fun _ => ds_stop
      obtain ⟨hij, h1, h2, hsw⟩ := h
      obtain ⟨i1, i2⟩ := evLn_ok C hi
      obtain ⟨j1, j2⟩ := evLn_ok C hj
      refine (ps_par C.calm (nd_of C) i1 j1 hij i2 j2 (da_of K C [a, b]) (swv_ok C.scp C.kind hsw)).imp fun D σ H ⟨pend, ρ, c, g⟩ => ?_
      refine tA_st c g fun os ρ1 vs H1 hl c1 g1 => ?_
      match os, vs, hl with
      | [o1, o2], [v, w], _ =>
        obtain ⟨k1, l1, g2⟩ := go_set g1
        obtain ⟨k2, l2, g3⟩ := go_set g2
        have c2 : Conf (σ.set i (some v)) H1 ((w, o2) :: pend) (ρ1.set i (some o1)) := Conf.put (v := v) (o := o1) c1 (by rw [c1.sh.len]; exact l1)
        have c3 : Conf ((σ.set i (some v)).set j (some w)) H1 pend ((ρ1.set i (some o1)).set j (some o2)) := c2.put (by rw [c2.sh.len]; exact l2)
        exact ⟨v, w, rfl, g3 _ _ c3 ((cp_set hc i k1 σ v).trans (cp_set hc j k2 _ w))⟩
      | [], _, _ => exact False.elim g1
      | [_], _, _ => exact False.elim g1
      | _ :: _ :: _ :: _, _, _ => exact False.elim g1
    · exact ds_stop
  · rename_i x px y py z pz a b c
    split
    · rename_i i j l hi hj hl
      refine ds_ite (fun h => ?_) fun _ => ds_stop
      obtain ⟨hij, hil, hjl, h1, h2, h3, hsw⟩ := h
      obtain ⟨i1, i2⟩ := evLn_ok C hi
      obtain ⟨j1, j2⟩ := evLn_ok C hj
      obtain ⟨l1, l2⟩ := evLn_ok C hl
      refine (ps_par3 C.calm (nd_of C) i1 j1 l1 hij hil hjl i2 j2 l2 (da_of K C [a, b, c]) (swv_ok C.scp C.kind hsw)).imp fun D σ H ⟨pend, ρ, c, g⟩ => ?_
      refine tA_st c g fun os ρ1 vs H1 hl c1 g1 => ?_
      match os, vs, hl with
      | [o1, o2, o3], [v, w, u], _ =>
        obtain ⟨k1, l1, g2⟩ := go_set g1
        obtain ⟨k2, l2, g3⟩ := go_set g2
        obtain ⟨k3, l3, g4⟩ := go_set g3
        have c2 : Conf (σ.set i (some v)) H1 ((w, o2) :: (u, o3) :: pend) (ρ1.set i (some o1)) := Conf.put (v := v) (o := o1) c1 (by rw [c1.sh.len]; exact l1)
        have c3 : Conf ((σ.set i (some v)).set j (some w)) H1 ((u, o3) :: pend) ((ρ1.set i (some o1)).set j (some o2)) := c2.put (by rw [c2.sh.len]; exact l2)
        have c4 : Conf (((σ.set i (some v)).set j (some w)).set l (some u)) H1 pend (((ρ1.set i (some o1)).set j (some o2)).set l (some o3)) := c3.put (by rw [c3.sh.len]; exact l3)
        exact ⟨v, w, u, rfl, g4 _ _ c4 (((cp_set hc i k1 σ v).trans (cp_set hc j k2 _ w)).trans (cp_set hc l k3 _ u))⟩
      | [], _, _ => exact False.elim g1
      | [_], _, _ => exact False.elim g1
      | [_, _], _, _ => exact False.elim g1
      | _ :: _ :: _ :: _ :: _, _, _ => exact False.elim g1
    · exact ds_stop
  · exact ds_stop
theorem asg_of (K : RcOk R) (C : CtxOk X Γ B) (hc : ∀ i, Γ.ok i = true → i ∉ cp) (ts : List Expr) (e : Expr) (pos : Pos) : DS X B cp (.Assign ts e pos) (evAsg R Γ ts e) := by
  have hS := cp_set hc
  unfold evAsg
  split
  · rename_i x px elt tg it ifs scope cpos
    split
    · rename_i i hi
      obtain ⟨h1, h2, h3⟩ := evNm_ok C hi
      have key : ∃ b : Bool, swapsWith (.ListComp elt [⟨tg, it, ifs, 0⟩] scope cpos) (some (.Name x px)) pos.line X.env = pure b ∧ (b = true → X.env.scope.names.lookup x = some .local) := by
        refine ⟨(X.env.blockKind == .function && X.env.kindOf x == some .local && px.line == cpos.line && !(scope.names.any fun (n, k) => n == x && (k == .local || k == .cell))), rfl, fun h => ?_⟩
        simp only [Bool.and_eq_true, beq_iff_eq] at h
        exact h.1.1.2
      obtain ⟨b, hb, hl⟩ := key
      cases b with
      | true => exact (lcs_of K C).2 h1 (hl rfl) hb hS
      | false => exact ds_set (lcs_of K C).1 (fun {te} he => ps_set (nd_of C) h1 h2 he hb h3) hS
    · exact ds_stop
  · rename_i ts k p vs k2 p2
    split
    · exact par_of K C hc
    · rename_i hsw
      refine ds_ite (fun ht => ?_) fun _ => ds_stop
      exact ds_unp C.calm (das_of K C _) (gs_of K C hS _ ht) (ae_len ht).1 (ae_len ht).2 fun {te g} h1 h2 => ps_asg h1 h2 rfl (swv_ok C.scp C.kind hsw) rfl
    · exact ds_stop
  · rename_i x px e h0
    refine ds_ite (fun _ => ds_stop) fun hcm => ?_
    split
    · rename_i i hi
      obtain ⟨h1, h2, h3⟩ := evNm_ok C hi
      exact ds_set (K.e _ C) (fun {te} he => ps_set (nd_of C) h1 h2 he (sw_no (bfalse hcm) _ _ _) h3) hS
    · exact ds_stop
  · rename_i ts k p h0
    refine ds_ite (fun _ => ds_stop) fun hcm => ?_
    refine ds_asg (K.e _ C) (K.g _ C hS) fun {te g} h1 h2 => ps_asg h1 h2 (by show swapsWith e (some (.Tuple ts k p)) pos.line X.env = pure false; exact sw_no (bfalse hcm) _ _ _) ?_ rfl
    cases e <;> first
      | rfl
      | exact False.elim (h0 _ _ _ rfl)
  · rename_i a b p
    refine ds_ite (fun _ => ds_stop) fun hcm => ?_
    exact ds_asg (K.e _ C) (K.g _ C hS) fun {te g} h1 h2 => ps_asg h1 h2 (by show swapsWith e (some (.Subscript a b p)) pos.line X.env = pure false; exact sw_no (bfalse hcm) _ _ _) rfl rfl
  · exact ds_stop
theorem get_seq : PGet X (rIx X.K) := by
  intro pins s σ H x y v u Q I rx ry h
  rcases h with h | h | h
  · obtain ⟨p, xs, i, z, rfl, rfl, hq, he, q⟩ := h
    cases rx
    obtain ⟨t, rfl⟩ := ry
    obtain ⟨its, r, pl, hz⟩ := I.list hq
    obtain ⟨j, h1, h2, h3, h4, h5⟩ := L2.atI_get he
    obtain ⟨w, ew, rw'⟩ := r.get h2
    have hl := r.length
    have hn := line63
    have fin : EP X pins σ Q w s := ⟨z, H, I, rw', q⟩
    by_cases h0 : 0 ≤ i
    · have hj : i.toNat = j := by
        rw [seqIndex_of h0 h5] at h1
        exact Option.some.inj h1
      exact wpAny_getItem_list pl.isList h0 (by omega) (by rw [hj]; simpa using ew) fin
    · have hj : (i + (its.toArray.size : Int)).toNat = j := by
        rw [seqIndex_neg (by omega) h4] at h1
        rw [List.size_toArray, ← hl]
        exact Option.some.inj h1
      exact wpAny_getItem_list_neg pl.isList (by omega) (by rw [List.size_toArray] <;> omega) (by omega) (by rw [hj]; simpa using ew) fin
  · obtain ⟨p, xs, i, z, rfl, rfl, hq, he, q⟩ := h
    cases rx
    obtain ⟨t, rfl⟩ := ry
    obtain ⟨its, r, pl, hz⟩ := I.tuple hq
    obtain ⟨j, h1, h2, h3, h4, h5⟩ := L2.atI_get he
    obtain ⟨w, ew, rw'⟩ := r.get h2
    have hl := r.length
    have hn := line63
    have fin : EP X pins σ Q w s := ⟨z, H, I, rw', q⟩
    exact PyProof.Rows.getItem_tuple (j := j) pl (by omega) (by omega) (by rw [List.size_toArray, ← hl]; exact h1) (by simpa using ew) fin
  · obtain ⟨z, i, c, rfl, rfl, hz, he, q⟩ := h
    obtain ⟨t, rfl⟩ := rx
    obtain ⟨t', rfl⟩ := ry
    obtain ⟨j, h1, h2, h3, h4, h5⟩ := L2.atI_get he
    have hl : z.cps.toList.length = z.length := by simp [Str.length]
    rw [hl] at h1 h4 h5
    have hn := line63
    exact PyProof.Rows.getItem_str (c := c) (by
      have e1 : decide (i < -(2 ^ 63 : Int)) = false := decide_eq_false (by omega)
      have e2 : decide (i ≥ 2 ^ 63) = false := decide_eq_false (by omega)
      rw [e1, e2, Bool.or_false]) (by rw [h1]; simpa using h2) ⟨.str ⟨#[c]⟩, H, I.tok _, ⟨_, rfl⟩, q⟩
theorem aug_ok {op : Operator} {f : Int → Int → Int} (h : augI op = some f) : PIp X op (ipI f) := by
  cases op with
  | Add => cases h; exact ip_add
  | Sub => cases h; exact ip_sub
  | _ => cases h
theorem go_asI {α : Type} {o : O} {ρ : Sl} {h : Int → M α} {k : α → Sl → Prop} {b : Ex → Sl → Prop} (g : (bnd (asI o) h ρ).go k b) : ∃ i, frz o = .int i ∧ (h i ρ).go k b := by
  have g1 := go_bnd.mp g
  cases e : frz o with
  | int i =>
    unfold asI at g1
    rw [e] at g1
    exact ⟨i, rfl, g1⟩
  | _ =>
    unfold asI at g1
    rw [e] at g1
    exact False.elim g1
theorem go_rdI {α : Type} {i : Nat} {ρ : Sl} {h : Int → M α} {k : α → Sl → Prop} {b : Ex → Sl → Prop} (g : (bnd (mRdI i) h ρ).go k b) : ∃ a, ρ[i]? = some (some (.val (.int a))) ∧ (h a ρ).go k b := by
  have g1 := go_bnd.mp g
  have key : ∀ r : Option (Option O), (match r with
      | some (some (.val (.int a))) => Out.ok a ρ
      | _ => Out.fail : Out Int).go (fun a ρ' => (h a ρ').go k b) b → ∃ a, r = some (some (.val (.int a))) ∧ (h a ρ).go k b := fun r g => by
    rcases r with _ | _ | o
    · exact False.elim g
    · exact False.elim g
    · cases o with
      | lst l => exact False.elim g
      | val d =>
        cases d with
        | int a => exact ⟨a, rfl, g⟩
        | _ => exact False.elim g
  exact key _ g1
theorem ds_aug {s : Stmt} {e : Expr} {m : M O} {ok : Nat → Bool} {f : Int → Int → Int} {i : Nat} (he : DE X B e m) (hp : ∀ {te : TE}, PE X e te → PS X s (tAug i te (ipI f))) (hS : ∀ i, ok i = true → ∀ σ v, CP cp σ (σ.set i (some v))) : DS X B cp s (mAug ok f i m) := by
  refine (hp he).imp fun D σ H ⟨pend, ρ, c, g⟩ => ?_
  obtain ⟨a, ea, g1⟩ := go_rdI g
  obtain ⟨v, hv, c2⟩ := c.take ea
  have ev := c2.out1.int
  subst ev
  refine ⟨_, hv, ?_⟩
  refine tE_st c g1 fun r ρ1 y H1 c1 g2 => ?_
  obtain ⟨j, ej, g3⟩ := go_asI g2
  have c3 := c1.frz
  rw [ej] at c3
  obtain ⟨k1, l1, g4⟩ := go_set g3
  refine ⟨a, j, rfl, c3.out1.int, ?_⟩
  have c4 : Conf σ H1 ((V.int (f a j), .val (.int (f a j))) :: pend) ρ1 := c3.tail.sc rfl
  exact g4 _ _ (c4.put (by rw [c4.sh.len]; exact l1)) (hS i k1 σ _)
theorem ds_augS {s : Stmt} {a b e : Expr} {mk mv : M O} {f : Int → Int → Int} {i : Nat} (hK : X.K = Kc.k) (ha : PE X a (tVar i)) (hb : DE X B b mk) (he : DE X B e mv) (hp : ∀ {ta tb te : TE}, PE X a ta → PE X b tb → PE X e te → PS X s (tAugS ta tb te (rIx X.K) (ipI f) rSetL)) : DS X B cp s (mAugS f i mk mv) := by
  refine (hp ha hb he).imp fun D σ H ⟨pend, ρ, c, g⟩ => ?_
  rw [hK]
  obtain ⟨⟨o0, e0⟩, g⟩ := go_has g
  obtain ⟨w, hw⟩ := c.sh.has i o0 e0
  refine ⟨w, hw, ?_⟩
  refine tE_st c g fun k ρ1 y H1 c1 g1 => ?_
  have g2 := go_bnd.mp g1
  unfold mIxAt at g2
  split at g2
  · rename_i o eo
    split at g2
    · rename_i d hd
      have c0 : Conf σ H1 ((y, .val (frz k)) :: (y, .val (frz k)) :: pend) ρ1 := .back (pre := [_, _]) c1.sh c1.frz.out1.dup
      obtain ⟨v', hv', c2⟩ := c0.take eo
      rw [hw] at hv'
      cases hv'
      refine rIx_of hd (Conf.out (pre := [_, _]) (pend := (y, .val (frz k)) :: pend) c2) fun x c3 => ?_
      have c4 : Conf σ H1 ((w, o) :: (x, .val d) :: (y, .val (frz k)) :: pend) (ρ1.set i none) := .back (pre := [_, _]) c2.sh (c3.perm (.swap ..))
      have c5 := c4.putS hw
      rw [set_set, set_self eo] at c5
      obtain ⟨a, ea, g3⟩ := go_asI g2
      have ea : d = .int a := ea
      subst ea
      have ex := c5.out1.int
      refine ⟨(y, .val (frz k)) :: pend, ρ1, c5.tail, Out.go_mono (go_bnd.mp g3) (fun r ρ2 _ g4 z H2 c6 => ?_) fun x ρ2 _ z => B.mono _ _ _ _ _ (z σ (CP.refl _ _))⟩
      obtain ⟨j, ej, g5⟩ := go_asI g4
      have c7 := c6.frz
      rw [ej] at c7
      refine ⟨a, j, ex, c7.out1.int, ?_⟩
      have c8 : Conf σ H2 ((y, .val (frz k)) :: (V.int (f a j), .val (.int (f a j))) :: pend) ρ2 := (c7.tail.sc (v := V.int (f a j)) (d := .int (f a j)) rfl).perm (.swap ..)
      exact put_of hw c8 (go_bnd.mp g5) fun H' ρ' c9 g6 => g6 σ H' c9 (CP.refl _ _)
    · exact False.elim g2
  · exact False.elim g2
theorem tA_mono {m : M (List O)} {σ : St} {H : Hp} {Q Q' : List V → Hp → Prop} (h : ∀ v H, Q v H → Q' v H) (q : tA B m σ H Q) : tA B m σ H Q' := by
  obtain ⟨pend, ρ, c, g⟩ := q
  exact ⟨pend, ρ, c, Out.go_mono g (fun r ρ' _ k vs H' hl c' => h _ _ (k vs H' hl c')) fun _ _ _ z => z⟩
theorem raise_of (K : RcOk R) (C : CtxOk X Γ B) {x : Str} {args : List Expr} {p pos pos2 : Pos} : DS X B cp (.Raise (some (.Call (.Name x p) args [] pos)) none pos2) (evRaise R Γ x args) := by
  unfold evRaise
  split
  · rename_i ks hk
    refine ds_ite (fun hg => ?_) fun _ => ds_stop
    obtain ⟨C', h1, h2, h3⟩ := C.exc x ks hk
    split
    · refine ds_ite (fun h0 => ?_) fun _ => ds_stop
      subst h0
      exact ds_raise C h1 h2 (ps_raiseX0 C.calm C.tk (C.rm.mono (Nat.le_add_right _ _)) h3 (gl_of C hg.1) (bad_no hg.2).1) fun σ H Q ⟨pend, ρ, c, g⟩ => (g : ∀ vs H', vs.length = 0 → Conf σ H' (vs.zip [] ++ pend) ρ → Q vs H') [] H rfl c
    · rename_i e es
      refine ds_ite (fun _ => ds_stop) fun h0 => ?_
      have hs : (e :: es).all (fun e => !isStar e) = true := Classical.byContradiction fun z => h0 (.inr z)
      have hs2 := hs
      rw [List.all_cons, Bool.and_eq_true] at hs2
      exact ds_raise C h1 h2 (ps_raiseX C.calm C.tk (C.rm.mono (Nat.le_add_right _ _)) h3 (fun z => h0 (.inl z)) (gl_of C hg.1) (da_of K C (e :: es)) (bad_no hg.2).1 (star_no (by simpa using hs2.1) _ _) (star_any hs2.2 _ _) fun σ H Q Q' h q => tA_mono h q) fun σ H Q q => q
  · exact ds_stop
theorem try_of (K : RcOk R) (C : CtxOk X Γ B) (hc : ∀ i, Γ.ok i = true → i ∉ cp) {body : List Stmt} {x n y n' : Str} {np pos pos' p1 p2 p3 : Pos} :
    DS X B cp (.Try body [.ExceptHandler (some (.Name x np)) (some n) [.Assign [.Name y p1] (.Name n' p2) p3] pos'] [] [] pos) (evTry R Γ body x n y n') := by
  unfold evTry
  split
  · rename_i l i j hl hi hj
    refine ds_ite (fun h => ?_) fun _ => ds_stop
    obtain ⟨a1, a2, a3, a4, a5, a6, a7, a8, a9, a10⟩ := h
    subst a5
    exact ds_try C a1 hl a2 a3 (ixIn_get hi) a9 a4 (ixIn_get hj) a10 a6 (hc _ a7) (hc _ a8) fun {X' B'} C' => K.s body C' hc
  · exact ds_stop
theorem s1_of (K : RcOk R) (C : CtxOk X Γ B) (hc : ∀ i, Γ.ok i = true → i ∉ cp) (s : Stmt) : DS X B cp s (evS1 R Γ s) := by
  unfold evS1
  split
  · exact ds_ite (fun _ => ds_stop) fun h => ds_expr (K.e _ C) fun {t} he => ps_expr he (sw_no (bfalse h) _ _ _)
  · exact ds_ret (K.e _ C)
  · exact ds_retN
  · exact ds_pass
  · exact ds_break
  · exact ds_cont
  · exact ds_if (K.t _ C) (K.s _ C hc) (K.s _ C hc)
  · exact ds_ite (fun _ => ds_stop) fun h => ds_for C.po C.calm (i_of K C _ _) (K.g _ C (cp_set hc)) (K.s _ C hc) (isSet_no (bfalse h) _)
  · exact ds_while wfuel C.po (K.t _ C) (K.s _ C hc)
  · exact asg_of K C hc _ _ _
  · rename_i x px op e pos
    split
    · rename_i i f hi hf
      obtain ⟨h1, h2, h3⟩ := evNm_ok C hi
      exact ds_aug (K.e _ C) (fun {te} he => ps_aug (nd_of C) h1 h2 he (aug_ok hf) h3) (cp_set hc)
    · exact ds_stop
  · rename_i a b pb op e pos
    have h := ag_of K C a
    split
    · rename_i i f hi hf
      rw [hi] at h
      refine ds_ite (fun _ => ds_stop) fun hs => ?_
      refine ds_augS C.K h (K.e _ C) (K.e _ C) fun {ta tb te} h1 h2 h3 => ps_augS h1 h2 get_seq h3 (aug_ok hf) set_list fun ov iv new => ?_
      cases b <;> first
        | rfl
        | exact absurd rfl hs
    · exact ds_stop
  · exact raise_of K C
  · exact try_of K C hc
  · exact ds_stop
theorem ss_of (K : RcOk R) (C : CtxOk X Γ B) (hc : ∀ i, Γ.ok i = true → i ∉ cp) : ∀ ss : List Stmt, DSs X B cp ss (evSs R Γ ss)
  | [] => dss_nil
  | s :: ss => dss_cons (s1_of K C hc s) (ss_of K C hc ss)
end
def rc : Nat → Rc
  | 0 => ⟨fun _ _ => stop, fun _ _ => stop, fun _ _ _ => stop, fun _ _ => stop⟩
  | n + 1 => ⟨evE1' (rc n), evT1 (rc n), evG1 (rc n), evSs (rc n)⟩
theorem rc_ok : ∀ n : Nat, RcOk (rc n)
  | 0 => ⟨fun _ _ => de_stop, fun _ _ => dt_stop, fun _ _ _ => dg_stop, fun _ _ _ => dss_stop⟩
  | n + 1 => ⟨fun e C => e1_of (rc_ok n) C e, fun e C => t1_of (rc_ok n) C e, fun e C h => g1_of (rc_ok n) C h e, fun e C h => ss_of (rc_ok n) C h e⟩
end Dl

namespace Dl
variable [Kc]
open PySem L2 PySem.Spec PyProof.Rows
def runR (m : M Fl) (ρ : Sl) : Option O := match m ρ with
  | .ok (.rt r) _ => some r
  | .ok .nx _ => some (.val .non)
  | _ => none
def setO (ib : Option Nat) (o : O) (ρ : Sl) : Sl := match ib with
  | some i => ρ.set i (some o)
  | none => ρ
/-- a def that asks the lambda that it got within try, and keeps what it gives and what it raises -/
def mTold (ρ : Sl) (ib : Option Nat) (ie ia : Nat) (l : List (Str × Bool)) (m : M Fl) : TF
  | .inl o => runR m (setO ib o ρ)
  | .inr x => match l.lookup x.cls with
    | some true => runR m ((ρ.set ie none).set ia (some (.val (.obj x.cls x.ks x.ds))))
    | _ => none
/-- two names, one name, without a value -/
def pre2 (n i j : Nat) : Sl := ((List.replicate n (none : Option O)).set i (some (.val .non))).set j (some (.val .non))
def pre1 (n i : Nat) : Sl := (List.replicate n (none : Option O)).set i (some (.val .non))
theorem run_end {m : M Fl} {ρ : Sl} {r : O} {σ : L2.St} {H : Hp} {pz : List (V × O)} {Q : VK} (c : Conf σ H pz ρ) (hr : runR m ρ = some r) (hq : ∀ v H3, CI H3 ((v, r) :: pz) → Q v H3) : tS B0 [] m { nx := fun _ H' => Q .non H', rt := Q } σ H := by
  refine ⟨pz, ρ, c, ?_⟩
  unfold runR at hr
  split at hr
  · rename_i r' ρ' e
    cases hr
    rw [e]
    intro v σ' H' c' _
    exact hq v H' (CG.drop (a := sI σ' ρ') c'.ci)
  · rename_i ρ' e
    cases hr
    rw [e]
    intro σ' H' c' _
    have := CG.drop (a := sI σ' ρ') c'.ci
    exact hq .non H' (this.sc rfl)
  · cases hr
theorem sI_repl : ∀ (n : Nat) (σ : L2.St), sI σ (List.replicate n none) = []
  | 0, [] => rfl
  | 0, a :: σ => by cases a <;> rfl
  | n + 1, [] => rfl
  | n + 1, a :: σ => by
    rw [List.replicate_succ]
    cases a with
    | none => exact sI_repl n σ
    | some a => exact sI_repl n σ
theorem conf_0 {N : List Str} {v : V} {H : Hp} {pz : List (V × O)} (hN : N ≠ []) (c : CI H pz) : Conf (L2.start N [v]) H pz (List.replicate N.length none) := by
  refine ⟨⟨?_, fun i o e => ?_⟩, by rw [sI_repl]; exact c⟩
  · show ([v].map some ++ List.replicate (N.length - [v].length) none).length = _
    cases N with
    | nil => exact absurd rfl hN
    | cons a N => simp
  · rw [List.getElem?_replicate] at e
    split at e <;> cases e
section
variable {X : Cx} {Γ : Gm}
/-- the context of such a def -/
theorem ctx_told {Ng : List Str} {x a : Str} {sg : Scope} {g : Addr} {cdg : Value} {s : Shared} {H : Hp} (hK : X.K = Kc.k) (hgd : X.A.guards = some []) (Sg : FnScope Ng [a] sg) (hr : Room 2 (X.A.deeper (envOfC x sg s.heap.objs.size g cdg)))
    (hc : ∀ x d, Γ.cst.lookup x = some d → ∃ u v, X.mg x = some u ∧ sc d = some v ∧ RelV v u) (hb : ∀ x, x ∈ Γ.blt → X.mg x = none)
    (hi : ∀ x l, Γ.isa.lookup x = some l → ∃ v u, ClsV X.mg x v u ∧ ∀ c b, l.lookup c = some b → ∃ C, Kc.cls.lookup c = some C ∧ PySem.W.kitOne X.K (.ref C) u = some b ∧ PySem.W.exmOne X.K (.ref C) u = some b)
    (g1 : Γ.N = Ng) (g2 : Γ.sc = sg) (g3 : Γ.F = []) (g4 : Γ.exc = []) (g5 : Γ.T = []) (g6 : Γ.up = 0) : CtxOk (cxOf C8.CX0 X.prog X.w X.K X.mg X.base Ng x sg g cdg X.A X.stack s H C8.E0).nox Γ B0 := by
  refine ⟨g1.symm, by rw [g1]; exact Sg.nd, g2.symm, by rw [g2]; exact Sg.kind, rfl, hK, hgd, ?_, (fun _ _ => rfl), PassesOwn.never, fun x q h => ?_, hc, hb, ?_, by rw [g6]; exact hr, (fun _ => ⟨rfl, rfl, rfl⟩), fun x ks h => ?_, hi, fun x tf h => ?_, fun h => ?_, fun h => ?_⟩
  · have := hr.un
    show (X.A.deeper _).units + 190 < cLine
    omega
  · rw [g3] at h; cases h
  · exact takes0.imp fun cls d σ' H z => by obtain ⟨_, _, _, z, _⟩ := z; exact z
  · rw [g4] at h; cases h
  · rw [g5] at h; cases h
  · rw [g6] at h; cases h
  · rw [g6] at h; cases h
/-- pre, try: body (the lambda is asked once) except e as n: y = n, then rest -/
theorem told_gives {Ng : List Str} {x a q e n y : Str} {sg : Scope} {g : Addr} {cdg : Value} {pre b1 : Stmt} {rest : List Stmt} {ie ia : Nat} {ib : Option Nat} {l : List (Str × Bool)} {ρ0 : Sl} {m : M Fl} {pσ : L2.St → L2.St} {sσ : V → L2.St → L2.St} {np pos pos' p1 p2 p3 pa1 pa2 : Pos}
    (hK : X.K = Kc.k) (hgd : X.A.guards = some []) (Sg : FnScope Ng [a] sg) (hNg : Ng ≠ [])
    (hc : ∀ x d, Γ.cst.lookup x = some d → ∃ u v, X.mg x = some u ∧ sc d = some v ∧ RelV v u) (hb : ∀ x, x ∈ Γ.blt → X.mg x = none)
    (hi : ∀ x l, Γ.isa.lookup x = some l → ∃ v u, ClsV X.mg x v u ∧ ∀ c b, l.lookup c = some b → ∃ C, Kc.cls.lookup c = some C ∧ PySem.W.kitOne X.K (.ref C) u = some b ∧ PySem.W.exmOne X.K (.ref C) u = some b)
    (g1 : Γ.N = Ng) (g2 : Γ.sc = sg) (g3 : Γ.F = []) (g4 : Γ.exc = []) (g5 : Γ.T = []) (g6 : Γ.up = 0)
    (hle : Γ.isa.lookup e = some l) (hge : isGl sg e = true) (hbe : bad e = false) (hie : Ng[ie]? = some n) (hln : isLcl sg n = true) (hbn : bad n = false) (hia : Ng[ia]? = some y) (hly : isLcl sg y = true) (hij : ie ≠ ia)
    (hpre : ∀ {Z : Cx}, CtxOk Z Γ B0 → PS Z pre (fun D σ H => ∀ H', (H' = H ∨ ∃ p o, H p = none ∧ H' = upd H p o) → D.nx (pσ σ) H'))
    (hb1 : ∀ {Z : Cx} {t : TE}, Z.N = Ng → Z.env.scope = sg → (∀ x, Z.fn x = true) → PE Z (.Call (.Name a pa1) [] [] pa2) t → PSs Z [b1] (fun D σ H => t σ H fun v H1 => D.nx (sσ v σ) H1))
    (hrest : ∀ {Z : Cx}, CtxOk Z Γ B0 → DSs Z B0 [] rest m)
    (p0 : ∀ f : Addr, (pσ (L2.start Ng [V.ref f]))[0]? = some (some (V.ref f)))
    (c0 : ∀ (f : Addr) (H : Hp) (pz : List (V × O)), CI H pz → Conf (pσ (L2.start Ng [V.ref f])) H pz ρ0)
    (c1 : ∀ (f : Addr) (H : Hp) (v : V) (o : O) (pz : List (V × O)), Conf (pσ (L2.start Ng [V.ref f])) H ((v, o) :: pz) ρ0 → Conf (sσ v (pσ (L2.start Ng [V.ref f]))) H pz (setO ib o ρ0)) :
    GivesM X Ng x sg g cdg (pre :: .Try [b1] [.ExceptHandler (some (.Name e np)) (some n) [.Assign [.Name y p1] (.Name n p2) p3] pos'] [] [] pos :: rest) a q (TTm (mTold ρ0 ib ie ia l m)) := by
  intro f c' s H Q tl hmo hr act hco h
  have CZ := ctx_told (Γ := Γ) (X := X) (Ng := Ng) (x := x) (a := a) (g := g) (cdg := cdg) (s := s) (H := H) hK hgd Sg hr hc hb hi g1 g2 g3 g4 g5 g6
  obtain ⟨v, u, cv, cl⟩ := hi e l hle
  have hb2 : bad2 n = false := by
    have := bad_no hbn
    unfold bad2
    rw [this.1, this.2.1]; rfl
  have hnm : Names (cxOf C8.CX0 X.prog X.w X.K X.mg X.base Ng x sg g cdg X.A X.stack s H C8.E0).nox e u := by
    refine ⟨isGl_ok hge, (bad_no hbe).1, ?_⟩
    rcases cv.at_ with e | ⟨e1, e2⟩
    · exact .inl e
    · exact .inr ⟨e1, e2, (bad_no hbe).2.2⟩
  refine ⟨_, pss_cons (hpre CZ) (pss_cons (ps_try_trk (X := (cxOf C8.CX0 X.prog X.w X.K X.mg X.base Ng x sg g cdg X.A X.stack s H C8.E0).nox) (i := ie) (j := ia) (Wout := fun _ _ _ _ => False)
      (tb := fun W D σ H => (σ[0]? = some (some (.ref f)) ∧ H c' = some (LamX.CodeO c' q) ∧ ∃ E : XK, (∀ cls d H', E cls d H' → W cls d σ H') ∧ tl E H fun v H1 => D.nx (sσ v σ) H1))
      rfl rfl rfl Sg.nd hie (isLcl_ok hln) hia (isLcl_ok hly) hij hb2 hnm takes0 fun W pn xe tk _ => hb1 rfl rfl (fun _ => rfl) (act W pn xe pa1 pa2 tk)) (hrest CZ)), ?_⟩
  intro H' hH'
  have hcH : H' c' = some (LamX.CodeO c' q) := by
    rcases hH' with rfl | ⟨p, o, hp, rfl⟩
    · exact hco
    · rw [upd_ne (fun z => by rw [z, hp] at hco; cases hco)]
      exact hco
  refine ⟨p0 f, hcH, _, fun cls d H2 hE => ?_, hmo _ _ _ _ (fun v H2 hQ => ?_) (h H' hH')⟩
  · obtain ⟨x', pz, r, xr, htf, hq⟩ := hE
    have htf : (match l.lookup x'.cls with
      | some true => runR m ((ρ0.set ie none).set ia (some (.val (.obj x'.cls x'.ks x'.ds))))
      | _ => none) = some r := htf
    split at htf
    · rename_i hl
      obtain ⟨i0, ⟨C', hC, hX, ec, hh⟩, ci0⟩ := id xr
      subst ec
      obtain ⟨C2, d1, d2, d3⟩ := cl _ _ hl
      rw [hC] at d1
      cases d1
      refine ⟨true, d3, fun _ => ⟨C', rfl, fun b hbn => ?_⟩, fun z => (Bool.noConfusion z)⟩
      have q1 := xr_hold xr hbn
      have q2 := (c0 f _ _ q1).gone ie
      have e1 : (((pσ (L2.start Ng [V.ref f])).set ie (some (V.ref b))).set ia (some (V.ref b))).set ie none = ((pσ (L2.start Ng [V.ref f])).set ie none).set ia (some (V.ref b)) := by
        rw [List.set_comm _ _ (Ne.symm hij), set_set]
      rw [e1]
      have q3 : Conf (((pσ (L2.start Ng [V.ref f])).set ie none).set ia (some (V.ref b))) (upd H2 b (XcO b C' d)) pz ((ρ0.set ie none).set ia (some (.val (.obj x'.cls x'.ks x'.ds)))) := by
        by_cases hjl : ia < ((pσ (L2.start Ng [V.ref f])).set ie none).length
        · exact q2.put hjl
        · rw [List.set_eq_of_length_le (l := (pσ (L2.start Ng [V.ref f])).set ie none) (by omega), List.set_eq_of_length_le (l := ρ0.set ie none) (by have := q2.sh.len; omega)]
          exact q2.tail
      exact run_end q3 htf hq
    · cases htf
  · obtain ⟨o, pz, r, ci, htf, hq⟩ := hQ
    exact run_end (c1 f H2 v o pz (c0 f H2 _ ci)) htf hq
theorem start_len {N : List Str} {v : V} (hN : N ≠ []) : (L2.start N [v]).length = N.length := by
  show ([v].map some ++ List.replicate (N.length - [v].length) none).length = _
  cases N with
  | nil => exact absurd rfl hN
  | cons a N => simp
theorem start_0 {N : List Str} {v : V} : (L2.start N [v])[0]? = some (some v) := rfl
variable {Ng : List Str} {x a q e n y z : Str} {sg : Scope} {g : Addr} {cdg : Value} {rest : List Stmt} {ie ia ib : Nat} {l : List (Str × Bool)} {m : M Fl} {np pos pos' p1 p2 p3 pa1 pa2 pt py pz pz2 q1 q2 q3 q4 q5 : Pos} {k1 k2 j1 j2 : Nat}
/-- y, z = None, None; try: z = a() except e as n: y = n -/
theorem told_two (hK : X.K = Kc.k) (hgd : X.A.guards = some []) (Sg : FnScope Ng [a] sg)
    (hc : ∀ x d, Γ.cst.lookup x = some d → ∃ u v, X.mg x = some u ∧ sc d = some v ∧ RelV v u) (hb : ∀ x, x ∈ Γ.blt → X.mg x = none)
    (hi : ∀ x l, Γ.isa.lookup x = some l → ∃ v u, ClsV X.mg x v u ∧ ∀ c b, l.lookup c = some b → ∃ C, Kc.cls.lookup c = some C ∧ PySem.W.kitOne X.K (.ref C) u = some b ∧ PySem.W.exmOne X.K (.ref C) u = some b)
    (g1 : Γ.N = Ng) (g2 : Γ.sc = sg) (g3 : Γ.F = []) (g4 : Γ.exc = []) (g5 : Γ.T = []) (g6 : Γ.up = 0)
    (hle : Γ.isa.lookup e = some l) (hge : isGl sg e = true) (hbe : bad e = false) (hie : Ng[ie]? = some n) (hln : isLcl sg n = true) (hbn : bad n = false) (hia : Ng[ia]? = some y) (hly : isLcl sg y = true) (hib : Ng[ib]? = some z) (hlz : isLcl sg z = true) (hij : ie ≠ ia) (ha0 : ia ≠ 0) (hb0 : ib ≠ 0)
    (hsw : swv sg [.Name y py, .Name z pz] [.Constant .none j1 q1, .Constant .none j2 q2] = some none)
    (hrest : ∀ {Z : Cx}, CtxOk Z Γ B0 → DSs Z B0 [] rest m) :
    GivesM X Ng x sg g cdg (.Assign [.Tuple [.Name y py, .Name z pz] k1 pt] (.Tuple [.Constant .none j1 q1, .Constant .none j2 q2] k2 q3) q4 :: .Try [.Assign [.Name z pz2] (.Call (.Name a pa1) [] [] pa2) q5] [.ExceptHandler (some (.Name e np)) (some n) [.Assign [.Name y p1] (.Name n p2) p3] pos'] [] [] pos :: rest) a q
      (TTm (mTold (pre2 Ng.length ia ib) (some ib) ie ia l m)) := by
  have hNg : Ng ≠ [] := fun z => by rw [z] at hia; simp at hia
  have la : ia < Ng.length := (List.getElem?_eq_some_iff.mp hia).1
  have lb : ib < Ng.length := (List.getElem?_eq_some_iff.mp hib).1
  refine told_gives (pa1 := pa1) (pa2 := pa2) (pσ := fun σ => (σ.set ia (some .non)).set ib (some .non)) (sσ := fun v σ => σ.set ib (some v)) hK hgd Sg hNg hc hb hi g1 g2 g3 g4 g5 g6 hle hge hbe hie hln hbn hia hly hij ?_ ?_ hrest ?_ ?_ ?_
  · intro Z C
    have nd := nd_of C
    have z1 : Z.N[ia]? = some y := by rw [C.N, g1]; exact hia
    have z2 : Z.N[ib]? = some z := by rw [C.N, g1]; exact hib
    have s1 : Z.env.scope.names.lookup y = some .local := by rw [C.scp, g2]; exact isLcl_ok hly
    have s2 : Z.env.scope.names.lookup z = some .local := by rw [C.scp, g2]; exact isLcl_ok hlz
    refine (ps_asg (X := Z) (pe_tup (pa_cons pe_non (pa_cons pe_non pa_nil))) (pg_tup C.calm (pgs_cons (pg_name nd z1 (.inl s1) (.inr s1)) (pgs_cons (pg_name nd z2 (.inl s2) (.inr s2)) pgs_nil))) rfl (swv_ok C.scp C.kind (by rw [g2]; exact hsw)) rfl).imp fun D σ H h => ?_
    refine ⟨by rw [sizeLine_eq]; decide, fun p hp => ⟨p, [.non, .non], rfl, SqT.of upd_same, rfl, _, _, rfl, _, _, rfl, rfl, ?_⟩⟩
    exact h _ (.inr ⟨p, _, hp, rfl⟩)
  · intro Z t zN zs zf hp
    have z2 : Z.N[ib]? = some z := by rw [zN]; exact hib
    have s2 : Z.env.scope.names.lookup z = some .local := by rw [zs]; exact isLcl_ok hlz
    have nd : Z.N.Nodup := by rw [zN]; exact Sg.nd
    exact pss_one (ps_set (X := Z) nd z2 (.inl s2) hp rfl (.inr s2))
  · intro f
    show ((((L2.start Ng [V.ref f]).set ia (some .non)).set ib (some .non)))[0]? = _
    rw [List.getElem?_set_ne hb0, List.getElem?_set_ne ha0]
    exact start_0
  · intro f H pz c
    have c1 := conf_0 (v := V.ref f) hNg c
    have c2 := (c1.sc (d := .non) (v := .non) rfl).put (i := ia) (by rw [start_len hNg]; exact la)
    exact (c2.sc (d := .non) (v := .non) rfl).put (i := ib) (by rw [List.length_set, start_len hNg]; exact lb)
  · intro f H v o pz c
    exact c.put (i := ib) (by rw [List.length_set, List.length_set, start_len hNg]; exact lb)
/-- y = None; try: a() except e as n: y = n -/
theorem told_one (hK : X.K = Kc.k) (hgd : X.A.guards = some []) (Sg : FnScope Ng [a] sg)
    (hc : ∀ x d, Γ.cst.lookup x = some d → ∃ u v, X.mg x = some u ∧ sc d = some v ∧ RelV v u) (hb : ∀ x, x ∈ Γ.blt → X.mg x = none)
    (hi : ∀ x l, Γ.isa.lookup x = some l → ∃ v u, ClsV X.mg x v u ∧ ∀ c b, l.lookup c = some b → ∃ C, Kc.cls.lookup c = some C ∧ PySem.W.kitOne X.K (.ref C) u = some b ∧ PySem.W.exmOne X.K (.ref C) u = some b)
    (g1 : Γ.N = Ng) (g2 : Γ.sc = sg) (g3 : Γ.F = []) (g4 : Γ.exc = []) (g5 : Γ.T = []) (g6 : Γ.up = 0)
    (hle : Γ.isa.lookup e = some l) (hge : isGl sg e = true) (hbe : bad e = false) (hie : Ng[ie]? = some n) (hln : isLcl sg n = true) (hbn : bad n = false) (hia : Ng[ia]? = some y) (hly : isLcl sg y = true) (hij : ie ≠ ia) (ha0 : ia ≠ 0)
    (hrest : ∀ {Z : Cx}, CtxOk Z Γ B0 → DSs Z B0 [] rest m) :
    GivesM X Ng x sg g cdg (.Assign [.Name y py] (.Constant .none j1 q1) q4 :: .Try [.Expr (.Call (.Name a pa1) [] [] pa2) q5] [.ExceptHandler (some (.Name e np)) (some n) [.Assign [.Name y p1] (.Name n p2) p3] pos'] [] [] pos :: rest) a q
      (TTm (mTold (pre1 Ng.length ia) none ie ia l m)) := by
  have hNg : Ng ≠ [] := fun z => by rw [z] at hia; simp at hia
  have la : ia < Ng.length := (List.getElem?_eq_some_iff.mp hia).1
  refine told_gives (pa1 := pa1) (pa2 := pa2) (pσ := fun σ => σ.set ia (some .non)) (sσ := fun v σ => σ) hK hgd Sg hNg hc hb hi g1 g2 g3 g4 g5 g6 hle hge hbe hie hln hbn hia hly hij ?_ ?_ hrest ?_ ?_ ?_
  · intro Z C
    have nd := nd_of C
    have z1 : Z.N[ia]? = some y := by rw [C.N, g1]; exact hia
    have s1 : Z.env.scope.names.lookup y = some .local := by rw [C.scp, g2]; exact isLcl_ok hly
    exact (ps_set (X := Z) nd z1 (.inl s1) pe_non rfl (.inr s1)).imp fun D σ H h => h H (.inl rfl)
  · intro Z t zN zs zf hp
    exact pss_one (ps_expr hp rfl)
  · intro f
    show ((L2.start Ng [V.ref f]).set ia (some .non))[0]? = _
    rw [List.getElem?_set_ne ha0]
    exact start_0
  · intro f H pz c
    have c1 := conf_0 (v := V.ref f) hNg c
    exact (c1.sc (d := .non) (v := .non) rfl).put (i := ia) (by rw [start_len hNg]; exact la)
  · intro f H v o pz c
    exact c.tail
end
end Dl

namespace Dl
variable [Kc]
open PySem L2 PySem.Spec PyProof.Rows

/-- the fuel of the texts -/
def fuel : Nat := 60
/-- what is known of the module -/
structure Md where
  cst : List (Str × D)
  blt : List Str
  exc : List (Str × List Str)
  isa : List (Str × List (Str × Bool))
  T : List (Str × TF)
def gmOf (N : List Str) (st : Stmt) (fs : List Bool) (F : List (Str × FM × Nat)) (md : Md) (up : Nat) : Gm :=
  { N := N, sc := defScope st, F := F, cst := md.cst, blt := md.blt, ok := fun i => !(cpOf fs).contains i, top := true, fn := fun _ => true, exc := md.exc, isa := md.isa, T := md.T, up := up }
/-- what a def of the text does -/
def mOf (N : List Str) (st : Stmt) (fs : List Bool) (F : List (Str × FM × Nat)) (md : Md) (up : Nat) : FM := mDef N.length fs ((rc fuel).s (gmOf N st fs F md up) (defBody st))
/-- a def that is handed a lambda: what stands behind try -/
def gmT (N : List Str) (st : Stmt) (md : Md) : Gm :=
  { N := N, sc := defScope st, F := [], cst := md.cst, blt := md.blt, ok := fun _ => true, top := true, fn := fun _ => true, exc := [], isa := md.isa, T := [], up := 0 }
def tRest (N : List Str) (st : Stmt) (md : Md) : M Fl := (rc fuel).s (gmT N st md) ((defBody st).drop 2)
structure MdOk (P : Program) (w : World) (K : PySem.W.Frag) (mg : Str → Option Value) (base : Heap) (md : Md) : Prop where
  hK : K = Kc.k
  cst : ∀ x d, md.cst.lookup x = some d → ∃ u v, mg x = some u ∧ sc d = some v ∧ RelV v u
  blt : ∀ x, x ∈ md.blt → mg x = none
  exc : ∀ x ks, md.exc.lookup x = some ks → ∃ C, Kc.cls.lookup x = some C ∧ XcC Kc.k C ∧ ExM P w K mg base x C ks
  isa : ∀ x l, md.isa.lookup x = some l → ∃ v u, ClsV mg x v u ∧ ∀ c b, l.lookup c = some b → ∃ C, Kc.cls.lookup c = some C ∧ PySem.W.kitOne K (.ref C) u = some b ∧ PySem.W.exmOne K (.ref C) u = some b
  T : ∀ x tf, md.T.lookup x = some tf → ∀ X : Cx, X.prog = P → X.w = w → X.K = K → X.mg = mg → X.base = base → X.A.guards = some [] → THas X x tf
/-- what is known of a def that makes lambdas -/
def LamD (K : PySem.W.Frag) (mg : Str → Option Value) (base : Heap) (qual : Str) (cd : Value) : Prop := ∃ c P, LamX.TabB base mg c P ∧ cd = .ref c ∧ (P, qual ++ ".<locals>." ++ "<lambda>") ∈ Kc.tb ∧ ∀ p ∈ Kc.tb, p.1 = P → p.2 = qual ++ ".<locals>." ++ "<lambda>"
section
variable {P : Program} {w : World} {K : PySem.W.Frag} {mg : Str → Option Value} {base : Heap}
structure F1 (P : Program) (w : World) (K : PySem.W.Frag) (mg : Str → Option Value) (base : Heap) (k : Nat) (x : Str) (q : FM × Nat) : Prop where
  fl : FLen q.1
  ex : ∃ (f : Addr) (fd : FuncData) (ps : List Str), ps.length = q.2 ∧ FnG P w K mg base (L2.CX P w) k f fd ps (spM xhE ps.length q.1) ∧ mg x = some (.ref f) ∧ PySem.W.keepIn K (.ref f) = true ∧ Binds K fd ps []
def FSt (P : Program) (w : World) (K : PySem.W.Frag) (mg : Str → Option Value) (base : Heap) (k : Nat) (F : List (Str × FM × Nat)) : Prop := 2 ≤ k ∧ ∀ x q, F.lookup x = some q → F1 P w K mg base k x q
theorem FnG.mono {CX : CXT} {j k : Nat} {f : Addr} {fd : FuncData} {ps : List Str} {sp : Sp} (F : FnG P w K mg base CX j f fd ps sp) (h : j ≤ k) : FnG P w K mg base CX k f fd ps sp :=
  ⟨F.len, fun A outer s H args us vs Q E hr => F.run A outer s H args us vs Q E (hr.mono h)⟩
theorem FSt.mono {j k : Nat} {F : List (Str × FM × Nat)} (h : FSt P w K mg base j F) (hk : j ≤ k) : FSt P w K mg base k F := ⟨Nat.le_trans h.1 hk, fun x q hq => by
  obtain ⟨fl, f, fd, ps, e, G, r⟩ := h.2 x q hq
  exact ⟨fl, f, fd, ps, e, G.mono hk, r⟩⟩
theorem FSt.nil : FSt P w K mg base 2 [] := ⟨Nat.le_refl _, fun x q h => by cases h⟩
theorem guards_deeper {A : Around} {env : PySem.Env} (h : A.guards = some []) : (A.deeper env).guards = some [] := h
theorem room190 {k : Nat} {A : Around} (r : Room k A) : A.units + 190 < cLine := by have := r.un; omega
/-- a def's context -/
theorem cx_ok {N ps : List Str} {st : Stmt} {fs : List Bool} {F : List (Str × FM × Nat)} {md : Md} {k up : Nat} {qual : Str} {f : Addr} {cd : Value} {A : Around} {outer : List PySem.Env} {s : Shared} {H : Hp} {E : XK}
    (S : FnScope N ps (defScope st)) (FS : FSt P w K mg base k F) (hM : MdOk P w K mg base md) (hL : up = 2 → LamD K mg base qual cd)
    (hr : Room (k + up) (A.deeper (envOfC qual (defScope st) s.heap.objs.size f cd))) (hg : A.guards = some []) :
    CtxOk (cxOf (L2.CX P w) P w K mg base N qual (defScope st) f cd A outer s H E) (gmOf N st fs F md up) (BE xhE E) := by
  refine ⟨rfl, S.nd, rfl, S.kind, rfl, hM.hK, guards_deeper hg, room190 hr, fun _ _ => rfl, PassesOwn.leaving, fun x q hq => ?_, hM.cst, hM.blt, ?_, hr.mono (Nat.add_le_add_right FS.1 _), fun _ => ⟨rfl, rfl, rfl⟩, hM.exc, hM.isa, fun x tf hx => hM.T x tf hx _ rfl rfl rfl rfl rfl (guards_deeper hg), fun hu => ?_, fun hu => ?_⟩
  · obtain ⟨fl, f', fd, ps', e, G, h1, h2, h3⟩ := FS.2 x q hq
    exact ⟨fl, k, f', fd, ps', e, G, FS.1, hr, h1, h2, h3⟩
  · exact (takes_of (E := E) rfl rfl rfl rfl).imp fun cls d σ' H z => by
      obtain ⟨x, ρ, pend, z1, z2, z3⟩ := z
      exact z1 z2 cls d H z3
  · obtain ⟨c, P', h1, h2, h3, h4⟩ := hL hu
    exact ⟨c, P', h1, h2, h3, h4⟩
  · have hu : up = 2 := hu
    subst hu
    refine ⟨k, FS.1, hr, fun x q hq => ?_⟩
    obtain ⟨fl, f', fd, ps', e, G, h1, h2, h3⟩ := FS.2 x q hq
    exact ⟨k, Nat.le_refl _, f', fd, ps', FS.1, e, G, h1, h2, h3⟩
theorem step {N ps : List Str} {st : Stmt} {fs : List Bool} {F : List (Str × FM × Nat)} {md : Md} {k : Nat} (up : Nat) {x qual : Str} {f : Addr} {fd : FuncData} (FS : FSt P w K mg base k F)
    (hM : MdOk P w K mg base md) (hL : up = 2 → LamD K mg base qual fd.code) (Fn : Fun K x qual st f fd) (S : FnScope N ps (defScope st)) (hfs : fs.length = ps.length) (hm : mg x = some (.ref f)) (bi : Binds K fd ps []) :
    F1 P w K mg base (k + up + 1) x (mOf N st fs F md up, ps.length) := by
  refine ⟨fun args => mDef_len, f, fd, ps, rfl, ?_, hm, Fn.kp, bi⟩
  refine fnG_def Fn S hfs fun cd hcd A outer s H E hr hg => ?_
  exact (rc_ok fuel).s _ (cx_ok S FS hM (fun hu => by rw [← hcd]; exact hL hu) hr hg) fun i hi hm => by
    have h1 : (!(cpOf fs).contains i) = true := hi
    have h2 : (cpOf fs).contains i = true := List.contains_iff_mem.mpr hm
    rw [h2] at h1
    cases h1
section
variable {X : Cx} {N : List Str} {st : Stmt} {md : Md} {x a e n y z : Str} {g : Addr} {oc cd ct kV doc pm : Value} {od an : Option Addr} {osl : Array (Option Value)} {ie ia ib : Nat} {l : List (Str × Bool)} {m : M Fl} {rest : List Stmt} {np pos pos' p1 p2 p3 pa1 pa2 pt py pz pz2 q1 q2 q3 q4 q5 : Pos} {k1 k2 j1 j2 : Nat}
/-- the shapes of a def that is handed a lambda -/
theorem has_two (hK : K = Kc.k) (hc : ∀ x d, md.cst.lookup x = some d → ∃ u v, mg x = some u ∧ sc d = some v ∧ RelV v u) (hb : ∀ x, x ∈ md.blt → mg x = none)
    (hi : ∀ x l, md.isa.lookup x = some l → ∃ v u, ClsV mg x v u ∧ ∀ c b, l.lookup c = some b → ∃ C, Kc.cls.lookup c = some C ∧ PySem.W.kitOne K (.ref C) u = some b ∧ PySem.W.exmOne K (.ref C) u = some b)
    (lk : K.lookup g = some ⟨oc, od, .func (PySem.W.fnOf x x (defArgs st) (defBody st) (defScope st) .none kV doc pm an cd ct), osl⟩) (hcd : PySem.W.codeIn K cd x = true) (hk : PySem.W.keepIn K (.ref g) = true) (hmg : mg x = some (.ref g))
    (bi : Binds K (PySem.W.fnOf x x (defArgs st) (defBody st) (defScope st) .none kV doc pm an cd ct) [a] []) (S : FnScope N [a] (defScope st)) (h0 : N[0]? = some a) (hv : isVis (defScope st) a = true) (ha : bad2 a = false)
    (hbd : defBody st = .Assign [.Tuple [.Name y py, .Name z pz] k1 pt] (.Tuple [.Constant .none j1 q1, .Constant .none j2 q2] k2 q3) q4 :: .Try [.Assign [.Name z pz2] (.Call (.Name a pa1) [] [] pa2) q5] [.ExceptHandler (some (.Name e np)) (some n) [.Assign [.Name y p1] (.Name n p2) p3] pos'] [] [] pos :: rest)
    (hle : md.isa.lookup e = some l) (hge : isGl (defScope st) e = true) (hbe : bad e = false) (hie : N[ie]? = some n) (hln : isLcl (defScope st) n = true) (hbn : bad n = false) (hia : N[ia]? = some y) (hly : isLcl (defScope st) y = true) (hib : N[ib]? = some z) (hlz : isLcl (defScope st) z = true) (hij : ie ≠ ia) (ha0 : ia ≠ 0) (hb0 : ib ≠ 0)
    (hsw : swv (defScope st) [.Name y py, .Name z pz] [.Constant .none j1 q1, .Constant .none j2 q2] = some none) (em : tRest N st md = m) (X : Cx) (x2 : X.K = K) (x3 : X.mg = mg) (x5 : X.A.guards = some []) :
    THas X x (mTold (pre2 N.length ia ib) (some ib) ie ia l m) := by
  subst x2 x3
  refine ⟨a, g, _, _, _, _, _, _, _, _, _, _, _, _, _, N, hmg, hk, lk, hcd, bi, S, h0, isVis_ok hv, ha, fun q => ?_⟩
  rw [hbd]
  refine told_two (Γ := gmT N st md) hK x5 S hc hb hi rfl rfl rfl rfl rfl rfl hle hge hbe hie hln hbn hia hly hib hlz hij ha0 hb0 hsw fun {Z} C => ?_
  have er : rest = (defBody st).drop 2 := by rw [hbd]; rfl
  rw [er, ← em]
  exact (rc_ok fuel).s _ C fun i hi hm => by simp at hm
theorem has_one (hK : K = Kc.k) (hc : ∀ x d, md.cst.lookup x = some d → ∃ u v, mg x = some u ∧ sc d = some v ∧ RelV v u) (hb : ∀ x, x ∈ md.blt → mg x = none)
    (hi : ∀ x l, md.isa.lookup x = some l → ∃ v u, ClsV mg x v u ∧ ∀ c b, l.lookup c = some b → ∃ C, Kc.cls.lookup c = some C ∧ PySem.W.kitOne K (.ref C) u = some b ∧ PySem.W.exmOne K (.ref C) u = some b)
    (lk : K.lookup g = some ⟨oc, od, .func (PySem.W.fnOf x x (defArgs st) (defBody st) (defScope st) .none kV doc pm an cd ct), osl⟩) (hcd : PySem.W.codeIn K cd x = true) (hk : PySem.W.keepIn K (.ref g) = true) (hmg : mg x = some (.ref g))
    (bi : Binds K (PySem.W.fnOf x x (defArgs st) (defBody st) (defScope st) .none kV doc pm an cd ct) [a] []) (S : FnScope N [a] (defScope st)) (h0 : N[0]? = some a) (hv : isVis (defScope st) a = true) (ha : bad2 a = false)
    (hbd : defBody st = .Assign [.Name y py] (.Constant .none j1 q1) q4 :: .Try [.Expr (.Call (.Name a pa1) [] [] pa2) q5] [.ExceptHandler (some (.Name e np)) (some n) [.Assign [.Name y p1] (.Name n p2) p3] pos'] [] [] pos :: rest)
    (hle : md.isa.lookup e = some l) (hge : isGl (defScope st) e = true) (hbe : bad e = false) (hie : N[ie]? = some n) (hln : isLcl (defScope st) n = true) (hbn : bad n = false) (hia : N[ia]? = some y) (hly : isLcl (defScope st) y = true) (hij : ie ≠ ia) (ha0 : ia ≠ 0)
    (em : tRest N st md = m) (X : Cx) (x2 : X.K = K) (x3 : X.mg = mg) (x5 : X.A.guards = some []) :
    THas X x (mTold (pre1 N.length ia) none ie ia l m) := by
  subst x2 x3
  refine ⟨a, g, _, _, _, _, _, _, _, _, _, _, _, _, _, N, hmg, hk, lk, hcd, bi, S, h0, isVis_ok hv, ha, fun q => ?_⟩
  rw [hbd]
  refine told_one (Γ := gmT N st md) hK x5 S hc hb hi rfl rfl rfl rfl rfl rfl hle hge hbe hie hln hbn hia hly hij ha0 fun {Z} C => ?_
  have er : rest = (defBody st).drop 2 := by rw [hbd]; rfl
  rw [er, ← em]
  exact (rc_ok fuel).s _ C fun i hi hm => by simp at hm
end
theorem FSt.cons {k : Nat} {x : Str} {q : FM × Nat} {F : List (Str × FM × Nat)} (h : F1 P w K mg base k x q) (hF : FSt P w K mg base k F) : FSt P w K mg base k ((x, q) :: F) := ⟨hF.1, fun y r hr => by
  rw [List.lookup_cons] at hr
  split at hr
  · rename_i e
    cases hr
    have e' : y = x := by simpa using e
    rw [e']
    exact h
  · exact hF.2 y r hr⟩
end

/-! ### the end of a law -/
section
variable {P : Program} {w : World} {K : PySem.W.Frag} {mg mb : Str → Option Value} {CX : CXT} {k : Nat} {fa a : Addr} {fd : FuncData} {x : Str} {sp : Sp} {s1 : Shared} {vs : List Value} {ns : List Int}
/-- from a heap in which at most the script is known -/
theorem core_G (kx : K.In s1.heap) (gn : s1.heap.Ns mainGlobals mg) (bn : s1.heap.Ns builtinsNs mb) (bb : ∀ x : Str, x ≠ "__name__" → mb x = bootBuiltins x) (lim : s1.heap.NoLimit) (hg : s1.gens = #[])
    (ha : s1.heap.get? a = some { cls := .type "list", data := .seq vs.toArray }) (hr : Room k callerA) (F : ∀ base : Heap, K.In base → base.Ns mainGlobals mg → FnG P w K mg base CX k fa fd [x] sp)
    (hbind : ∀ (s : Shared) (u : Value), BindsTo s fd ⟨[u], []⟩ [(x, u)]) (hCX : ∀ H e s', CX [] H s1 (fun _ _ _ => False) e s' → False)
    (H : Hp) (hO : Only H) (hsp : sp [.ref a] H (fun v _ => v = .bl true) fun _ _ _ => False) (hok : HOk P w H s1.heap) (only : ∀ b, H b ≠ none → b = a) (hKa : H a ≠ none → K.lookup a = none) :
    codeAny (model P w) callerA (.call (.ref fa) ⟨[.ref a], []⟩) (fun r s' => r = .ok (.ret (.bool true)) ∧ OldK s1.heap s'.heap ∧ s'.os = s1.os ∧ AllBare s'.gens) s1 := by
  have free : ∀ {b : Addr}, b ≠ a → H b = none := fun {b} h => Classical.byContradiction fun z => h (only b z)
  have inB : ∀ {b : Addr} {o : Obj}, s1.heap.get? b = some o → H b = none → (hidT s1.heap H).get? b = some o := fun e n => hidT_get e n
  have dictF : ∀ {b : Addr} {o : Obj} {es : Array DictEntry} {ep : Nat}, s1.heap.get? b = some o → o.data = .dict es ep → H b = none := by
    intro b o es ep e d
    refine free fun z => ?_
    rw [z, ha] at e
    cases e
    have d' : Data.seq vs.toArray _ = Data.dict es ep := d
    cases d'
  have ns' : ∀ {b : Addr} {m : Str → Option Value}, s1.heap.Ns b m → (hidT s1.heap H).Ns b m := by
    intro b m q
    obtain ⟨o, es, ep, e, d, r⟩ := q
    exact ⟨o, es, ep, inB e (dictF e d), d, r⟩
  have kB : K.In (hidT s1.heap H) := by
    intro b o e
    refine inB (kx b o e) ?_
    by_cases hb : b = a
    · subst hb
      refine Classical.byContradiction fun z => ?_
      rw [hKa z] at e
      cases e
    · exact free hb
  have md : Mod K mg (hidT s1.heap H) := by
    obtain ⟨mc, l1, l2⟩ := lim
    exact ⟨kB, ns' gn, ⟨mb, ns' bn, bb⟩, mc, ns' l1, l2⟩
  have nofr : ∀ b : Addr, b ∉ frs ([] : List PySem.Env) := fun b hb => by simp [frs] at hb
  have env0 : Env0 P w K mg (hidT s1.heap H) callerA [] s1 H :=
    ⟨rfl, md, fun b o e => of_hidT e, Nat.le_of_eq (hidT_size _ _), trivial, fun b hb => absurd hb (nofr b), hok, .of_eq hg⟩
  have run := (F _ kB (ns' gn)).run callerA [] s1 H ⟨[.ref a], []⟩ [.ref a] [.ref a] _ _ hr rfl env0 (hbind s1 (.ref a)) (.cons rfl .nil) hsp
  refine codeAny_mono run fun r s' h => ?_
  rcases r with e | fl
  · exact (hCX H e s' h).elim
  cases fl with
  | next => exact False.elim h
  | brk => exact False.elim h
  | cont => exact False.elim h
  | ret u =>
    obtain ⟨v, H', os, bare, un, hok', rv, q⟩ := h
    have q' : v = .bl true := q
    subst q'
    have eu : u = Value.bool true := rv
    subst eu
    refine ⟨rfl, OldK.of_keep fun b o e => ?_, os, bare⟩
    rcases hO b with z | ⟨ob, xs, z⟩
    · exact un.keep b o e z (nofr b) (by simp)
    · have z2 := un.frzs b ob _ z
      have e1 := (hok b _ z).1
      have e2 := (hok' b _ z2).1
      rw [e] at e1
      cases e1
      exact e2
theorem law_G (kx : K.In s1.heap) (gn : s1.heap.Ns mainGlobals mg) (bn : s1.heap.Ns builtinsNs mb) (bb : ∀ x : Str, x ≠ "__name__" → mb x = bootBuiltins x) (lim : s1.heap.NoLimit) (hg : s1.gens = #[])
    (ha : s1.heap.get? a = some { cls := .type "list", data := .seq vs.toArray }) (hi : IntsAre vs ns) (hl : ns.length ≤ sizeLine) (hr : Room k callerA)
    (F : ∀ base : Heap, K.In base → base.Ns mainGlobals mg → FnG P w K mg base CX k fa fd [x] sp) (hbind : ∀ (s : Shared) (u : Value), BindsTo s fd ⟨[u], []⟩ [(x, u)])
    (hsp : ∀ H : Hp, Only H → ((∃ o, H a = some (.frz o (.lst (ns.map V.int)))) ∨ KL K a (ns.map V.int)) → sp [.ref a] H (fun v _ => v = .bl true) fun _ _ _ => False) (hCX : ∀ H e s', CX [] H s1 (fun _ _ _ => False) e s' → False) :
    codeAny (model P w) callerA (.call (.ref fa) ⟨[.ref a], []⟩) (fun r s' => r = .ok (.ret (.bool true)) ∧ OldK s1.heap s'.heap ∧ s'.os = s1.os ∧ AllBare s'.gens) s1 := by
  have rv := vals_ints hi
  have lenV := hi.length
  cases hk : K.lookup a with
  | some o =>
    have e := kx a o hk
    rw [ha] at e
    cases e
    have kl : KL K a (ns.map V.int) := ⟨_, vs.toArray, _, hk, rfl, rfl, rfl, by rw [List.size_toArray, lenV]; exact hl, by simpa using rv⟩
    exact core_G kx gn bn bb lim hg ha hr F hbind hCX (fun _ => none) (fun _ => .inl rfl) (hsp _ (fun _ => .inl rfl) (.inr kl)) (fun b u z => nomatch z) (fun b z => absurd rfl z) fun z => absurd rfl z
  | none =>
    let ob : Obj := { cls := .type "list", data := .seq vs.toArray }
    let H : Hp := fun b => if b = a then some (.frz ob (.lst (ns.map V.int))) else none
    have hHa : H a = some (.frz ob (.lst (ns.map V.int))) := if_pos rfl
    have hHo : ∀ b, b ≠ a → H b = none := fun b hb => if_neg hb
    have on : Only H := fun b => by
      by_cases hb : b = a
      · exact .inr ⟨ob, ns.map V.int, by rw [hb]; exact hHa⟩
      · exact .inl (hHo b hb)
    refine core_G kx gn bn bb lim hg ha hr F hbind hCX H on (hsp H on (.inl ⟨ob, hHa⟩)) (fun b u z => ?_) (fun b z => ?_) fun _ => hk
    · by_cases hb : b = a
      · subst hb
        rw [hHa] at z
        cases z
        exact ⟨ha, by rw [List.length_map]; exact hl, vs, _, rv, ha⟩
      · rw [hHo b hb] at z
        cases z
    · exact Classical.byContradiction fun hb => z (hHo b hb)
end
end Dl
namespace Dl
open PySem L2 PySem.Spec PyProof.Rows
theorem cx_no {P : Program} {w : World} {outer : List PySem.Env} {H : Hp} {s s' : Shared} {e : Value} (h : L2.CX P w outer H s (fun _ _ _ => False) e s') : False := by
  obtain ⟨_, _, _, _, _, _, _, _, _, _, _, _, z⟩ := h
  exact z.elim
theorem walk_G {l : PySem.W.OpenLaw} {n k : Nat} {q : Program} {loose : List Str} {XP : (Str → Option Value) → Heap → Prop} {YP : World → Heap → Prop} {d : DefRec} {K : Params → PySem.W.Frag} {x : Str} {m : FM}
    (hn : l.most = some n) (hn2 : n ≤ sizeLine) (hdf : d.params.defaults = []) (hr : Room k callerA) (hY : ∀ (w : World) (h : Heap), YP w h → (K w.params).In h)
    (F : ∀ (w : World) (mg : Str → Option Value) (fa : Addr) (h : Heap), (K w.params).In h → h.Ns mainGlobals mg → mg d.name = some (.ref fa) →
      ∃ (fd : FuncData) (cls : List (Str × Addr)), (∀ (s : Shared) (u : Value), BindsTo s fd ⟨[u], []⟩ [(x, u)]) ∧
        ∀ base : Heap, (K w.params).In base → base.Ns mainGlobals mg → FnG l.prog w (K w.params) mg base (L2.CX l.prog w) k fa fd [x] (@spM ⟨K w.params, cls, []⟩ (@xhE ⟨K w.params, cls, []⟩) 1 m))
    (hm : ∀ ns : List Int, ns.length ≤ n → ∃ o, m [.val (.fl ns)] = .ok (.val (.bl true)) [o]) : PySem.W.WalkO q loose XP YP l.row.toRowW d [] (fun f vs => PySem.call f vs) := by
  refine Att.attach_call hn hdf fun w s₀ s₁ mg mb fa o pm cd doc a vs ns G Y ho hd hcd hmg hobj hints hlen hg => ?_
  have kx := hY w _ Y
  obtain ⟨fd, cls, hb, hF⟩ := F w mg fa _ kx G.T.g hmg
  letI : Kc := ⟨K w.params, cls, []⟩
  refine law_G kx G.T.g G.T.b G.T.builtins G.T.nolimit hg hobj hints (Nat.le_trans hlen hn2) hr hF hb (fun H hO hS => ?_) fun H e s' => cx_no
  obtain ⟨o', e'⟩ := hm ns hlen
  refine ⟨rfl, [], [.val (.fl ns)], rfl, ?_, ?_⟩
  · refine ⟨[], ?_, List.nodup_nil, fun p hp => absurd hp (by simp)⟩
    refine @RIs.cons ⟨K w.params, cls, []⟩ _ _ _ _ _ [] [] (.val (.fl ?_)) .nil
    rcases hS with ⟨ob, h⟩ | h
    · exact .inl ⟨by simp, ob, h⟩
    · exact .inr h
  · rw [e']
    exact ⟨rfl, fun v H' c => CG.bl c⟩
end Dl

namespace Dl
open PySem L2

@[simp] theorem sum_ii (i j : Int) : sumF (.int i) (.int j) = some (.val (.int (i + j))) := rfl
theorem sum_ll (x y : List D) (h : x.length + y.length ≤ 1000000) : sumF (.lst x) (.lst y) = some (.lst ((x ++ y).map O.val)) := by
  simp only [sumF, iiI, ssS, llL, Option.map_none, if_pos h]
theorem sum_tt (x y : List D) (h : x.length + y.length ≤ 1000000) : sumF (.tup x) (.tup y) = some (.val (.tup (x ++ y))) := by
  simp only [sumF, iiI, ssS, llL, ttT, Option.map_none, if_pos h]
theorem lim_of {i : Int} (h1 : -(2 ^ 1000) < i) (h2 : i < 2 ^ 1000) : i.natAbs < lim4 := by
  have h : i.natAbs < 2 ^ 1000 := by omega
  exact Nat.lt_of_lt_of_le h (Nat.pow_le_pow_right (by decide) (by decide))
@[simp] theorem bin_add (d e : D) : binF .Add d e = sumF d e := rfl
@[simp] theorem bin_sub (i j : Int) : binF .Sub (.int i) (.int j) = some (.val (.int (i - j))) := rfl
theorem bin_mul (i j : Int) (h : i.natAbs < lim4) (h' : j.natAbs < lim4) : binF .Mult (.int i) (.int j) = some (.val (.int (i * j))) := by
  show (match (if okMul i j = true then some (D.int (i * j)) else none).map O.val with
    | some o => some o
    | none => lnL (.int i) (.int j)) = _
  rw [if_pos (by simp [okMul, h, h'])]
  rfl
theorem bin_div (i j : Int) (h : 0 < j) (h' : j.natAbs < lim4) : binF .FloorDiv (.int i) (.int j) = some (.val (.int (i / j))) := by
  show (if okDiv i j = true then some (D.int (i / j)) else none).map O.val = _
  rw [if_pos (by simp [okDiv, h, h'])]
  rfl
theorem bin_mod (i j : Int) (h : 0 < j) : binF .Mod (.int i) (.int j) = some (.val (.int (i % j))) := by
  show (if decide (0 < j) = true then some (D.int (i % j)) else none).map O.val = _
  rw [if_pos (by simp [h])]
  rfl
theorem bin_pow (i j : Int) (h : 0 ≤ j) (h2 : j ≤ 1000) (h' : i.natAbs < 2 ^ 64) : binF .Pow (.int i) (.int j) = some (.val (.int (i ^ j.toNat))) := by
  show (if okPow i j = true then some (D.int (i ^ j.toNat)) else none).map O.val = _
  rw [if_pos (by simp [okPow, h, h2, h'])]
  rfl
@[simp] theorem cmp_lt (i j : Int) : cmpF .Lt (.int i) (.int j) = some (.bl (decide (i < j))) := rfl
@[simp] theorem cmp_le (i j : Int) : cmpF .LtE (.int i) (.int j) = some (.bl (decide (i ≤ j))) := rfl
@[simp] theorem cmp_gt (i j : Int) : cmpF .Gt (.int i) (.int j) = some (.bl (decide (j < i))) := rfl
@[simp] theorem cmp_ge (i j : Int) : cmpF .GtE (.int i) (.int j) = some (.bl (decide (j ≤ i))) := rfl
theorem bnd_ok {α β : Type} {m : M α} {f : α → M β} {ρ ρ' : Sl} {a : α} (h : m ρ = .ok a ρ') : bnd m f ρ = f a ρ' := by unfold bnd; rw [h]
theorem bnd_ret {α β : Type} {f : α → M β} {ρ : Sl} {a : α} : bnd (ret a) f ρ = f a ρ := rfl
theorem lift_some {α : Type} (a : α) : lift (some a) = ret a := rfl
theorem ret_ap {α : Type} (a : α) (ρ : Sl) : ret a ρ = .ok a ρ := rfl
/-- a loop that runs through -/
theorem loop_ok {t : O → M Unit} {b : M Fl} (I : Nat → Sl → Prop) : ∀ (ds : List D) (k : Nat) (ρ : Sl), I k ρ →
    (∀ i d ρ, ds[i]? = some d → I (k + i) ρ → ∃ ρ1 f ρ2, t (.val d) ρ = .ok () ρ1 ∧ b ρ1 = .ok f ρ2 ∧ (f = .nx ∨ f = .ct) ∧ I (k + i + 1) ρ2) → ∃ ρ', mLoop t b ds ρ = .ok .nx ρ' ∧ I (k + ds.length) ρ'
  | [], k, ρ, h0, _ => ⟨ρ, rfl, h0⟩
  | d :: ds, k, ρ, h0, hs => by
    obtain ⟨ρ1, f, ρ2, h1, h2, hf, h3⟩ := hs 0 d ρ rfl h0
    obtain ⟨ρ', h4, h5⟩ := loop_ok I ds (k + 1) ρ2 h3 fun i d' ρ' hd hi => by
      have := hs (i + 1) d' ρ' (by simpa using hd) (by rw [show k + (i + 1) = k + 1 + i by omega]; exact hi)
      rw [show k + 1 + i + 1 = k + (i + 1) + 1 by omega]
      exact this
    refine ⟨ρ', ?_, by rw [List.length_cons, show k + (ds.length + 1) = k + 1 + ds.length by omega]; exact h5⟩
    rw [mLoop, bnd_ok h1, bnd_ok h2]
    rcases hf with rfl | rfl <;> exact h4
theorem comps_ok {vs : List Nat} {t : O → M Unit} {c : M Bool} {e : M O} (I : Nat → List O → Sl → Prop) : ∀ (ds : List D) (k : Nat) (acc : List O) (ρ : Sl), I k acc ρ →
    (∀ i d acc ρ, ds[i]? = some d → I (k + i) acc ρ → ∃ ρ1 b ρ2, t (.val d) ρ = .ok () ρ1 ∧ c ρ1 = .ok b ρ2 ∧ (b = true → ∃ o ρ3, e ρ2 = .ok o ρ3 ∧ I (k + i + 1) (acc ++ [o]) (wipeO ρ3 vs)) ∧ (b = false → I (k + i + 1) acc (wipeO ρ2 vs))) →
    ∃ os ρ', mComps vs t c e ds acc ρ = .ok os ρ' ∧ I (k + ds.length) os ρ'
  | [], k, acc, ρ, h0, _ => ⟨acc, ρ, rfl, h0⟩
  | d :: ds, k, acc, ρ, h0, hs => by
    obtain ⟨ρ1, b, ρ2, h1, h2, ht, hf⟩ := hs 0 d acc ρ rfl h0
    have next : ∀ acc' ρ3, I (k + 1) acc' ρ3 → ∃ os ρ', mComps vs t c e ds acc' ρ3 = .ok os ρ' ∧ I (k + (d :: ds).length) os ρ' := fun acc' ρ3 h3 => by
      have := comps_ok I ds (k + 1) acc' ρ3 h3 fun i d' acc'' ρ' hd hi => by
        have := hs (i + 1) d' acc'' ρ' (by simpa using hd) (by rw [show k + (i + 1) = k + 1 + i by omega]; exact hi)
        rw [show k + 1 + i + 1 = k + (i + 1) + 1 by omega]
        exact this
      rw [List.length_cons, show k + (ds.length + 1) = k + 1 + ds.length by omega]
      exact this
    cases b with
    | true =>
      obtain ⟨o, ρ3, h3, h4⟩ := ht rfl
      obtain ⟨os, ρ', h5, h6⟩ := next _ _ h4
      refine ⟨os, ρ', ?_, h6⟩
      rw [mComps, bnd_ok h1, bnd_ok h2, if_pos rfl, bnd_ok h3]
      exact h5
    | false =>
      obtain ⟨os, ρ', h5, h6⟩ := next _ _ (hf rfl)
      refine ⟨os, ρ', ?_, h6⟩
      rw [mComps, bnd_ok h1, bnd_ok h2, if_neg (by decide)]
      exact h5
/-- a comprehension over data that changes nothing -/
theorem comps_map {α : Type} {vs : List Nat} {t : O → M Unit} {c : M Bool} {e : M O} {ρ : Sl} (f : α → D) (g : α → O) : ∀ (xs : List α) (acc : List O),
    (∀ x ∈ xs, ∃ ρ1 ρ2 ρ3, t (.val (f x)) ρ = .ok () ρ1 ∧ c ρ1 = .ok true ρ2 ∧ e ρ2 = .ok (g x) ρ3 ∧ wipeO ρ3 vs = ρ) → mComps vs t c e (xs.map f) acc ρ = .ok (acc ++ xs.map g) ρ
  | [], acc, _ => by simp [mComps, ret]
  | x :: xs, acc, h => by
    obtain ⟨ρ1, ρ2, ρ3, h1, h2, h3, h4⟩ := h x List.mem_cons_self
    have ih := comps_map f g xs (acc ++ [g x]) fun y hy => h y (List.mem_cons_of_mem _ hy)
    rw [List.map_cons, mComps, bnd_ok h1, bnd_ok h2, if_pos rfl, bnd_ok h3]
    show mComps vs t c e (xs.map f) (acc ++ [g x]) (wipeO ρ3 vs) = _
    rw [h4, ih]
    simp
theorem comp_ok {vs : List Nat} {i : M (List D)} {t : O → M Unit} {c : M Bool} {e : M O} {ρ ρ1 ρ2 : Sl} {ds : List D} {os : List O} (h1 : i ρ = .ok ds ρ1) (hl : ds.length ≤ 1000000) (h2 : mComps vs t c e ds [] (wipeO ρ1 vs) = .ok os ρ2) : mComp vs i t c e ρ = .ok (.lst os) ρ2 := by
  unfold mComp
  rw [bnd_ok h1, if_pos hl]
  unfold noEx
  have h3 : bnd (mWipe vs) (fun _ => bnd (mComps vs t c e ds []) fun os => ret (O.lst os)) ρ1 = .ok (.lst os) ρ2 := by
    show bnd (mComps vs t c e ds []) (fun os => ret (O.lst os)) (wipeO ρ1 vs) = _
    rw [bnd_ok h2]
    rfl
  rw [h3]
/-- a comprehension over a name's own list, which stays -/
theorem compsO_ok {i : Nat} {vs : List Nat} {t : O → M Unit} {c : M Bool} {e : M O} (ds : List D) (I : Nat → List O → Sl → Prop) (hI : ∀ k acc ρ, I k acc ρ → ρ[i]? = some (some (.lst (ds.map O.val)))) (hs : ∀ k d acc ρ, ds[k]? = some d → I k acc ρ → ∃ ρ1 b ρ2, t (.val d) ρ = .ok () ρ1 ∧ c ρ1 = .ok b ρ2 ∧ (b = true → ∃ o ρ3, e ρ2 = .ok o ρ3 ∧ I (k + 1) (acc ++ [o]) (wipeO ρ3 vs)) ∧ (b = false → I (k + 1) acc (wipeO ρ2 vs))) :
    ∀ (N k : Nat) (acc : List O) (ρ : Sl), k ≤ ds.length → ds.length < N + k → I k acc ρ → ∃ os ρ', mCompsO i vs t c e N k acc ρ = .ok os ρ' ∧ I ds.length os ρ'
  | 0, k, acc, ρ, h1, h2, _ => by omega
  | N + 1, k, acc, ρ, h1, h2, h0 => by
    have hρ := hI k acc ρ h0
    rw [mCompsO]
    dsimp only
    rw [hρ]
    dsimp only
    rw [List.getElem?_map]
    cases q : ds[k]? with
    | none =>
      have : k = ds.length := by
        have := List.getElem?_eq_none_iff.mp q
        omega
      subst this
      exact ⟨acc, ρ, rfl, h0⟩
    | some d =>
      have hk : k < ds.length := (List.getElem?_eq_some_iff.mp q).1
      obtain ⟨ρ1, b, ρ2, e1, e2, ht, hf⟩ := hs k d acc ρ q h0
      dsimp only [Option.map_some]
      cases b with
      | true =>
        obtain ⟨o, ρ3, e3, h4⟩ := ht rfl
        obtain ⟨os, ρ', e5, e6⟩ := compsO_ok ds I hI hs N (k + 1) _ _ hk (by omega) h4
        refine ⟨os, ρ', ?_, e6⟩
        rw [bnd_ok e1, bnd_ok e2, if_pos rfl, bnd_ok e3]
        exact e5
      | false =>
        obtain ⟨os, ρ', e5, e6⟩ := compsO_ok ds I hI hs N (k + 1) _ _ hk (by omega) (hf rfl)
        refine ⟨os, ρ', ?_, e6⟩
        rw [bnd_ok e1, bnd_ok e2, if_neg (by decide)]
        exact e5
theorem compO_ok {vs : List Nat} {i : Nat} {t : O → M Unit} {c : M Bool} {e : M O} {ρ ρ2 : Sl} {os : List O} (h2 : mCompsO i vs t c e 1000000 0 [] (wipeO ρ vs) = .ok os ρ2) : mCompO vs i t c e ρ = .ok (.lst os) ρ2 := by
  unfold mCompO noEx
  have h3 : bnd (mWipe vs) (fun _ => bnd (mCompsO i vs t c e 1000000 0 []) fun os => ret (O.lst os)) ρ = .ok (.lst os) ρ2 := by
    show bnd (mCompsO i vs t c e 1000000 0 []) (fun os => ret (O.lst os)) (wipeO ρ vs) = _
    rw [bnd_ok h2]
    rfl
  rw [h3]
end Dl

namespace Dl
open PySem L2
section
variable {α β : Type}
@[simp] theorem bnd_ap (m : M α) (f : α → M β) (ρ : Sl) : bnd m f ρ = (match m ρ with
  | .ok a ρ' => f a ρ'
  | .ex x ρ' => .ex x ρ'
  | .fail => .fail) := rfl
@[simp] theorem ret_ap' (a : α) (ρ : Sl) : Dl.ret a ρ = .ok a ρ := rfl
@[simp] theorem stop_ap (ρ : Sl) : (stop : M α) ρ = .fail := rfl
@[simp] theorem lift_some' (a : α) : lift (some a) = Dl.ret a := rfl
@[simp] theorem lift_none' : (lift none : M α) = stop := rfl
@[simp low] theorem mVar_ap (i : Nat) (ρ : Sl) : mVar i ρ = (match ρ[i]? with
  | some (some o) => .ok (.val (frz o)) (ρ.set i (some (.val (frz o))))
  | _ => .fail) := rfl
@[simp low] theorem mHas_ap (i : Nat) (m : M α) (ρ : Sl) : mHas i m ρ = (match ρ[i]? with
  | some (some _) => m ρ
  | _ => .fail) := rfl
@[simp low] theorem mHasL_ap (i : Nat) (m : M α) (ρ : Sl) : mHasL i m ρ = (match ρ[i]? with
  | some (some (.lst _)) => m ρ
  | _ => .fail) := rfl
@[simp low] theorem mIxS_ap (i : Nat) (m : M O) (ρ : Sl) : mIxS i m ρ = mHas i (bnd m fun k => mIxAt i (frz k)) ρ := rfl
@[simp low] theorem mIxAt_ap (i : Nat) (k : D) (ρ : Sl) : mIxAt i k ρ = (match ρ[i]? with
  | some (some o) => (match ixO o k with
    | some d => .ok (.val d) ρ
    | none => .fail)
  | _ => .fail) := rfl
@[simp low] theorem mApp_ap (i : Nat) (m : M O) (ρ : Sl) : mApp i m ρ = mHasL i (bnd m fun o => mAppAt i o) ρ := rfl
@[simp low] theorem mAppAt_ap (i : Nat) (o : O) (ρ : Sl) : mAppAt i o ρ = (match ρ[i]? with
  | some (some (.lst l)) => if l.length < 1000000 then .ok (.val .non) (ρ.set i (some (.lst (l ++ [o])))) else .fail
  | _ => .fail) := rfl
@[simp low] theorem mPop_ap (i : Nat) (m : M O) (ρ : Sl) : mPop i m ρ = mHasL i (bnd m fun k => mPopAt i (frz k)) ρ := rfl
@[simp low] theorem mPopAt_ap (i : Nat) (k : D) (ρ : Sl) : mPopAt i k ρ = (match ρ[i]?, k with
  | some (some (.lst l)), .int z => (match ixN l.length z with
    | some n => (match l[n]? with
      | some o => if l.length ≤ 1000000 then .ok o (ρ.set i (some (.lst (l.eraseIdx n)))) else .fail
      | none => .fail)
    | none => .fail)
  | _, _ => .fail) := rfl
@[simp low] theorem mLkM_ap (f : D → D → Option D) (i : Nat) (m : M O) (ρ : Sl) : mLkM f i m ρ = mHasL i (bnd m fun k => fun ρ => match ρ[i]? with
  | some (some o) => (match f (frz o) (frz k) with
    | some d => .ok (.val d) ρ
    | none => .fail)
  | _ => .fail) ρ := rfl
@[simp low] theorem mPut_ap (i : Nat) (m : M O) (o : O) (ρ : Sl) : mPut i m o ρ = mHas i (bnd m fun k => mPutAt i (frz k) o) ρ := rfl
@[simp low] theorem mPutAt_ap (i : Nat) (k : D) (o : O) (ρ : Sl) : mPutAt i k o ρ = (match ρ[i]?, k with
  | some (some (.lst l)), .int z => (match ixN l.length z with
    | some n => .ok () (ρ.set i (some (.lst (l.set n o))))
    | none => .fail)
  | _, _ => .fail) := rfl
@[simp low] theorem mSet_ap (ok : Nat → Bool) (i : Nat) (o : O) (ρ : Sl) : mSet ok i o ρ = (if ok i = true ∧ i < ρ.length then .ok () (ρ.set i (some o)) else .fail) := rfl
@[simp low] theorem mSeq_ap (a b : M Fl) (ρ : Sl) : mSeq a b ρ = (match a ρ with
  | .ok .nx ρ' => b ρ'
  | .ok f ρ' => .ok f ρ'
  | .ex x ρ' => .ex x ρ'
  | .fail => .fail) := by
  unfold mSeq
  rw [bnd_ap]
  cases a ρ with
  | ok f ρ' => cases f <;> rfl
  | ex => rfl
  | fail => rfl
@[simp low] theorem mDo_ap (m : M O) (ρ : Sl) : mDo m ρ = (match m ρ with
  | .ok _ ρ' => .ok .nx ρ'
  | .ex x ρ' => .ex x ρ'
  | .fail => .fail) := by
  unfold mDo
  rw [bnd_ap]
  cases m ρ <;> rfl
@[simp low] theorem mRet_ap (m : M O) (ρ : Sl) : mRet m ρ = (match m ρ with
  | .ok o ρ' => .ok (.rt o) ρ'
  | .ex x ρ' => .ex x ρ'
  | .fail => .fail) := by
  unfold mRet
  rw [bnd_ap]
  cases m ρ <;> rfl
@[simp low] theorem mAsg_ap (m : M O) (t : O → M Unit) (ρ : Sl) : mAsg m t ρ = (match m ρ with
  | .ok o ρ' => (match t o ρ' with
    | .ok _ ρ2 => .ok .nx ρ2
    | .ex x ρ2 => .ex x ρ2
    | .fail => .fail)
  | .ex x ρ' => .ex x ρ'
  | .fail => .fail) := by
  unfold mAsg
  rw [bnd_ap]
  cases m ρ with
  | ok o ρ' =>
    dsimp only
    rw [bnd_ap]
    cases t o ρ' <;> rfl
  | ex => rfl
  | fail => rfl
@[simp low] theorem mIfS_ap (c : M Bool) (a b : M Fl) (ρ : Sl) : mIfS c a b ρ = (match c ρ with
  | .ok x ρ' => if x = true then a ρ' else b ρ'
  | .ex x ρ' => .ex x ρ'
  | .fail => .fail) := by
  unfold mIfS
  rw [bnd_ap]
  cases c ρ with
  | ok f ρ' => cases f <;> rfl
  | ex => rfl
  | fail => rfl
@[simp low] theorem mIf_ap (c : M Bool) (a b : M O) (ρ : Sl) : mIf c a b ρ = (match c ρ with
  | .ok x ρ' => if x = true then a ρ' else b ρ'
  | .ex x ρ' => .ex x ρ'
  | .fail => .fail) := by
  unfold mIf
  rw [bnd_ap]
  cases c ρ with
  | ok f ρ' => cases f <;> rfl
  | ex => rfl
  | fail => rfl
@[simp low] theorem mAnd_ap (a b : M Bool) (ρ : Sl) : mAnd a b ρ = (match a ρ with
  | .ok x ρ' => if x = true then b ρ' else .ok false ρ'
  | .ex x ρ' => .ex x ρ'
  | .fail => .fail) := by
  unfold mAnd
  rw [bnd_ap]
  cases a ρ with
  | ok f ρ' => cases f <;> rfl
  | ex => rfl
  | fail => rfl
@[simp low] theorem mOr_ap (a b : M Bool) (ρ : Sl) : mOr a b ρ = (match a ρ with
  | .ok x ρ' => if x = true then .ok true ρ' else b ρ'
  | .ex x ρ' => .ex x ρ'
  | .fail => .fail) := by
  unfold mOr
  rw [bnd_ap]
  cases a ρ with
  | ok f ρ' => cases f <;> rfl
  | ex => rfl
  | fail => rfl
@[simp low] theorem mNot_ap (a : M Bool) (ρ : Sl) : mNot a ρ = (match a ρ with
  | .ok x ρ' => .ok (!x) ρ'
  | .ex x ρ' => .ex x ρ'
  | .fail => .fail) := by
  unfold mNot
  rw [bnd_ap]
  cases a ρ <;> rfl
@[simp low] theorem mB_ap (m : M O) (ρ : Sl) : mB m ρ = (match m ρ with
  | .ok (.val (.bl b)) ρ' => .ok b ρ'
  | .ok _ _ => .fail
  | .ex x ρ' => .ex x ρ'
  | .fail => .fail) := by
  unfold mB
  rw [bnd_ap]
  cases m ρ with
  | ok o ρ' =>
    cases o with
    | val d => cases d <;> rfl
    | lst => rfl
  | ex => rfl
  | fail => rfl
@[simp] theorem opv_sl (i : Nat) : opv (.sl i) = mHas i (Dl.ret (.s i)) := rfl
@[simp] theorem opv_ev (m : M O) : opv (.ev m) = bnd m fun o => Dl.ret (.d (frz o)) := rfl
@[simp] theorem rdv_d (d : D) : rdv (.d d) = Dl.ret d := rfl
@[simp] theorem rdv_s (i : Nat) (ρ : Sl) : rdv (.s i) ρ = (match ρ[i]? with
  | some (some o) => .ok (frz o) ρ
  | _ => .fail) := rfl
@[simp low] theorem mLook_ap (f : D → D → Option D) (a b : Ag) (ρ : Sl) : mLook f a b ρ = bnd (opv a) (fun x => bnd (opv b) fun y => bnd (rdv x) fun d => bnd (rdv y) fun e => bnd (lift (f d e)) fun r => Dl.ret (.val r)) ρ := rfl
@[simp low] theorem mLookB_ap (f : D → D → Option D) (a b : Ag) (ρ : Sl) : mLookB f a b ρ = mB (mLook f a b) ρ := rfl
@[simp low] theorem mLook1_ap (f : D → Option D) (a : Ag) (ρ : Sl) : mLook1 f a ρ = bnd (opv a) (fun x => bnd (rdv x) fun d => bnd (lift (f d)) fun r => Dl.ret (.val r)) ρ := rfl
@[simp low] theorem mOp2_ap (f : D → D → Option O) (a b : M O) (ρ : Sl) : mOp2 f a b ρ = bnd a (fun x => bnd b fun y => lift (f (frz x) (frz y))) ρ := rfl
@[simp low] theorem mRaise_ap (c : Str) (ks : List Str) (m : M (List O)) (ρ : Sl) : mRaise c ks m ρ = bnd m (fun os => fun ρ => if os.length = ks.length ∧ os.length ≤ 1000 then .ex ⟨c, ks.reverse, (frzs os).reverse⟩ ρ else .fail) ρ := rfl
@[simp low] theorem mTry_ap (l : List (Str × Bool)) (i j : Nat) (m : M Fl) (ρ : Sl) : mTry l i j m ρ = (match m ρ with
  | .ok f ρ' => .ok f ρ'
  | .ex x ρ' => (match l.lookup x.cls with
    | some true => .ok .nx ((ρ'.set i none).set j (some (.val (.obj x.cls x.ks x.ds))))
    | some false => .ex x ρ'
    | none => .fail)
  | .fail => .fail) := rfl
@[simp low] theorem mOp1_ap (f : D → Option O) (a : M O) (ρ : Sl) : mOp1 f a ρ = bnd a (fun x => lift (f (frz x))) ρ := rfl
@[simp low] theorem mOpN_ap (f : List D → Option O) (a : M (List O)) (ρ : Sl) : mOpN f a ρ = bnd a (fun x => lift (f (frzs x))) ρ := rfl
@[simp low] theorem mScN_ap (f : List D → Option D) (a : M (List O)) (ρ : Sl) : mScN f a ρ = bnd a (fun x => lift ((f (frzs x)).map O.val)) ρ := rfl
@[simp low] theorem mCons_ap (m : M O) (ms : M (List O)) (ρ : Sl) : mCons m ms ρ = bnd m (fun o => bnd ms fun os => Dl.ret (o :: os)) ρ := rfl
@[simp low] theorem mTup_ap (ms : M (List O)) (ρ : Sl) : mTup ms ρ = (match ms ρ with
  | .ok os ρ' => if os.length ≤ 1000 then .ok (.val (.tup (frzs os))) ρ' else .fail
  | .ex x ρ' => .ex x ρ'
  | .fail => .fail) := by
  unfold mTup
  rw [bnd_ap]
  cases ms ρ with
  | ok os ρ' => dsimp only; split <;> rfl
  | ex => rfl
  | fail => rfl
@[simp low] theorem mLst_ap (ms : M (List O)) (ρ : Sl) : mLst ms ρ = (match ms ρ with
  | .ok os ρ' => if os.length ≤ 1000 then .ok (.lst os) ρ' else .fail
  | .ex x ρ' => .ex x ρ'
  | .fail => .fail) := by
  unfold mLst
  rw [bnd_ap]
  cases ms ρ with
  | ok os ρ' => dsimp only; split <;> rfl
  | ex => rfl
  | fail => rfl
@[simp low] theorem mChain_ap (f g : D → D → Option D) (a b c : M O) (ρ : Sl) : mChain f g a b c ρ = bnd a (fun x => bnd b fun y => bnd (lift (f (frz x) (frz y))) fun r => match r with
  | .bl true => bnd c fun z => bnd (lift (g (frz y) (frz z))) fun r => Dl.ret (.val r)
  | .bl false => Dl.ret (.val (.bl false))
  | _ => stop) ρ := rfl
@[simp low] theorem mAndV_ap (a b : M O) (ρ : Sl) : mAndV a b ρ = (match a ρ with
  | .ok (.val (.bl true)) ρ' => b ρ'
  | .ok (.val (.bl false)) ρ' => .ok (.val (.bl false)) ρ'
  | .ok _ _ => .fail
  | .ex x ρ' => .ex x ρ'
  | .fail => .fail) := by
  unfold mAndV
  rw [bnd_ap]
  cases a ρ with
  | ok o ρ' =>
    cases o with
    | val d =>
      cases d with
      | bl b => cases b <;> rfl
      | _ => rfl
    | lst => rfl
  | ex => rfl
  | fail => rfl
@[simp low] theorem mOrV_ap (a b : M O) (ρ : Sl) : mOrV a b ρ = (match a ρ with
  | .ok (.val (.bl true)) ρ' => .ok (.val (.bl true)) ρ'
  | .ok (.val (.bl false)) ρ' => b ρ'
  | .ok _ _ => .fail
  | .ex x ρ' => .ex x ρ'
  | .fail => .fail) := by
  unfold mOrV
  rw [bnd_ap]
  cases a ρ with
  | ok o ρ' =>
    cases o with
    | val d =>
      cases d with
      | bl b => cases b <;> rfl
      | _ => rfl
    | lst => rfl
  | ex => rfl
  | fail => rfl
@[simp low] theorem mTake_ap (i : Nat) (ρ : Sl) : mTake i ρ = (match ρ[i]? with
  | some (some (.val d)) => .ok (.val d, none) ρ
  | some (some (.lst l)) => .ok (.lst l, some i) (ρ.set i none)
  | _ => .fail) := rfl
@[simp] theorem mArgs_nil : mArgs [] = Dl.ret [] := rfl
@[simp] theorem mArgs_sl (i : Nat) (as : List Ag) (ρ : Sl) : mArgs (.sl i :: as) ρ = mHas i (bnd (mArgs as) fun rs => bnd (mTake i) fun r => Dl.ret (r :: rs)) ρ := rfl
@[simp] theorem mArgs_ev (m : M O) (as : List Ag) (ρ : Sl) : mArgs (.ev m :: as) ρ = bnd m (fun o => bnd (mArgs as) fun rs => Dl.ret ((o, none) :: rs)) ρ := rfl
@[simp low] theorem mCall_ap (f : FM) (as : List Ag) (ρ : Sl) : mCall f as ρ = (match mArgs as ρ with
  | .ok rs ρ' => (match f (rs.map (·.1)) with
    | .ok r outs => .ok r (giveBack rs outs ρ')
    | .ex x outs => .ex x (giveBack rs outs ρ')
    | .fail => .fail)
  | .ex x ρ' => .ex x ρ'
  | .fail => .fail) := by
  unfold mCall
  rw [bnd_ap]
  cases mArgs as ρ <;> rfl
@[simp] theorem gb_some (o : O) (i : Nat) (rs : List (O × Option Nat)) (p : O) (outs : List O) (ρ : Sl) : giveBack ((o, some i) :: rs) (p :: outs) ρ = (giveBack rs outs ρ).set i (some p) := rfl
@[simp] theorem gb_none (o : O) (rs : List (O × Option Nat)) (p : O) (outs : List O) (ρ : Sl) : giveBack ((o, none) :: rs) (p :: outs) ρ = giveBack rs outs ρ := rfl
@[simp] theorem gb_nil (outs : List O) (ρ : Sl) : giveBack [] outs ρ = ρ := rfl
@[simp low] theorem mFor_ap (i : M (List D)) (t : O → M Unit) (b : M Fl) (ρ : Sl) : mFor i t b ρ = (match i ρ with
  | .ok ds ρ' => mLoop t b ds ρ'
  | .ex x ρ' => .ex x ρ'
  | .fail => .fail) := by
  unfold mFor
  rw [bnd_ap]
  cases i ρ <;> rfl
@[simp low] theorem mRng_ap (ms : M (List O)) (ρ : Sl) : mRng ms ρ = bnd ms (fun os => lift (rng (frzs os))) ρ := rfl
@[simp low] theorem mSeqI_ap (m : M O) (ρ : Sl) : mSeqI m ρ = bnd m (fun o => lift (seqOf (frz o))) ρ := rfl
@[simp low] theorem mGNil_ap : mGNil [] = Dl.ret () := rfl
@[simp low] theorem mGCons_ap (m : O → M Unit) (ms : List O → M Unit) (o : O) (os : List O) : mGCons m ms (o :: os) = bnd (m o) fun _ => ms os := rfl
@[simp] theorem mGTup_tup (n : Nat) (ms : List O → M Unit) (ds : List D) : mGTup n ms (.val (.tup ds)) = (if ds.length = n then ms (ds.map O.val) else stop) := rfl
@[simp low] theorem mPar2_ap (ok : Nat → Bool) (i j : Nat) (ms : M (List O)) (ρ : Sl) : mPar2 ok i j ms ρ = (match ms ρ with
  | .ok [a, b] ρ' => bnd (mSet ok i a) (fun _ => bnd (mSet ok j b) fun _ => Dl.ret .nx) ρ'
  | .ok _ _ => .fail
  | .ex x ρ' => .ex x ρ'
  | .fail => .fail) := by
  unfold mPar2
  rw [bnd_ap]
  cases ms ρ with
  | ok os ρ' => rcases os with _ | ⟨a, _ | ⟨b, _ | ⟨c, d⟩⟩⟩ <;> rfl
  | ex => rfl
  | fail => rfl
@[simp low] theorem mPar3_ap (ok : Nat → Bool) (i j l : Nat) (ms : M (List O)) (ρ : Sl) : mPar3 ok i j l ms ρ = (match ms ρ with
  | .ok [a, b, c] ρ' => bnd (mSet ok i a) (fun _ => bnd (mSet ok j b) fun _ => bnd (mSet ok l c) fun _ => Dl.ret .nx) ρ'
  | .ok _ _ => .fail
  | .ex x ρ' => .ex x ρ'
  | .fail => .fail) := by
  unfold mPar3
  rw [bnd_ap]
  cases ms ρ with
  | ok os ρ' => rcases os with _ | ⟨a, _ | ⟨b, _ | ⟨c, _ | ⟨d, e⟩⟩⟩⟩ <;> rfl
  | ex => rfl
  | fail => rfl
@[simp low] theorem mUnp_ap (n : Nat) (ms : M (List O)) (mg : List O → M Unit) (ρ : Sl) : mUnp n ms mg ρ = (match ms ρ with
  | .ok os ρ' => if os.length ≤ 1000 ∧ os.length = n then bnd (mg os) (fun _ => Dl.ret .nx) ρ' else .fail
  | .ex x ρ' => .ex x ρ'
  | .fail => .fail) := by
  unfold mUnp
  rw [bnd_ap]
  cases ms ρ with
  | ok os ρ' => dsimp only; split <;> rfl
  | ex => rfl
  | fail => rfl
@[simp low] theorem mEnum_ap (m : M O) (ρ : Sl) : mEnum m ρ = bnd m (fun o => bnd (lift (seqOf (frz o))) fun l => Dl.ret (enumL 0 l)) ρ := rfl
@[simp low] theorem mZip_ap (ms : M (List O)) (ρ : Sl) : mZip ms ρ = bnd ms (fun os => lift (zipD (frzs os))) ρ := rfl
@[simp low] theorem mStar_ap (m : M O) (ms : M (List O)) (ρ : Sl) : mStar m ms ρ = bnd m (fun o => bnd (lift (seqOf (frz o))) fun l => bnd ms fun os => Dl.ret (l.map O.val ++ os)) ρ := rfl
@[simp low] theorem mSlc_ap (a : M O) (l h : M (Option Int)) (ρ : Sl) : mSlc a l h ρ = bnd a (fun x => bnd l fun lo => bnd h fun hi => lift (slF (frz x) lo hi)) ρ := rfl
@[simp low] theorem mSlcS_ap (i : Nat) (l h : M (Option Int)) (ρ : Sl) : mSlcS i l h ρ = mHas i (bnd l fun lo => bnd h fun hi => mSlcAt i lo hi) ρ := rfl
@[simp low] theorem mSlcAt_ap (i : Nat) (lo hi : Option Int) (ρ : Sl) : mSlcAt i lo hi ρ = (match ρ[i]? with
  | some (some o) => (match frzV o with
    | some d => (match slF d lo hi with
      | some r => .ok r ρ
      | none => .fail)
    | none => .fail)
  | _ => .fail) := rfl
@[simp] theorem frzV_val (d : D) : frzV (.val d) = some d := rfl
theorem valsO_map : ∀ ds : List D, valsO (ds.map O.val) = some ds
  | [] => rfl
  | d :: ds => by rw [List.map_cons, valsO, valsO_map ds]; rfl
@[simp] theorem frzV_lst (ds : List D) : frzV (.lst (ds.map O.val)) = some (.lst ds) := by
  show (valsO (ds.map O.val)).map D.lst = _
  rw [valsO_map]; rfl
@[simp low] theorem mCompS_ap (vs : List Nat) (i : Nat) (mi : M (List D)) (t : O → M Unit) (c : M Bool) (e : M O) (ρ : Sl) : mCompS vs i mi t c e ρ = (match ρ[i]? with
  | some (some (.lst l)) => if l.all isV = true then mCompO vs i t c e ρ else mComp vs mi t c e ρ
  | _ => mComp vs mi t c e ρ) := rfl
@[simp] theorem isV_v (d : D) : isV (.val d) = true := rfl
@[simp] theorem isV_l (l : List O) : isV (.lst l) = false := rfl
@[simp] theorem allV' (ds : List D) : (ds.map O.val).all isV = true := by
  induction ds with
  | nil => rfl
  | cons d ds ih => rw [List.map_cons, List.all_cons, ih]; rfl
@[simp low] theorem mPart_ap (m : M O) (ρ : Sl) : mPart m ρ = bnd m (fun o => match frz o with
  | .int i => Dl.ret (some i)
  | _ => stop) ρ := rfl
@[simp low] theorem mDef_ap (n : Nat) (fs : List Bool) (m : M Fl) (args : List O) : mDef n fs m args = fOut fs args (m (begin n args)) := rfl
@[simp] theorem fOut_rt (fs : List Bool) (args : List O) (r : O) (ρ : Sl) : fOut fs args (.ok (.rt r) ρ) = (match outsOf fs args ρ with
  | some outs => .ok r outs
  | none => .fail) := rfl
@[simp] theorem fOut_exc (fs : List Bool) (args : List O) (x : Ex) (ρ : Sl) : fOut fs args (.ex x ρ) = (match outsOf fs args ρ with
  | some outs => .ex x outs
  | none => .fail) := by
  unfold fOut
  rfl
@[simp] theorem fOut_nx (fs : List Bool) (args : List O) (ρ : Sl) : fOut fs args (.ok .nx ρ) = (match outsOf fs args ρ with
  | some outs => .ok (.val .non) outs
  | none => .fail) := rfl
@[simp] theorem outs_nil (ρ : Sl) : outsOf [] [] ρ = some [] := rfl
@[simp] theorem outs_true (fs : List Bool) (a : O) (as : List O) (o : O) (ρ : Sl) : outsOf (true :: fs) (a :: as) (some o :: ρ) = (outsOf fs as ρ).map (o :: ·) := rfl
@[simp] theorem outs_false (fs : List Bool) (d : D) (as : List O) (o : Option O) (ρ : Sl) : outsOf (false :: fs) (.val d :: as) (o :: ρ) = (outsOf fs as ρ).map (.val d :: ·) := rfl
@[simp] theorem frz_val (d : D) : frz (.val d) = d := rfl
@[simp] theorem frz_lst (l : List O) : frz (.lst l) = .lst (frzs l) := rfl
@[simp] theorem frzs_nil : frzs [] = [] := rfl
@[simp] theorem frzs_cons (o : O) (l : List O) : frzs (o :: l) = frz o :: frzs l := rfl
@[simp] theorem frzs_map (ds : List D) : frzs (ds.map O.val) = ds := by
  induction ds with
  | nil => rfl
  | cons d ds ih => rw [List.map_cons, frzs, ih]; rfl
@[simp] theorem ixO_lst (l : List O) (i : Int) : ixO (.lst l) (.int i) = (match atI l i with
  | some (.val d) => some d
  | _ => none) := rfl
@[simp] theorem ixO_tup (l : List D) (i : Int) : ixO (.val (.tup l)) (.int i) = atI l i := rfl
@[simp] theorem ixO_vlst (l : List D) (i : Int) : ixO (.val (.lst l)) (.int i) = atI l i := rfl
@[simp] theorem ixO_fl (l : List Int) (i : Int) : ixO (.val (.fl l)) (.int i) = (atI l i).map D.int := rfl
@[simp] theorem ixD_ap (d k : D) : ixD d k = (ixO (.val d) k).map O.val := rfl
@[simp] theorem atI_0 {γ : Type} (a : γ) (l : List γ) : atI (a :: l) 0 = some a := by
  unfold atI ixN
  rw [if_pos (by omega), if_pos (by simp only [List.length_cons]; omega)]
  rfl
@[simp] theorem atI_1 {γ : Type} (a b : γ) (l : List γ) : atI (a :: b :: l) 1 = some b := by
  unfold atI ixN
  rw [if_pos (by omega), if_pos (by simp only [List.length_cons]; omega)]
  rfl
@[simp] theorem atI_2 {γ : Type} (a b c : γ) (l : List γ) : atI (a :: b :: c :: l) 2 = some c := by
  unfold atI ixN
  rw [if_pos (by omega), if_pos (by simp only [List.length_cons]; omega)]
  rfl
@[simp] theorem begin_ap (n : Nat) (args : List O) : begin n args = args.map some ++ List.replicate (n - args.length) none := rfl

@[simp] theorem len_tup (l : List D) : lenD (.tup l) = some (.int l.length) := rfl
@[simp] theorem len_lst (l : List D) : lenD (.lst l) = some (.int l.length) := rfl
@[simp] theorem len_fl (l : List Int) : lenD (.fl l) = some (.int l.length) := rfl
@[simp] theorem seq_tup (l : List D) : seqOf (.tup l) = some l := rfl
@[simp] theorem seq_lst (l : List D) : seqOf (.lst l) = some l := rfl
@[simp] theorem tupN_l (l : List D) : tupN [.lst l] = some (.val (.tup l)) := rfl
@[simp] theorem tupN_t (l : List D) : tupN [.tup l] = some (.val (.tup l)) := rfl
@[simp] theorem max2_ii (i j : Int) : max2 [.int i, .int j] = some (.int (if j > i then j else i)) := rfl
@[simp] theorem min2_ii (i j : Int) : min2 [.int i, .int j] = some (.int (if j < i then j else i)) := rfl
@[simp] theorem abs_i (i : Int) : absD (.int i) = some (.int (if i < 0 then -i else i)) := rfl
@[simp] theorem int_i (i : Int) : intD (.int i) = some (.int i) := rfl
@[simp] theorem int_b (b : Bool) : intD (.bl b) = some (.int (if b then 1 else 0)) := rfl
@[simp low] theorem mRdI_ap (i : Nat) (ρ : Sl) : mRdI i ρ = (match ρ[i]? with
  | some (some (.val (.int a))) => .ok a ρ
  | _ => .fail) := rfl
@[simp] theorem asI_int (a : Int) : asI (.val (.int a)) = Dl.ret a := rfl
@[simp low] theorem mAug_ap (ok : Nat → Bool) (f : Int → Int → Int) (i : Nat) (m : M O) (ρ : Sl) : mAug ok f i m ρ = bnd (mRdI i) (fun a => bnd m fun o => bnd (asI o) fun b => bnd (mSet ok i (.val (.int (f a b)))) fun _ => Dl.ret .nx) ρ := rfl
@[simp low] theorem mAugS_ap (f : Int → Int → Int) (i : Nat) (mk mv : M O) (ρ : Sl) : mAugS f i mk mv ρ = mHas i (bnd mk fun k => bnd (mIxAt i (frz k)) fun x => bnd (asI x) fun a => bnd mv fun o => bnd (asI o) fun b => bnd (mPutAt i (frz k) (.val (.int (f a b)))) fun _ => Dl.ret .nx) ρ := rfl
@[simp low] theorem mDct1_ap (k : Str) (m : M O) (ρ : Sl) : mDct1 k m ρ = bnd m (fun o => Dl.ret (.val (.dct [.inr k] [frz o]))) ρ := rfl
@[simp low] theorem mLstR_ap (m : M O) (ρ : Sl) : mLstR m ρ = bnd m (fun o => bnd (lift (rng [frz o])) fun ds => if ds.length ≤ 1000000 then Dl.ret (.lst (ds.map O.val)) else stop) ρ := rfl
@[simp low] theorem mTupR_ap (m : M O) (ρ : Sl) : mTupR m ρ = bnd m (fun o => bnd (lift (rng [frz o])) fun ds => if ds.length ≤ 1000000 then Dl.ret (.val (.tup ds)) else stop) ρ := rfl
end
end Dl

namespace Dl
open PySem L2 PyData
/-! ### data that is small enough to be shown and compared -/
theorem sk_mem {x : Str} : strOk x = true ↔ ∀ c ∈ x.cps.toList, c < 0x110000 := by
  unfold strOk
  rw [Array.all_eq_true']
  simp
theorem sk_append {x y : Str} (h : strOk x = true) (h' : strOk y = true) : strOk (x ++ y) = true := by
  rw [sk_mem] at *
  intro c hc
  rcases PyProof.Rows.mem_cps_append.mp hc with z | z
  · exact h c z
  · exact h' c z
theorem sk_of (s : String) : strOk (Str.ofString s) = true := by
  rw [sk_mem, Str.ofString_eq_toList]
  intro c hc
  simp only [List.toList_toArray, List.mem_map] at hc
  obtain ⟨ch, _, rfl⟩ := hc
  have := ch.valid
  have h2 : ch.toNat = ch.val.toNat := rfl
  rcases this with h | h
  · have : ch.val.toNat < 55296 := h
    omega
  · have : ch.val.toNat < 1114112 := h.2
    omega
theorem sk_join {sep : Str} (hs : strOk sep = true) : ∀ {ts : List Str}, (∀ t ∈ ts, strOk t = true) → strOk (Str.join sep ts) = true
  | [], _ => sk_of ""
  | [x], h => h x (by simp)
  | x :: y :: r, h => by
    show strOk (x ++ sep ++ Str.join sep (y :: r)) = true
    exact sk_append (sk_append (h x (by simp)) hs) (sk_join hs fun t ht => h t (List.mem_cons_of_mem _ ht))
theorem sk_from : ∀ {ts : List Str} {k : Nat} {acc : Str}, strOk acc = true → (∀ t ∈ ts, strOk t = true) → strOk (textFrom k acc ts) = true
  | [], k, acc, h, _ => h
  | t :: r, k, acc, h, ht => by
    show strOk (textFrom (k + 1) (acc ++ (if k > 0 then ", " else "" : String) ++ t) r) = true
    refine sk_from (sk_append (sk_append h (sk_of _)) (ht t (by simp))) fun u hu => ht u (List.mem_cons_of_mem _ hu)
def scOk : D → Prop
  | .non => True
  | .bl _ => True
  | .int i => i.natAbs < 10 ^ 60
  | _ => False
/-- no deeper than n, of ints, bools, None -/
def Tm : Nat → D → Prop
  | n + 1, .tup l => ∀ d ∈ l, Tm n d
  | n + 1, .lst l => ∀ d ∈ l, Tm n d
  | _, d => scOk d
mutual
def cnt : D → Nat
  | .tup l => cnts l + 1
  | .lst l => cnts l + 1
  | _ => 1
def cnts : List D → Nat
  | [] => 0
  | d :: l => cnt d + cnts l
end
structure TmP (n : Nat) (d : D) : Prop where
  p : pl d = true
  pr : plr d = true
  c : (toP d).canLay0 = true
  dp : (toP d).depth ≤ n
  s : (toP d).showable = true
  h : (toP d).hasDict = false
  sl : (toP d).shown.length + 5 ≤ 75 * cnt d
  k : strOk (toP d).shown = true
theorem tp_sc {n : Nat} {d : D} (h : scOk d) : TmP n d := by
  cases d with
  | non => exact ⟨rfl, rfl, rfl, Nat.zero_le _, rfl, rfl, by decide, sk_of _⟩
  | bl b => exact ⟨rfl, rfl, rfl, Nat.zero_le _, rfl, rfl, by cases b <;> decide, by cases b <;> exact sk_of _⟩
  | int i =>
    have h : i.natAbs < 10 ^ 60 := h
    refine ⟨rfl, rfl, rfl, Nat.zero_le _, ?_, rfl, ?_, ?_⟩
    · show decide (i.natAbs.log2 < 1920) = true
      refine decide_eq_true ?_
      by_cases h0 : i.natAbs = 0
      · rw [h0]; decide
      · refine (Nat.log2_lt h0).mpr ?_
        have h2 : (10 : Nat) ^ 60 ≤ 2 ^ 1920 := by decide
        omega
    · show (PyData.int i).shown.length + 5 ≤ 75 * 1
      rw [PyData.shown_int]
      have h1 := int_text_length_le10 (k := 60) (by decide) h
      have h2 : ((toString i : String) : Str).length = (toString i).length := PySem.ofString_length _
      omega
    · show strOk (PyData.int i).shown = true
      rw [PyData.shown_int]; exact sk_of _
  | _ => exact False.elim h
structure TmPs (n : Nat) (l : List D) : Prop where
  p : pls l = true
  pr : plrs l = true
  c : canLayAll0 (toPs l) = true
  dp : depthAll (toPs l) ≤ n
  s : showableAll (toPs l) = true
  h : hasDictAll (toPs l) = false
  sl : ((shownAll (toPs l)).map (·.length)).sum + 5 * l.length ≤ 75 * cnts l
  k : ∀ t ∈ shownAll (toPs l), strOk t = true
  ln : (shownAll (toPs l)).length = l.length
theorem cnt_pos (d : D) : 1 ≤ cnt d := by cases d <;> simp [cnt]
theorem tps {n : Nat} : ∀ {l : List D}, (∀ d ∈ l, TmP n d) → TmPs n l
  | [], _ => ⟨rfl, rfl, rfl, Nat.zero_le _, rfl, rfl, by simp [toPs, shownAll, cnts], by simp [toPs, shownAll], rfl⟩
  | d :: l, h => by
    have h1 := h d (by simp)
    have h2 := tps fun e he => h e (List.mem_cons_of_mem _ he)
    have h3 := cnt_pos d
    refine ⟨by simp [pls, h1.p, h2.p], by simp [plrs, h1.pr, h2.pr], by simp [toPs, canLayAll0, h1.c, h2.c], by simp only [toPs, depthAll]; exact Nat.max_le.mpr ⟨h1.dp, h2.dp⟩, by simp [toPs, showableAll, h1.s, h2.s], by simp [toPs, hasDictAll, h1.h, h2.h], ?_, ?_, ?_⟩
    · have := h1.sl
      have := h2.sl
      simp only [toPs, shownAll, List.map_cons, List.sum_cons, List.length_cons, cnts]
      omega
    · intro t ht
      simp only [toPs, shownAll, List.mem_cons] at ht
      rcases ht with rfl | ht
      · exact h1.k
      · exact h2.k t ht
    · simp only [toPs, shownAll, List.length_cons, h2.ln]
theorem cnts_ge : ∀ l : List D, l.length ≤ cnts l
  | [] => Nat.le_refl _
  | d :: l => by
    have := cnt_pos d
    have := cnts_ge l
    simp only [List.length_cons, cnts]
    omega
theorem tp_of : ∀ {n : Nat} {d : D}, Tm n d → TmP n d
  | 0, d, h => by
    have h' : scOk d := by cases d <;> exact h
    exact tp_sc h'
  | n + 1, .tup l, h => by
    have q := tps fun d hd => tp_of (n := n) (h d hd)
    have e : (toP (.tup l)).shown = tupleText (shownAll (toPs l)) := by simp only [toP, PyData.shown]
    refine ⟨q.p, q.pr, q.c, Nat.succ_le_succ q.dp, q.s, q.h, ?_, ?_⟩
    · rw [e]
      have h1 := tupleText_len_le (shownAll (toPs l))
      have h2 := q.sl
      rw [q.ln] at h1
      show _ ≤ 75 * (cnts l + 1)
      omega
    · rw [e]
      exact sk_append (sk_append (sk_of _) (sk_join (sk_of _) q.k)) (sk_of _)
  | n + 1, .lst l, h => by
    have q := tps fun d hd => tp_of (n := n) (h d hd)
    have e : (toP (.lst l)).shown = listText (shownAll (toPs l)) := by simp only [toP, PyData.shown]
    refine ⟨q.p, q.pr, q.c, Nat.succ_le_succ q.dp, q.s, q.h, ?_, ?_⟩
    · rw [e]
      have h1 := listText_len_le (shownAll (toPs l))
      have h2 := q.sl
      rw [q.ln] at h1
      show _ ≤ 75 * (cnts l + 1)
      omega
    · rw [e]
      exact sk_append (sk_from (sk_of _) q.k) (sk_of _)
  | n + 1, .non, h => tp_sc h
  | n + 1, .bl _, h => tp_sc h
  | n + 1, .int _, h => tp_sc h
  | n + 1, .str _, h => tp_sc h
  | n + 1, .dct _ _, h => tp_sc h
  | n + 1, .fl _, h => tp_sc h
theorem repr_ok {n : Nat} {d : D} (h : Tm n d) (hn : n ≤ 60) (hc : cnt d ≤ 13000) : reprD d = some (.str (toP d).shown) := by
  have q := tp_of h
  have := q.dp
  have := q.sl
  unfold reprD
  rw [if_pos ⟨q.pr, q.s, by omega, by omega⟩]
theorem shp {n : Nat} {d : D} (h : TmP n d) (hn : n ≤ 60) : SeqAt.shaped (toP d) = true := by
  have := h.dp
  unfold SeqAt.shaped
  rw [h.c, Bool.true_and]
  exact decide_eq_true (by omega)
@[simp] theorem cmp_eq (d e : D) : cmpF .Eq d e = eqD d e := rfl
@[simp] theorem cmp_ne (d e : D) : cmpF .NotEq d e = neD d e := rfl
theorem eq_ok {n m : Nat} {d e : D} (h : Tm n d) (h' : Tm m e) (hn : n ≤ 60) (hm : m ≤ 60) : eqD d e = some (.bl (PyData.eqv (toP d) (toP e))) := by
  have q := tp_of h
  have q' := tp_of h'
  unfold eqD
  rw [if_pos ⟨q.p, q'.p, shp q hn, shp q' hm⟩]
theorem ne_ok {n m : Nat} {d e : D} (h : Tm n d) (h' : Tm m e) (hn : n ≤ 60) (hm : m ≤ 60) : neD d e = some (.bl (!PyData.eqv (toP d) (toP e))) := by
  have q := tp_of h
  have q' := tp_of h'
  unfold neD
  rw [if_pos ⟨q.p, q'.p, shp q hn, shp q' hm⟩]
theorem eq_self {n : Nat} {d : D} (h : Tm n d) (hn : n ≤ 60) : eqD d d = some (.bl true) := by
  rw [eq_ok h h hn hn, SeqAt.eqv_refl _ (tp_of h).c]
theorem ne_self {n : Nat} {d : D} (h : Tm n d) (hn : n ≤ 60) : neD d d = some (.bl false) := by
  rw [ne_ok h h hn hn, SeqAt.eqv_refl _ (tp_of h).c]; rfl
theorem sk_shaped {x : Str} (h : strOk x = true) : SeqAt.shaped (toP (.str x)) = true := by
  show (strOk x && decide (0 ≤ 64)) = true
  rw [h]; rfl
theorem eq_str {x y : Str} (h : strOk x = true) (h' : strOk y = true) : eqD (.str x) (.str y) = some (.bl (x == y)) := by
  unfold eqD
  rw [if_pos ⟨rfl, rfl, sk_shaped h, sk_shaped h'⟩]
  rfl
theorem ne_str {x y : Str} (h : strOk x = true) (h' : strOk y = true) : neD (.str x) (.str y) = some (.bl (!(x == y))) := by
  unfold neD
  rw [if_pos ⟨rfl, rfl, sk_shaped h, sk_shaped h'⟩]
  rfl
theorem eq_shown {n : Nat} {d : D} (h : Tm n d) : eqD (.str (toP d).shown) (.str (toP d).shown) = some (.bl true) := by
  rw [eq_str (tp_of h).k (tp_of h).k]; simp
theorem ne_shown {n : Nat} {d : D} (h : Tm n d) : neD (.str (toP d).shown) (.str (toP d).shown) = some (.bl false) := by
  rw [ne_str (tp_of h).k (tp_of h).k]; simp
@[simp] theorem eq_ii (i j : Int) : eqD (.int i) (.int j) = some (.bl (decide (i = j))) := by
  unfold eqD
  rw [if_pos ⟨rfl, rfl, rfl, rfl⟩]
  rfl
@[simp] theorem ne_ii (i j : Int) : neD (.int i) (.int j) = some (.bl (!decide (i = j))) := by
  unfold neD
  rw [if_pos ⟨rfl, rfl, rfl, rfl⟩]
  rfl
theorem eqvAll_nil (l : List D) : eqvAll (toPs l) [] = l.isEmpty := by cases l <;> rfl
theorem eq_lnil {n : Nat} {l : List D} (h : ∀ d ∈ l, Tm n d) (hn : n ≤ 59) : eqD (.lst l) (.lst []) = some (.bl l.isEmpty) := by
  rw [eq_ok (n := n + 1) (m := 1) (d := .lst l) h (by intro d hd; cases hd) (by omega) (by omega)]
  show some (D.bl (eqvAll (toPs l) [])) = _
  rw [eqvAll_nil]
theorem ne_lnil {n : Nat} {l : List D} (h : ∀ d ∈ l, Tm n d) (hn : n ≤ 59) : neD (.lst l) (.lst []) = some (.bl (!l.isEmpty)) := by
  rw [ne_ok (n := n + 1) (m := 1) (d := .lst l) h (by intro d hd; cases hd) (by omega) (by omega)]
  show some (D.bl (!eqvAll (toPs l) [])) = _
  rw [eqvAll_nil]
theorem cnts_map {α : Type} (f : α → D) (c : Nat) : ∀ (l : List α), (∀ a ∈ l, cnt (f a) ≤ c) → cnts (l.map f) ≤ c * l.length
  | [], _ => by simp [cnts]
  | a :: l, h => by
    have h1 := h a (by simp)
    have h2 := cnts_map f c l fun b hb => h b (List.mem_cons_of_mem _ hb)
    simp only [List.map_cons, cnts, List.length_cons, Nat.mul_add, Nat.mul_one]
    omega
end Dl
namespace Dl
open PySem L2 PySem.Spec PyProof.Rows
section
variable [Kc] {P : Program} {w : World} {K : PySem.W.Frag} {mg : Str → Option Value} {base : Heap}
theorem step_G {N ps : List Str} {st : Stmt} {fs : List Bool} {F : List (Str × FM × Nat)} {md : Md} {k : Nat} (up : Nat) {x qual : Str} {f : Addr} {fd : FuncData} (FS : FSt P w K mg base k F)
    (hM : MdOk P w K mg base md) (hL : up = 2 → LamD K mg base qual fd.code) (Fn : Fun K x qual st f fd) (S : FnScope N ps (defScope st)) (hfs : fs.length = ps.length) :
    FnG P w K mg base (L2.CX P w) (k + up + 1) f fd ps (spM xhE ps.length (mOf N st fs F md up)) := by
  refine fnG_def Fn S hfs fun cd hcd A outer s H E hr hg => ?_
  exact (rc_ok fuel).s _ (cx_ok S FS hM (fun hu => by rw [← hcd]; exact hL hu) hr hg) fun i hi hm => by
    have h1 : (!(cpOf fs).contains i) = true := hi
    have h2 : (cpOf fs).contains i = true := List.contains_iff_mem.mpr hm
    rw [h2] at h1
    cases h1
end
end Dl
namespace Dl
open PySem L2 PySem.Spec PyProof.Rows
section
variable [Kc] {P : Program} {w : World} {K : PySem.W.Frag} {mg : Str → Option Value} {base : Heap}
/-! ### a def that calls itself: levels -/
def mNo : FM := fun _ => .fail
theorem fnG_no {CX : CXT} {k : Nat} {f : Addr} {fd : FuncData} {ps : List Str} : FnG P w K mg base CX k f fd ps (spM xhE ps.length mNo) :=
  ⟨fun vs H Q E h => h.1, fun A outer s H args us vs Q E hr hg env hb hv h => by
    obtain ⟨_, pend, as, _, z⟩ := h
    exact False.elim z.2⟩
theorem step_0 {ps : List Str} {st : Stmt} {k : Nat} {x qual : Str} {f : Addr} {fd : FuncData} (Fn : Fun K x qual st f fd) (hm : mg x = some (.ref f)) (bi : Binds K fd ps []) : F1 P w K mg base k x (mNo, ps.length) :=
  ⟨fun args => ⟨fun r outs h => (nomatch h), fun r outs h => (nomatch h)⟩, f, fd, ps, rfl, fnG_no, hm, Fn.kp, bi⟩
/-- the levels of one def -/
theorem step_rec {N ps : List Str} {st : Stmt} {fs : List Bool} {F : List (Str × FM × Nat)} {md : Md} {k : Nat} {x qual : Str} {f : Addr} {fd : FuncData} (body : FM → FM) (FS : FSt P w K mg base k F)
    (hM : MdOk P w K mg base md) (Fn : Fun K x qual st f fd) (S : FnScope N ps (defScope st)) (hfs : fs.length = ps.length) (hm : mg x = some (.ref f)) (bi : Binds K fd ps [])
    (e : ∀ self : FM, mOf N st fs ((x, self, ps.length) :: F) md 0 = body self) : ∀ n : Nat, F1 P w K mg base (k + n) x (Nat.rec mNo (fun _ m => body m) n, ps.length)
  | 0 => step_0 Fn hm bi
  | n + 1 => by
    have ih := step_rec body FS hM Fn S hfs hm bi e n
    have q := step 0 (FSt.cons ih (FS.mono (Nat.le_add_right k n))) hM (fun h => nomatch h) Fn S hfs hm bi
    rw [e] at q
    exact q
end
end Dl

namespace Dl
open PySem L2 PyData Builtin Builtin.Str
/-! ### anything that can be shown -/
theorem chr_lt (c : Char) : c.toNat < 0x110000 := by
  have := c.valid
  have h2 : c.toNat = c.val.toNat := rfl
  rcases this with h | h
  · have : c.val.toNat < 55296 := h
    omega
  · have : c.val.toNat < 1114112 := h.2
    omega
theorem rchar_lt {q c : Nat} (hq : q < 0x110000) (hc : c < 0x110000) : ∀ x ∈ reprChar q c, x < 0x110000 := by
  have hex : ∀ w : Nat, ∀ x ∈ (List.replicate (w - ((Nat.toDigits 16 c).map Char.toNat).length) 48 ++ (Nat.toDigits 16 c).map Char.toNat), x < 0x110000 := by
    intro w x hx
    rcases List.mem_append.mp hx with h | h
    · have := (List.mem_replicate.mp h).2
      omega
    · obtain ⟨ch, _, rfl⟩ := List.mem_map.mp h
      exact chr_lt ch
  intro x hx
  unfold reprChar at hx
  dsimp only at hx
  repeat' split at hx
  all_goals first
    | (simp only [List.mem_cons, List.not_mem_nil, or_false] at hx; omega)
    | (rcases List.mem_append.mp hx with h | h
       · simp only [List.mem_cons, List.not_mem_nil, or_false] at h; omega
       · exact hex _ x h)
theorem rtext_mem (q : Nat) : ∀ (l : List Nat) (acc : Array Nat) (x : Nat), x ∈ (l.foldl (fun out c => out ++ (reprChar q c).toArray) acc).toList → x ∈ acc.toList ∨ ∃ c ∈ l, x ∈ reprChar q c
  | [], acc, x, h => .inl h
  | c :: l, acc, x, h => by
    rcases rtext_mem q l _ x h with h | ⟨d, h1, h2⟩
    · simp only [Array.toList_append, List.mem_append] at h
      rcases h with h | h
      · exact .inl h
      · exact .inr ⟨c, by simp, h⟩
    · exact .inr ⟨d, List.mem_cons_of_mem _ h1, h2⟩
theorem sk_repr {x : Str} (h : strOk x = true) : strOk (reprText x) = true := by
  rw [sk_mem] at *
  have hq : reprQuote x < 0x110000 := by
    unfold reprQuote
    split <;> omega
  intro c hc
  have hc' : c ∈ ((x.cps.foldl (fun out c => out ++ (reprChar (reprQuote x) c).toArray) #[reprQuote x]).push (reprQuote x)).toList := hc
  rw [Array.toList_push, List.mem_append] at hc'
  rcases hc' with h1 | h1
  · rw [← Array.foldl_toList] at h1
    rcases rtext_mem _ _ _ _ h1 with h2 | ⟨d, h2, h3⟩
    · simp at h2; omega
    · exact rchar_lt hq (h d h2) c h3
  · simp at h1; omega
structure Rp (n c : Nat) (d : D) : Prop where
  pr : plr d = true
  dp : (toP d).depth ≤ n
  s : (toP d).showable = true
  sl : (toP d).shown.length ≤ c
  k : strOk (toP d).shown = true
theorem Rp.mono {n c n' c' : Nat} {d : D} (h : Rp n c d) (h1 : n ≤ n') (h2 : c ≤ c') : Rp n' c' d := ⟨h.pr, Nat.le_trans h.dp h1, h.s, Nat.le_trans h.sl h2, h.k⟩
theorem rp_non : Rp 0 5 .non := ⟨rfl, Nat.zero_le _, rfl, by decide, sk_of _⟩
theorem rp_bl (b : Bool) : Rp 0 5 (.bl b) := ⟨rfl, Nat.zero_le _, rfl, by cases b <;> decide, by cases b <;> exact sk_of _⟩
theorem log_ok {i : Int} (h : i.natAbs < 10 ^ 60) : i.natAbs.log2 < 1920 := by
  by_cases h0 : i.natAbs = 0
  · rw [h0]; decide
  · refine (Nat.log2_lt h0).mpr ?_
    have h2 : (10 : Nat) ^ 60 ≤ 2 ^ 1920 := by decide
    omega
theorem itext_len {i : Int} (k : Nat) (hk : 1 ≤ k) (h : i.natAbs < 10 ^ k) : ((toString i : String) : Str).length ≤ k + 1 := by
  have h1 := int_text_length_le10 (k := k) hk h
  have h2 : ((toString i : String) : Str).length = (toString i).length := PySem.ofString_length _
  omega
theorem rp_int {i : Int} (h : i.natAbs < 10 ^ 60) : Rp 0 61 (.int i) := by
  refine ⟨rfl, Nat.zero_le _, ?_, ?_, ?_⟩
  · show decide (i.natAbs.log2 < 1920) = true
    exact decide_eq_true (log_ok h)
  · show (PyData.int i).shown.length ≤ 61
    rw [PyData.shown_int]
    exact itext_len 60 (by decide) h
  · show strOk (PyData.int i).shown = true
    rw [PyData.shown_int]; exact sk_of _
theorem rp_str {x : Str} {m : Nat} (h : strOk x = true) (hl : x.length ≤ m) : Rp 0 (10 * m + 2) (.str x) := by
  refine ⟨rfl, Nat.zero_le _, rfl, ?_, ?_⟩
  · show (PyData.str x).shown.length ≤ _
    rw [PyData.shown_str]
    have := StrLaws.reprText_len x fun c hc => Nat.lt_trans (sk_mem.mp h c hc) (by decide)
    omega
  · show strOk (PyData.str x).shown = true
    rw [PyData.shown_str]
    exact sk_repr h
structure Rps (n c : Nat) (l : List D) : Prop where
  pr : plrs l = true
  dp : depthAll (toPs l) ≤ n
  s : showableAll (toPs l) = true
  sl : ((shownAll (toPs l)).map (·.length)).sum ≤ c * l.length
  k : ∀ t ∈ shownAll (toPs l), strOk t = true
  ln : (shownAll (toPs l)).length = l.length
theorem rps {n c : Nat} : ∀ {l : List D}, (∀ d ∈ l, Rp n c d) → Rps n c l
  | [], _ => ⟨rfl, Nat.zero_le _, rfl, by simp [toPs, shownAll], by simp [toPs, shownAll], rfl⟩
  | d :: l, h => by
    have h1 := h d (by simp)
    have h2 := rps fun e he => h e (List.mem_cons_of_mem _ he)
    refine ⟨by simp [plrs, h1.pr, h2.pr], by simp only [toPs, depthAll]; exact Nat.max_le.mpr ⟨h1.dp, h2.dp⟩, by simp [toPs, showableAll, h1.s, h2.s], ?_, ?_, ?_⟩
    · have := h1.sl
      have := h2.sl
      simp only [toPs, shownAll, List.map_cons, List.sum_cons, List.length_cons, Nat.mul_add, Nat.mul_one]
      omega
    · intro t ht
      simp only [toPs, shownAll, List.mem_cons] at ht
      rcases ht with rfl | ht
      · exact h1.k
      · exact h2.k t ht
    · simp only [toPs, shownAll, List.length_cons, h2.ln]
theorem rp_tup {n c m : Nat} {l : List D} (h : ∀ d ∈ l, Rp n c d) (hm : l.length ≤ m) : Rp (n + 1) ((c + 2) * m + 4) (.tup l) := by
  have q := rps h
  have e : (toP (.tup l)).shown = tupleText (shownAll (toPs l)) := by simp only [toP, PyData.shown]
  have hm2 : (c + 2) * l.length ≤ (c + 2) * m := Nat.mul_le_mul_left _ hm
  refine ⟨q.pr, Nat.succ_le_succ q.dp, q.s, ?_, ?_⟩
  · rw [e]
    have h1 := tupleText_len_le (shownAll (toPs l))
    have h2 := q.sl
    rw [q.ln] at h1
    rw [Nat.add_mul] at hm2
    omega
  · rw [e]
    exact sk_append (sk_append (sk_of _) (sk_join (sk_of _) q.k)) (sk_of _)
theorem rp_lst {n c m : Nat} {l : List D} (h : ∀ d ∈ l, Rp n c d) (hm : l.length ≤ m) : Rp (n + 1) ((c + 2) * m + 4) (.lst l) := by
  have q := rps h
  have e : (toP (.lst l)).shown = listText (shownAll (toPs l)) := by simp only [toP, PyData.shown]
  have hm2 : (c + 2) * l.length ≤ (c + 2) * m := Nat.mul_le_mul_left _ hm
  refine ⟨q.pr, Nat.succ_le_succ q.dp, q.s, ?_, ?_⟩
  · rw [e]
    have h1 := listText_len_le (shownAll (toPs l))
    have h2 := q.sl
    rw [q.ln] at h1
    rw [Nat.add_mul] at hm2
    omega
  · rw [e]
    exact sk_append (sk_from (sk_of _) q.k) (sk_of _)
theorem rp_d0 : Rp 1 20 (.dct [] []) := ⟨rfl, by decide +kernel, rfl, by decide +kernel, by decide +kernel⟩
theorem rp_d1 : Rp 1 20 (.dct [.inr "a"] [.int 1]) := ⟨rfl, by decide +kernel, by decide +kernel, by decide +kernel, by decide +kernel⟩
theorem Rp.repr {n c : Nat} {d : D} (h : Rp n c d) (hn : n ≤ 60) (hc : c ≤ 1000000) : reprD d = some (.str (toP d).shown) := by
  have := h.dp
  have := h.sl
  unfold reprD
  rw [if_pos ⟨h.pr, h.s, by omega, by omega⟩]
theorem Rp.eq {n c : Nat} {d : D} (h : Rp n c d) : eqD (.str (toP d).shown) (.str (toP d).shown) = some (.bl true) := by
  rw [eq_str h.k h.k]; simp
theorem Rp.ne {n c : Nat} {d : D} (h : Rp n c d) : neD (.str (toP d).shown) (.str (toP d).shown) = some (.bl false) := by
  rw [ne_str h.k h.k]; simp
@[simp] theorem repr_b (b : Bool) : reprD (.bl b) = some (.str (toP (.bl b)).shown) := (rp_bl b).repr (by omega) (by omega)
@[simp] theorem eq_rb (b : Bool) : eqD (.str (toP (.bl b)).shown) (.str (toP (.bl b)).shown) = some (.bl true) := (rp_bl b).eq
@[simp] theorem ne_rb (b : Bool) : neD (.str (toP (.bl b)).shown) (.str (toP (.bl b)).shown) = some (.bl false) := (rp_bl b).ne
/-! ### equal lists of ints -/
theorem eqvAll_ints : ∀ a b : List Int, eqvAll (toPs (a.map D.int)) (toPs (b.map D.int)) = decide (a = b)
  | [], [] => rfl
  | [], _ :: _ => rfl
  | _ :: _, [] => rfl
  | x :: a, y :: b => by
    have ih := eqvAll_ints a b
    have e : eqvAll (toPs ((x :: a).map D.int)) (toPs ((y :: b).map D.int)) = (PyData.eqv (.int x) (.int y) && eqvAll (toPs (a.map D.int)) (toPs (b.map D.int))) := rfl
    have e2 : PyData.eqv (.int x) (.int y) = decide (x = y) := rfl
    rw [e, ih, e2]
    by_cases h1 : x = y <;> by_cases h2 : a = b <;> simp [h1, h2]
theorem ints_shaped (l : List Int) : pls (l.map D.int) = true ∧ canLayAll0 (toPs (l.map D.int)) = true ∧ depthAll (toPs (l.map D.int)) = 0 := by
  induction l with
  | nil => exact ⟨rfl, rfl, rfl⟩
  | cons a l ih =>
    refine ⟨?_, ?_, ?_⟩
    · show (true && pls (l.map D.int)) = true
      rw [ih.1]; rfl
    · show (true && canLayAll0 (toPs (l.map D.int))) = true
      rw [ih.2.1]; rfl
    · show max 0 (depthAll (toPs (l.map D.int))) = 0
      rw [ih.2.2]; rfl
theorem lst_shaped (l : List Int) : pl (.lst (l.map D.int)) = true ∧ SeqAt.shaped (toP (.lst (l.map D.int))) = true := by
  obtain ⟨h1, h2, h3⟩ := ints_shaped l
  refine ⟨h1, ?_⟩
  show (canLayAll0 (toPs (l.map D.int)) && decide (depthAll (toPs (l.map D.int)) + 1 ≤ 64)) = true
  rw [h2, h3]; rfl
theorem tup_shaped (l : List Int) : pl (.tup (l.map D.int)) = true ∧ SeqAt.shaped (toP (.tup (l.map D.int))) = true := by
  obtain ⟨h1, h2, h3⟩ := ints_shaped l
  refine ⟨h1, ?_⟩
  show (canLayAll0 (toPs (l.map D.int)) && decide (depthAll (toPs (l.map D.int)) + 1 ≤ 64)) = true
  rw [h2, h3]; rfl
theorem eq_lints (a b : List Int) : eqD (.lst (a.map D.int)) (.lst (b.map D.int)) = some (.bl (decide (a = b))) := by
  unfold eqD
  rw [if_pos ⟨(lst_shaped a).1, (lst_shaped b).1, (lst_shaped a).2, (lst_shaped b).2⟩]
  show some (D.bl (eqvAll (toPs (a.map D.int)) (toPs (b.map D.int)))) = _
  rw [eqvAll_ints]
theorem ne_lints (a b : List Int) : neD (.lst (a.map D.int)) (.lst (b.map D.int)) = some (.bl (!decide (a = b))) := by
  unfold neD
  rw [if_pos ⟨(lst_shaped a).1, (lst_shaped b).1, (lst_shaped a).2, (lst_shaped b).2⟩]
  show some (D.bl (!eqvAll (toPs (a.map D.int)) (toPs (b.map D.int)))) = _
  rw [eqvAll_ints]
theorem eq_tints (a b : List Int) : eqD (.tup (a.map D.int)) (.tup (b.map D.int)) = some (.bl (decide (a = b))) := by
  unfold eqD
  rw [if_pos ⟨(tup_shaped a).1, (tup_shaped b).1, (tup_shaped a).2, (tup_shaped b).2⟩]
  show some (D.bl (eqvAll (toPs (a.map D.int)) (toPs (b.map D.int)))) = _
  rw [eqvAll_ints]
theorem ne_tints (a b : List Int) : neD (.tup (a.map D.int)) (.tup (b.map D.int)) = some (.bl (!decide (a = b))) := by
  unfold neD
  rw [if_pos ⟨(tup_shaped a).1, (tup_shaped b).1, (tup_shaped a).2, (tup_shaped b).2⟩]
  show some (D.bl (!eqvAll (toPs (a.map D.int)) (toPs (b.map D.int)))) = _
  rw [eqvAll_ints]
/-- x == () -/
theorem eq_tnil {l : List D} (h : pl (.tup l) = true) (h2 : SeqAt.shaped (toP (.tup l)) = true) : eqD (.tup l) (.tup []) = some (.bl l.isEmpty) := by
  unfold eqD
  rw [if_pos ⟨h, rfl, h2, rfl⟩]
  show some (D.bl (eqvAll (toPs l) [])) = _
  rw [eqvAll_nil]
/-! ### isinstance -/
theorem isi_int (d : D) : isiD "int" d = some (.bl (match d with | .int _ => true | .bl _ => true | _ => false)) := by cases d <;> kernel_rfl
theorem isi_bool (d : D) : isiD "bool" d = some (.bl (match d with | .bl _ => true | _ => false)) := by cases d <;> kernel_rfl
theorem isi_tup (d : D) : isiD "tuple" d = some (.bl (match d with | .tup _ => true | _ => false)) := by cases d <;> kernel_rfl
theorem isi_lst (d : D) : isiD "list" d = some (.bl (match d with | .lst _ => true | .fl _ => true | _ => false)) := by cases d <;> kernel_rfl
theorem isi_dct (d : D) : isiD "dict" d = some (.bl (match d with | .dct _ _ => true | _ => false)) := by cases d <;> kernel_rfl
theorem isi_str (d : D) : isiD "str" d = some (.bl (match d with | .str _ => true | _ => false)) := by cases d <;> kernel_rfl
/-- an int within bounds -/
def isI (lo hi : Int) (d : D) : Bool := match d with
  | .int i => decide (lo ≤ i) && decide (i ≤ hi)
  | _ => false
theorem allD_bls (bs : List Bool) : allD (.lst (bs.map D.bl)) = some (.bl (bs.all id)) := by
  have : lstB (.lst (bs.map D.bl)) = some bs := by
    show bls (bs.map D.bl) = some bs
    induction bs with
    | nil => rfl
    | cons a r ih => rw [List.map_cons, bls, ih]; rfl
  unfold allD
  rw [this]; rfl
theorem anyD_bls (bs : List Bool) : anyD (.lst (bs.map D.bl)) = some (.bl (bs.any id)) := by
  have : lstB (.lst (bs.map D.bl)) = some bs := by
    show bls (bs.map D.bl) = some bs
    induction bs with
    | nil => rfl
    | cons a r ih => rw [List.map_cons, bls, ih]; rfl
  unfold anyD
  rw [this]; rfl
/-- all are ints within bounds: they are some ints -/
theorem isI_all {lo hi : Int} : ∀ {l : List D}, l.all (isI lo hi) = true → ∃ ns : List Int, l = ns.map D.int ∧ ∀ n ∈ ns, lo ≤ n ∧ n ≤ hi
  | [], _ => ⟨[], rfl, by simp⟩
  | d :: l, h => by
    rw [List.all_cons, Bool.and_eq_true] at h
    obtain ⟨ns, rfl, hn⟩ := isI_all h.2
    cases d with
    | int i =>
      have h1 : lo ≤ i ∧ i ≤ hi := by simpa [isI] using h.1
      refine ⟨i :: ns, rfl, fun n hm => ?_⟩
      rcases List.mem_cons.mp hm with rfl | z
      · exact h1
      · exact hn n z
    | _ => exact absurd h.1 (by simp [isI])

/-! ### anything: nested data, its bounds -/
mutual
def szB : D → Nat
  | .tup l => szBs l + 4
  | .lst l => szBs l + 4
  | .dct _ _ => 20
  | .str x => 10 * x.length + 2
  | _ => 61
def szBs : List D → Nat
  | [] => 0
  | d :: l => szB d + 2 + szBs l
end
def An (b k : Nat) : Nat → D → Prop
  | n + 1, .tup l => l.length ≤ k ∧ ∀ d ∈ l, An b k n d
  | n + 1, .lst l => l.length ≤ k ∧ ∀ d ∈ l, An b k n d
  | n + 1, .dct ks l => (ks = [] ∧ l = []) ∨ (ks = [.inr "a"] ∧ l = [.int 1])
  | _, .int i => i.natAbs < b
  | _, .str x => strOk x = true
  | _, .non => True
  | _, .bl _ => True
  | _, _ => False
theorem szBs_app : ∀ a b : List D, szBs (a ++ b) = szBs a + szBs b
  | [], b => by simp [szBs]
  | d :: a, b => by rw [List.cons_append, szBs, szBs, szBs_app a b]; omega
theorem szBs_sub {a b : List D} (h : List.Sublist a b) : szBs a ≤ szBs b := by
  induction h with
  | slnil => exact Nat.le_refl _
  | cons d _ ih => rw [szBs]; omega
  | cons_cons d _ ih => rw [szBs, szBs]; omega
theorem szBs_mem {d : D} {l : List D} (h : d ∈ l) : szB d + 2 ≤ szBs l := by
  have := szBs_sub (List.singleton_sublist.mpr h)
  rw [szBs, szBs] at this
  omega
theorem szBs_perm {a b : List D} (h : a.Perm b) : szBs a = szBs b := by
  induction h with
  | nil => rfl
  | cons x _ ih => rw [szBs, szBs, ih]
  | swap x y l => simp only [szBs]; omega
  | trans _ _ h1 h2 => exact h1.trans h2
theorem An.mono {b k b' k' : Nat} (hb : b ≤ b') (hk : k ≤ k') : ∀ {n n' : Nat} {d : D}, n ≤ n' → An b k n d → An b' k' n' d
  | n, n', .int i, hn, h => by
    have h1 : i.natAbs < b := by cases n <;> exact h
    have h2 : i.natAbs < b' := by omega
    cases n' <;> exact h2
  | n, n', .str x, hn, h => by
    have h1 : strOk x = true := by cases n <;> exact h
    cases n' <;> exact h1
  | n, n', .non, hn, h => by cases n' <;> exact True.intro
  | n, n', .bl _, hn, h => by cases n' <;> exact True.intro
  | n, n', .fl _, hn, h => by cases n <;> exact False.elim h
  | 0, n', .tup l, hn, h => False.elim h
  | 0, n', .lst l, hn, h => False.elim h
  | 0, n', .dct _ _, hn, h => False.elim h
  | n + 1, 0, _, hn, _ => by omega
  | n + 1, n' + 1, .tup l, hn, h => ⟨Nat.le_trans h.1 hk, fun d hd => An.mono hb hk (Nat.le_of_succ_le_succ hn) (h.2 d hd)⟩
  | n + 1, n' + 1, .lst l, hn, h => ⟨Nat.le_trans h.1 hk, fun d hd => An.mono hb hk (Nat.le_of_succ_le_succ hn) (h.2 d hd)⟩
  | n + 1, n' + 1, .dct _ _, hn, h => h
theorem rps2 {n : Nat} : ∀ {l : List D}, (∀ d ∈ l, Rp n (szB d) d) → plrs l = true ∧ depthAll (toPs l) ≤ n ∧ showableAll (toPs l) = true ∧ ((shownAll (toPs l)).map (·.length)).sum + 2 * l.length ≤ szBs l ∧ (∀ t ∈ shownAll (toPs l), strOk t = true) ∧ (shownAll (toPs l)).length = l.length
  | [], _ => ⟨rfl, Nat.zero_le _, rfl, by simp [toPs, shownAll, szBs], by simp [toPs, shownAll], rfl⟩
  | d :: l, h => by
    have h1 := h d (by simp)
    obtain ⟨q1, q2, q3, q4, q5, q6⟩ := rps2 fun e he => h e (List.mem_cons_of_mem _ he)
    refine ⟨by simp [plrs, h1.pr, q1], by simp only [toPs, depthAll]; exact Nat.max_le.mpr ⟨h1.dp, q2⟩, by simp [toPs, showableAll, h1.s, q3], ?_, ?_, ?_⟩
    · have := h1.sl
      simp only [toPs, shownAll, List.map_cons, List.sum_cons, List.length_cons, szBs]
      omega
    · intro t ht
      simp only [toPs, shownAll, List.mem_cons] at ht
      rcases ht with rfl | ht
      · exact h1.k
      · exact q5 t ht
    · simp only [toPs, shownAll, List.length_cons, q6]
theorem An.rp {b k : Nat} (hb : b ≤ 10 ^ 60) : ∀ {n : Nat} {d : D}, An b k n d → Rp n (szB d) d
  | n, .int i, h => by
    have h1 : i.natAbs < b := by cases n <;> exact h
    exact (rp_int (Nat.lt_of_lt_of_le h1 hb)).mono (Nat.zero_le _) (Nat.le_refl _)
  | n, .str x, h => by
    have h1 : strOk x = true := by cases n <;> exact h
    exact (rp_str h1 (Nat.le_refl _)).mono (Nat.zero_le _) (Nat.le_refl _)
  | n, .non, h => rp_non.mono (Nat.zero_le _) (by simp [szB])
  | n, .bl x, h => (rp_bl x).mono (Nat.zero_le _) (by simp [szB])
  | n, .fl _, h => by cases n <;> exact False.elim h
  | n, .obj _ _ _, h => by cases n <;> exact False.elim h
  | 0, .tup l, h => False.elim h
  | 0, .lst l, h => False.elim h
  | 0, .dct _ _, h => False.elim h
  | n + 1, .tup l, h => by
    obtain ⟨q1, q2, q3, q4, q5, q6⟩ := rps2 fun d hd => An.rp hb (h.2 d hd)
    have e : (toP (.tup l)).shown = tupleText (shownAll (toPs l)) := by simp only [toP, PyData.shown]
    refine ⟨q1, Nat.succ_le_succ q2, q3, ?_, ?_⟩
    · rw [e]
      have h1 := tupleText_len_le (shownAll (toPs l))
      rw [q6] at h1
      simp only [szB]
      omega
    · rw [e]
      exact sk_append (sk_append (sk_of _) (sk_join (sk_of _) q5)) (sk_of _)
  | n + 1, .lst l, h => by
    obtain ⟨q1, q2, q3, q4, q5, q6⟩ := rps2 fun d hd => An.rp hb (h.2 d hd)
    have e : (toP (.lst l)).shown = listText (shownAll (toPs l)) := by simp only [toP, PyData.shown]
    refine ⟨q1, Nat.succ_le_succ q2, q3, ?_, ?_⟩
    · rw [e]
      have h1 := listText_len_le (shownAll (toPs l))
      rw [q6] at h1
      simp only [szB]
      omega
    · rw [e]
      exact sk_append (sk_from (sk_of _) q5) (sk_of _)
  | n + 1, .dct ks l, h => by
    rcases h with ⟨rfl, rfl⟩ | ⟨rfl, rfl⟩
    · exact rp_d0.mono (by omega) (Nat.le_refl _)
    · exact rp_d1.mono (by omega) (Nat.le_refl _)
theorem cut_sub (l : List D) (lo hi : Option Int) : List.Sublist (cutD l lo hi) l := (List.take_sublist _ _).trans (List.drop_sublist _ _)
theorem An.sub {b k n : Nat} {l m : List D} (h : An b k (n + 1) (.tup l)) (hs : List.Sublist m l) : An b k (n + 1) (.tup m) := ⟨Nat.le_trans hs.length_le h.1, fun d hd => h.2 d (hs.mem hd)⟩
end Dl

namespace Dl
open PySem L2 PySem.Spec PyProof.Rows
/-- a statement of a class -/
def cdS (st : Stmt) (j : Nat) : Stmt := match st with
  | .ClassDef _ _ _ body _ _ _ _ _ _ _ => body.getD j (.Pass ⟨0, 0, 0, 0⟩)
  | s => s
section
variable {K : PySem.W.Frag} {C C' : Addr}
theorem kitT {T : String} {b : Bool} (h : PySem.W.subIn K (.ref C) (.type T) = some b) (hm : PySem.W.kitMeta T = true) : PySem.W.kitOne K (.ref C) (.type T) = some b := by
  show (if ((Value.ref C == Value.type T) = true) then some true else (if PySem.W.kitMeta T = true then PySem.W.subIn K (.ref C) (.type T) else none)) = some b
  rw [if_neg (by simp), if_pos hm, h]
theorem kitR {b : Bool} (h1 : PySem.W.isClsIn K C' = true) (h2 : PySem.W.typeIn K (.ref C') = some (.type "type")) (h3 : PySem.W.subIn K (.ref C) (.ref C') = some b) : PySem.W.kitCls K (.ref C) (.ref C') = some b := by
  show (if ((PySem.W.clsIn K C').isSome && PySem.W.typeIn K (.ref C') == some (.type "type")) = true then PySem.W.subIn K (.ref C) (.ref C') else none) = some b
  have h1' : (PySem.W.clsIn K C').isSome = true := h1
  rw [h1', h2, if_pos (by simp), h3]
theorem isaR {b : Bool} (h1 : PySem.W.isClsIn K C' = true) (h2 : PySem.W.typeIn K (.ref C') = some (.type "type")) (h3 : PySem.W.subIn K (.ref C) (.ref C') = some b) (hs : PySem.W.subIn K (.ref C) (.ref C) = some true) (he : PySem.W.subIn K (.ref C') (.type "BaseException") = some true) :
    PySem.W.kitOne K (.ref C) (.ref C') = some b ∧ PySem.W.exmOne K (.ref C) (.ref C') = some b := by
  have k := kitR h1 h2 h3
  refine ⟨?_, ?_⟩
  · show (if (Value.ref C == Value.ref C') = true then some true else PySem.W.kitCls K (.ref C) (.ref C')) = some b
    by_cases e : C = C'
    · subst e
      rw [if_pos (by simp)]
      rw [hs] at h3
      exact h3
    · rw [if_neg (by simpa using e), k]
  · show (if (PySem.W.subIn K (.ref C') (.type "BaseException") == some true) = true then PySem.W.kitCls K (.ref C) (.ref C') else none) = some b
    rw [he, if_pos (by simp), k]
theorem isaT' {T : String} {b : Bool} (h : PySem.W.subIn K (.ref C) (.type T) = some b) (hm : PySem.W.kitMeta T = true) (he : PySem.W.subIn K (.type T) (.type "BaseException") = some true) :
    PySem.W.kitOne K (.ref C) (.type T) = some b ∧ PySem.W.exmOne K (.ref C) (.type T) = some b := by
  refine ⟨kitT h hm, ?_⟩
  show (if (PySem.W.subIn K (.type T) (.type "BaseException") == some true) = true then (if PySem.W.kitMeta T = true then PySem.W.subIn K (.ref C) (.type T) else none) else none) = some b
  rw [he, if_pos (by simp), if_pos hm, h]
theorem xcC_mk (cl : PySem.W.isClsIn K C = true) (ga : PySem.W.findIn K (.ref C) "__getattribute__" = some (some (.builtin "BaseException.__getattribute__"))) (gg : PySem.W.findIn K (.ref C) "__getattr__" = some none)
    (ex : PySem.W.subIn K (.ref C) (.type "BaseException") = some true) (hd : PySem.W.hasDictIn K C = true) (ha : PySem.W.findIn K (.ref C) "__class__" = some (some (.builtin "object.__class__")))
    (hn : PySem.W.specialIn K (.builtin "object.__class__") "__get__" = some (some (.builtin "getset_descriptor.__get__"))) (ht : PySem.W.takesIn K (.builtin "object.__class__") = some true) (hm : PySem.W.mroIn K C (.type "object") = some true)
    (b1 : PySem.W.subIn K (.ref C) (.type "int") = some false) (b2 : PySem.W.subIn K (.ref C) (.type "bool") = some false) (b3 : PySem.W.subIn K (.ref C) (.type "tuple") = some false) (b4 : PySem.W.subIn K (.ref C) (.type "list") = some false) (b5 : PySem.W.subIn K (.ref C) (.type "dict") = some false) (b6 : PySem.W.subIn K (.ref C) (.type "str") = some false)
    (n1 : PySem.W.findIn K (.ref C) "value" = some none) (n2 : PySem.W.findIn K (.ref C) "number" = some none) (n3 : PySem.W.findIn K (.ref C) "cell" = some none) (n4 : PySem.W.findIn K (.ref C) "count" = some none) (n5 : PySem.W.findIn K (.ref C) "row" = some none) (n6 : PySem.W.findIn K (.ref C) "line" = some none)
    (n7 : PySem.W.findIn K (.ref C) "low" = some none) (n8 : PySem.W.findIn K (.ref C) "high" = some none) (n9 : PySem.W.findIn K (.ref C) "own_table" = some none) (n10 : PySem.W.findIn K (.ref C) "own_widths" = some none) (n11 : PySem.W.findIn K (.ref C) "own_places" = some none) (n12 : PySem.W.findIn K (.ref C) "own_order" = some none) : XcC K C := by
  refine ⟨cl, ga, gg, ex, hd, ha, hn, ht, hm, fun T hT => ?_, fun n hn => ?_⟩
  · simp only [sixT, List.mem_cons, List.not_mem_nil, or_false] at hT
    rcases hT with rfl | rfl | rfl | rfl | rfl | rfl
    · exact kitT b1 (by decide +kernel)
    · exact kitT b2 (by decide +kernel)
    · exact kitT b3 (by decide +kernel)
    · exact kitT b4 (by decide +kernel)
    · exact kitT b5 (by decide +kernel)
    · exact kitT b6 (by decide +kernel)
  · simp only [attN, List.mem_cons, List.not_mem_nil, or_false] at hn
    rcases hn with rfl | rfl | rfl | rfl | rfl | rfl | rfl | rfl | rfl | rfl | rfl | rfl <;> assumption
end
end Dl

set_option maxHeartbeats 2000000
namespace Dl
open PySem PySem.Spec PyProof.Rows L2
/-! ### the end of a law with tables of code objects -/
theorem law_GT {P : Program} {w : World} {K : PySem.W.Frag} {mg mb : Str → Option Value} {CX : CXT} {k : Nat} {fa a : Addr} {cs : List (Addr × Addr)} {fd : FuncData} {x : Str} {sp : Sp} {s₁ : Shared} {vs : List Value} {ns : List Int}
    (KX : K.In s₁.heap) (hns : s₁.heap.Ns mainGlobals mg) (hb : s₁.heap.Ns builtinsNs mb) (hbb : ∀ x : Str, x ≠ "__name__" → mb x = bootBuiltins x) (hlim : s₁.heap.NoLimit) (hg : s₁.gens = #[])
    (hT : ∀ p ∈ cs, s₁.heap.get? p.2 = some { cls := .none, data := .fields #[] }) (nT : ∀ p ∈ cs, K.lookup p.2 = none) (C : ∀ p ∈ cs, PySem.W.CodeHd s₁.heap p.1 p.2)
    (hbm : ∃ (bm : Addr) (ob : Obj), mg "__builtins__" = some (.ref bm) ∧ bm ≠ builtinsNs ∧ s₁.heap.get? bm = some ob ∧ ob.cls = .type "module" ∧ ob.dict = some builtinsNs ∧ ob.data = .plain)
    (ha : s₁.heap.get? a = some { cls := .type "list", data := .seq vs.toArray }) (hi : IntsAre vs ns) (hl : ns.length ≤ sizeLine) (hr : Room k callerA)
    (F : ∀ base : Heap, K.In base → base.Ns mainGlobals mg → (∀ p ∈ cs, LamX.TabB base mg p.1 p.2) → FnG P w K mg base CX k fa fd [x] sp) (hbind : ∀ (s : Shared) (u : Value), BindsTo s fd ⟨[u], []⟩ [(x, u)])
    (hsp : ∀ H : Hp, (∀ p ∈ cs, H p.2 = some (.tbl #[])) → (∀ b, H b = none ∨ b ∈ cs.map (·.2) ∨ ∃ o xs, H b = some (.frz o (.lst xs))) → ((∃ o, H a = some (.frz o (.lst (ns.map V.int)))) ∨ KL K a (ns.map V.int)) → sp [.ref a] H (fun v _ => v = .bl true) fun _ _ _ => False)
    (hCX : ∀ H e s', CX [] H s₁ (fun _ _ _ => False) e s' → False) :
    codeAny (model P w) callerA (.call (.ref fa) ⟨[.ref a], []⟩) (fun r s' => r = .ok (.ret (.bool true)) ∧ OldK s₁.heap s'.heap ∧ s'.os = s₁.os ∧ AllBare s'.gens) s₁ := by
  have rv := vals_ints hi
  have lenV := hi.length
  have isT : ∀ b : Addr, b ∈ cs.map (·.2) → s₁.heap.get? b = some { cls := .none, data := .fields #[] } := fun b hb => by
    obtain ⟨p, hp, e⟩ := List.mem_map.mp hb
    rw [← e]
    exact hT p hp
  have aT : a ∉ cs.map (·.2) := fun z => by
    have q := isT a z
    rw [ha] at q
    have z' : Data.seq vs.toArray _ = Data.fields #[] := congrArg Obj.data (Option.some.inj q)
    cases z'
  have memT : ∀ p ∈ cs, p.2 ∈ cs.map (·.2) := fun p hp => List.mem_map.mpr ⟨p, hp, rfl⟩
  -- from an abstract heap in which nothing but the script and the tables may be tracked
  have core : ∀ H : Hp, (∀ p ∈ cs, H p.2 = some (.tbl #[])) → (∀ b, H b = none ∨ b ∈ cs.map (·.2) ∨ ∃ o xs, H b = some (.frz o (.lst xs))) → ((∃ o, H a = some (.frz o (.lst (ns.map V.int)))) ∨ KL K a (ns.map V.int)) → HOk P w H s₁.heap → (∀ b, H b ≠ none → b = a ∨ b ∈ cs.map (·.2)) → (H a ≠ none → K.lookup a = none) →
      codeAny (model P w) callerA (.call (.ref fa) ⟨[.ref a], []⟩) (fun r s' => r = .ok (.ret (.bool true)) ∧ OldK s₁.heap s'.heap ∧ s'.os = s₁.os ∧ AllBare s'.gens) s₁ := by
    intro H hH hO hS hok hA hK
    have base_of : ∀ {b : Addr} {o : Obj}, s₁.heap.get? b = some o → H b = none → (hidT s₁.heap H).get? b = some o := fun e n => hidT_get e n
    have noD : ∀ {b : Addr} {o : Obj}, s₁.heap.get? b = some o → (∀ vs n, o.data ≠ .seq vs n) → o.data ≠ .fields #[] → H b = none := fun {b o} e h1 h2 => by
      cases q : H b with
      | none => rfl
      | some u =>
        rcases hA b (by rw [q]; simp) with e' | e'
        · rw [e', ha] at e
          cases e
          exact (h1 _ _ rfl).elim
        · rw [isT b e'] at e
          cases e
          exact (h2 rfl).elim
    have noA : ∀ {b : Addr} {o : Obj} {es : Array DictEntry} {ep : Nat}, s₁.heap.get? b = some o → o.data = .dict es ep → H b = none := fun {b o es ep} e d => by
      refine noD e (fun vs n z => ?_) fun z => ?_
      · rw [d] at z
        cases z
      · rw [d] at z
        cases z
    have nsK : ∀ {b : Addr} {m : Str → Option Value}, s₁.heap.Ns b m → (hidT s₁.heap H).Ns b m := fun {b m} ⟨o, es, ep, e, d, r⟩ => ⟨o, es, ep, base_of e (noA e d), d, r⟩
    have hKb : K.In (hidT s₁.heap H) := fun b o e => base_of (KX b o e) (by
      cases q : H b with
      | none => rfl
      | some u =>
        rcases hA b (by rw [q]; simp) with e' | e'
        · rw [e'] at e q
          rw [hK (by rw [q]; simp)] at e
          cases e
        · obtain ⟨p, hp, ep⟩ := List.mem_map.mp e'
          rw [← ep, nT p hp] at e
          cases e)
    have hM : L2.Mod K mg (hidT s₁.heap H) := ⟨hKb, nsK hns, ⟨mb, nsK hb, hbb⟩, let ⟨mc, h1, h2⟩ := hlim; ⟨mc, nsK h1, h2⟩⟩
    have TB : ∀ p ∈ cs, LamX.TabB (hidT s₁.heap H) mg p.1 p.2 := fun p hp => by
      have hTp := hT p hp
      refine ⟨?_, ?_, fun z => ?_⟩
      · obtain ⟨o, us, file, tf, flags, tg, inF, text, tt, e1, r1, r2, r3, r4, r5, r6, r7, r8, hne⟩ := C p hp
        refine ⟨o, us, file, tf, flags, tg, inF, text, tt, base_of e1 (noD e1 (fun vs n z => ?_) fun z => ?_), r1, r2, r3, r4, r5, r6, r7, r8, hne⟩
        · rw [r2] at z
          cases z
        · rw [r2] at z
          cases z
          simp at r3
      · obtain ⟨bm, ob, b1, b2, b3, b4, b5, b6⟩ := hbm
        have nG : bm ≠ mainGlobals := fun q => by
          obtain ⟨o, es, ep, e, hd, _⟩ := hns
          rw [q, e] at b3
          cases b3
          rw [hd] at b6
          cases b6
        have nP : bm ≠ p.2 := fun q => by
          rw [q, hTp] at b3
          cases b3
          cases b6
        refine ⟨bm, ob, b1, b2, nG, nP, base_of b3 (noD b3 (fun vs n z => ?_) fun z => ?_), b4, b5, b6⟩
        · rw [b6] at z
          cases z
        · rw [b6] at z
          cases z
      · obtain ⟨o, es, ep, e, hd, _⟩ := hns
        rw [z, hTp] at e
        cases e
        cases hd
    have e0 : Env0 P w K mg (hidT s₁.heap H) callerA [] s₁ H := ⟨rfl, hM, fun b o e => of_hidT e, Nat.le_of_eq (hidT_size _ _), trivial, fun b hb => absurd (show b ∈ ([] : List Addr) from hb) (by simp), hok, .of_eq hg⟩
    refine codeAny_mono ((F _ hKb (nsK hns) TB).run callerA [] s₁ H ⟨[.ref a], []⟩ [.ref a] [.ref a] _ _ hr rfl e0 (hbind s₁ (.ref a)) (.cons rfl .nil) (hsp H hH hO hS)) fun r s' h => ?_
    cases r with
    | error e => exact (hCX H e s' h).elim
    | ok fl =>
      cases fl with
      | next => exact False.elim h
      | brk => exact False.elim h
      | cont => exact False.elim h
      | ret u =>
        obtain ⟨v, H', os, bare, un, hok', r', q⟩ := h
        have q' : v = .bl true := q
        subst q'
        obtain rfl : u = Value.bool true := r'
        have key : ∀ b o, b ∉ cs.map (·.2) → s₁.heap.get? b = some o → s'.heap.get? b = some o := fun b o nb e => by
          cases q : H b with
          | none => exact un.keep b o e q (by intro z; exact absurd (show b ∈ ([] : List Addr) from z) (by simp)) (by simp)
          | some u =>
            rcases hO b with z | z | ⟨ob, xs, z⟩
            · rw [q] at z; cases z
            · exact absurd z nb
            · have z2 := un.frzs b ob _ z
              obtain ⟨e1, _⟩ := hok b _ z
              obtain ⟨e2, _⟩ := hok' b _ z2
              rw [e] at e1; cases e1
              exact e2
        have grown : ∀ p ∈ cs, ∃ more : Array Value, s'.heap.get? p.2 = some { cls := .none, data := .fields more } := fun p hp => by
          obtain ⟨more, z⟩ := un.tbls p.2 #[] (hH p hp)
          exact ⟨_, hok' p.2 _ z⟩
        refine ⟨rfl, ⟨fun b o e => ?_, fun b o e => ?_⟩, os, bare⟩
        · by_cases hb : b ∈ cs.map (·.2)
          · obtain ⟨p, hp, ep⟩ := List.mem_map.mp hb
            obtain ⟨more, hm⟩ := grown p hp
            rw [← ep] at e ⊢
            rw [hT p hp] at e
            cases e
            exact .inr (.inl ⟨((C p hp).tab (hT p hp)).isCodeTable, rfl, #[], more, rfl, by rw [Array.empty_append]; exact hm⟩)
          · exact .inl (key b o hb e)
        · by_cases hb : b ∈ cs.map (·.2)
          · obtain ⟨p, hp, ep⟩ := List.mem_map.mp hb
            obtain ⟨more, hm⟩ := grown p hp
            rw [← ep]
            exact ⟨_, hm⟩
          · exact ⟨o, key b o hb e⟩
  cases hk : K.lookup a with
  | some o =>
    have e := KX a o hk
    rw [ha] at e
    cases e
    refine core (fun b => if b ∈ cs.map (·.2) then some (.tbl #[]) else none) (fun p hp => if_pos (memT p hp)) (fun b => ?_) (.inr ⟨_, vs.toArray, _, hk, rfl, rfl, rfl, by rw [List.size_toArray, lenV]; exact hl, by simpa using rv⟩) (fun b u z => ?_) (fun b z => ?_) fun z => absurd (show (if a ∈ cs.map (·.2) then some (HO.tbl #[]) else none) = none from if_neg aT) z
    · by_cases hb : b ∈ cs.map (·.2)
      · exact .inr (.inl hb)
      · exact .inl (if_neg hb)
    · by_cases hb : b ∈ cs.map (·.2)
      · have z' := (if_pos hb).symm.trans z
        cases z'
        exact isT b hb
      · have z' := (if_neg hb).symm.trans z
        cases z'
    · by_cases hb : b ∈ cs.map (·.2)
      · exact .inr hb
      · exact absurd (if_neg hb) z
  | none =>
    refine core (fun b => if b = a then some (.frz { cls := .type "list", data := .seq vs.toArray } (.lst (ns.map V.int))) else if b ∈ cs.map (·.2) then some (.tbl #[]) else none) (fun p hp => (if_neg (show ¬ p.2 = a from fun z => aT (by rw [← z]; exact memT p hp))).trans (if_pos (memT p hp))) (fun b => ?_)
      (.inl ⟨{ cls := .type "list", data := .seq vs.toArray }, if_pos rfl⟩) (fun b u z => ?_) (fun b z => ?_) fun _ => hk
    · by_cases hb : b = a
      · exact .inr (.inr ⟨_, _, if_pos hb⟩)
      · by_cases hb2 : b ∈ cs.map (·.2)
        · exact .inr (.inl hb2)
        · exact .inl ((if_neg hb).trans (if_neg hb2))
    · by_cases hb : b = a
      · have z' := (if_pos hb).symm.trans z
        cases z'
        rw [hb]
        exact ⟨ha, by rw [List.length_map]; exact hl, vs, _, rv, ha⟩
      · have z1 := (if_neg hb).symm.trans z
        by_cases hb2 : b ∈ cs.map (·.2)
        · have z' := (if_pos hb2).symm.trans z1
          cases z'
          exact isT b hb2
        · have z' := (if_neg hb2).symm.trans z1
          cases z'
    · by_cases hb : b = a
      · exact .inl hb
      · by_cases hb2 : b ∈ cs.map (·.2)
        · exact .inr hb2
        · exact absurd ((if_neg hb).trans (if_neg hb2)) z
theorem walk_GT {l : PySem.W.OpenLaw} {n k : Nat} {q : Program} {loose : List Str} {XP : (Str → Option Value) → Heap → Prop} {YP : World → Heap → Prop} {d : DefRec} {K : Params → PySem.W.Frag} {x : Str} {m : FM}
    (hn : l.most = some n) (hn2 : n ≤ sizeLine) (hdf : d.params.defaults = []) (hr : Room k callerA) (hY : ∀ (w : World) (h : Heap), YP w h → (K w.params).In h)
    (F : ∀ (w : World) (mg mb : Str → Option Value) (fa : Addr) (h : Heap) (lo : List Str) (mean : ExcName → Option Value), Top q lo mean mg mb h → (K w.params).In h → h.Ns mainGlobals mg → mg d.name = some (.ref fa) →
      ∃ (fd : FuncData) (cls : List (Str × Addr)) (cs : List (Addr × Addr × Str)), (∀ p ∈ cs, h.get? p.2.1 = some { cls := .none, data := .fields #[] } ∧ (K w.params).lookup p.2.1 = none ∧ PySem.W.CodeHd h p.1 p.2.1) ∧ (∀ (s : Shared) (u : Value), BindsTo s fd ⟨[u], []⟩ [(x, u)]) ∧
        ∀ base : Heap, (K w.params).In base → base.Ns mainGlobals mg → (∀ p ∈ cs, LamX.TabB base mg p.1 p.2.1) → FnG l.prog w (K w.params) mg base (L2.CX l.prog w) k fa fd [x] (@spM ⟨K w.params, cls, cs.map (·.2)⟩ (@xhE ⟨K w.params, cls, cs.map (·.2)⟩) 1 m))
    (hm : ∀ ns : List Int, ns.length ≤ n → ∃ o, m [.val (.fl ns)] = .ok (.val (.bl true)) [o]) : PySem.W.WalkO q loose XP YP l.row.toRowW d [] (fun f vs => PySem.call f vs) := by
  refine Att.attach_call hn hdf fun w s₀ s₁ mg mb fa o pm cd doc a vs ns G Y ho hd hcd hmg hobj hints hlen hg => ?_
  have kx := hY w _ Y
  obtain ⟨fd, cls, cs, hcs, hb, hF⟩ := F w mg mb fa _ _ _ G.T kx G.T.g hmg
  letI : Kc := ⟨K w.params, cls, cs.map (·.2)⟩
  have memC : ∀ p ∈ cs.map (fun p => (p.1, p.2.1)), ∃ p' ∈ cs, p = (p'.1, p'.2.1) := fun p hp => by
    obtain ⟨p', h1, rfl⟩ := List.mem_map.mp hp
    exact ⟨p', h1, rfl⟩
  refine law_GT (cs := cs.map fun p => (p.1, p.2.1)) kx G.T.g G.T.b G.T.builtins G.T.nolimit hg (fun p hp => ?_) (fun p hp => ?_) (fun p hp => ?_) G.T.bmain hobj hints (Nat.le_trans hlen hn2) hr (fun base h1 h2 h3 => hF base h1 h2 fun p hp => h3 (p.1, p.2.1) (List.mem_map.mpr ⟨p, hp, rfl⟩)) hb (fun H hH hO hS => ?_) fun H e s' => cx_no
  · obtain ⟨p', h1, rfl⟩ := memC p hp
    exact (hcs p' h1).1
  · obtain ⟨p', h1, rfl⟩ := memC p hp
    exact (hcs p' h1).2.1
  · obtain ⟨p', h1, rfl⟩ := memC p hp
    exact (hcs p' h1).2.2
  obtain ⟨o', e'⟩ := hm ns hlen
  refine ⟨rfl, [], [.val (.fl ns)], rfl, ?_, ?_⟩
  · refine ⟨[], ?_, List.nodup_nil, fun p hp => ?_⟩
    · refine @RIs.cons ⟨K w.params, cls, cs.map (·.2)⟩ _ _ _ _ _ [] [] (.val (.fl ?_)) .nil
      rcases hS with ⟨ob, h⟩ | h
      · exact .inl ⟨by simp, ob, h⟩
      · exact .inr h
    · obtain ⟨p', h1, rfl⟩ := List.mem_map.mp hp
      refine ⟨by simp, #[], hH (p'.1, p'.2.1) (List.mem_map.mpr ⟨p', h1, rfl⟩), True.intro, fun pos cv hc => ?_⟩
      have z : codeAmong pos [] = some cv := hc
      simp [codeAmong] at z
  · rw [e']
    exact ⟨rfl, fun v H' c => CG.bl c⟩
end Dl
namespace Dl
open PySem PySem.Spec PyProof.Rows L2
theorem tab_code {K : PySem.W.Frag} {x : Str} {f c P : Addr} {oc : Value} {od : Option Addr} {fd : FuncData} {sl : Array (Option Value)} (a : PySem.W.nsIn K mainGlobals x = some (some (.ref f))) (l : K.lookup f = some ⟨oc, od, .func fd, sl⟩) (ht : PySem.W.tabIn K x = some (c, P)) : fd.code = .ref c := by
  unfold PySem.W.tabIn at ht
  rw [a] at ht
  dsimp only at ht
  rw [l] at ht
  dsimp only at ht
  split at ht
  · rename_i c2 hc
    split at ht
    · split at ht
      · cases ht
        exact hc
      · cases ht
    · cases ht
  · cases ht
end Dl
namespace Dl
open PySem PySem.Spec PyProof.Rows L2
theorem tab_mk {K : PySem.W.Frag} {x : Str} {f c P : Addr} {oc o2 : Value} {od d2 : Option Addr} {fd : FuncData} {sl s2 : Array (Option Value)} {vs : Array Value} (a : PySem.W.nsIn K mainGlobals x = some (some (.ref f))) (l : K.lookup f = some ⟨oc, od, .func fd, sl⟩)
    (hc : fd.code = .ref c) (lc : K.lookup c = some ⟨o2, d2, .fields vs, s2⟩) (hv : (vs[11]? : Option Value) = some (.ref P)) : PySem.W.tabIn K x = some (c, P) := by
  unfold PySem.W.tabIn
  rw [a]
  dsimp only
  rw [l]
  dsimp only
  rw [hc]
  dsimp only
  rw [lc]
  dsimp only
  rw [hv]
end Dl

namespace Dl
open PySem L2
/-! ### lambdas, read -/
@[simp low] theorem mLam_ap (tf : TF) (m : M O) (ρ : Sl) : mLam tf m ρ = (match m ρ with
  | .ok o ρ' => (match tf (.inl o) with
    | some r => .ok r ρ'
    | none => .fail)
  | .ex x ρ' => (match tf (.inr x) with
    | some r => .ok r ρ'
    | none => .fail)
  | .fail => .fail) := rfl
theorem mTold_l (ρ : Sl) (ib : Option Nat) (ie ia : Nat) (l : List (Str × Bool)) (m : M Fl) (o : O) : mTold ρ ib ie ia l m (.inl o) = runR m (setO ib o ρ) := rfl
theorem mTold_r (ρ : Sl) (ib : Option Nat) (ie ia : Nat) (l : List (Str × Bool)) (m : M Fl) (x : Ex) : mTold ρ ib ie ia l m (.inr x) = (match l.lookup x.cls with
    | some true => runR m ((ρ.set ie none).set ia (some (.val (.obj x.cls x.ks x.ds))))
    | _ => none) := rfl
theorem runR_ok {m : M Fl} {ρ ρ' : Sl} {r : O} (h : m ρ = .ok (.rt r) ρ') : runR m ρ = some r := by unfold runR; rw [h]
theorem setO_s (i : Nat) (o : O) (ρ : Sl) : setO (some i) o ρ = ρ.set i (some o) := rfl
theorem setO_n (o : O) (ρ : Sl) : setO none o ρ = ρ := rfl
@[simp] theorem wipeO_nil (ρ : Sl) : wipeO ρ [] = ρ := rfl
@[simp] theorem wipeO_cons (ρ : Sl) (i : Nat) (l : List Nat) : wipeO ρ (i :: l) = (wipeO ρ l).set i none := rfl
/-! ### what a run must come to -/
def Ok {α : Type} (r : Out α) (Q : α → Sl → Prop) : Prop := match r with
  | .ok a ρ => Q a ρ
  | _ => False
section
variable {α β : Type}
@[simp] theorem Ok_ok (a : α) (ρ : Sl) (Q : α → Sl → Prop) : Ok (.ok a ρ) Q = Q a ρ := rfl
theorem Ok.get {r : Out α} {Q : α → Sl → Prop} (h : Ok r Q) : ∃ a ρ, r = .ok a ρ ∧ Q a ρ := by
  cases r with
  | ok a ρ => exact ⟨a, ρ, rfl, h⟩
  | ex => exact False.elim h
  | fail => exact False.elim h
theorem Ok.mono {r : Out α} {Q R : α → Sl → Prop} (h : Ok r Q) (k : ∀ a ρ, Q a ρ → R a ρ) : Ok r R := by
  obtain ⟨a, ρ, rfl, q⟩ := h.get
  exact k a ρ q
theorem filt_true (xs : List α) : xs.filter (fun _ => true) = xs := by
  induction xs with
  | nil => rfl
  | cons x xs ih => rw [List.filter_cons_of_pos rfl, ih]
theorem mapS {γ : Type} {o : Option α} {f : α → γ} {b : γ} (h : o.map f = some b) : ∃ a, o = some a ∧ f a = b := by
  cases o with
  | none => cases h
  | some a => exact ⟨a, rfl, by simpa using h⟩
theorem comps_W {vs : List Nat} {t : O → M Unit} {c : M Bool} {e : M O} {ρ : Sl} (f : α → D) (p : α → Bool) (g : α → O) : ∀ (xs : List α) (acc : List O),
    (∀ x ∈ xs, Ok (t (.val (f x)) ρ) fun _ ρ1 => Ok (c ρ1) fun b ρ2 => b = p x ∧ (p x = true → Ok (e ρ2) fun o ρ3 => o = g x ∧ wipeO ρ3 vs = ρ) ∧ (p x = false → wipeO ρ2 vs = ρ)) →
    mComps vs t c e (xs.map f) acc ρ = .ok (acc ++ (xs.filter p).map g) ρ
  | [], acc, _ => by simp [mComps]
  | x :: xs, acc, h => by
    obtain ⟨_, ρ1, h1, h2⟩ := (h x List.mem_cons_self).get
    obtain ⟨b, ρ2, h3, hb, h4, h5⟩ := h2.get
    have ih := fun acc' => comps_W f p g xs acc' fun y hy => h y (List.mem_cons_of_mem _ hy)
    rw [List.map_cons, mComps, bnd_ok h1, bnd_ok h3, hb]
    cases q : p x with
    | true =>
      obtain ⟨o, ρ3, e1, rfl, e2⟩ := (h4 q).get
      rw [if_pos rfl, bnd_ok e1]
      show mComps vs t c e (xs.map f) (acc ++ [g x]) (wipeO ρ3 vs) = _
      rw [e2, ih, List.filter_cons_of_pos q]
      simp
    | false =>
      rw [if_neg (by decide)]
      show mComps vs t c e (xs.map f) acc (wipeO ρ2 vs) = _
      rw [h5 q, ih, List.filter_cons_of_neg (by rw [q]; decide)]
/-- a comprehension with a test -/
theorem comp_F' {vs : List Nat} {i : M (List D)} {t : O → M Unit} {c : M Bool} {e : M O} {ρ ρ1 ρ2 : Sl} (f : α → D) (p : α → Bool) (g : α → O) (xs : List α) (hi : i ρ = .ok (xs.map f) ρ1) (hw : wipeO ρ1 vs = ρ2) (hl : xs.length ≤ 1000000)
    (h : ∀ x ∈ xs, Ok (t (.val (f x)) ρ2) fun _ ρ1 => Ok (c ρ1) fun b ρ3 => b = p x ∧ (p x = true → Ok (e ρ3) fun o ρ3 => o = g x ∧ wipeO ρ3 vs = ρ2) ∧ (p x = false → wipeO ρ3 vs = ρ2)) : mComp vs i t c e ρ = .ok (.lst ((xs.filter p).map g)) ρ2 := by
  have := comps_W f p g xs [] h
  rw [List.nil_append, ← hw] at this
  rw [← hw]
  exact comp_ok hi (by simpa using hl) this
theorem comp_M' {vs : List Nat} {i : M (List D)} {t : O → M Unit} {e : M O} {ρ ρ1 ρ2 : Sl} (f : α → D) (g : α → O) (xs : List α) (hi : i ρ = .ok (xs.map f) ρ1) (hw : wipeO ρ1 vs = ρ2) (hl : xs.length ≤ 1000000)
    (h : ∀ x ∈ xs, Ok (t (.val (f x)) ρ2) fun _ ρ1 => Ok (e ρ1) fun o ρ3 => o = g x ∧ wipeO ρ3 vs = ρ2) : mComp vs i t (Dl.ret true) e ρ = .ok (.lst (xs.map g)) ρ2 := by
  have := comp_F' (vs := vs) (i := i) (t := t) (c := Dl.ret true) (e := e) f (fun _ => true) g xs hi hw hl fun x hx => by
    refine (h x hx).mono fun _ ρ1 q => ?_
    simpa using q
  rwa [filt_true] at this
theorem comp_F {vs : List Nat} {i : M (List D)} {t : O → M Unit} {c : M Bool} {e : M O} {ρ ρ2 : Sl} (f : α → D) (p : α → Bool) (g : α → O) (xs : List α) (hi : i ρ = .ok (xs.map f) ρ) (hw : wipeO ρ vs = ρ2) (hl : xs.length ≤ 1000000)
    (h : ∀ x ∈ xs, Ok (t (.val (f x)) ρ2) fun _ ρ1 => Ok (c ρ1) fun b ρ3 => b = p x ∧ (p x = true → Ok (e ρ3) fun o ρ3 => o = g x ∧ wipeO ρ3 vs = ρ2) ∧ (p x = false → wipeO ρ3 vs = ρ2)) : mComp vs i t c e ρ = .ok (.lst ((xs.filter p).map g)) ρ2 := comp_F' f p g xs hi hw hl h
theorem comp_M {vs : List Nat} {i : M (List D)} {t : O → M Unit} {e : M O} {ρ ρ2 : Sl} (f : α → D) (g : α → O) (xs : List α) (hi : i ρ = .ok (xs.map f) ρ) (hw : wipeO ρ vs = ρ2) (hl : xs.length ≤ 1000000)
    (h : ∀ x ∈ xs, Ok (t (.val (f x)) ρ2) fun _ ρ1 => Ok (e ρ1) fun o ρ3 => o = g x ∧ wipeO ρ3 vs = ρ2) : mComp vs i t (Dl.ret true) e ρ = .ok (.lst (xs.map g)) ρ2 := comp_M' f g xs hi hw hl h
/-- a comprehension whose turns change what is around (the hand): an invariant -/
theorem comp_I {vs : List Nat} {i : M (List D)} {t : O → M Unit} {e : M O} {ρ ρ1 : Sl} {ds : List D} (I : Nat → List O → Sl → Prop) (hi : i ρ = .ok ds ρ1) (hl : ds.length ≤ 1000000) (h0 : I 0 [] (wipeO ρ1 vs))
    (h : ∀ k d acc ρ, ds[k]? = some d → I k acc ρ → Ok (t (.val d) ρ) fun _ ρ1 => Ok (e ρ1) fun o ρ3 => I (k + 1) (acc ++ [o]) (wipeO ρ3 vs)) : ∃ os ρ', mComp vs i t (Dl.ret true) e ρ = .ok (.lst os) ρ' ∧ I ds.length os ρ' := by
  obtain ⟨os, ρ', h1, h2⟩ := comps_ok (vs := vs) (t := t) (c := Dl.ret true) (e := e) I ds 0 [] (wipeO ρ1 vs) h0 fun k d acc ρ hd hI => by
    rw [Nat.zero_add] at *
    obtain ⟨_, ρ1, q1, q2⟩ := (h k d acc ρ hd hI).get
    obtain ⟨o, ρ3, q3, q4⟩ := q2.get
    exact ⟨ρ1, true, ρ1, q1, rfl, fun _ => ⟨o, ρ3, q3, q4⟩, fun z => nomatch z⟩
  rw [Nat.zero_add] at h2
  exact ⟨os, ρ', comp_ok hi hl h1, h2⟩
theorem isV_all (ds : List D) : (ds.map O.val).all isV = true := by
  induction ds with
  | nil => rfl
  | cons d ds ih => rw [List.map_cons, List.all_cons, ih]; rfl
/-- over a name's own list -/
theorem compS_F {vs : List Nat} {i : Nat} {mi : M (List D)} {t : O → M Unit} {c : M Bool} {e : M O} {ρ ρ2 : Sl} (f : α → D) (p : α → Bool) (g : α → O) (xs : List α) (h0 : ρ[i]? = some (some (.lst ((xs.map f).map O.val)))) (hw : wipeO ρ vs = ρ2) (h1 : ρ2[i]? = some (some (.lst ((xs.map f).map O.val)))) (hl : xs.length < 1000000)
    (h : ∀ x ∈ xs, Ok (t (.val (f x)) ρ2) fun _ ρ1 => Ok (c ρ1) fun b ρ3 => b = p x ∧ (p x = true → Ok (e ρ3) fun o ρ3 => o = g x ∧ wipeO ρ3 vs = ρ2) ∧ (p x = false → wipeO ρ3 vs = ρ2)) : mCompS vs i mi t c e ρ = .ok (.lst ((xs.filter p).map g)) ρ2 := by
  rw [mCompS_ap, h0]
  dsimp only
  rw [if_pos (isV_all _)]
  obtain ⟨os, ρ', e1, rfl, rfl⟩ := compsO_ok (i := i) (vs := vs) (t := t) (c := c) (e := e) (xs.map f) (fun k acc ρ => ρ = ρ2 ∧ acc = ((xs.take k).filter p).map g) (fun k acc ρ q => by rw [q.1]; exact h1) (fun k d acc ρ hd ⟨q1, q2⟩ => by
    subst q1 q2
    rw [List.getElem?_map] at hd
    obtain ⟨x, hx, rfl⟩ := mapS hd
    obtain ⟨_, ρ1, h1, h2⟩ := (h x (List.mem_of_getElem? hx)).get
    obtain ⟨b, ρ2', h3, hb, h4, h5⟩ := h2.get
    have et : xs.take (k + 1) = xs.take k ++ [x] := by rw [List.take_add_one, hx]; rfl
    refine ⟨ρ1, b, ρ2', h1, h3, fun z => ?_, fun z => ?_⟩
    · rw [z] at hb
      obtain ⟨o, ρ3, e1, rfl, e2⟩ := (h4 hb.symm).get
      refine ⟨g x, ρ3, e1, e2, ?_⟩
      rw [et, List.filter_append, List.filter_cons_of_pos hb.symm]
      simp
    · rw [z] at hb
      refine ⟨h5 hb.symm, ?_⟩
      rw [et, List.filter_append, List.filter_cons_of_neg (by rw [← hb]; decide)]
      simp) 1000000 0 [] ρ2 (Nat.zero_le _) (by simpa using hl) ⟨rfl, by simp⟩
  rw [← hw] at e1 ⊢
  rw [compO_ok e1, List.length_map, List.take_length]
theorem compS_M {vs : List Nat} {i : Nat} {mi : M (List D)} {t : O → M Unit} {e : M O} {ρ ρ2 : Sl} (f : α → D) (g : α → O) (xs : List α) (h0 : ρ[i]? = some (some (.lst ((xs.map f).map O.val)))) (hw : wipeO ρ vs = ρ2) (h1 : ρ2[i]? = some (some (.lst ((xs.map f).map O.val)))) (hl : xs.length < 1000000)
    (h : ∀ x ∈ xs, Ok (t (.val (f x)) ρ2) fun _ ρ1 => Ok (e ρ1) fun o ρ3 => o = g x ∧ wipeO ρ3 vs = ρ2) : mCompS vs i mi t (Dl.ret true) e ρ = .ok (.lst (xs.map g)) ρ2 := by
  have := compS_F (vs := vs) (i := i) (mi := mi) (t := t) (c := Dl.ret true) (e := e) f (fun _ => true) g xs h0 hw h1 hl fun x hx => by
    refine (h x hx).mono fun _ ρ1 q => ?_
    simpa using q
  rwa [filt_true] at this
/-- a loop, by what is behind it -/
theorem for_P' {i : M (List D)} {t : O → M Unit} {b : M Fl} {ρ ρ1 : Sl} (f : α → D) (xs : List α) (J : List α → Sl → Prop) (hi : i ρ = .ok (xs.map f) ρ1) (h0 : J [] ρ1)
    (h : ∀ pre x post ρ, xs = pre ++ x :: post → J pre ρ → Ok (t (.val (f x)) ρ) fun _ ρ1 => Ok (b ρ1) fun fl ρ2 => (fl = .nx ∨ fl = .ct) ∧ J (pre ++ [x]) ρ2) : ∃ ρ', mFor i t b ρ = .ok .nx ρ' ∧ J xs ρ' := by
  obtain ⟨ρ', e, q⟩ := loop_ok (t := t) (b := b) (fun k ρ => J (xs.take k) ρ) (xs.map f) 0 ρ1 (by simpa using h0) fun k d ρ hd hI => by
    rw [Nat.zero_add] at *
    rw [List.getElem?_map] at hd
    obtain ⟨x, hx, rfl⟩ := mapS hd
    have hk : k < xs.length := (List.getElem?_eq_some_iff.mp hx).1
    have et : xs.take (k + 1) = xs.take k ++ [x] := by rw [List.take_add_one, hx]; rfl
    have es : xs = xs.take k ++ x :: xs.drop (k + 1) := by
      have h2 : x = xs[k] := by
        rw [List.getElem?_eq_getElem hk] at hx
        exact (Option.some.inj hx).symm
      rw [h2, List.getElem_cons_drop]
      exact (List.take_append_drop k xs).symm
    obtain ⟨_, ρ1, q1, q2⟩ := (h _ x _ ρ es hI).get
    obtain ⟨fl, ρ2, q3, q4, q5⟩ := q2.get
    exact ⟨ρ1, fl, ρ2, q1, q3, q4, by rw [et]; exact q5⟩
  refine ⟨ρ', ?_, ?_⟩
  · rw [mFor_ap, hi]
    exact e
  · simpa using q
theorem for_P {i : M (List D)} {t : O → M Unit} {b : M Fl} {ρ : Sl} (f : α → D) (xs : List α) (J : List α → Sl → Prop) (hi : i ρ = .ok (xs.map f) ρ) (h0 : J [] ρ)
    (h : ∀ pre x post ρ, xs = pre ++ x :: post → J pre ρ → Ok (t (.val (f x)) ρ) fun _ ρ1 => Ok (b ρ1) fun fl ρ2 => (fl = .nx ∨ fl = .ct) ∧ J (pre ++ [x]) ρ2) : ∃ ρ', mFor i t b ρ = .ok .nx ρ' ∧ J xs ρ' := for_P' f xs J hi h0 h
/-- a loop over a range, by its number -/
theorem for_R' {i : M (List D)} {t : O → M Unit} {b : M Fl} {ρ ρ1 : Sl} {lo : Int} {n : Nat} (I : Nat → Sl → Prop) (hi : i ρ = .ok (rngL lo n) ρ1) (h0 : I 0 ρ1)
    (h : ∀ k ρ, k < n → I k ρ → Ok (t (.val (.int (lo + (k : Int)))) ρ) fun _ ρ1 => Ok (b ρ1) fun fl ρ2 => (fl = .nx ∨ fl = .ct) ∧ I (k + 1) ρ2) : ∃ ρ', mFor i t b ρ = .ok .nx ρ' ∧ I n ρ' := by
  obtain ⟨ρ', e, q⟩ := loop_ok (t := t) (b := b) I (rngL lo n) 0 ρ1 h0 fun k d ρ hd hI => by
    rw [Nat.zero_add] at *
    have hk : k < n ∧ d = .int (lo + (k : Int)) := by
      unfold rngL at hd
      rw [List.getElem?_map] at hd
      obtain ⟨x, hx, rfl⟩ := mapS hd
      have hl := (List.getElem?_eq_some_iff.mp hx).1
      rw [List.length_range] at hl
      rw [List.getElem?_range hl] at hx
      cases hx
      exact ⟨hl, rfl⟩
    obtain ⟨hk, rfl⟩ := hk
    obtain ⟨_, ρ1, q1, q2⟩ := (h k ρ hk hI).get
    obtain ⟨fl, ρ2, q3, q4, q5⟩ := q2.get
    exact ⟨ρ1, fl, ρ2, q1, q3, q4, q5⟩
  refine ⟨ρ', ?_, ?_⟩
  · rw [mFor_ap, hi]
    exact e
  · have hl : (rngL lo n).length = n := by simp [rngL]
    rw [hl, Nat.zero_add] at q
    exact q
theorem for_R {i : M (List D)} {t : O → M Unit} {b : M Fl} {ρ : Sl} {lo : Int} {n : Nat} (I : Nat → Sl → Prop) (hi : i ρ = .ok (rngL lo n) ρ) (h0 : I 0 ρ)
    (h : ∀ k ρ, k < n → I k ρ → Ok (t (.val (.int (lo + (k : Int)))) ρ) fun _ ρ1 => Ok (b ρ1) fun fl ρ2 => (fl = .nx ∨ fl = .ct) ∧ I (k + 1) ρ2) : ∃ ρ', mFor i t b ρ = .ok .nx ρ' ∧ I n ρ' := for_R' I hi h0 h
end
/-! ### x != [], x == [] -/
theorem ne_nil (l : List D) : neD (.lst l) (.lst []) = some (.bl (!l.isEmpty)) := by
  unfold neD
  split
  · show some (D.bl (!PyData.eqvAll (toPs l) [])) = _
    cases l <;> rfl
  · rename_i h
    cases l with
    | nil => exact absurd ⟨rfl, rfl, rfl, rfl⟩ h
    | cons d l => rfl
theorem eq_nil (l : List D) : eqD (.lst l) (.lst []) = some (.bl l.isEmpty) := by
  unfold eqD
  split
  · show some (D.bl (PyData.eqvAll (toPs l) [])) = _
    cases l <;> rfl
  · rename_i h
    cases l with
    | nil => exact absurd ⟨rfl, rfl, rfl, rfl⟩ h
    | cons d l => rfl
theorem is_obj (c : Str) (ks : List Str) (l : List D) : cmpF .Is (.obj c ks l) .non = some (.bl false) := rfl
theorem is_non : cmpF .Is .non .non = some (.bl true) := rfl
end Dl

set_option maxHeartbeats 8000000
namespace Dl
open PySem L2
@[simp] theorem atI_3 {γ : Type} (a b c d : γ) (l : List γ) : atI (a :: b :: c :: d :: l) 3 = some d := by
  unfold atI ixN
  rw [if_pos (by omega), if_pos (by simp only [List.length_cons]; omega)]
  rfl
@[simp] theorem atI_4 {γ : Type} (a b c d e : γ) (l : List γ) : atI (a :: b :: c :: d :: e :: l) 4 = some e := by
  unfold atI ixN
  rw [if_pos (by omega), if_pos (by simp only [List.length_cons]; omega)]
  rfl
theorem limI {i : Int} (h1 : -10000000000000000000000000000000000000000 ≤ i) (h2 : i ≤ 10000000000000000000000000000000000000000) : i.natAbs < lim4 := by
  have h : i.natAbs < 2 ^ 200 := by omega
  exact Nat.lt_of_lt_of_le h (Nat.pow_le_pow_right (by decide) (by decide))
theorem atI_mp {α β : Type} (f : α → β) (l : List α) (i : Int) : atI (l.map f) i = (atI l i).map f := by
  unfold atI
  rw [List.length_map]
  cases ixN l.length i with
  | none => rfl
  | some j => simp
theorem atI_in {γ : Type} {l : List γ} {i : Int} (h0 : 0 ≤ i) (h1 : i < l.length) : ∃ a, atI l i = some a ∧ a ∈ l := by
  have hn : i.toNat < l.length := by omega
  refine ⟨l[i.toNat], ?_, List.getElem_mem hn⟩
  unfold atI ixN
  rw [if_pos h0, if_pos (by omega)]
  exact List.getElem?_eq_getElem hn
theorem sq_lt {a b : Int} (ha : 0 ≤ a) (h : a < 2147483648) (hb : 0 ≤ b) (h2 : b < 10000000000000) : a * b < 21474836480000000000000 := by
  have h1 : a * b ≤ 2147483648 * b := Int.mul_le_mul_of_nonneg_right (by omega) hb
  omega
end Dl
namespace Kl
open PySem L2 Dl
/-- a hand -/
structure Hd (B : Int) (hl : List O) : Prop where
  ex : ∃ g s c : Int, hl = [.val (.int g), .val (.int s), .val (.int c)] ∧ 0 ≤ g ∧ 0 ≤ s ∧ s < 2147483647 ∧ 0 ≤ c ∧ c ≤ B
theorem Hd.mono {B C : Int} {hl : List O} (h : Hd B hl) (hb : B ≤ C) : Hd C hl := by
  obtain ⟨g, s, c, e, h1, h2, h3, h4, h5⟩ := h.ex
  exact ⟨g, s, c, e, h1, h2, h3, h4, by omega⟩
end Kl

namespace Kl
open PySem L2 Dl
theorem ten9 : binF .Pow (.int 10) (.int 9) = some (.val (.int 1000000000)) := by
  rw [bin_pow 10 9 (by omega) (by omega) (by omega)]; rfl
end Kl

namespace Kl
open PySem L2 Dl
/-- a cell -/
structure CellD (w : Int) (d : D) : Prop where
  ex : ∃ b e n : Int, d = .tup [.int b, .int e, .int n] ∧ 0 ≤ b ∧ b < e ∧ e ≤ w ∧ 0 ≤ n ∧ n ≤ 1000000000
theorem CellD.tm {w : Int} {d : D} (h : CellD w d) (hw : w ≤ 1000) : Tm 1 d := by
  obtain ⟨b, e, n, rfl, _⟩ := h.ex
  intro x hx
  simp only [List.mem_cons, List.not_mem_nil, or_false] at hx
  rcases hx with rfl | rfl | rfl <;> (show Int.natAbs _ < 10 ^ 60; omega)
theorem cut2 (a b c : D) : cutD [a, b, c] none (some 2) = [a, b] := rfl
section
variable {B top wide way num : Int} {hl : List O} {fd : List D} {s1 s2 : Option O} {s8 s9 : Option O}
end
end Kl

namespace Dl
open PySem L2
theorem rng_1 {n : Int} (h : -1000000000 ≤ n) (h' : n ≤ 1000000000) : rng [.int n] = some (rngL 0 n.toNat) := if_pos ⟨h, h'⟩
theorem rngL_len (lo : Int) (n : Nat) : (rngL lo n).length = n := by simp [rngL]
theorem rngL_at {lo : Int} {n i : Nat} {d : D} (h : (rngL lo n)[i]? = some d) : d = .int (lo + i) ∧ i < n := by
  unfold rngL at h
  rw [List.getElem?_map] at h
  have hl : i < n := by
    refine Classical.byContradiction fun z => ?_
    rw [List.getElem?_eq_none (by simp; omega)] at h
    cases h
  rw [List.getElem?_range hl] at h
  cases h
  exact ⟨rfl, hl⟩
end Dl
namespace Kl
open PySem L2 Dl
end Kl

namespace Kl
open PySem L2 Dl
def P60 : Int := 10 ^ 60
def P18 : Int := 10 ^ 18
theorem P60_pos : 0 < P60 := by unfold P60; omega
theorem P60_lim : P60.natAbs < lim4 := lim_of (by unfold P60; omega) (by unfold P60; omega)
theorem P60P_lim : (P60 * P60).natAbs < lim4 := lim_of (by unfold P60; omega) (by unfold P60; omega)
theorem P180_pos : 0 < P60 * P60 * P60 := by unfold P60; omega
theorem P180_lim {i : Int} : (i % (P60 * P60 * P60)).natAbs < lim4 := by
  have h1 := Int.emod_nonneg i (show P60 * P60 * P60 ≠ 0 by have := P180_pos; omega)
  have h2 := Int.emod_lt_of_pos i P180_pos
  refine lim_of ?_ (Int.lt_of_lt_of_le h2 ?_)
  · exact Int.lt_of_lt_of_le (by decide) h1
  · unfold P60; omega
theorem pw60 : binF .Pow (.int 10) (.int 60) = some (.val (.int P60)) := bin_pow 10 60 (by omega) (by omega) (by omega)
theorem pw18 : binF .Pow (.int 10) (.int 18) = some (.val (.int P18)) := bin_pow 10 18 (by omega) (by omega) (by omega)
end Kl

namespace Kl
open PySem L2 Dl
abbrev Cl := Int × Int × Int
def cellD (c : Cl) : D := .tup [.int c.1, .int c.2.1, .int c.2.2]
def tabD (w : Int) (cs : List Cl) : D := .tup [.int w, .tup (cs.map cellD)]
def CsOk (w : Int) (cs : List Cl) : Prop := ∀ c ∈ cs, 0 ≤ c.1 ∧ c.1 < c.2.1 ∧ c.2.1 ≤ w ∧ 0 ≤ c.2.2 ∧ c.2.2 ≤ 1000000000
theorem cells_of {w : Int} : ∀ {fd : List D}, (∀ d ∈ fd, CellD w d) → ∃ cs : List Cl, fd = cs.map cellD ∧ cs.length = fd.length ∧ ∀ c ∈ cs, 0 ≤ c.1 ∧ c.1 < c.2.1 ∧ c.2.1 ≤ w ∧ 0 ≤ c.2.2 ∧ c.2.2 ≤ 1000000000
  | [], _ => ⟨[], rfl, rfl, by simp⟩
  | d :: fd, h => by
    obtain ⟨b, e, n, rfl, q⟩ := (h d (by simp)).ex
    obtain ⟨cs, rfl, hl, hc⟩ := cells_of fun x hx => h x (List.mem_cons_of_mem _ hx)
    refine ⟨(b, e, n) :: cs, rfl, by simp, fun c hc' => ?_⟩
    rcases List.mem_cons.mp hc' with rfl | z
    · exact q
    · exact hc c z
theorem tab_tm {w : Int} {cs : List Cl} (hw : w.natAbs < 10 ^ 60) (hc : ∀ c ∈ cs, c.1.natAbs < 10 ^ 60 ∧ c.2.1.natAbs < 10 ^ 60 ∧ c.2.2.natAbs < 10 ^ 60) : Tm 3 (tabD w cs) := by
  intro d hd
  simp only [List.mem_cons, List.not_mem_nil, or_false] at hd
  rcases hd with rfl | rfl
  · exact hw
  · intro d hd
    obtain ⟨c, h1, rfl⟩ := List.mem_map.mp hd
    obtain ⟨q1, q2, q3⟩ := hc c h1
    intro x hx
    simp only [List.mem_cons, List.not_mem_nil, or_false] at hx
    rcases hx with rfl | rfl | rfl
    · exact q1
    · exact q2
    · exact q3
theorem tab_cnt {w : Int} {cs : List Cl} (h : cs.length ≤ 1000) : cnt (tabD w cs) ≤ 13000 := by
  have h1 := cnts_map cellD 4 cs fun a _ => by simp [cellD, cnt, cnts]
  simp only [tabD, cnt, cnts]
  omega
theorem map_id_of {α : Type} {f : α → α} : ∀ {l : List α}, (∀ a ∈ l, f a = a) → l.map f = l
  | [], _ => rfl
  | a :: l, h => by rw [List.map_cons, h a (by simp), map_id_of fun b hb => h b (List.mem_cons_of_mem _ hb)]
end Kl

namespace Dl
open PySem L2
/-! ### lists of ints, comprehensions with a test, loops -/
def io (r : List Int) : List O := r.map fun i => .val (.int i)
def gr (r : List Int) (j : Int) : Int := r.getD j.toNat 0
@[simp] theorem io_nil : io [] = [] := rfl
@[simp] theorem io_len (r : List Int) : (io r).length = r.length := by simp [io]
@[simp] theorem frzs_io (r : List Int) : frzs (io r) = r.map D.int := by
  induction r with
  | nil => rfl
  | cons a r ih =>
    show frzs (.val (.int a) :: io r) = _
    rw [frzs, ih]; rfl
theorem atI_io {r : List Int} {j : Int} (h0 : 0 ≤ j) (h1 : j < r.length) : atI (io r) j = some (.val (.int (gr r j))) := by
  have hn : j.toNat < r.length := by omega
  unfold atI ixN
  rw [io_len, if_pos h0, if_pos (by omega)]
  show (io r)[j.toNat]? = _
  unfold io gr
  rw [List.getElem?_map, List.getElem?_eq_getElem hn, List.getD_eq_getElem?_getD, List.getElem?_eq_getElem hn]
  rfl
theorem atI_ints {r : List Int} {j : Int} (h0 : 0 ≤ j) (h1 : j < r.length) : atI (r.map D.int) j = some (.int (gr r j)) := by
  have hn : j.toNat < r.length := by omega
  unfold atI ixN
  rw [List.length_map, if_pos h0, if_pos (by omega)]
  show (r.map D.int)[j.toNat]? = _
  unfold gr
  rw [List.getElem?_map, List.getElem?_eq_getElem hn, List.getD_eq_getElem?_getD, List.getElem?_eq_getElem hn]
  rfl
theorem ixN_io {n : Nat} {j : Int} (h0 : 0 ≤ j) (h1 : j < n) : ixN n j = some j.toNat := by
  unfold ixN
  rw [if_pos h0, if_pos (by omega)]
theorem io_set (r : List Int) (n : Nat) (v : Int) : (io r).set n (.val (.int v)) = io (r.set n v) := by
  unfold io
  rw [List.map_set]
theorem gr_set {r : List Int} {j k v : Int} (hj : 0 ≤ j) (hk : 0 ≤ k) (hl : k < r.length) : gr (r.set k.toNat v) j = if j = k then v else gr r j := by
  unfold gr
  rw [List.getD_eq_getElem?_getD, List.getD_eq_getElem?_getD]
  by_cases h : j = k
  · subst h
    rw [if_pos rfl, List.getElem?_set_self (by omega)]
    rfl
  · rw [if_neg h, List.getElem?_set_ne (by omega)]
theorem gr_rep {n : Nat} {j : Int} : gr (List.replicate n 0) j = 0 := by
  unfold gr
  rw [List.getD_eq_getElem?_getD, List.getElem?_replicate]
  split <;> rfl
theorem lstI_ints : ∀ (r : List Int), lstI (.lst (r.map D.int)) = some r
  | r => by
    show intsD (r.map D.int) = some r
    induction r with
    | nil => rfl
    | cons a r ih => rw [List.map_cons, intsD, ih]; rfl
theorem maxI_ok : ∀ (r : List Int) (a : Int), ∃ m, maxI (a :: r) = some m ∧ a ≤ m ∧ (∀ x ∈ r, x ≤ m) ∧ (m = a ∨ m ∈ r)
  | [], a => ⟨a, rfl, Int.le_refl _, by simp, .inl rfl⟩
  | b :: r, a => by
    obtain ⟨m, e, h1, h2, h3⟩ := maxI_ok r b
    rw [maxI, e]
    refine ⟨_, rfl, ?_, ?_, ?_⟩
    · split <;> omega
    · intro x hx
      have : x ≤ m := by
        rcases List.mem_cons.mp hx with rfl | z
        · exact h1
        · exact h2 x z
      split <;> omega
    · split
      · right
        rcases h3 with rfl | z
        · exact List.mem_cons_self
        · exact List.mem_cons_of_mem _ z
      · exact .inl rfl
theorem maxD_ok (r : List Int) (a : Int) : ∃ m, maxD (.lst (.int a :: r.map D.int)) = some (.int m) ∧ a ≤ m ∧ (∀ x ∈ r, x ≤ m) ∧ (m = a ∨ m ∈ r) := by
  obtain ⟨m, e, h⟩ := maxI_ok r a
  refine ⟨m, ?_, h⟩
  unfold maxD
  rw [show (D.lst (.int a :: r.map D.int)) = .lst ((a :: r).map D.int) from rfl, lstI_ints]
  show (maxI (a :: r)).map D.int = _
  rw [e]; rfl
/-- a comprehension with a test, over data, that changes nothing -/
theorem comps_filt {α : Type} {vs : List Nat} {t : O → M Unit} {c : M Bool} {e : M O} {ρ : Sl} (f : α → D) (p : α → Bool) (g : α → O) : ∀ (xs : List α) (acc : List O),
    (∀ x ∈ xs, ∃ ρ1 ρ2, t (.val (f x)) ρ = .ok () ρ1 ∧ c ρ1 = .ok (p x) ρ2 ∧ (p x = true → ∃ ρ3, e ρ2 = .ok (g x) ρ3 ∧ wipeO ρ3 vs = ρ) ∧ (p x = false → wipeO ρ2 vs = ρ)) → mComps vs t c e (xs.map f) acc ρ = .ok (acc ++ (xs.filter p).map g) ρ
  | [], acc, _ => by simp [mComps, Dl.ret]
  | x :: xs, acc, h => by
    obtain ⟨ρ1, ρ2, h1, h2, h3, h4⟩ := h x List.mem_cons_self
    have ih := fun a => comps_filt (e := e) f p g xs a fun y hy => h y (List.mem_cons_of_mem _ hy)
    rw [List.map_cons, mComps, bnd_ok h1, bnd_ok h2]
    cases hp : p x with
    | true =>
      obtain ⟨ρ3, h5, h6⟩ := h3 hp
      rw [if_pos rfl, bnd_ok h5]
      show mComps vs t c e (xs.map f) (acc ++ [g x]) (wipeO ρ3 vs) = _
      rw [h6, ih, List.filter_cons_of_pos hp]
      simp
    | false =>
      rw [if_neg (by decide)]
      show mComps vs t c e (xs.map f) acc (wipeO ρ2 vs) = _
      rw [h4 hp, ih, List.filter_cons_of_neg (by simp [hp])]
theorem rep0 (n : Int) (h0 : 0 ≤ n) (h1 : n ≤ 1000000) : binF .Mult (.lst [.int 0]) (.int n) = some (.lst (io (List.replicate n.toNat 0))) := by
  show (match (Option.map O.val none : Option O) with
    | some o => some o
    | none => lnL (.lst [.int 0]) (.int n)) = _
  show lnL (.lst [.int 0]) (.int n) = _
  unfold lnL
  dsimp only
  rw [if_pos ⟨by omega, by omega, by simp; omega⟩]
  congr 2
  generalize n.toNat = k
  induction k with
  | zero => rfl
  | succ k ih =>
    rw [List.replicate_succ, List.flatten_cons, List.map_append, ih, List.replicate_succ]
    rfl
theorem rng_2 {i j : Int} (h : -1000000000 ≤ i) (h' : i ≤ 1000000000) (h2 : -1000000000 ≤ j) (h3 : j ≤ 1000000000) : rng [.int i, .int j] = some (rngL i (j - i).toNat) := if_pos ⟨h, h', h2, h3⟩
end Dl

namespace Dl
open PySem L2
theorem mul_l3 (x : List D) (h : x.length ≤ 1000) : binF .Mult (.lst x) (.int 3) = some (.lst ((x ++ (x ++ x)).map O.val)) := by
  show lnL (.lst x) (.int 3) = _
  unfold lnL
  dsimp only
  rw [if_pos ⟨by omega, by omega, by simp; omega⟩]
  simp [List.replicate]
theorem drop_eq2 {α : Type} : ∀ {l : List α} {i : Nat}, i < l.length → ∃ d, l[i]? = some d ∧ l.drop i = d :: l.drop (i + 1)
  | [], i, h => by simp at h
  | a :: l, 0, h => ⟨a, rfl, rfl⟩
  | a :: l, i + 1, h => by
    obtain ⟨d, h1, h2⟩ := drop_eq2 (l := l) (i := i) (by simpa using h)
    exact ⟨d, by simpa using h1, by simpa using h2⟩
theorem ten13 : binF .Pow (.int 10) (.int 13) = some (.val (.int 10000000000000)) := by
  rw [bin_pow 10 13 (by omega) (by omega) (by omega)]; rfl
end Dl
namespace Kl
open PySem L2 Dl
def oddB : List D := [.non, .bl true, .bl false, .int 0, .int 1, .int (-1), .int 99, .int 10000000000000, .str "", .str "a", .str "0", .tup [], .lst [], .dct [] [], .tup [.int 0], .tup [.tup [.int 0, .int 1, .int 1]], .lst [.int 0], .dct [.inr "a"] [.int 1]]
def oddT (l : List D) : List D := [.lst l, .tup (l ++ cutD l (some (-1)) none), .tup (cutD l none (some (-1))), .tup l.reverse, .tup [.tup l], .tup (cutD l (some 1) none)]
def oddI (i : Int) : List D := [.int (i + 1), .int (i - 1), .str (toString i : String), .tup [.int i], .bl (decide (i = 1)), .int (-i)]
theorem str_i {i : Int} (h : i.natAbs < 10 ^ 60) : strD (.int i) = some (.str (toString i : String)) := if_pos (log_ok h)
theorem oddB_an {d : D} (h : d ∈ oddB) : An (10 ^ 14) 3 2 d ∧ szB d ≤ 250 := by
  simp only [oddB, List.mem_cons, List.not_mem_nil, or_false] at h
  rcases h with rfl | rfl | rfl | rfl | rfl | rfl | rfl | rfl | rfl | rfl | rfl | rfl | rfl | rfl | rfl | rfl | rfl | rfl
  all_goals refine ⟨?_, by decide +kernel⟩
  all_goals simp [An]
  all_goals decide +kernel
theorem last_one (l : List D) : cutD l (some (-1)) none = [] ∨ ∃ d ∈ l, cutD l (some (-1)) none = [d] := by
  have hlen : (cutD l (some (-1)) none).length ≤ 1 := by
    unfold cutD
    rw [List.length_take, List.length_drop]
    have e1 : HT.sIx l.length 0 (some (-1)) = ((-1 : Int) + (l.length : Int)).toNat := by
      show (if (-1 : Int) < 0 then ((-1 : Int) + (l.length : Int)).toNat else min (-1 : Int).toNat l.length) = _
      rw [if_pos (by omega)]
    have e2 : HT.sIx l.length l.length none = l.length := rfl
    rw [e1, e2]
    omega
  rcases hc : cutD l (some (-1)) none with _ | ⟨a, _ | ⟨b, r⟩⟩
  · exact .inl rfl
  · exact .inr ⟨a, (cut_sub l (some (-1)) none).mem (by rw [hc]; simp), rfl⟩
  · rw [hc] at hlen; simp at hlen
theorem oddT_an {b k n : Nat} {l : List D} {d : D} (ha : An b k (n + 1) (.tup l)) (hk : 1 ≤ k) (h : d ∈ oddT l) : An b (k + 1) (n + 2) d ∧ szB d ≤ 2 * szB (.tup l) + 10 := by
  have up : ∀ {m : List D}, An b k (n + 1) (.tup m) → An b (k + 1) (n + 2) (.tup m) := fun q => An.mono (Nat.le_refl _) (by omega) (by omega) q
  simp only [oddT, List.mem_cons, List.not_mem_nil, or_false] at h
  rcases h with rfl | rfl | rfl | rfl | rfl | rfl
  · refine ⟨⟨Nat.le_trans ha.1 (by omega), fun d hd => An.mono (Nat.le_refl _) (by omega) (by omega) (ha.2 d hd)⟩, by simp only [szB]; omega⟩
  · rcases last_one l with e | ⟨x, hx, e⟩
    · rw [e, List.append_nil]
      exact ⟨up ha, by omega⟩
    · rw [e]
      refine ⟨⟨by have := ha.1; simp; omega, fun d hd => ?_⟩, ?_⟩
      · rcases List.mem_append.mp hd with z | z
        · exact An.mono (Nat.le_refl _) (by omega) (by omega) (ha.2 d z)
        · simp at z; subst z; exact An.mono (Nat.le_refl _) (by omega) (by omega) (ha.2 d hx)
      · have := szBs_mem hx
        simp only [szB, szBs_app, szBs]
        omega
  · exact ⟨up (ha.sub (cut_sub _ _ _)), by have := szBs_sub (cut_sub l none (some (-1))); simp only [szB]; omega⟩
  · refine ⟨up ⟨by simpa using ha.1, fun d hd => ha.2 d (by simpa using hd)⟩, by have := szBs_perm (List.reverse_perm l); simp only [szB]; omega⟩
  · refine ⟨⟨by simp, fun d hd => ?_⟩, by simp only [szB, szBs]; omega⟩
    simp at hd
    subst hd
    exact An.mono (Nat.le_refl _) (by omega) (by omega) ha
  · exact ⟨up (ha.sub (cut_sub _ _ _)), by have := szBs_sub (cut_sub l (some 1) none); simp only [szB]; omega⟩
theorem oddI_an {b k : Nat} {i : Int} {d : D} (hb : i.natAbs + 1 < b) (hb2 : b ≤ 10 ^ 60) (hk : 1 ≤ k) (h : d ∈ oddI i) : An b k 1 d ∧ szB d ≤ 700 := by
  simp only [oddI, List.mem_cons, List.not_mem_nil, or_false] at h
  rcases h with rfl | rfl | rfl | rfl | rfl | rfl
  · exact ⟨show (i + 1).natAbs < b by omega, by simp [szB]⟩
  · exact ⟨show (i - 1).natAbs < b by omega, by simp [szB]⟩
  · refine ⟨sk_of _, ?_⟩
    have := itext_len (i := i) 60 (by decide) (by omega)
    simp only [szB]
    omega
  · refine ⟨⟨by simpa using hk, fun d hd => ?_⟩, by simp [szB, szBs]⟩
    simp at hd
    subst hd
    exact show i.natAbs < b by omega
  · exact ⟨True.intro, by simp [szB]⟩
  · exact ⟨show (-i).natAbs < b by omega, by simp [szB]⟩
/-- a nest of tuples and ints -/
def Nst (b k : Nat) : Nat → D → Prop
  | n + 1, .tup l => l.length ≤ k ∧ ∀ d ∈ l, Nst b k n d
  | _, .int i => i.natAbs < b
  | _, _ => False
theorem Nst.an {b k : Nat} : ∀ {n : Nat} {d : D}, Nst b k n d → An b k n d
  | 0, .int i, h => h
  | n + 1, .int i, h => h
  | n + 1, .tup l, h => ⟨h.1, fun d hd => (h.2 d hd).an⟩
  | 0, .non, h => False.elim h
  | 0, .bl _, h => False.elim h
  | 0, .str _, h => False.elim h
  | 0, .tup _, h => False.elim h
  | 0, .lst _, h => False.elim h
  | 0, .dct _ _, h => False.elim h
  | 0, .fl _, h => False.elim h
  | 0, .obj _ _ _, h => False.elim h
  | n + 1, .non, h => False.elim h
  | n + 1, .bl _, h => False.elim h
  | n + 1, .str _, h => False.elim h
  | n + 1, .lst _, h => False.elim h
  | n + 1, .dct _ _, h => False.elim h
  | n + 1, .fl _, h => False.elim h
  | n + 1, .obj _ _ _, h => False.elim h
theorem Nst.cases {b k n : Nat} {d : D} (h : Nst b k n d) : (∃ i, d = .int i ∧ i.natAbs < b) ∨ ∃ m l, n = m + 1 ∧ d = .tup l ∧ l.length ≤ k ∧ ∀ d ∈ l, Nst b k m d := by
  cases d with
  | int i => exact .inl ⟨i, rfl, by cases n <;> exact h⟩
  | tup l =>
    cases n with
    | zero => exact False.elim h
    | succ m => exact .inr ⟨m, l, rfl, rfl, h.1, h.2⟩
  | _ => cases n <;> exact False.elim h
theorem Nst.pl {b k : Nat} : ∀ {n : Nat} {d : D}, Nst b k n d → Dl.pl d = true ∧ (toP d).canLay0 = true ∧ (toP d).depth ≤ n := by
  intro n
  induction n with
  | zero =>
    intro d h
    rcases h.cases with ⟨i, rfl, _⟩ | ⟨m, l, e, _⟩
    · exact ⟨rfl, rfl, Nat.le_refl _⟩
    · omega
  | succ n ih =>
    intro d h
    rcases h.cases with ⟨i, rfl, _⟩ | ⟨m, l, e, rfl, _, hl⟩
    · exact ⟨rfl, rfl, Nat.zero_le _⟩
    · obtain rfl : n = m := by omega
      have key : ∀ l : List D, (∀ d ∈ l, Nst b k n d) → pls l = true ∧ PyData.canLayAll0 (toPs l) = true ∧ PyData.depthAll (toPs l) ≤ n := by
        intro l
        induction l with
        | nil => exact fun _ => ⟨rfl, rfl, Nat.zero_le _⟩
        | cons d l ih2 =>
          intro h
          obtain ⟨a1, a2, a3⟩ := ih (h d (by simp))
          obtain ⟨b1, b2, b3⟩ := ih2 fun x hx => h x (List.mem_cons_of_mem _ hx)
          exact ⟨by simp [pls, a1, b1], by simp [toPs, PyData.canLayAll0, a2, b2], by simp only [toPs, PyData.depthAll]; exact Nat.max_le.mpr ⟨a3, b3⟩⟩
      obtain ⟨a1, a2, a3⟩ := key l hl
      exact ⟨a1, a2, Nat.succ_le_succ a3⟩
theorem Nst.shaped {b k n : Nat} {d : D} (h : Nst b k n d) (hn : n ≤ 60) : SeqAt.shaped (toP d) = true := by
  obtain ⟨h1, h2, h3⟩ := h.pl
  unfold SeqAt.shaped
  rw [h2, Bool.true_and]
  exact decide_eq_true (by omega)
theorem cut_split {l : List D} {i : Int} (h0 : 0 ≤ i) (h1 : i < l.length) : cutD l none (some i) = l.take i.toNat ∧ cutD l (some (i + 1)) none = l.drop (i.toNat + 1) := by
  have e1 : HT.sIx l.length l.length (some i) = i.toNat := (if_neg (by omega)).trans (by omega)
  have e2 : HT.sIx l.length 0 (some (i + 1)) = i.toNat + 1 := (if_neg (by omega)).trans (by omega)
  have e3 : HT.sIx l.length 0 none = 0 := rfl
  have e4 : HT.sIx l.length l.length none = l.length := rfl
  unfold cutD
  rw [e1, e2, e3, e4]
  refine ⟨by simp, ?_⟩
  rw [List.take_of_length_le]
  simp
end Kl

namespace Kl
open PySem L2 Dl
end Kl

namespace Kl
open PySem L2 Dl
theorem tab_nst {w : Int} {cs : List Cl} (hw : 1 ≤ w) (hw2 : w ≤ 1000) (hc : CsOk w cs) (hl : cs.length ≤ 20) : Nst (10 ^ 10) 20 3 (tabD w cs) := by
  refine ⟨by simp, fun d hd => ?_⟩
  simp only [List.mem_cons, List.not_mem_nil, or_false] at hd
  rcases hd with rfl | rfl
  · show w.natAbs < 10 ^ 10; omega
  · refine ⟨by simpa using hl, fun d hd => ?_⟩
    obtain ⟨c, h1, rfl⟩ := List.mem_map.mp hd
    obtain ⟨q1, q2, q3, q4, q5⟩ := hc c h1
    refine ⟨by simp, fun x hx => ?_⟩
    simp only [List.mem_cons, List.not_mem_nil, or_false] at hx
    rcases hx with rfl | rfl | rfl <;> (show Int.natAbs _ < 10 ^ 10; omega)
theorem szBs_le {c : Nat} : ∀ {l : List D}, (∀ d ∈ l, szB d ≤ c) → szBs l ≤ (c + 2) * l.length
  | [], _ => by simp [szBs]
  | d :: l, h => by
    have h1 := h d (by simp)
    have h2 := szBs_le fun e he => h e (List.mem_cons_of_mem _ he)
    simp only [szBs, List.length_cons, Nat.mul_add, Nat.mul_one]
    omega
theorem tab_sz {w : Int} {cs : List Cl} (hl : cs.length ≤ 20) : szB (tabD w cs) ≤ 6000 := by
  have h1 : szBs (cs.map cellD) ≤ (200 + 2) * (cs.map cellD).length := szBs_le fun d hd => by
    obtain ⟨c, _, rfl⟩ := List.mem_map.mp hd
    simp [cellD, szB, szBs]
  rw [List.length_map] at h1
  simp only [tabD, szB, szBs]
  omega
/-- what is handed to the functions of anything -/
structure Th (d : D) : Prop where
  an : An (10 ^ 15) 60 8 d
  sz : szB d ≤ 30000
theorem Th.len {d : D} (h : Th d) : ∀ l, d = .tup l → l.length ≤ 60 := fun l e => by
  subst e
  exact h.an.1
theorem th_of {b k n c : Nat} {d : D} (h : An b k n d) (hs : szB d ≤ c) (h1 : b ≤ 10 ^ 15) (h2 : k ≤ 60) (h3 : n ≤ 8) (h4 : c ≤ 30000) : Th d := ⟨An.mono h1 h2 h3 h, by omega⟩
theorem Th.pair {d e : D} (h : Th d) (h' : Th e) : Rp 9 70000 (.tup [d, e]) := by
  have q : An (10 ^ 15) 60 9 (.tup [d, e]) := ⟨by simp, fun x hx => by
    simp only [List.mem_cons, List.not_mem_nil, or_false] at hx
    rcases hx with rfl | rfl
    · exact h.an
    · exact h'.an⟩
  refine (An.rp (by omega) q).mono (Nat.le_refl _) ?_
  have := h.sz
  have := h'.sz
  simp only [szB, szBs]
  omega
theorem Th.rp {d : D} (h : Th d) : Rp 8 30000 d := (An.rp (by omega) h.an).mono (Nat.le_refl _) h.sz
theorem tab_th {w : Int} {cs : List Cl} (hw : 1 ≤ w) (hw2 : w ≤ 1000) (hc : CsOk w cs) (hl : cs.length ≤ 20) : Th (tabD w cs) := th_of (tab_nst hw hw2 hc hl).an (tab_sz hl) (by omega) (by omega) (by omega) (by omega)
end Kl

namespace Kl
open PySem L2 Dl
/-! ### cells by number; columns -/
theorem enum_cells : ∀ (cs : List Cl) (k : Nat), enumL k (cs.map cellD) = (cs.zipIdx k).map fun p => .tup [.int (p.2 : Nat), cellD p.1]
  | [], _ => rfl
  | c :: cs, k => by rw [List.map_cons, enumL, List.zipIdx_cons, List.map_cons, enum_cells cs (k + 1)]
def inB (j : Int) (c : Cl) : Bool := decide (c.1 ≤ j) && decide (j < c.2.1)
def inCol (cs : List Cl) (j : Int) : List Int := (cs.zipIdx.filter fun p => inB j p.1).map fun p => (p.2 : Int)
theorem ix0 (w : Int) (cs : List Cl) : ixD (tabD w cs) (.int 0) = some (.val (.int w)) := rfl
theorem isI_int (lo hi j : Int) : isI lo hi (.int j) = (decide (lo ≤ j) && decide (j ≤ hi)) := rfl
end Kl

namespace Kl
open PySem L2 Dl
section
variable {w : Int} {cs : List Cl}
theorem isI_get {lo hi : Int} {d : D} (h : isI lo hi d = true) : ∃ i, d = .int i ∧ lo ≤ i ∧ i ≤ hi := by
  cases d with
  | int i => exact ⟨i, rfl, by simpa [isI] using h⟩
  | _ => exact absurd h (by simp [isI])
theorem atI_cs {i : Int} (h0 : 0 ≤ i) (h1 : i < cs.length) : ∃ c, cs[i.toNat]? = some c ∧ c ∈ cs ∧ atI (cs.map cellD) i = some (cellD c) := by
  have hn : i.toNat < cs.length := by omega
  refine ⟨cs[i.toNat], List.getElem?_eq_getElem hn, List.getElem_mem hn, ?_⟩
  unfold atI ixN
  rw [List.length_map, if_pos h0, if_pos (by omega)]
  show (cs.map cellD)[i.toNat]? = _
  rw [List.getElem?_map, List.getElem?_eq_getElem hn]
  rfl
def meetB (c d : Cl) : Bool := decide (c.1 < d.2.1) && decide (d.1 < c.2.1)
def mx (a b : Int) : Int := if b > a then b else a
theorem mx_assoc (a b c : Int) : mx (mx a b) c = mx a (mx b c) := by
  unfold mx
  split <;> split <;> (try split) <;> (try split) <;> omega
theorem foldl_mx : ∀ (l : List Int) (a b : Int), l.foldl mx (mx a b) = mx a (l.foldl mx b)
  | [], a, b => rfl
  | c :: l, a, b => by rw [List.foldl_cons, mx_assoc, foldl_mx l, List.foldl_cons]
theorem maxI_fold : ∀ (l : List Int) (a : Int), maxI (a :: l) = some (l.foldl mx a)
  | [], a => rfl
  | b :: l, a => by
    rw [maxI, maxI_fold l b, List.foldl_cons, foldl_mx]
    show some _ = some _
    congr 1
    unfold mx
    split <;> split <;> omega
theorem maxD_fold (l : List Int) (a : Int) : maxD (.lst ((a :: l).map D.int)) = some (.int (l.foldl mx a)) := by
  unfold maxD
  rw [lstI_ints]
  show (maxI (a :: l)).map D.int = _
  rw [maxI_fold]
  rfl
def lensC (cs : List Cl) (n : Nat) : List Int := (List.range n).map fun (j : Nat) => ((inCol cs (j : Int)).length : Int)
def mostC (cs : List Cl) (n : Nat) : Int := (lensC cs n).foldl mx 0
end
end Kl

namespace Kl
open PySem L2 Dl
theorem th_str (x : String) (h2 : szB (.str x) ≤ 30000) : Th (.str x) := ⟨sk_of _, h2⟩
section
variable {w : Int} {cs : List Cl} {s0 s2 s3 s4 s5 s6 s7 s8 s9 s10 : Option O}
end
end Kl


set_option maxHeartbeats 8000000
namespace Kl
open PySem L2 Dl
/-! ### chains: the greatest sums between two edges -/
/-- a cell's edges lie in the table -/
def OkC (w : Int) (c : Cl) : Prop := 0 ≤ c.1 ∧ c.1 < c.2.1 ∧ c.2.1 ≤ w
theorem CsOk.ok {w : Int} {cs : List Cl} (h : CsOk w cs) : ∀ c ∈ cs, OkC w c := fun c hc => ⟨(h c hc).1, (h c hc).2.1, (h c hc).2.2.1⟩
structure IsLp (S : Cl → Prop) (w : Int) (g : Int → Int) : Prop where
  zero : g 0 = 0
  mono : ∀ j, 1 ≤ j → j ≤ w → g (j - 1) ≤ g j
  cell : ∀ c, S c → g c.1 + c.2.2 ≤ g c.2.1
  att : ∀ j, 1 ≤ j → j ≤ w → g j = g (j - 1) ∨ ∃ c, S c ∧ c.2.1 = j ∧ g j = g c.1 + c.2.2
theorem up_ind {P : Int → Prop} (h : ∀ j, 0 ≤ j → (∀ i, 0 ≤ i → i < j → P i) → P j) : ∀ j, 0 ≤ j → P j := by
  have key : ∀ n : Nat, ∀ j : Int, 0 ≤ j → j.toNat < n → P j := by
    intro n
    induction n with
    | zero => intro j _ hn; omega
    | succ n ih =>
      intro j h0 hn
      exact h j h0 fun i hi hij => ih i hi (by omega)
  exact fun j h0 => key (j.toNat + 1) j h0 (by omega)
theorem IsLp.mono' {S : Cl → Prop} {w : Int} {g : Int → Int} (L : IsLp S w g) : ∀ j, 0 ≤ j → ∀ i, 0 ≤ i → i ≤ j → j ≤ w → g i ≤ g j := by
  refine up_ind fun j h0 ih i hi hij hj => ?_
  by_cases e : i = j
  · rw [e]; exact Int.le_refl _
  · have h1 := L.mono j (by omega) hj
    have h2 := ih (j - 1) (by omega) (by omega) i hi (by omega) (by omega)
    omega
theorem IsLp.nonneg {S : Cl → Prop} {w : Int} {g : Int → Int} (L : IsLp S w g) {j : Int} (h0 : 0 ≤ j) (h1 : j ≤ w) : 0 ≤ g j := by
  have := L.mono' j h0 0 (Int.le_refl _) h0 h1
  rw [L.zero] at this
  exact this
/-- what is attained lies below what is kept -/
theorem lp_le {S : Cl → Prop} {w : Int} {g h : Int → Int} (hS : ∀ c, S c → OkC w c) (z : g 0 ≤ h 0) (at' : ∀ j, 1 ≤ j → j ≤ w → g j = g (j - 1) ∨ ∃ c, S c ∧ c.2.1 = j ∧ g j = g c.1 + c.2.2) (mo : ∀ j, 1 ≤ j → j ≤ w → h (j - 1) ≤ h j)
    (ce : ∀ c, S c → h c.1 + c.2.2 ≤ h c.2.1) : ∀ j, 0 ≤ j → j ≤ w → g j ≤ h j := by
  refine up_ind fun j h0 ih hj => ?_
  by_cases e : j = 0
  · rw [e]; exact z
  · rcases at' j (by omega) hj with q | ⟨c, hc, rfl, q⟩
    · have h1 := ih (j - 1) (by omega) (by omega) (by omega)
      have h2 := mo j (by omega) hj
      omega
    · obtain ⟨b1, b2, b3⟩ := hS c hc
      have h1 := ih c.1 b1 b2 (by omega)
      have h2 := ce c hc
      omega
theorem lp_uniq {S : Cl → Prop} {w : Int} {g h : Int → Int} (hS : ∀ c, S c → OkC w c) (L : IsLp S w g) (L' : IsLp S w h) : ∀ j, 0 ≤ j → j ≤ w → g j = h j := fun j h0 hj => by
  have h1 := lp_le hS (by rw [L.zero, L'.zero]; exact Int.le_refl _) L.att L'.mono L'.cell j h0 hj
  have h2 := lp_le hS (by rw [L.zero, L'.zero]; exact Int.le_refl _) L'.att L.mono L.cell j h0 hj
  omega
theorem IsLp.congr {S S' : Cl → Prop} {w : Int} {g : Int → Int} (L : IsLp S w g) (h : ∀ c, S c ↔ S' c) : IsLp S' w g :=
  ⟨L.zero, L.mono, fun c hc => L.cell c ((h c).mpr hc), fun j h1 h2 => by
    rcases L.att j h1 h2 with q | ⟨c, hc, q⟩
    · exact .inl q
    · exact .inr ⟨c, (h c).mp hc, q⟩⟩
/-- up to an edge -/
theorem IsLp.cut {S : Cl → Prop} {w b : Int} {g : Int → Int} (L : IsLp S w g) (hb : b ≤ w) : IsLp (fun c => S c ∧ c.2.1 ≤ b) b g :=
  ⟨L.zero, fun j h1 h2 => L.mono j h1 (by omega), fun c hc => L.cell c hc.1, fun j h1 h2 => by
    rcases L.att j h1 (by omega) with q | ⟨c, hc, e, q⟩
    · exact .inl q
    · exact .inr ⟨c, ⟨hc, by omega⟩, e, q⟩⟩
/-! ### the sums, computed -/
theorem mx_le {l : List Int} : ∀ {a : Int}, a ≤ l.foldl mx a ∧ ∀ x ∈ l, x ≤ l.foldl mx a := by
  induction l with
  | nil => intro a; exact ⟨Int.le_refl _, by simp⟩
  | cons b l ih =>
    intro a
    obtain ⟨h1, h2⟩ := ih (a := mx a b)
    have h3 : a ≤ mx a b ∧ b ≤ mx a b := by unfold mx; split <;> omega
    rw [List.foldl_cons]
    refine ⟨by omega, fun x hx => ?_⟩
    rcases List.mem_cons.mp hx with rfl | z
    · omega
    · exact h2 x z
theorem mx_at {l : List Int} : ∀ {a : Int}, l.foldl mx a = a ∨ l.foldl mx a ∈ l := by
  induction l with
  | nil => intro a; exact .inl rfl
  | cons b l ih =>
    intro a
    rw [List.foldl_cons]
    rcases ih (a := mx a b) with q | q
    · rw [q]
      unfold mx
      split
      · exact .inr (by simp)
      · exact .inl rfl
    · exact .inr (List.mem_cons_of_mem _ q)
/-- the values at the edges 0 to n of the row of an edge -/
def rowL (cs : List Cl) (low : Int) : Nat → List Int
  | 0 => [0]
  | n + 1 => rowL cs low n ++ [((cs.filter fun c => decide (c.2.1 = ((n + 1 : Nat) : Int)) && decide (low ≤ c.1)).map fun c => gr (rowL cs low n) c.1 + c.2.2).foldl mx (gr (rowL cs low n) (n : Int))]
def lp (cs : List Cl) (low j : Int) : Int := gr (rowL cs low j.toNat) j
theorem rowL_len (cs : List Cl) (low : Int) : ∀ n, (rowL cs low n).length = n + 1
  | 0 => rfl
  | n + 1 => by rw [rowL, List.length_append, rowL_len cs low n]; rfl
theorem rowL_get (cs : List Cl) (low : Int) (j : Int) (h0 : 0 ≤ j) : ∀ n : Nat, j ≤ n → gr (rowL cs low n) j = lp cs low j
  | 0, h => by
    have : j = 0 := by omega
    subst this
    rfl
  | n + 1, h => by
    by_cases e : j = ((n + 1 : Nat) : Int)
    · subst e
      rfl
    · rw [← rowL_get cs low j h0 n (by omega), rowL]
      unfold gr
      rw [List.getD_eq_getElem?_getD, List.getElem?_append_left (by rw [rowL_len]; omega), List.getD_eq_getElem?_getD]
theorem lp_0 (cs : List Cl) (low : Int) : lp cs low 0 = 0 := rfl
theorem lp_rec (cs : List Cl) (low j : Int) (h1 : 1 ≤ j) (hc : ∀ c ∈ cs, 0 ≤ c.1 ∧ c.1 < c.2.1) : lp cs low j = ((cs.filter fun c => decide (c.2.1 = j) && decide (low ≤ c.1)).map fun c => lp cs low c.1 + c.2.2).foldl mx (lp cs low (j - 1)) := by
  obtain ⟨n, rfl⟩ : ∃ n : Nat, j = ((n + 1 : Nat) : Int) := ⟨(j - 1).toNat, by omega⟩
  have e1 : lp cs low ((n + 1 : Nat) : Int) = ((cs.filter fun c => decide (c.2.1 = ((n + 1 : Nat) : Int)) && decide (low ≤ c.1)).map fun c => gr (rowL cs low n) c.1 + c.2.2).foldl mx (gr (rowL cs low n) (n : Int)) := by
    unfold lp
    rw [Int.toNat_natCast, rowL]
    unfold gr
    rw [List.getD_eq_getElem?_getD, Int.toNat_natCast, List.getElem?_append_right (by rw [rowL_len]; omega), rowL_len]
    simp
  rw [e1, rowL_get cs low (n : Int) (by omega) n (Int.le_refl _), show ((n + 1 : Nat) : Int) - 1 = (n : Int) by omega]
  congr 1
  refine List.map_congr_left fun c hc' => ?_
  have := List.mem_filter.mp hc'
  simp only [Bool.and_eq_true, decide_eq_true_eq] at this
  have h2 := hc c this.1
  rw [rowL_get cs low c.1 h2.1 n (by omega)]
theorem lp_is {w low : Int} {cs : List Cl} (hc : ∀ c ∈ cs, OkC w c) : IsLp (fun c => c ∈ cs ∧ low ≤ c.1) w (lp cs low) := by
  have hc' : ∀ c ∈ cs, 0 ≤ c.1 ∧ c.1 < c.2.1 := fun c h => ⟨(hc c h).1, (hc c h).2.1⟩
  refine ⟨rfl, fun j h1 h2 => ?_, fun c ⟨h1, h2⟩ => ?_, fun j h1 h2 => ?_⟩
  · rw [lp_rec cs low j h1 hc']
    exact mx_le.1
  · obtain ⟨q1, q2, q3⟩ := hc c h1
    rw [lp_rec cs low c.2.1 (by omega) hc']
    exact mx_le.2 _ (List.mem_map.mpr ⟨c, List.mem_filter.mpr ⟨h1, by simp [h2]⟩, rfl⟩)
  · rw [lp_rec cs low j h1 hc']
    rcases mx_at (l := (cs.filter fun c => decide (c.2.1 = j) && decide (low ≤ c.1)).map fun c => lp cs low c.1 + c.2.2) (a := lp cs low (j - 1)) with q | q
    · exact .inl q
    · obtain ⟨c, h3, h4⟩ := List.mem_map.mp q
      have h5 := List.mem_filter.mp h3
      simp only [Bool.and_eq_true, decide_eq_true_eq] at h5
      exact .inr ⟨c, ⟨h5.1, h5.2.2⟩, h5.2.1, h4.symm⟩
section
variable {w low mid high : Int} {cs T : List Cl}
theorem lp_low (hc : ∀ c ∈ cs, OkC w c) : ∀ j, 0 ≤ j → j ≤ low → j ≤ w → lp cs low j = 0 := by
  refine up_ind fun j h0 ih h1 h2 => ?_
  by_cases e : j = 0
  · rw [e]; rfl
  · rcases (lp_is (low := low) hc).att j (by omega) h2 with q | ⟨c, ⟨h3, h4⟩, h5, _⟩
    · rw [q]
      exact ih (j - 1) (by omega) (by omega) (by omega) (by omega)
    · have := hc c h3
      unfold OkC at this
      omega
theorem lp_nonneg (hc : ∀ c ∈ cs, OkC w c) {j : Int} (h0 : 0 ≤ j) (h1 : j ≤ w) : 0 ≤ lp cs low j := (lp_is hc).nonneg h0 h1
theorem lp_mono (hc : ∀ c ∈ cs, OkC w c) {i j : Int} (h0 : 0 ≤ i) (h1 : i ≤ j) (h2 : j ≤ w) : lp cs low i ≤ lp cs low j := (lp_is hc).mono' j (by omega) i h0 h1 h2
theorem lp_cell (hc : ∀ c ∈ cs, OkC w c) {c : Cl} (h : c ∈ cs) (hl : low ≤ c.1) : lp cs low c.1 + c.2.2 ≤ lp cs low c.2.1 := (lp_is hc).cell c ⟨h, hl⟩
theorem lp_bound {N : Int} (hc : ∀ c ∈ cs, OkC w c) (hN : ∀ c ∈ cs, c.2.2 ≤ N) (h0 : 0 ≤ N) : ∀ j, 0 ≤ j → j ≤ w → lp cs low j ≤ N * j := by
  refine up_ind fun j j0 ih j1 => ?_
  by_cases e : j = 0
  · rw [e, lp_0]; omega
  · have m1 : N * (j - 1) + N = N * j := by rw [Int.mul_sub]; omega
    rcases (lp_is (low := low) hc).att j (by omega) j1 with q | ⟨c, ⟨h3, h4⟩, h5, q⟩
    · have := ih (j - 1) (by omega) (by omega) (by omega)
      omega
    · obtain ⟨q1, q2, q3⟩ := hc c h3
      have h6 := ih c.1 q1 (by omega) (by omega)
      have h7 := hN c h3
      have h8 : N * c.1 ≤ N * (j - 1) := Int.mul_le_mul_of_nonneg_left (by omega) h0
      omega
/-- one behind the other -/
theorem lp_super (hc : ∀ c ∈ cs, OkC w c) (h0 : 0 ≤ low) (h1 : low ≤ mid) (h2 : mid ≤ high) (h3 : high ≤ w) : lp cs low mid + lp cs mid high ≤ lp cs low high := by
  have L := lp_is (low := low) hc
  have L' := lp_is (low := mid) hc
  have := lp_le (S := fun c => c ∈ cs ∧ mid ≤ c.1) (w := w) (g := lp cs mid) (h := fun j => if j < mid then 0 else lp cs low j - lp cs low mid) (fun c h => hc c h.1) ?_ L'.att ?_ ?_ high (by omega) h3
  · rw [if_neg (by omega)] at this
    omega
  · show lp cs mid 0 ≤ _
    rw [lp_0]
    split
    · exact Int.le_refl _
    · rw [show mid = 0 by omega]; omega
  · intro j j1 j2
    split
    · split
      · omega
      · have := lp_mono (low := low) hc (i := mid) (j := j) (by omega) (by omega) j2
        omega
    · rw [if_neg (by omega)]
      have := lp_mono (low := low) hc (i := j - 1) (j := j) (by omega) (by omega) j2
      omega
  · intro c ⟨c1, c2⟩
    obtain ⟨q1, q2, q3⟩ := hc c c1
    rw [if_neg (by omega), if_neg (by omega)]
    have := lp_cell (low := low) hc c1 (by omega)
    omega
/-- only the cells between the edges count -/
theorem lp_congr (hc : ∀ c ∈ cs, OkC w c) (hT : ∀ c ∈ T, OkC w c) (h0 : 0 ≤ high) (h1 : high ≤ w) (h : ∀ c : Cl, low ≤ c.1 → c.2.1 ≤ high → (c ∈ cs ↔ c ∈ T)) : lp cs low high = lp T low high := by
  have L := (lp_is (low := low) hc).cut h1
  have L' := (lp_is (low := low) hT).cut h1
  refine lp_uniq (S := fun c => (c ∈ cs ∧ low ≤ c.1) ∧ c.2.1 ≤ high) (w := high) (fun c hcc => ?_) L (L'.congr fun c => ?_) high h0 (Int.le_refl _)
  · obtain ⟨q1, q2, q3⟩ := hc c hcc.1.1
    exact ⟨q1, q2, hcc.2⟩
  · constructor
    · intro ⟨⟨a, b⟩, d⟩
      exact ⟨⟨(h c b d).mpr a, b⟩, d⟩
    · intro ⟨⟨a, b⟩, d⟩
      exact ⟨⟨(h c b d).mp a, b⟩, d⟩
/-- more cells, no less -/
theorem lp_sub (hc : ∀ c ∈ cs, OkC w c) (hT : ∀ c ∈ T, OkC w c) (h0 : 0 ≤ high) (h1 : high ≤ w) (h : ∀ c ∈ T, low ≤ c.1 → c.2.1 ≤ high → c ∈ cs) : lp T low high ≤ lp cs low high := by
  have L := lp_is (low := low) hc
  have L' := (lp_is (low := low) hT).cut h1
  refine lp_le (S := fun c => (c ∈ T ∧ low ≤ c.1) ∧ c.2.1 ≤ high) (w := high) (g := lp T low) (h := lp cs low) (fun c hcc => ?_) (Int.le_refl _) L'.att (fun j j1 j2 => L.mono j j1 (by omega)) (fun c hcc => L.cell c ⟨h c hcc.1.1 hcc.1.2 hcc.2, hcc.1.2⟩) high h0 (Int.le_refl _)
  obtain ⟨q1, q2, q3⟩ := hT c hcc.1.1
  exact ⟨q1, q2, hcc.2⟩
/-- a cell more: it is in the greatest chain or not -/
theorem lp_ins {b e m : Int} (hT : ∀ c ∈ T, OkC w c) (hb : OkC w (b, e, m)) (hm : ∀ x : Cl, x ∈ cs ↔ x = (b, e, m) ∨ x ∈ T) (h0 : 0 ≤ low) (h1 : low ≤ b) (h2 : e ≤ high) (h3 : high ≤ w) :
    lp cs low high = max (lp T low high) (lp T low b + m + lp T e high) := by
  obtain ⟨b1, b2, b3⟩ := hb
  dsimp only at b1 b2 b3
  have hc : ∀ c ∈ cs, OkC w c := fun c h => by
    rcases (hm c).mp h with rfl | z
    · exact ⟨b1, b2, b3⟩
    · exact hT c z
  have L := lp_is (low := low) hc
  have K := lp_is (low := low) hT
  have e1 : lp cs low b = lp T low b := lp_congr hc hT (by omega) (by omega) fun c _ hce => by
    rw [hm]
    constructor
    · rintro (rfl | z)
      · dsimp only at hce; omega
      · exact z
    · exact .inr
  have e2 : lp cs e high = lp T e high := lp_congr hc hT (by omega) h3 fun c hcb _ => by
    rw [hm]
    constructor
    · rintro (rfl | z)
      · dsimp only at hcb; omega
      · exact z
    · exact .inr
  have g1 : lp T low high ≤ lp cs low high := lp_sub hc hT (by omega) h3 fun c h _ _ => (hm c).mpr (.inr h)
  have g2 : lp T low b + m + lp T e high ≤ lp cs low high := by
    have s1 := lp_super (cs := cs) hc h0 (show low ≤ e by omega) h2 h3
    have s2 := lp_cell (low := low) hc ((hm _).mpr (.inl rfl)) h1
    dsimp only at s2
    omega
  have g3 : lp cs low high ≤ max (lp T low high) (lp T low b + m + lp T e high) := by
    have := lp_le (S := fun c => c ∈ cs ∧ low ≤ c.1) (w := w) (g := lp cs low) (h := fun j => if j < e then lp T low j else max (lp T low j) (lp T low b + m + lp T e j)) (fun c h => hc c h.1) ?_ L.att ?_ ?_ high (by omega) h3
    · rw [if_neg (by omega)] at this
      exact this
    · rw [if_pos (by omega)]
      exact Int.le_refl _
    · intro j j1 j2
      have m1 := lp_mono (low := low) hT (i := j - 1) (j := j) (by omega) (by omega) j2
      have m2 := lp_mono (low := e) hT (i := j - 1) (j := j) (by omega) (by omega) j2
      split
      · split
        · exact m1
        · omega
      · rw [if_neg (by omega)]
        omega
    · intro c ⟨c1, c2⟩
      obtain ⟨q1, q2, q3⟩ := hc c c1
      rcases (hm c).mp c1 with rfl | z
      · dsimp only
        rw [if_pos (by omega), if_neg (by omega)]
        have := lp_low (low := e) hT e (by omega) (Int.le_refl _) b3
        omega
      · have m1 := lp_cell (low := low) hT z c2
        by_cases hce : c.1 < e
        · rw [if_pos hce]
          split <;> omega
        · rw [if_neg hce, if_neg (by omega)]
          have m2 := lp_cell (low := e) hT z (by omega)
          omega
  omega
end
/-! ### lists by their numbers -/
def fnl (n : Nat) (S : Int → Int) : List Int := (List.range n).map fun (i : Nat) => S (i : Int)
@[simp] theorem fnl_len (n : Nat) (S : Int → Int) : (fnl n S).length = n := by simp [fnl]
theorem fnl_get {n : Nat} {S : Int → Int} {j : Int} (h0 : 0 ≤ j) (h1 : j < n) : (fnl n S)[j.toNat]? = some (S j) := by
  unfold fnl
  rw [List.getElem?_map, List.getElem?_range (by omega)]
  show some (S (j.toNat : Int)) = _
  rw [Int.toNat_of_nonneg h0]
theorem fnl_gr {n : Nat} {S : Int → Int} {j : Int} (h0 : 0 ≤ j) (h1 : j < n) : gr (fnl n S) j = S j := by
  unfold gr
  rw [List.getD_eq_getElem?_getD, fnl_get h0 h1]
  rfl
theorem fnl_congr {n : Nat} {S T : Int → Int} (h : ∀ j : Int, 0 ≤ j → j < n → S j = T j) : fnl n S = fnl n T := List.map_congr_left fun i hi => h i (by omega) (by have := List.mem_range.mp hi; omega)
theorem fnl_set {n : Nat} {S : Int → Int} {k v : Int} (h0 : 0 ≤ k) : (fnl n S).set k.toNat v = fnl n (fun j => if j = k then v else S j) := by
  refine List.ext_getElem? fun i => ?_
  rw [List.getElem?_set]
  unfold fnl
  rw [List.getElem?_map, List.getElem?_map, List.length_map, List.length_range]
  by_cases hi : i < n
  · rw [List.getElem?_range hi]
    by_cases hk : k.toNat = i
    · rw [if_pos hk, if_pos (by omega)]
      show some v = some (if (i : Int) = k then v else S (i : Int))
      rw [if_pos (by omega)]
    · rw [if_neg hk]
      show some (S (i : Int)) = some (if (i : Int) = k then v else S (i : Int))
      rw [if_neg (by omega)]
  · have e : (List.range n)[i]? = none := List.getElem?_eq_none (by simp; omega)
    rw [e]
    split
    · rw [if_neg (by omega)]; rfl
    · rfl
theorem fnl_zero (n : Nat) : List.replicate n (0 : Int) = fnl n fun _ => 0 := by
  refine List.ext_getElem? fun i => ?_
  unfold fnl
  rw [List.getElem?_map, List.getElem?_replicate]
  by_cases hi : i < n
  · rw [List.getElem?_range hi, if_pos hi]; rfl
  · rw [if_neg hi, List.getElem?_eq_none (by simp; omega)]; rfl
theorem fnl_at {n : Nat} {S : Int → Int} {j : Int} (h0 : 0 ≤ j) (h1 : j < n) : atI ((fnl n S).map D.int) j = some (.int (S j)) := by
  rw [atI_ints h0 (by rw [fnl_len]; exact h1), fnl_gr h0 h1]
theorem fnl_ato {n : Nat} {S : Int → Int} {j : Int} (h0 : 0 ≤ j) (h1 : j < n) : atI (io (fnl n S)) j = some (.val (.int (S j))) := by
  rw [atI_io h0 (by rw [fnl_len]; exact h1), fnl_gr h0 h1]
theorem ints_o (l : List Int) : (l.map D.int).map O.val = io l := by simp [io]
/-- a row of the sums, all rows -/
def rowD (w : Int) (cs : List Cl) (low : Int) : D := .lst ((fnl (w + 1).toNat (lp cs low)).map D.int)
def rowsD (w : Int) (cs : List Cl) : List D := (List.range (w + 1).toNat).map fun (i : Nat) => rowD w cs (i : Int)
theorem rowsD_at {w : Int} {cs : List Cl} {i : Int} (h0 : 0 ≤ i) (h1 : i ≤ w) : atI (rowsD w cs) i = some (rowD w cs i) := by
  unfold atI ixN rowsD
  rw [List.length_map, List.length_range, if_pos h0, if_pos (by omega)]
  show ((List.range (w + 1).toNat).map fun (i : Nat) => rowD w cs (i : Int))[i.toNat]? = _
  rw [List.getElem?_map, List.getElem?_range (by omega)]
  show some (rowD w cs (i.toNat : Int)) = _
  rw [Int.toNat_of_nonneg h0]
theorem rowD_at {w : Int} {cs : List Cl} {i j : Int} (h0 : 0 ≤ j) (h1 : j ≤ w) : ixO (.val (rowD w cs i)) (.int j) = some (.int (lp cs i j)) := by
  show atI _ j = _
  exact fnl_at h0 (by omega)
/-! ### the sums by turns over all cells and edges -/
def stC (low : Int) (R : Int → Int) (c : Cl) : Int → Int := if low ≤ c.1 then fun j => if j = c.2.1 then mx (R c.2.1) (R c.1 + c.2.2) else R j else R
def stE (R : Int → Int) (k : Int) : Int → Int := fun j => if j = k then mx (R k) (R (k - 1)) else R j
def paC (low : Int) (cs : List Cl) (R : Int → Int) : Int → Int := cs.foldl (stC low) R
def paE (low : Int) (n : Nat) (R : Int → Int) : Int → Int := (List.range n).foldl (fun (R : Int → Int) (i : Nat) => stE R (low + 1 + (i : Int))) R
def turnS (low w : Int) (cs : List Cl) (R : Int → Int) : Int → Int := paE low (w - low).toNat (paC low cs R)
def turns (low w : Int) (cs : List Cl) : Nat → Int → Int
  | 0 => fun _ => 0
  | n + 1 => turnS low w cs (turns low w cs n)
theorem mx_ge (a b : Int) : a ≤ mx a b ∧ b ≤ mx a b := by unfold mx; split <;> omega
theorem mx_lub {a b c : Int} (h1 : a ≤ c) (h2 : b ≤ c) : mx a b ≤ c := by unfold mx; split <;> omega
theorem paC_up (low : Int) : ∀ (cs : List Cl) (R : Int → Int) (j : Int), R j ≤ paC low cs R j
  | [], R, j => Int.le_refl _
  | c :: cs, R, j => by
    have h1 := paC_up low cs (stC low R c) j
    have h2 : R j ≤ stC low R c j := by
      unfold stC
      split
      · dsimp only
        split
        · rename_i e
          rw [e]; exact (mx_ge _ _).1
        · exact Int.le_refl _
      · exact Int.le_refl _
    exact Int.le_trans h2 h1
theorem paC_cell (low : Int) : ∀ (cs : List Cl) (R : Int → Int) (c : Cl), c ∈ cs → low ≤ c.1 → R c.1 + c.2.2 ≤ paC low cs R c.2.1
  | [], R, c, h, _ => by simp at h
  | d :: cs, R, c, h, hl => by
    rcases List.mem_cons.mp h with rfl | z
    · have h1 := paC_up low cs (stC low R c) c.2.1
      have h2 : R c.1 + c.2.2 ≤ stC low R c c.2.1 := by
        unfold stC
        rw [if_pos hl, if_pos rfl]
        exact (mx_ge _ _).2
      exact Int.le_trans h2 h1
    · have h1 := paC_cell low cs (stC low R d) c z hl
      have h2 : R c.1 ≤ stC low R d c.1 := paC_up low [d] R c.1
      have h3 : stC low R d c.1 + c.2.2 ≤ paC low (d :: cs) R c.2.1 := h1
      omega
theorem paC_le {low w : Int} {g : Int → Int} : ∀ (cs : List Cl) (R : Int → Int), (∀ c ∈ cs, OkC w c) → (∀ c ∈ cs, low ≤ c.1 → g c.1 + c.2.2 ≤ g c.2.1) → (∀ j, 0 ≤ j → j ≤ w → R j ≤ g j) → ∀ j, 0 ≤ j → j ≤ w → paC low cs R j ≤ g j
  | [], R, _, _, h, j, h0, h1 => h j h0 h1
  | c :: cs, R, hc, hg, h, j, h0, h1 => by
    refine paC_le cs (stC low R c) (fun d hd => hc d (List.mem_cons_of_mem _ hd)) (fun d hd => hg d (List.mem_cons_of_mem _ hd)) (fun j h0 h1 => ?_) j h0 h1
    obtain ⟨q1, q2, q3⟩ := hc c (by simp)
    unfold stC
    split
    · rename_i hl
      dsimp only
      split
      · rename_i e
        rw [e] at h0 h1 ⊢
        have := hg c (by simp) hl
        have := h c.1 q1 (by omega)
        exact mx_lub (h _ h0 h1) (by omega)
      · exact h j h0 h1
    · exact h j h0 h1
theorem paE_spec {low w : Int} {g R : Int → Int} (h0 : 0 ≤ low) (hm : ∀ j, 1 ≤ j → j ≤ w → g (j - 1) ≤ g j) (hR : ∀ j, 0 ≤ j → j ≤ w → R j ≤ g j) : ∀ n : Nat, low + (n : Int) ≤ w →
    (∀ j, R j ≤ paE low n R j) ∧ (∀ j, 0 ≤ j → j ≤ w → paE low n R j ≤ g j) ∧ ∀ j, low < j → j ≤ low + (n : Int) → paE low n R (j - 1) ≤ paE low n R j
  | 0, hn => ⟨fun j => Int.le_refl _, hR, fun j h1 h2 => by omega⟩
  | n + 1, hn => by
    obtain ⟨i1, i2, i3⟩ := paE_spec h0 hm hR n (by omega)
    have e : paE low (n + 1) R = stE (paE low n R) (low + 1 + (n : Int)) := by
      unfold paE
      rw [List.range_succ, List.foldl_append]
      rfl
    rw [e]
    generalize paE low n R = P at *
    refine ⟨fun j => ?_, fun j j0 j1 => ?_, fun j j0 j1 => ?_⟩
    · unfold stE
      split
      · rename_i z
        have := (mx_ge (P (low + 1 + (n : Int))) (P (low + 1 + (n : Int) - 1))).1
        have := i1 j
        rw [z] at this ⊢
        omega
      · exact i1 j
    · unfold stE
      split
      · rename_i z
        rw [z] at j0 j1 ⊢
        have := hm (low + 1 + (n : Int)) (by omega) j1
        have := i2 (low + 1 + (n : Int) - 1) (by omega) (by omega)
        exact mx_lub (i2 _ j0 j1) (by omega)
      · exact i2 j j0 j1
    · unfold stE
      by_cases z : j = low + 1 + (n : Int)
      · rw [if_neg (by omega), if_pos z]
        rw [z]
        exact (mx_ge _ _).2
      · rw [if_neg (by omega), if_neg z]
        exact i3 j j0 (by omega)
theorem turns_ok {low w : Int} {cs : List Cl} (h0 : 0 ≤ low) (h1 : low ≤ w) (hc : ∀ c ∈ cs, OkC w c) : ∀ n : Nat, (∀ j, 0 ≤ j → j ≤ w → turns low w cs n j ≤ lp cs low j) ∧ ∀ j, 0 ≤ j → j ≤ (n : Int) → j ≤ w → turns low w cs n j = lp cs low j
  | 0 => ⟨fun j j0 j1 => lp_nonneg hc j0 j1, fun j j0 j1 j2 => by rw [show j = 0 by omega]; rfl⟩
  | n + 1 => by
    obtain ⟨i1, i2⟩ := turns_ok h0 h1 hc n
    have L := lp_is (low := low) hc
    have p1 := paC_le (low := low) (w := w) (g := lp cs low) cs (turns low w cs n) hc (fun c h hl => lp_cell hc h hl) i1
    obtain ⟨e1, e2, e3⟩ := paE_spec (low := low) (w := w) (g := lp cs low) (R := paC low cs (turns low w cs n)) h0 L.mono p1 (w - low).toNat (by omega)
    have et : turns low w cs (n + 1) = paE low (w - low).toNat (paC low cs (turns low w cs n)) := rfl
    rw [et]
    refine ⟨e2, fun j j0 j1 j2 => ?_⟩
    have u1 := e2 j j0 j2
    have u2 := e1 j
    have u3 := paC_up low cs (turns low w cs n) j
    by_cases hj : j ≤ (n : Int)
    · have := i2 j j0 hj j2
      omega
    · rcases L.att j (by omega) j2 with q | ⟨c, ⟨c1, c2⟩, rfl, q⟩
      · by_cases hl : low < j
        · have v1 := e3 j hl (by omega)
          have v2 := e1 (j - 1)
          have v3 := paC_up low cs (turns low w cs n) (j - 1)
          have v4 := i2 (j - 1) (by omega) (by omega) (by omega)
          omega
        · have v1 := lp_low (low := low) hc j j0 (by omega) j2
          have v2 : 0 ≤ turns low w cs n j := by
            cases n with
            | zero => exact Int.le_refl _
            | succ n =>
              have : ∀ (m : Nat) (j : Int), 0 ≤ turns low w cs m j := by
                intro m
                induction m with
                | zero => intro j; exact Int.le_refl _
                | succ m ih =>
                  intro j
                  have a1 := paC_up low cs (turns low w cs m) j
                  have a2 : ∀ (k : Nat) (R : Int → Int), R j ≤ paE low k R j := by
                    intro k
                    induction k with
                    | zero => intro R; exact Int.le_refl _
                    | succ k ihk =>
                      intro R
                      have e : paE low (k + 1) R = stE (paE low k R) (low + 1 + (k : Int)) := by
                        unfold paE
                        rw [List.range_succ, List.foldl_append]
                        rfl
                      rw [e]
                      unfold stE
                      have := ihk R
                      split
                      · rename_i z
                        have h3 := (mx_ge (paE low k R (low + 1 + (k : Int))) (paE low k R (low + 1 + (k : Int) - 1))).1
                        rw [z] at this ⊢
                        omega
                      · exact this
                  have a3 := a2 (w - low).toNat (paC low cs (turns low w cs m))
                  have a4 := ih j
                  show 0 ≤ paE low (w - low).toNat (paC low cs (turns low w cs m)) j
                  omega
              exact this _ _
          omega
      · obtain ⟨q1, q2, q3⟩ := hc c c1
        have v1 := paC_cell low cs (turns low w cs n) c c1 c2
        have v2 := i2 c.1 q1 (by omega) (by omega)
        omega
theorem turns_w {low w : Int} {cs : List Cl} (h0 : 0 ≤ low) (h1 : low ≤ w) (hc : ∀ c ∈ cs, OkC w c) : fnl (w + 1).toNat (turns low w cs w.toNat) = fnl (w + 1).toNat (lp cs low) :=
  fnl_congr fun j j0 j1 => (turns_ok h0 h1 hc w.toNat).2 j j0 (by omega) (by omega)
end Kl
namespace Dl
open PySem L2
theorem cut_lo {L : List D} {i : Int} (h0 : 0 ≤ i) (h1 : i ≤ L.length) : cutD L none (some i) = L.take i.toNat := by
  unfold cutD
  have e1 : HT.sIx L.length 0 none = 0 := rfl
  have e2 : HT.sIx L.length L.length (some i) = i.toNat := by
    show (if i < 0 then (i + (L.length : Int)).toNat else min i.toNat L.length) = i.toNat
    rw [if_neg (by omega)]
    omega
  rw [e1, e2]
  simp
theorem cut_hi {L : List D} {i : Int} (h0 : 0 ≤ i) (h1 : i ≤ L.length) : cutD L (some i) none = L.drop i.toNat := by
  unfold cutD
  have e1 : HT.sIx L.length L.length none = L.length := rfl
  have e2 : HT.sIx L.length 0 (some i) = i.toNat := by
    show (if i < 0 then (i + (L.length : Int)).toNat else min i.toNat L.length) = i.toNat
    rw [if_neg (by omega)]
    omega
  rw [e1, e2]
  rw [List.take_of_length_le (by simp)]
theorem atI_get {γ : Type} {l : List γ} {i : Int} {a : γ} (h0 : 0 ≤ i) (h : l[i.toNat]? = some a) : atI l i = some a := by
  have hl := (List.getElem?_eq_some_iff.mp h).1
  unfold atI ixN
  rw [if_pos h0, if_pos (by omega)]
  exact h
theorem enumL_ln : ∀ (k : Nat) (l : List D), (enumL k l).length = l.length
  | _, [] => rfl
  | k, d :: l => by rw [enumL, List.length_cons, List.length_cons, enumL_ln]
theorem enumL_gt : ∀ (k : Nat) (l : List D) (i : Nat), (enumL k l)[i]? = (l[i]?).map fun d => .tup [.int ((k + i : Nat) : Int), d]
  | _, [], i => by simp [enumL]
  | k, d :: l, 0 => by simp [enumL]
  | k, d :: l, i + 1 => by
    rw [enumL, List.getElem?_cons_succ, List.getElem?_cons_succ, enumL_gt]
    rw [show k + 1 + i = k + (i + 1) by omega]
theorem bls_true {α : Type} : ∀ (l : List α), bls (l.map fun _ => D.bl true) = some (l.map fun _ => true)
  | [] => rfl
  | a :: l => by rw [List.map_cons, bls, bls_true l]; rfl
theorem all_true {α : Type} (l : List α) : allD (.lst (l.map fun _ => D.bl true)) = some (.bl true) := by
  show (bls (l.map fun _ => D.bl true)).map (fun l => D.bl (l.all id)) = _
  rw [bls_true]
  show some (D.bl ((l.map fun _ => true).all id)) = _
  congr 2
  simp
end Dl
namespace Kl
open PySem L2 Dl
def dropC (cs : List Cl) (i : Nat) : List Cl := cs.take i ++ cs.drop (i + 1)
theorem split_at {cs : List Cl} {i : Nat} {c : Cl} (h : cs[i]? = some c) : cs = cs.take i ++ c :: cs.drop (i + 1) := by
  obtain ⟨hl, rfl⟩ := List.getElem?_eq_some_iff.mp h
  rw [← List.drop_eq_getElem_cons hl, List.take_append_drop]
theorem set_at {cs : List Cl} {i : Nat} {c c' : Cl} (h : cs[i]? = some c) : cs.set i c' = cs.take i ++ c' :: cs.drop (i + 1) := by
  rw [List.set_eq_take_append_cons_drop, if_pos (List.getElem?_eq_some_iff.mp h).1]
theorem mem_at {cs : List Cl} {i : Nat} {c x : Cl} (h : cs[i]? = some c) : x ∈ cs ↔ x = c ∨ x ∈ dropC cs i := by
  have e := split_at h
  constructor
  · intro hx
    rw [e] at hx
    unfold dropC
    rcases List.mem_append.mp hx with z | z
    · exact .inr (List.mem_append_left _ z)
    · rcases List.mem_cons.mp z with z | z
      · exact .inl z
      · exact .inr (List.mem_append_right _ z)
  · intro hx
    rw [e]
    unfold dropC at hx
    rcases hx with z | z
    · exact List.mem_append_right _ (by rw [z]; exact List.mem_cons_self)
    · rcases List.mem_append.mp z with z | z
      · exact List.mem_append_left _ z
      · exact List.mem_append_right _ (List.mem_cons_of_mem _ z)
theorem mem_set_at {cs : List Cl} {i : Nat} {c c' x : Cl} (h : cs[i]? = some c) : x ∈ cs.set i c' ↔ x = c' ∨ x ∈ dropC cs i := by
  rw [set_at h]
  unfold dropC
  simp only [List.mem_append, List.mem_cons]
  constructor
  · rintro (z | z | z)
    · exact .inr (.inl z)
    · exact .inl z
    · exact .inr (.inr z)
  · rintro (z | z | z)
    · exact .inr (.inl z)
    · exact .inl z
    · exact .inr (.inr z)
theorem dropC_ok {w : Int} {cs : List Cl} {i : Nat} {c : Cl} (h : cs[i]? = some c) (hc : ∀ c ∈ cs, OkC w c) : ∀ c ∈ dropC cs i, OkC w c := fun x hx => hc x ((mem_at h).mpr (.inr hx))
theorem dropC_len (cs : List Cl) (i : Nat) : (dropC cs i).length ≤ cs.length := by unfold dropC; simp; omega
theorem setC_ok {w : Int} {cs : List Cl} {i : Nat} {b e n m : Int} (h : cs[i]? = some (b, e, n)) (hc : ∀ c ∈ cs, OkC w c) : ∀ c ∈ cs.set i (b, e, m), OkC w c := fun x hx => by
  rcases (mem_set_at h).mp hx with rfl | z
  · exact hc (b, e, n) (List.mem_of_getElem? h)
  · exact hc x ((mem_at h).mpr (.inr z))
/-- the need of one cell -/
theorem lp_put {w : Int} {cs : List Cl} {i : Nat} {b e n : Int} (h : cs[i]? = some (b, e, n)) (hc : ∀ c ∈ cs, OkC w c) (m : Int) : lp (cs.set i (b, e, m)) 0 w = max (lp (dropC cs i) 0 w) (lp cs 0 b + m + lp cs e w) := by
  have hT := dropC_ok h hc
  obtain ⟨b1, b2, b3⟩ := hc _ (List.mem_of_getElem? h)
  dsimp only at b1 b2 b3
  have e0 := lp_ins (cs := cs.set i (b, e, m)) (T := dropC cs i) (low := 0) (high := w) (m := m) hT ⟨b1, b2, b3⟩ (fun x => mem_set_at h) (Int.le_refl _) b1 b3 (Int.le_refl _)
  have e1 : lp (dropC cs i) 0 b = lp cs 0 b := lp_congr hT hc b1 (by omega) fun c _ hce => by
    rw [mem_at (x := c) h]
    constructor
    · exact .inr
    · rintro (rfl | z)
      · dsimp only at hce; omega
      · exact z
  have e2 : lp (dropC cs i) e w = lp cs e w := lp_congr hT hc (by omega) (Int.le_refl _) fun c hcb _ => by
    rw [mem_at (x := c) h]
    constructor
    · exact .inr
    · rintro (rfl | z)
      · dsimp only at hcb; omega
      · exact z
  rw [e0, e1, e2]
theorem lp_own {w : Int} {cs : List Cl} {i : Nat} {b e n : Int} (h : cs[i]? = some (b, e, n)) (hc : ∀ c ∈ cs, OkC w c) : lp cs 0 w = max (lp (dropC cs i) 0 w) (lp cs 0 b + n + lp cs e w) := by
  have := lp_put h hc n
  have e : cs.set i (b, e, n) = cs := by
    rw [set_at h]
    exact (split_at h).symm
  rw [e] at this
  exact this
end Kl

set_option maxHeartbeats 8000000
namespace Kl
open PySem L2 Dl
end Kl

namespace Kl
open PySem L2 Dl
end Kl

namespace Dl
open PySem L2
/-! ### lists by a function of the place -/
def fnL (w : Nat) (S : Nat → Int) : List Int := (List.range w).map S
@[simp] theorem fnL_len (w : Nat) (S : Nat → Int) : (fnL w S).length = w := by simp [fnL]
theorem fnL_congr {w : Nat} {S T : Nat → Int} (h : ∀ j, j < w → S j = T j) : fnL w S = fnL w T := by
  unfold fnL
  refine List.map_congr_left fun j hj => h j (List.mem_range.mp hj)
theorem fnL_gr {w : Nat} {S : Nat → Int} {j : Int} (h0 : 0 ≤ j) (h1 : j < w) : gr (fnL w S) j = S j.toNat := by
  have hn : j.toNat < w := by omega
  unfold gr fnL
  rw [List.getD_eq_getElem?_getD, List.getElem?_map, List.getElem?_range hn]
  rfl
theorem fnL_set {w : Nat} {S : Nat → Int} {k : Nat} {v : Int} : (fnL w S).set k v = fnL w (fun j => if j = k then v else S j) := by
  apply List.ext_getElem?
  intro i
  by_cases h : i < w
  · by_cases e : k = i
    · subst e
      rw [List.getElem?_set_self (by simpa using h)]
      simp [fnL, h]
    · rw [List.getElem?_set_ne e]
      simp [fnL, h, Ne.symm e]
  · rw [List.getElem?_eq_none (by simpa using h), List.getElem?_eq_none (by simpa using h)]
theorem fnL_zero (w : Nat) : fnL w (fun _ => 0) = List.replicate w 0 := by
  unfold fnL
  rw [List.map_const', List.length_range]
theorem ints_of2 : ∀ (ns : List Int), intsD (ns.map D.int) = some ns
  | [] => rfl
  | n :: ns => by rw [List.map_cons, intsD, ints_of2 ns]; rfl
/-- a loop that adds n to the places from b to e -/
theorem add_loop {w : Nat} {S : Nat → Int} {b e n : Int} (h0 : 0 ≤ b) (h1 : e ≤ w) (t : O → M Unit) (bd : M Fl) (mk : List Int → Option O → Sl) {s : Option O}
    (ht : ∀ r c s, t (.val (.int c)) (mk r s) = .ok () (mk r (some (.val (.int c)))))
    (hb : ∀ r c, 0 ≤ c → c < r.length → r.length = w → bd (mk r (some (.val (.int c)))) = .ok .nx (mk (r.set c.toNat (gr r c + n)) (some (.val (.int c))))) :
    ∃ s', mLoop t bd (rngL b (e - b).toNat) (mk (fnL w S) s) = .ok .nx (mk (fnL w (fun j => S j + if b ≤ j ∧ (j : Int) < e then n else 0)) s') := by
  obtain ⟨ρ', el, s', rfl⟩ := loop_ok (t := t) (b := bd) (fun k ρ => ∃ s', ρ = mk (fnL w (fun j => S j + if b ≤ j ∧ (j : Int) < b + k then n else 0)) s') (rngL b (e - b).toNat) 0 (mk (fnL w S) s)
    ⟨s, by congr 1; exact fnL_congr fun j _ => by rw [if_neg (by omega)]; omega⟩ fun i d ρ hd hI => by
      obtain ⟨rfl, hi⟩ := rngL_at hd
      obtain ⟨s', rfl⟩ := hI
      refine ⟨_, .nx, _, ht _ _ _, hb _ _ (by omega) (by simp; omega) (by simp), .inl rfl, some (.val (.int (b + i))), ?_⟩
      rw [fnL_gr (by omega) (by omega), fnL_set]
      congr 1
      refine fnL_congr fun j hj => ?_
      by_cases e1 : j = (b + (i : Int)).toNat
      · subst e1
        rw [if_pos rfl, if_neg (by omega), if_pos (by omega)]
        omega
      · rw [if_neg e1]
        by_cases e2 : b ≤ j ∧ (j : Int) < b + ((0 + i : Nat) : Int)
        · rw [if_pos e2, if_pos (by omega)]
        · rw [if_neg e2, if_neg (by omega)]
  refine ⟨s', el.trans ?_⟩
  congr 2
  rw [rngL_len]
  refine fnL_congr fun j hj => ?_
  by_cases e2 : b ≤ j ∧ (j : Int) < b + ((0 + (e - b).toNat : Nat) : Int)
  · rw [if_pos e2, if_pos (by omega)]
  · rw [if_neg e2, if_neg (by omega)]
end Dl
namespace Kl
open PySem L2 Dl
/-- how often a column is spanned, if each cell counts so often -/
def ldS (ps : List (Cl × Int)) (j : Nat) : Int := (ps.map fun p => if p.1.1 ≤ (j : Int) ∧ (j : Int) < p.1.2.1 then p.2 else 0).sum
theorem ldS_app (ps : List (Cl × Int)) (p : Cl × Int) (j : Nat) : ldS (ps ++ [p]) j = ldS ps j + if p.1.1 ≤ (j : Int) ∧ (j : Int) < p.1.2.1 then p.2 else 0 := by
  unfold ldS
  rw [List.map_append, List.sum_append]
  simp
theorem zipL_ints (cs : List Cl) (ns : List Int) : zipL (cs.map cellD) (ns.map D.int) = (cs.zip ns).map fun p => .tup [cellD p.1, .int p.2] := by
  induction cs generalizing ns with
  | nil => cases ns <;> rfl
  | cons c cs ih =>
    cases ns with
    | nil => rfl
    | cons n ns =>
      show D.tup [cellD c, .int n] :: zipL (cs.map cellD) (ns.map D.int) = _
      rw [ih]; rfl
theorem getMap {α β : Type} {f : α → β} {l : List α} {i : Nat} {d : β} (h : (l.map f)[i]? = some d) : ∃ a, l[i]? = some a ∧ d = f a := by
  rw [List.getElem?_map] at h
  cases e : l[i]? with
  | none => rw [e] at h; cases h
  | some a => rw [e] at h; exact ⟨a, rfl, (Option.some.inj h).symm⟩
def ascB : List Int → Bool
  | a :: b :: l => decide (a < b) && ascB (b :: l)
  | _ => true
theorem ascB_zip : ∀ l : List Int, (l.zip (l.drop 1)).all (fun p => decide (p.1 < p.2)) = ascB l
  | [] => rfl
  | [a] => rfl
  | a :: b :: l => by
    have ih := ascB_zip (b :: l)
    show (decide (a < b) && ((b :: l).zip l).all (fun p => decide (p.1 < p.2))) = _
    rw [ascB]
    congr 1
theorem asc_iff : ∀ l : List Int, ascB l = true ↔ l.Pairwise (· < ·)
  | [] => by simp [ascB]
  | [a] => by simp [ascB]
  | a :: b :: l => by
    have ih := asc_iff (b :: l)
    rw [ascB, Bool.and_eq_true, ih, List.pairwise_cons (a := a), decide_eq_true_eq]
    constructor
    · rintro ⟨h1, h2⟩
      refine ⟨fun x hx => ?_, h2⟩
      rcases List.mem_cons.mp hx with rfl | z
      · exact h1
      · have := (List.pairwise_cons.mp h2).1 x z
        omega
    · rintro ⟨h1, h2⟩
      exact ⟨h1 b (by simp), h2⟩
/-- an ascending tuple of numbers of cells -/
def areC (n : Nat) (d : D) : Bool := match d with
  | .tup l => l.all (isI 0 ((n : Int) - 1)) && (match intsD l with
    | some ns => ascB ns
    | none => false)
  | _ => false
theorem areC_ints {n : Nat} {d : D} (h : areC n d = true) : ∃ ns : List Int, d = .tup (ns.map D.int) ∧ (∀ k ∈ ns, 0 ≤ k ∧ k < n) ∧ ns.Pairwise (· < ·) := by
  cases d with
  | tup l =>
    simp only [areC, Bool.and_eq_true] at h
    obtain ⟨ns, rfl, hn⟩ := isI_all h.1
    refine ⟨ns, rfl, fun k hk => ?_, ?_⟩
    · have := hn k hk; omega
    · have h2 := h.2
      rw [ints_of2] at h2
      exact (asc_iff ns).mp h2
  | _ => exact absurd h (by simp [areC])
theorem zipL_ii (a b : List Int) : zipL (a.map D.int) (b.map D.int) = (a.zip b).map fun p => .tup [.int p.1, .int p.2] := by
  induction a generalizing b with
  | nil => cases b <;> rfl
  | cons c cs ih =>
    cases b with
    | nil => rfl
    | cons n ns =>
      show D.tup [.int c, .int n] :: zipL (cs.map D.int) (ns.map D.int) = _
      rw [ih]; rfl
theorem cut_1 (l : List D) : cutD l (some 1) none = l.drop 1 := by
  have e1 : HT.sIx l.length 0 (some 1) = min 1 l.length := HT.sIx_nat l.length 0 1
  have e2 : HT.sIx l.length l.length none = l.length := rfl
  unfold cutD
  rw [e1, e2]
  rw [List.take_of_length_le (by simp)]
  cases l <;> simp
theorem frzs_vals {α : Type} (f : α → D) (l : List α) : frzs (l.map fun a => O.val (f a)) = l.map f := by
  induction l with
  | nil => rfl
  | cons a l ih => rw [List.map_cons, frzs, ih]; rfl
/-- for each cell 1 if its number is among some -/
def cntF (n : Nat) (ns : List Int) : List Int := (List.range n).map fun (i : Nat) => if ns.any (· == (0 + (i : Int))) = true then 1 else 0
theorem inF_ints (i : Int) (ns : List Int) : cmpF .In (.int i) (.tup (ns.map D.int)) = some (.bl (ns.any (· == i))) := by
  show ((match (intsD (ns.map D.int)).map (fun (ns : List Int) => ns.any (· == i)) with
    | some b => some b
    | none => inG (.int i) (.tup (ns.map D.int))).map fun b => D.bl b) = _
  rw [ints_of2]
  rfl
end Kl

namespace Kl
open PySem L2 Dl
/-- the greatest of a list by a function -/
theorem maxD_fn {w : Nat} (S : Nat → Int) (hw : 1 ≤ w) : ∃ m, maxD (.lst ((fnL w S).map D.int)) = some (.int m) ∧ ∀ k : Int, m ≤ k ↔ ∀ j, j < w → S j ≤ k := by
  obtain ⟨v, rfl⟩ : ∃ v, w = v + 1 := ⟨w - 1, by omega⟩
  have e : fnL (v + 1) S = S 0 :: fnL v (fun j => S (j + 1)) := by
    unfold fnL
    rw [List.range_succ_eq_map, List.map_cons, List.map_map]
    rfl
  rw [e]
  obtain ⟨m, h1, h2, h3, h4⟩ := maxD_ok (fnL v (fun j => S (j + 1))) (S 0)
  refine ⟨m, h1, fun k => ⟨fun hk j hj => ?_, fun h => ?_⟩⟩
  · have : S j ∈ S 0 :: fnL v (fun j => S (j + 1)) := by
      rw [← e]
      exact List.mem_map.mpr ⟨j, List.mem_range.mpr hj, rfl⟩
    rcases List.mem_cons.mp this with z | z
    · omega
    · have := h3 _ z
      omega
  · have : m ∈ fnL (v + 1) S := by
      rw [e]
      rcases h4 with rfl | z
      · exact List.mem_cons_self
      · exact List.mem_cons_of_mem _ z
    obtain ⟨j, hj, rfl⟩ := List.mem_map.mp this
    exact h j (List.mem_range.mp hj)
/-- whether anything is a family of a degree -/
def famB (w : Int) (cs : List Cl) (k : Int) (d : D) : Bool := areC cs.length d && (match d with
  | .tup l => (match intsD l with
    | some ns => (List.range w.toNat).all fun j => decide (ldS (cs.zip (cntF cs.length ns)) j ≤ k)
    | none => false)
  | _ => false)
theorem famB_eq {w : Int} {cs : List Cl} {k m : Int} {ns : List Int} (hm : ∀ k : Int, m ≤ k ↔ ∀ j, j < w.toNat → ldS (cs.zip (cntF cs.length ns)) j ≤ k) (ha : areC cs.length (.tup (ns.map D.int)) = true) : decide (m ≤ k) = famB w cs k (.tup (ns.map D.int)) := by
  unfold famB
  rw [ha, Bool.true_and]
  simp only [ints_of2]
  rw [Bool.eq_iff_iff, decide_eq_true_eq, hm, List.all_eq_true]
  simp
end Kl

namespace Kl
open PySem L2 Dl
end Kl

namespace Kl
open PySem L2 Dl
theorem usort_asc (ns : List Int) : decide (ns = usort ns) = ascB ns := by
  rw [Bool.eq_iff_iff, decide_eq_true_eq, asc_iff]
  letI : Kc := ⟨[], [], []⟩
  constructor
  · intro h
    rw [h]
    exact usort_sorted ns
  · intro h
    exact strict_uniq h (usort_sorted ns) fun k => (usort_mem k ns).symm
theorem sset_ints (ns : List Int) (h : ns.length ≤ 60) : ssetF (.tup (ns.map D.int)) = some (.lst (io (usort ns))) := by
  show (match intsD (ns.map D.int) with
    | some ns => if ns.length ≤ 60 then some (O.lst ((usort ns).map fun i => O.val (D.int i))) else none
    | none => none) = _
  rw [ints_of2]
  dsimp only
  rw [if_pos h]
  rfl
end Kl

namespace Dl
open PySem L2
/-- a while that ends: n turns are left -/
theorem while_ok {c : M Bool} {b : M Fl} (I : Nat → Sl → Prop) (P : Sl → Prop) (hs : ∀ n ρ, I n ρ → (∃ ρ1, c ρ = .ok false ρ1 ∧ P ρ1) ∨ ∃ ρ1 f ρ2 m, c ρ = .ok true ρ1 ∧ b ρ1 = .ok f ρ2 ∧ (f = .nx ∨ f = .ct) ∧ m < n ∧ I m ρ2) :
    ∀ (N n : Nat) (ρ : Sl), n < N → I n ρ → ∃ ρ', mWhile c b N ρ = .ok .nx ρ' ∧ P ρ'
  | 0, n, ρ, h, _ => by omega
  | N + 1, n, ρ, h, hI => by
    rcases hs n ρ hI with ⟨ρ1, h1, h2⟩ | ⟨ρ1, f, ρ2, m, h1, h2, hf, hm, h3⟩
    · refine ⟨ρ1, ?_, h2⟩
      rw [mWhile, bnd_ok h1, if_neg (by decide)]
      rfl
    · obtain ⟨ρ', h4, h5⟩ := while_ok I P hs N m ρ2 (by omega) h3
      refine ⟨ρ', ?_, h5⟩
      rw [mWhile, bnd_ok h1, if_pos rfl, bnd_ok h2]
      rcases hf with rfl | rfl <;> exact h4
theorem sumD_ok (ns : List Int) : sumD (.lst (ns.map D.int)) = some (.int ns.sum) := by
  have : lstI (.lst (ns.map D.int)) = some ns := lstI_ints ns
  unfold sumD
  rw [this]; rfl
theorem sortN_ok (ns : List Int) : sortN [.lst (ns.map D.int)] = some (.lst (io (isort ns))) := by
  show (intsD (ns.map D.int)).map (fun ns => O.lst ((isort ns).map fun i => O.val (D.int i))) = _
  rw [ints_of2]; rfl
theorem frzs_io2 (l : List Int) : frzs (l.map fun i => O.val (D.int i)) = l.map D.int := frzs_io l
end Dl
namespace Kl
open PySem L2 Dl
theorem atI_cells {cs : List Cl} {i : Int} (h0 : 0 ≤ i) (h1 : i < cs.length) : ∃ c, atI (cs.map cellD) i = some (cellD c) ∧ c ∈ cs ∧ cs[i.toNat]? = some c := by
  have hn : i.toNat < cs.length := by omega
  refine ⟨cs[i.toNat], ?_, List.getElem_mem hn, List.getElem?_eq_getElem hn⟩
  unfold atI ixN
  rw [if_pos h0, List.length_map, if_pos (by omega)]
  show (cs.map cellD)[i.toNat]? = _
  rw [List.getElem?_map, List.getElem?_eq_getElem hn]
  rfl
/-- numbers of cells -/
def Nums (n : Nat) (ns : List Int) : Prop := ∀ k ∈ ns, 0 ≤ k ∧ k < n
/-- the needs of some cells together -/
def sumN (cs : List Cl) (ns : List Int) : Int := (ns.map fun k => ((cs[k.toNat]?).getD (0, 0, 0)).2.2).sum
/-- an int and no bool -/
def isJ (d : D) : Option Int := match d with
  | .int i => some i
  | _ => none
def shB (w : Int) (cs : List Cl) (n d : D) : Bool := match isJ n, d with
  | some i, .tup l => famB w cs 1 d && (match intsD l with
    | some ns => decide (i ≤ sumN cs ns)
    | none => false)
  | _, _ => false
end Kl

namespace Kl
open PySem L2 Dl
theorem compO_map {vs : List Nat} {i : Nat} {t : O → M Unit} {c : M Bool} {e : M O} {ρ : Sl} (ds : List D) (g : D → O) (hρ : ρ[i]? = some (some (.lst (ds.map O.val)))) (hw : wipeO ρ vs = ρ) (hl : ds.length < 1000000)
    (h : ∀ d ∈ ds, ∃ ρ1 ρ2 ρ3, t (.val d) ρ = .ok () ρ1 ∧ c ρ1 = .ok true ρ2 ∧ e ρ2 = .ok (g d) ρ3 ∧ wipeO ρ3 vs = ρ) : mCompO vs i t c e ρ = .ok (.lst (ds.map g)) ρ := by
  obtain ⟨os, ρ', e1, rfl, rfl⟩ := compsO_ok (i := i) (vs := vs) (t := t) (c := c) (e := e) ds (fun k acc ρ' => acc = (ds.take k).map g ∧ ρ' = ρ) (fun k acc ρ' hI => by obtain ⟨_, rfl⟩ := hI; exact hρ) (fun k d acc ρ' hd hI => by
      obtain ⟨rfl, rfl⟩ := hI
      obtain ⟨ρ1, ρ2, ρ3, h1, h2, h3, h4⟩ := h d (List.mem_of_getElem? hd)
      exact ⟨ρ1, true, ρ2, h1, h2, fun _ => ⟨g d, ρ3, h3, by rw [List.take_add_one, hd]; simp, h4⟩, fun z => nomatch z⟩)
    1000000 0 [] ρ (Nat.zero_le _) (by omega) ⟨by simp, rfl⟩
  rw [List.take_length] at e1
  exact compO_ok (by rw [hw]; exact e1)
def nearC (cs : List Cl) (w j : Int) : List (List Int) := ([j - 1, j + 1].filter fun t => decide (0 ≤ t) && decide (t < w)).map (inCol cs)
def subB (a b : List Int) : Bool := a.all fun i => b.any (· == i)
def spareB (cs : List Cl) (w j : Int) : Bool := (nearC cs w j).any (subB (inCol cs j))
theorem ints_of3 : ∀ (ns : List Int), intsD (ns.map D.int) = some ns
  | [] => rfl
  | n :: ns => by rw [List.map_cons, intsD, ints_of3 ns]; rfl
theorem inF_tints (i : Int) (ns : List Int) : cmpF .In (.int i) (.tup (ns.map D.int)) = some (.bl (ns.any (· == i))) := by
  show ((match (intsD (ns.map D.int)).map (fun (ns : List Int) => ns.any (· == i)) with
    | some b => some b
    | none => inG (.int i) (.tup (ns.map D.int))).map fun b => D.bl b) = _
  rw [ints_of3]
  rfl
theorem inF_lints (i : Int) (ns : List Int) : cmpF .In (.int i) (.lst (ns.map D.int)) = some (.bl (ns.any (· == i))) := by
  show ((match (intsD (ns.map D.int)).map (fun (ns : List Int) => ns.any (· == i)) with
    | some b => some b
    | none => inG (.int i) (.lst (ns.map D.int))).map fun b => D.bl b) = _
  rw [ints_of3]
  rfl
theorem lst_bl (l : List Int) (f : Int → Bool) : O.lst (l.map fun i => O.val (.bl (f i))) = O.lst (((l.map f).map D.bl).map O.val) := by simp [Function.comp_def]
theorem frz_bl (bs : List Bool) : frzs ((bs.map D.bl).map O.val) = bs.map D.bl := by
  letI : Kc := ⟨[], [], []⟩
  exact frzs_val _
section
variable {w : Int} {cs : List Cl} {j : Int}
theorem inCol_len2 (hl : cs.length ≤ 1000) : (inCol cs j).length ≤ 1000 := by
  rw [inCol, List.length_map]
  exact Nat.le_trans (List.length_filter_le _ _) (by simpa using hl)
end
end Kl

namespace Kl
open PySem L2 Dl
theorem frz_vs (ds : List D) : frzs (ds.map O.val) = ds := by
  letI : Kc := ⟨[], [], []⟩
  exact frzs_val _
theorem frzs_eq' : ∀ l : List O, frzs l = l.map frz
  | [] => rfl
  | o :: l => by rw [frzs, List.map_cons, frzs_eq' l]
def spareL (cs : List Cl) (w : Int) : List Int := ((List.range w.toNat).filter fun (i : Nat) => spareB cs w (i : Int)).map fun (i : Nat) => (i : Int)
section
variable {w : Int} {cs : List Cl} {j : Int}
theorem filt_take {α : Type} (p : α → Bool) (l : List α) (i : Nat) (a : α) (h : l[i]? = some a) : (l.take (i + 1)).filter p = (l.take i).filter p ++ if p a = true then [a] else [] := by
  rw [List.take_add_one, h, List.filter_append]
  cases q : p a <;> simp [q]
end
end Kl

namespace Kl
open PySem L2 Dl
/-- a loop that raises at the first that p finds -/
theorem loop_find {α : Type} {t : O → M Unit} {b : M Fl} (f : α → D) (p : α → Bool) (ex : α → Ex) (I J : Sl → Prop) : ∀ (xs : List α) (ρ : Sl), I ρ →
    (∀ x ∈ xs, ∀ ρ, I ρ → ∃ ρ1, t (.val (f x)) ρ = .ok () ρ1 ∧ (p x = false → ∃ ρ2, b ρ1 = .ok .nx ρ2 ∧ I ρ2) ∧ (p x = true → ∃ ρ2, b ρ1 = .ex (ex x) ρ2 ∧ J ρ2)) →
    (xs.find? p = none → ∃ ρ', mLoop t b (xs.map f) ρ = .ok .nx ρ' ∧ I ρ') ∧ (∀ x, xs.find? p = some x → ∃ ρ', mLoop t b (xs.map f) ρ = .ex (ex x) ρ' ∧ J ρ')
  | [], ρ, h0, _ => ⟨fun _ => ⟨ρ, rfl, h0⟩, fun x h => by simp at h⟩
  | x :: xs, ρ, h0, hs => by
    obtain ⟨ρ1, h1, hf, ht⟩ := hs x List.mem_cons_self ρ h0
    cases q : p x with
    | true =>
      obtain ⟨ρ2, h2, hJ⟩ := ht q
      refine ⟨fun h => by simp [List.find?_cons, q] at h, fun y h => ?_⟩
      simp [List.find?_cons, q] at h
      subst h
      refine ⟨ρ2, ?_, hJ⟩
      rw [List.map_cons, mLoop, bnd_ok h1, bnd_ap, h2]
    | false =>
      obtain ⟨ρ2, h2, hI⟩ := hf q
      obtain ⟨r1, r2⟩ := loop_find (t := t) (b := b) f p ex I J xs ρ2 hI fun y hy => hs y (List.mem_cons_of_mem _ hy)
      have e : mLoop t b ((x :: xs).map f) ρ = mLoop t b (xs.map f) ρ2 := by
        rw [List.map_cons, mLoop, bnd_ok h1, bnd_ok h2]
      refine ⟨fun h => ?_, fun y h => ?_⟩
      · rw [List.find?_cons, q] at h
        obtain ⟨ρ', e', i'⟩ := r1 h
        exact ⟨ρ', e.trans e', i'⟩
      · rw [List.find?_cons, q] at h
        obtain ⟨ρ', e', i'⟩ := r2 y h
        exact ⟨ρ', e.trans e', i'⟩
def cutC (cs : List Cl) (j : Int) : List Cl := cs.map fun c => (c.1 - (if j < c.1 then 1 else 0), c.2.1 - (if j < c.2.1 then 1 else 0), c.2.2)
def lostB (j : Int) (p : Cl × Nat) : Bool := decide ([p.1.1, p.1.2.1] = [j, j + 1])
section
variable {w : Int} {cs : List Cl} {j : Int}
theorem isI_j (h0 : 0 ≤ j) (h1 : j < w) : isI 0 (w - 1) (.int j) = true := by rw [isI_int]; simp; omega
theorem eq_pair (a b c d : Int) : eqD (.tup [.int a, .int b]) (.tup [.int c, .int d]) = some (.bl (decide ([a, b] = [c, d]))) := eq_tints [a, b] [c, d]
end
end Kl


set_option maxHeartbeats 8000000
namespace Kl
open PySem L2 Dl
/-! ### chains of cells, by their numbers -/
def cellAt (cs : List Cl) (k : Int) : Cl := (cs[k.toNat]?).getD (0, 0, 0)
theorem sumN_eq (cs : List Cl) (ns : List Int) : sumN cs ns = (ns.map fun k => (cellAt cs k).2.2).sum := rfl
theorem cellAt_get {cs : List Cl} {k : Int} (h0 : 0 ≤ k) (h1 : k < cs.length) : cs[k.toNat]? = some (cellAt cs k) := by
  have hn : k.toNat < cs.length := by omega
  unfold cellAt
  rw [List.getElem?_eq_getElem hn]
  rfl
theorem cellAt_mem {cs : List Cl} {k : Int} (h0 : 0 ≤ k) (h1 : k < cs.length) : cellAt cs k ∈ cs := List.mem_of_getElem? (cellAt_get h0 h1)
def Dis (c d : Cl) : Prop := c.2.1 ≤ d.1 ∨ d.2.1 ≤ c.1
theorem Dis.symm {c d : Cl} (h : Dis c d) : Dis d c := Or.symm h
structure ChN (cs : List Cl) (ns : List Int) : Prop where
  nums : Nums cs.length ns
  dis : ns.Pairwise fun a b => Dis (cellAt cs a) (cellAt cs b)
theorem isum_perm {a b : List Int} (h : a.Perm b) : a.sum = b.sum := by
  induction h with
  | nil => rfl
  | cons x _ ih => rw [List.sum_cons, List.sum_cons, ih]
  | swap x y l => simp only [List.sum_cons]; omega
  | trans _ _ h1 h2 => exact h1.trans h2
theorem sumN_perm {cs : List Cl} {a b : List Int} (h : a.Perm b) : sumN cs a = sumN cs b := isum_perm (h.map _)
theorem ChN.perm {cs : List Cl} {a b : List Int} (h : ChN cs a) (p : a.Perm b) : ChN cs b :=
  ⟨fun k hk => h.nums k (p.mem_iff.mpr hk), (p.pairwise_iff fun {x y} q => q.symm).mp h.dis⟩
theorem ChN.tail {cs : List Cl} {k : Int} {ns : List Int} (h : ChN cs (k :: ns)) : ChN cs ns := ⟨fun j hj => h.nums j (List.mem_cons_of_mem _ hj), (List.pairwise_cons.mp h.dis).2⟩
/-- no chain has a greater sum -/
theorem chain_le {w low : Int} {cs : List Cl} (hc : ∀ c ∈ cs, OkC w c) : ∀ high, 0 ≤ high → high ≤ w → ∀ ns : List Int, ChN cs ns → (∀ k ∈ ns, low ≤ (cellAt cs k).1 ∧ (cellAt cs k).2.1 ≤ high) → sumN cs ns ≤ lp cs low high := by
  refine up_ind fun j h0 ih h1 ns hn hb => ?_
  by_cases e : ∃ k ∈ ns, (cellAt cs k).2.1 = j
  · obtain ⟨k, hk, ek⟩ := e
    have p := List.perm_cons_erase hk
    have hn' := hn.perm p
    have hkn := hn.nums k hk
    have hm := cellAt_mem hkn.1 hkn.2
    obtain ⟨q1, q2, q3⟩ := hc _ hm
    rw [sumN_perm p]
    have hd := (List.pairwise_cons.mp hn'.dis).1
    have h2 := ih (cellAt cs k).1 q1 (by omega) (by omega) (ns.erase k) hn'.tail fun m hm' => by
      have hb' := hb m (List.mem_of_mem_erase hm')
      have hmn := hn'.nums m (List.mem_cons_of_mem _ hm')
      obtain ⟨r1, r2, r3⟩ := hc _ (cellAt_mem hmn.1 hmn.2)
      rcases hd m hm' with z | z
      · omega
      · exact ⟨hb'.1, z⟩
    have h3 := lp_cell (low := low) hc hm (hb k hk).1
    have e2 : sumN cs (k :: ns.erase k) = (cellAt cs k).2.2 + sumN cs (ns.erase k) := by
      rw [sumN_eq, List.map_cons, List.sum_cons]
      rfl
    rw [e2]
    rw [ek] at h3
    omega
  · by_cases hj : j = 0
    · cases ns with
      | nil =>
        rw [hj, lp_0]
        exact Int.le_refl _
      | cons k ns =>
        have hb' := hb k (by simp)
        have hkn := hn.nums k (by simp)
        obtain ⟨r1, r2, r3⟩ := hc _ (cellAt_mem hkn.1 hkn.2)
        omega
    · have h2 := ih (j - 1) (by omega) (by omega) (by omega) ns hn fun k hk => by
        have hb' := hb k hk
        have : (cellAt cs k).2.1 ≠ j := fun z => e ⟨k, hk, z⟩
        omega
      have h3 := lp_mono (low := low) hc (i := j - 1) (j := j) (by omega) (by omega) h1
      omega
theorem sum_le_one {l : List Int} (h : ∀ x ∈ l, 0 ≤ x ∧ x ≤ 1) (hp : l.Pairwise fun a b => a = 0 ∨ b = 0) : l.sum ≤ 1 ∧ 0 ≤ l.sum := by
  induction l with
  | nil => simp
  | cons a l ih =>
    obtain ⟨h1, h2⟩ := List.pairwise_cons.mp hp
    obtain ⟨i1, i2⟩ := ih (fun x hx => h x (List.mem_cons_of_mem _ hx)) h2
    have ha := h a (by simp)
    rw [List.sum_cons]
    by_cases e : a = 0
    · omega
    · have : l.sum = 0 := by
        have hz : ∀ x ∈ l, x = 0 := fun x hx => (h1 x hx).resolve_left e
        clear ih i1 i2 h1 h2 hp h
        induction l with
        | nil => rfl
        | cons b l ih => rw [List.sum_cons, hz b (by simp), ih fun x hx => hz x (List.mem_cons_of_mem _ hx)]; rfl
      omega
theorem cntF_get {n : Nat} {ns : List Int} {i : Nat} (hi : i < n) : (cntF n ns)[i]? = some (if ((i : Nat) : Int) ∈ ns then 1 else 0) := by
  unfold cntF
  rw [List.getElem?_map, List.getElem?_range hi]
  show some (if (ns.any fun x => x == 0 + (i : Int)) = true then (1 : Int) else 0) = _
  congr 1
  by_cases h : ((i : Nat) : Int) ∈ ns
  · rw [if_pos h, if_pos]
    rw [List.any_eq_true]
    exact ⟨_, h, by simp⟩
  · rw [if_neg h, if_neg]
    rw [List.any_eq_true]
    rintro ⟨x, hx, e⟩
    have : x = (i : Int) := by simpa using e
    exact h (this ▸ hx)
theorem zip_get {cs : List Cl} {ns : List Int} {i : Nat} {p : Cl × Int} (h : (cs.zip (cntF cs.length ns))[i]? = some p) : i < cs.length ∧ p.1 = cellAt cs (i : Nat) ∧ p.2 = if ((i : Nat) : Int) ∈ ns then 1 else 0 := by
  rw [List.getElem?_zip_eq_some] at h
  obtain ⟨h1, h2⟩ := h
  have hi := (List.getElem?_eq_some_iff.mp h1).1
  rw [cntF_get hi] at h2
  refine ⟨hi, ?_, (Option.some.inj h2).symm⟩
  unfold cellAt
  rw [Int.toNat_natCast, h1]
  rfl
/-- a column has at most one of them -/
theorem ChN.one {w : Int} {cs : List Cl} {ns : List Int} (hc : ∀ c ∈ cs, OkC w c) (h : ChN cs ns) (j : Nat) : ldS (cs.zip (cntF cs.length ns)) j ≤ 1 := by
  unfold ldS
  refine (sum_le_one (fun x hx => ?_) ?_).1
  · obtain ⟨p, hp, rfl⟩ := List.mem_map.mp hx
    obtain ⟨i, hi⟩ := List.getElem?_of_mem hp
    obtain ⟨_, _, e⟩ := zip_get hi
    split
    · rw [e]; split <;> omega
    · omega
  · rw [List.pairwise_map]
    rw [List.pairwise_iff_getElem]
    intro a b ha hb hab
    obtain ⟨a1, a2, a3⟩ := zip_get (List.getElem?_eq_getElem ha)
    obtain ⟨b1, b2, b3⟩ := zip_get (List.getElem?_eq_getElem hb)
    by_cases ma : ((a : Nat) : Int) ∈ ns
    · by_cases mb : ((b : Nat) : Int) ∈ ns
      · have hd : Dis (cellAt cs (a : Nat)) (cellAt cs (b : Nat)) := by
          obtain ⟨x, hx⟩ := List.getElem?_of_mem ma
          obtain ⟨y, hy⟩ := List.getElem?_of_mem mb
          have hxl := (List.getElem?_eq_some_iff.mp hx)
          have hyl := (List.getElem?_eq_some_iff.mp hy)
          have pw := List.pairwise_iff_getElem.mp h.dis
          rcases Nat.lt_trichotomy x y with z | z | z
          · have := pw x y hxl.1 hyl.1 z
            rw [hxl.2, hyl.2] at this
            exact this
          · subst z
            rw [hx] at hy
            have : (a : Int) = (b : Int) := Option.some.inj hy
            omega
          · have := pw y x hyl.1 hxl.1 z
            rw [hxl.2, hyl.2] at this
            exact this.symm
        rw [a2, b2]
        rcases hd with z | z
        · by_cases q : (cellAt cs (a : Nat)).1 ≤ (j : Int) ∧ (j : Int) < (cellAt cs (a : Nat)).2.1
          · right
            rw [if_neg]
            omega
          · left
            rw [if_neg q]
        · by_cases q : (cellAt cs (a : Nat)).1 ≤ (j : Int) ∧ (j : Int) < (cellAt cs (a : Nat)).2.1
          · right
            rw [if_neg]
            omega
          · left
            rw [if_neg q]
      · right
        rw [b3, if_neg mb]
        split <;> rfl
    · left
      rw [a3, if_neg ma]
      split <;> rfl
theorem ldS_two {w : Int} {cs : List Cl} {ns : List Int} {a b j : Nat} (ha : ((a : Nat) : Int) ∈ ns) (hb : ((b : Nat) : Int) ∈ ns) (hab : a < b) (hbl : b < cs.length) (ja : (cellAt cs (a : Nat)).1 ≤ (j : Int) ∧ (j : Int) < (cellAt cs (a : Nat)).2.1) (jb : (cellAt cs (b : Nat)).1 ≤ (j : Int) ∧ (j : Int) < (cellAt cs (b : Nat)).2.1) :
    2 ≤ ldS (cs.zip (cntF cs.length ns)) j := by
  have key : ∀ (l : List Int) (x y : Nat), (∀ v ∈ l, 0 ≤ v) → x < y → l[x]? = some 1 → l[y]? = some 1 → 2 ≤ l.sum := by
    intro l
    induction l with
    | nil => intro x y _ _ h; simp at h
    | cons v l ih =>
      intro x y hv hxy hx hy
      cases y with
      | zero => omega
      | succ y =>
        rw [List.getElem?_cons_succ] at hy
        rw [List.sum_cons]
        cases x with
        | zero =>
          rw [List.getElem?_cons_zero] at hx
          have e1 : v = 1 := Option.some.inj hx
          have one : ∀ (l : List Int) (y : Nat), (∀ v ∈ l, 0 ≤ v) → l[y]? = some 1 → 1 ≤ l.sum := by
            intro l
            induction l with
            | nil => intro y _ h; simp at h
            | cons u l ih2 =>
              intro y hv hy
              rw [List.sum_cons]
              have h1 := hv u (by simp)
              have nn : ∀ (l : List Int), (∀ v ∈ l, 0 ≤ v) → 0 ≤ l.sum := by
                intro l
                induction l with
                | nil => intro _; exact Int.le_refl _
                | cons a l ih3 => intro hv; rw [List.sum_cons]; have := hv a (by simp); have := ih3 fun v h => hv v (List.mem_cons_of_mem _ h); omega
              cases y with
              | zero =>
                rw [List.getElem?_cons_zero] at hy
                have := Option.some.inj hy
                have := nn l fun v h => hv v (List.mem_cons_of_mem _ h)
                omega
              | succ y =>
                rw [List.getElem?_cons_succ] at hy
                have := ih2 y (fun v h => hv v (List.mem_cons_of_mem _ h)) hy
                omega
          have := one l y (fun v h => hv v (List.mem_cons_of_mem _ h)) hy
          omega
        | succ x =>
          rw [List.getElem?_cons_succ] at hx
          have := ih x y (fun v h => hv v (List.mem_cons_of_mem _ h)) (by omega) hx hy
          have := hv v (by simp)
          omega
  unfold ldS
  have get : ∀ {i : Nat}, i < cs.length → ((i : Nat) : Int) ∈ ns → ((cellAt cs (i : Nat)).1 ≤ (j : Int) ∧ (j : Int) < (cellAt cs (i : Nat)).2.1) → ((cs.zip (cntF cs.length ns)).map fun p => if p.1.1 ≤ (j : Int) ∧ (j : Int) < p.1.2.1 then p.2 else 0)[i]? = some 1 := fun {i} hi hm hj => by
    have hl : i < (cs.zip (cntF cs.length ns)).length := by
      rw [List.length_zip]
      unfold cntF
      simp
      omega
    rw [List.getElem?_map, List.getElem?_eq_getElem hl]
    obtain ⟨_, e1, e2⟩ := zip_get (List.getElem?_eq_getElem hl)
    show some (if _ then _ else _) = _
    rw [e1, if_pos hj, e2, if_pos hm]
  refine key _ a b (fun v hv => ?_) hab (get (by omega) ha ja) (get hbl hb jb)
  obtain ⟨p, hp, rfl⟩ := List.mem_map.mp hv
  obtain ⟨i, hi⟩ := List.getElem?_of_mem hp
  obtain ⟨_, _, e⟩ := zip_get hi
  split
  · rw [e]; split <;> omega
  · omega
theorem isort_asc {ns : List Int} (h : ns.Nodup) : ascB (isort ns) = true := by
  letI : Kc := ⟨[], [], []⟩
  rw [asc_iff]
  have p := isort_perm ns
  have s := isort_sorted ns
  have nd : (isort ns).Nodup := p.nodup_iff.mpr h
  refine List.Pairwise.imp₂ (fun a b h1 h2 => ?_) s nd
  omega
theorem ChN.nodup {w : Int} {cs : List Cl} {ns : List Int} (hc : ∀ c ∈ cs, OkC w c) (h : ChN cs ns) : ns.Nodup := by
  have : ∀ (ns : List Int), Nums cs.length ns → ns.Pairwise (fun a b => Dis (cellAt cs a) (cellAt cs b)) → ns.Nodup := by
    intro ns
    induction ns with
    | nil => intro _ _; exact List.nodup_nil
    | cons k ns ih =>
      intro h1 h2
      obtain ⟨p1, p2⟩ := List.pairwise_cons.mp h2
      refine List.nodup_cons.mpr ⟨fun z => ?_, ih (fun j hj => h1 j (List.mem_cons_of_mem _ hj)) p2⟩
      have hk := h1 k (by simp)
      obtain ⟨q1, q2, q3⟩ := hc _ (cellAt_mem hk.1 hk.2)
      have := p1 k z
      unfold Dis at this
      omega
  exact this ns h.nums h.dis
end Kl
namespace Dl
open PySem L2
def findR {α : Type} (r : α → O) (o : Option α) : Fl := match o with
  | some x => .rt (r x)
  | none => .nx
@[simp] theorem findR_some {α : Type} (r : α → O) (x : α) : findR r (some x) = .rt (r x) := rfl
@[simp] theorem findR_none {α : Type} (r : α → O) : findR r none = .nx := rfl
/-- a loop that ends at the first thing that is sought -/
theorem for_find {α : Type} {i : M (List D)} {t : O → M Unit} {b : M Fl} {ρ : Sl} (f : α → D) (p : α → Bool) (r : α → O) (xs : List α) (J : Sl → Prop) (hi : i ρ = .ok (xs.map f) ρ) (h0 : J ρ)
    (h : ∀ x ∈ xs, ∀ ρ, J ρ → Ok (t (.val (f x)) ρ) fun _ ρ1 => Ok (b ρ1) fun fl ρ2 => J ρ2 ∧ (p x = true → fl = .rt (r x)) ∧ (p x = false → fl = .nx ∨ fl = .ct)) :
    ∃ ρ', J ρ' ∧ mFor i t b ρ = .ok (findR r (xs.find? p)) ρ' := by
  have key : ∀ (xs : List α) (ρ : Sl), J ρ → (∀ x ∈ xs, ∀ ρ, J ρ → Ok (t (.val (f x)) ρ) fun _ ρ1 => Ok (b ρ1) fun fl ρ2 => J ρ2 ∧ (p x = true → fl = .rt (r x)) ∧ (p x = false → fl = .nx ∨ fl = .ct)) →
      ∃ ρ', J ρ' ∧ mLoop t b (xs.map f) ρ = .ok (findR r (xs.find? p)) ρ' := by
    intro xs
    induction xs with
    | nil => intro ρ h0 _; exact ⟨ρ, h0, rfl⟩
    | cons x xs ih =>
      intro ρ h0 h
      obtain ⟨_, ρ1, q1, q2⟩ := (h x (by simp) ρ h0).get
      obtain ⟨fl, ρ2, q3, q4, q5, q6⟩ := q2.get
      cases q : p x with
      | true =>
        refine ⟨ρ2, q4, ?_⟩
        rw [List.map_cons, mLoop, bnd_ok q1, bnd_ok q3, q5 q, List.find?_cons_of_pos q]
        rfl
      | false =>
        obtain ⟨ρ', j, e⟩ := ih ρ2 q4 fun y hy => h y (List.mem_cons_of_mem _ hy)
        refine ⟨ρ', j, ?_⟩
        rw [List.map_cons, mLoop, bnd_ok q1, bnd_ok q3, List.find?_cons_of_neg (by rw [q]; decide)]
        rcases q6 q with rfl | rfl <;> exact e
  obtain ⟨ρ', j, e⟩ := key xs ρ h0 h
  refine ⟨ρ', j, ?_⟩
  rw [mFor_ap, hi]
  exact e
end Dl

namespace Kl
open PySem L2 Dl
def topS (i : Nat) : Stmt := PySem.Challenge.pw_spanwidths_k24_least_widths.main.body.getD i (.Pass ⟨0, 0, 0, 0⟩)
def inOf (l : List Nat) : Nat → Bool := fun i => decide (i ∈ l)
@[simp] theorem inOf_ap (l : List Nat) (i : Nat) : inOf l i = decide (i ∈ l) := rfl
def cst : List (Str × D) := []
def blt : List Str := ["len", "abs", "sum", "all", "max", "min", "repr", "int", "tuple", "list", "range", "enumerate", "zip", "isinstance", "str", "sorted", "set", "bool"]
def exc : List (Str × List Str) := [("NoEdge", ["value"])]
def isa_TableError : List (Str × Bool) := [("NoEdge", true)]
def isa_BadTable : List (Str × Bool) := [("NoEdge", false)]
def isa_BadWidths : List (Str × Bool) := [("NoEdge", false)]
def isa_NoCell : List (Str × Bool) := [("NoEdge", false)]
def isa_NoEdge : List (Str × Bool) := [("NoEdge", true)]
def isa_BadPlace : List (Str × Bool) := [("NoEdge", false)]
def isa_BadPrices : List (Str × Bool) := [("NoEdge", false)]
def isa_OtherTable : List (Str × Bool) := [("NoEdge", false)]
def isa_TooNarrow : List (Str × Bool) := [("NoEdge", false)]
def isa_ValueError : List (Str × Bool) := [("NoEdge", true)]
def isa : List (Str × List (Str × Bool)) := [("TableError", isa_TableError), ("BadTable", isa_BadTable), ("BadWidths", isa_BadWidths), ("NoCell", isa_NoCell), ("NoEdge", isa_NoEdge), ("BadPlace", isa_BadPlace), ("BadPrices", isa_BadPrices), ("OtherTable", isa_OtherTable), ("TooNarrow", isa_TooNarrow), ("ValueError", isa_ValueError)]
def md0 : Md := ⟨cst, blt, exc, isa, []⟩
/-! ### l_caught, which is handed a lambda -/
abbrev s_l_caught : Stmt := topS 37
def n_l_caught : List Str := ["_law_ask", "_law_caught_here", "_law_told", "e", "_law_kinds", "_law_at", "_law_word"]
def p_l_caught : List Str := ["_law_ask"]
def ok_l_caught : Nat → Bool := fun _ => true
@[simp] theorem o_l_caught (i : Nat) : ok_l_caught i = true := rfl
theorem sc_l_caught : FnScope n_l_caught p_l_caught (defScope s_l_caught) := ⟨rfl, rfl, rfl, by decide +kernel, rfl, by decide +kernel, by decide +kernel⟩
abbrev ic_l_caught_1 : M Bool := (mLookB (cmpF .Eq) (.sl 5) (.ev (Dl.ret (.val (.int 7)))))
abbrev ic_l_caught_2 : M Bool := (mOr (mLookB (cmpF .NotEq) (.ev (mLkM cntB 4 (Dl.ret (.val (.bl true))))) (.ev (Dl.ret (.val (.int 1))))) (mNot (mB (mLook1 (isaD isa_ValueError) (.sl 1)))))
abbrev ic_l_caught_3 : M Bool := (mLookB (cmpF .Is) (.sl 1) (.ev (Dl.ret (.val .non))))
def rb_l_caught : M Fl := (mSeq (mIfS (mLookB (cmpF .Is) (.sl 1) (.ev (Dl.ret (.val .non)))) (mSeq (mRet (mTup (mCons (Dl.ret (.val (.str "told"))) (mCons (mVar 2) (Dl.ret []))))) (Dl.ret .nx)) (Dl.ret .nx)) (mSeq (mAsg (mLst (mCons (mLook1 (isaD isa_BadTable) (.sl 1)) (mCons (mLook1 (isaD isa_BadWidths) (.sl 1)) (mCons (mLook1 (isaD isa_NoCell) (.sl 1)) (Dl.ret []))))) (mSet ok_l_caught 4)) (mSeq (mAsg (mOp2 (binF .Add) (mVar 4) (mLst (mCons (mLook1 (isaD isa_NoEdge) (.sl 1)) (mCons (mLook1 (isaD isa_BadPlace) (.sl 1)) (mCons (mLook1 (isaD isa_BadPrices) (.sl 1)) (Dl.ret [])))))) (mSet ok_l_caught 4)) (mSeq (mAsg (mOp2 (binF .Add) (mVar 4) (mLst (mCons (mLook1 (isaD isa_OtherTable) (.sl 1)) (mCons (mLook1 (isaD isa_TooNarrow) (.sl 1)) (Dl.ret []))))) (mSet ok_l_caught 4)) (mSeq (mIfS (mOr (mLookB (cmpF .NotEq) (.ev (mLkM cntB 4 (Dl.ret (.val (.bl true))))) (.ev (Dl.ret (.val (.int 1))))) (mNot (mB (mLook1 (isaD isa_ValueError) (.sl 1))))) (mSeq (mRet (mTup (mCons (Dl.ret (.val (.str "other"))) (mCons (Dl.ret (.val .non)) (Dl.ret []))))) (Dl.ret .nx)) (Dl.ret .nx)) (mSeq (mAsg (mLkM idxB 4 (Dl.ret (.val (.bl true)))) (mSet ok_l_caught 5)) (mSeq (mAsg (mOp2 ixD (mLst (mCons (Dl.ret (.val (.str "grid"))) (mCons (Dl.ret (.val (.str "sizes"))) (mCons (Dl.ret (.val (.str "cell"))) (mCons (Dl.ret (.val (.str "edge"))) (mCons (Dl.ret (.val (.str "place"))) (mCons (Dl.ret (.val (.str "prices"))) (mCons (Dl.ret (.val (.str "unlike"))) (mCons (Dl.ret (.val (.str "narrow"))) (Dl.ret [])))))))))) (mVar 5)) (mSet ok_l_caught 6)) (mSeq (mIfS (mLookB (cmpF .Eq) (.sl 5) (.ev (Dl.ret (.val (.int 7))))) (mSeq (mRet (mTup (mCons (mVar 6) (mCons (mOp1 (attrF "number") (mVar 1)) (Dl.ret []))))) (Dl.ret .nx)) (Dl.ret .nx)) (mSeq (mRet (mTup (mCons (mVar 6) (mCons (mIf (mLookB (cmpF .Lt) (.sl 5) (.ev (Dl.ret (.val (.int 6))))) (mOp1 (attrF "value") (mVar 1)) (Dl.ret (.val .non))) (Dl.ret []))))) (Dl.ret .nx))))))))))
theorem r_l_caught : tRest n_l_caught s_l_caught md0 = rb_l_caught := by kernel_rfl
def t_l_caught : TF := mTold (pre2 7 1 2) (some 2) 3 1 isa_TableError rb_l_caught
def tls : List (Str × TF) := [("_law_caught", t_l_caught)]
def md : Md := ⟨cst, blt, exc, isa, tls⟩
abbrev s_init_NoEdge : Stmt := cdS (topS 5) 0
theorem sc_init_NoEdge : FnScope ["self", "value"] ["self", "value"] (defScope s_init_NoEdge) := ⟨rfl, rfl, rfl, by decide +kernel, rfl, by decide +kernel, by decide +kernel⟩
def T0 : List (Str × FM × Nat) := []
/-! ### is_integer -/
abbrev s_is_integer : Stmt := topS 11
def n_is_integer : List Str := ["value", "low", "high"]
def p_is_integer : List Str := ["value", "low", "high"]
def f_is_integer : List Bool := [true, true, true]
def ok_is_integer : Nat → Bool := fun i => !(cpOf f_is_integer).contains i
theorem sc_is_integer : FnScope n_is_integer p_is_integer (defScope s_is_integer) := ⟨rfl, rfl, rfl, by decide +kernel, rfl, by decide +kernel, by decide +kernel⟩
def b_is_integer : M Fl := (mSeq (mRet (mAndV (mLook1 (isiD "int") (.sl 0)) (mAndV (mOp1 notF (mLook1 (isiD "bool") (.sl 0))) (mChain (cmpF .LtE) (cmpF .LtE) (mVar 1) (mVar 0) (mVar 2))))) (Dl.ret .nx))
def m_is_integer : FM := mDef 3 f_is_integer b_is_integer
theorem e_is_integer : mOf n_is_integer s_is_integer f_is_integer T0 md 0 = m_is_integer := by kernel_rfl
def T1 : List (Str × FM × Nat) := ("is_integer", m_is_integer, 3) :: T0
/-! ### check_edge -/
abbrev s_check_edge : Stmt := topS 13
def n_check_edge : List Str := ["table", "value"]
def p_check_edge : List Str := ["table", "value"]
def f_check_edge : List Bool := [true, true]
def ok_check_edge : Nat → Bool := fun i => !(cpOf f_check_edge).contains i
theorem sc_check_edge : FnScope n_check_edge p_check_edge (defScope s_check_edge) := ⟨rfl, rfl, rfl, by decide +kernel, rfl, by decide +kernel, by decide +kernel⟩
abbrev ic_check_edge_1 : M Bool := (mNot (mB (mCall m_is_integer [(.sl 1), (.ev (Dl.ret (.val (.int 0)))), (.ev (mIxS 0 (Dl.ret (.val (.int 0)))))])))
def b_check_edge : M Fl := (mSeq (mIfS (mNot (mB (mCall m_is_integer [(.sl 1), (.ev (Dl.ret (.val (.int 0)))), (.ev (mIxS 0 (Dl.ret (.val (.int 0)))))]))) (mSeq (mRaise "NoEdge" ["value"] (mCons (mVar 1) (Dl.ret []))) (Dl.ret .nx)) (Dl.ret .nx)) (Dl.ret .nx))
def m_check_edge : FM := mDef 2 f_check_edge b_check_edge
theorem e_check_edge : mOf n_check_edge s_check_edge f_check_edge T1 md 0 = m_check_edge := by kernel_rfl
def T2 : List (Str × FM × Nat) := ("check_edge", m_check_edge, 2) :: T1
/-! ### chain_sums -/
abbrev s_chain_sums : Stmt := topS 15
def n_chain_sums : List Str := ["table", "columns", "cells", "found", "low", "row", "high", "some", "begin", "end", "need"]
def p_chain_sums : List Str := ["table"]
def f_chain_sums : List Bool := [true]
def ok_chain_sums : Nat → Bool := fun i => !(cpOf f_chain_sums).contains i
theorem sc_chain_sums : FnScope n_chain_sums p_chain_sums (defScope s_chain_sums) := ⟨rfl, rfl, rfl, by decide +kernel, rfl, by decide +kernel, by decide +kernel⟩
def lc_chain_sums_1 : M Bool := (mAnd (mLookB (cmpF .Eq) (.sl 9) (.sl 6)) (mLookB (cmpF .GtE) (.sl 8) (.sl 4)))
def le_chain_sums_2 : M O := (mOp2 (binF .Add) (mIxS 5 (mVar 8)) (mVar 10))
abbrev co_chain_sums_1 : M O := (mCompS [8, 9, 10] 2 (mSeqI (mVar 2)) (mGTup 3 (mGCons (mSet (inOf [8, 9, 10]) 8) (mGCons (mSet (inOf [8, 9, 10]) 9) (mGCons (mSet (inOf [8, 9, 10]) 10) mGNil)))) lc_chain_sums_1 le_chain_sums_2)
def lb_chain_sums_3 : M Fl := (mSeq (mAsg (mCompS [8, 9, 10] 2 (mSeqI (mVar 2)) (mGTup 3 (mGCons (mSet (inOf [8, 9, 10]) 8) (mGCons (mSet (inOf [8, 9, 10]) 9) (mGCons (mSet (inOf [8, 9, 10]) 10) mGNil)))) lc_chain_sums_1 le_chain_sums_2) (mSet ok_chain_sums 7)) (mSeq (mAsg (mLook1 maxD (.ev (mOp2 (binF .Add) (mLst (mCons (mIxS 5 (mOp2 (binF .Sub) (mVar 6) (Dl.ret (.val (.int 1))))) (Dl.ret []))) (mVar 7)))) (mPut 5 (mVar 6))) (Dl.ret .nx)))
abbrev fo_chain_sums_1 : M Fl := (mFor (mRng (mCons (mOp2 (binF .Add) (mVar 4) (Dl.ret (.val (.int 1)))) (mCons (mOp2 (binF .Add) (mVar 1) (Dl.ret (.val (.int 1)))) (Dl.ret [])))) (mSet ok_chain_sums 6) lb_chain_sums_3)
def lb_chain_sums_4 : M Fl := (mSeq (mAsg (mOp2 (binF .Mult) (mLst (mCons (Dl.ret (.val (.int 0))) (Dl.ret []))) (mOp2 (binF .Add) (mVar 1) (Dl.ret (.val (.int 1))))) (mSet ok_chain_sums 5)) (mSeq (mFor (mRng (mCons (mOp2 (binF .Add) (mVar 4) (Dl.ret (.val (.int 1)))) (mCons (mOp2 (binF .Add) (mVar 1) (Dl.ret (.val (.int 1)))) (Dl.ret [])))) (mSet ok_chain_sums 6) lb_chain_sums_3) (mSeq (mDo (mApp 3 (mVar 5))) (Dl.ret .nx))))
abbrev fo_chain_sums_2 : M Fl := (mFor (mRng (mCons (mOp2 (binF .Add) (mVar 1) (Dl.ret (.val (.int 1)))) (Dl.ret []))) (mSet ok_chain_sums 4) lb_chain_sums_4)
def b_chain_sums : M Fl := (mSeq (mAsg (mVar 0) (mGTup 2 (mGCons (mSet ok_chain_sums 1) (mGCons (mSet ok_chain_sums 2) mGNil)))) (mSeq (mAsg (mLst (Dl.ret [])) (mSet ok_chain_sums 3)) (mSeq (mFor (mRng (mCons (mOp2 (binF .Add) (mVar 1) (Dl.ret (.val (.int 1)))) (Dl.ret []))) (mSet ok_chain_sums 4) lb_chain_sums_4) (mSeq (mRet (mVar 3)) (Dl.ret .nx)))))
@[simp] theorem o1_chain_sums : ok_chain_sums 1 = true := by decide
@[simp] theorem o2_chain_sums : ok_chain_sums 2 = true := by decide
@[simp] theorem o3_chain_sums : ok_chain_sums 3 = true := by decide
@[simp] theorem o4_chain_sums : ok_chain_sums 4 = true := by decide
@[simp] theorem o5_chain_sums : ok_chain_sums 5 = true := by decide
@[simp] theorem o6_chain_sums : ok_chain_sums 6 = true := by decide
@[simp] theorem o7_chain_sums : ok_chain_sums 7 = true := by decide
@[simp] theorem o8_chain_sums : ok_chain_sums 8 = true := by decide
@[simp] theorem o9_chain_sums : ok_chain_sums 9 = true := by decide
@[simp] theorem o10_chain_sums : ok_chain_sums 10 = true := by decide
def m_chain_sums : FM := mDef 11 f_chain_sums b_chain_sums
theorem e_chain_sums : mOf n_chain_sums s_chain_sums f_chain_sums T2 md 0 = m_chain_sums := by kernel_rfl
def T3 : List (Str × FM × Nat) := ("chain_sums", m_chain_sums, 1) :: T2
/-! ### least_width -/
abbrev s_least_width : Stmt := topS 16
def n_least_width : List Str := ["table"]
def p_least_width : List Str := ["table"]
def f_least_width : List Bool := [true]
def ok_least_width : Nat → Bool := fun i => !(cpOf f_least_width).contains i
theorem sc_least_width : FnScope n_least_width p_least_width (defScope s_least_width) := ⟨rfl, rfl, rfl, by decide +kernel, rfl, by decide +kernel, by decide +kernel⟩
def b_least_width : M Fl := (mSeq (mRet (mOp2 ixD (mOp2 ixD (mCall m_chain_sums [(.sl 0)]) (Dl.ret (.val (.int 0)))) (mIxS 0 (Dl.ret (.val (.int 0)))))) (Dl.ret .nx))
def m_least_width : FM := mDef 1 f_least_width b_least_width
theorem e_least_width : mOf n_least_width s_least_width f_least_width T3 md 0 = m_least_width := by kernel_rfl
def T4 : List (Str × FM × Nat) := ("least_width", m_least_width, 1) :: T3
/-! ### last_cell -/
abbrev s_last_cell : Stmt := topS 18
def n_last_cell : List Str := ["cells", "sums", "here", "number", "begin", "end", "need"]
def p_last_cell : List Str := ["cells", "sums", "here"]
def f_last_cell : List Bool := [true, true, true]
def ok_last_cell : Nat → Bool := fun i => !(cpOf f_last_cell).contains i
theorem sc_last_cell : FnScope n_last_cell p_last_cell (defScope s_last_cell) := ⟨rfl, rfl, rfl, by decide +kernel, rfl, by decide +kernel, by decide +kernel⟩
abbrev ic_last_cell_1 : M Bool := (mAnd (mLookB (cmpF .Eq) (.sl 5) (.sl 2)) (mLookB (cmpF .Eq) (.ev (mOp2 (binF .Add) (mIxS 1 (mVar 4)) (mVar 6))) (.ev (mIxS 1 (mVar 2)))))
def lb_last_cell_1 : M Fl := (mSeq (mIfS (mAnd (mLookB (cmpF .Eq) (.sl 5) (.sl 2)) (mLookB (cmpF .Eq) (.ev (mOp2 (binF .Add) (mIxS 1 (mVar 4)) (mVar 6))) (.ev (mIxS 1 (mVar 2))))) (mSeq (mRet (mVar 3)) (Dl.ret .nx)) (Dl.ret .nx)) (Dl.ret .nx))
abbrev fo_last_cell_1 : M Fl := (mFor (mEnum (mVar 0)) (mGTup 2 (mGCons (mSet ok_last_cell 3) (mGCons (mGTup 3 (mGCons (mSet ok_last_cell 4) (mGCons (mSet ok_last_cell 5) (mGCons (mSet ok_last_cell 6) mGNil)))) mGNil))) lb_last_cell_1)
abbrev ic_last_cell_2 : M Bool := (mLookB (cmpF .Eq) (.ev (mIxS 1 (mVar 2))) (.ev (mIxS 1 (mOp2 (binF .Sub) (mVar 2) (Dl.ret (.val (.int 1)))))))
def b_last_cell : M Fl := (mSeq (mIfS (mLookB (cmpF .Eq) (.ev (mIxS 1 (mVar 2))) (.ev (mIxS 1 (mOp2 (binF .Sub) (mVar 2) (Dl.ret (.val (.int 1))))))) (mSeq (mRet (Dl.ret (.val .non))) (Dl.ret .nx)) (Dl.ret .nx)) (mSeq (mFor (mEnum (mVar 0)) (mGTup 2 (mGCons (mSet ok_last_cell 3) (mGCons (mGTup 3 (mGCons (mSet ok_last_cell 4) (mGCons (mSet ok_last_cell 5) (mGCons (mSet ok_last_cell 6) mGNil)))) mGNil))) lb_last_cell_1) (mSeq (mRet (Dl.ret (.val .non))) (Dl.ret .nx))))
@[simp] theorem o3_last_cell : ok_last_cell 3 = true := by decide
@[simp] theorem o4_last_cell : ok_last_cell 4 = true := by decide
@[simp] theorem o5_last_cell : ok_last_cell 5 = true := by decide
@[simp] theorem o6_last_cell : ok_last_cell 6 = true := by decide
def m_last_cell : FM := mDef 7 f_last_cell b_last_cell
theorem e_last_cell : mOf n_last_cell s_last_cell f_last_cell T4 md 0 = m_last_cell := by kernel_rfl
def T5 : List (Str × FM × Nat) := ("last_cell", m_last_cell, 3) :: T4
/-! ### greatest_chain -/
abbrev s_greatest_chain : Stmt := topS 17
def n_greatest_chain : List Str := ["table", "sums", "here", "found", "number"]
def p_greatest_chain : List Str := ["table"]
def f_greatest_chain : List Bool := [true]
def ok_greatest_chain : Nat → Bool := fun i => !(cpOf f_greatest_chain).contains i
theorem sc_greatest_chain : FnScope n_greatest_chain p_greatest_chain (defScope s_greatest_chain) := ⟨rfl, rfl, rfl, by decide +kernel, rfl, by decide +kernel, by decide +kernel⟩
def lt_greatest_chain_1 : M Bool := (mLookB (cmpF .Gt) (.sl 2) (.ev (Dl.ret (.val (.int 0)))))
abbrev ic_greatest_chain_1 : M Bool := (mLookB (cmpF .Is) (.sl 4) (.ev (Dl.ret (.val .non))))
def lb_greatest_chain_2 : M Fl := (mSeq (mAsg (mCall m_last_cell [(.ev (mIxS 0 (Dl.ret (.val (.int 1))))), (.sl 1), (.sl 2)]) (mSet ok_greatest_chain 4)) (mSeq (mIfS (mLookB (cmpF .Is) (.sl 4) (.ev (Dl.ret (.val .non)))) (mSeq (mAug ok_greatest_chain (fun i j => i - j) 2 (Dl.ret (.val (.int 1)))) (Dl.ret .nx)) (mSeq (mDo (mApp 3 (mVar 4))) (mSeq (mAsg (mOp2 ixD (mOp2 ixD (mIxS 0 (Dl.ret (.val (.int 1)))) (mVar 4)) (Dl.ret (.val (.int 0)))) (mSet ok_greatest_chain 2)) (Dl.ret .nx)))) (Dl.ret .nx)))
abbrev wh_greatest_chain_1 : M Fl := (mWhile lt_greatest_chain_1 lb_greatest_chain_2 wfuel)
def b_greatest_chain : M Fl := (mSeq (mPar3 ok_greatest_chain 1 2 3 (mCons (mOp2 ixD (mCall m_chain_sums [(.sl 0)]) (Dl.ret (.val (.int 0)))) (mCons (mIxS 0 (Dl.ret (.val (.int 0)))) (mCons (mLst (Dl.ret [])) (Dl.ret []))))) (mSeq (mWhile lt_greatest_chain_1 lb_greatest_chain_2 wfuel) (mSeq (mRet (mOpN tupN (mCons (mOpN sortN (mCons (mVar 3) (Dl.ret []))) (Dl.ret [])))) (Dl.ret .nx))))
@[simp] theorem o1_greatest_chain : ok_greatest_chain 1 = true := by decide
@[simp] theorem o2_greatest_chain : ok_greatest_chain 2 = true := by decide
@[simp] theorem o3_greatest_chain : ok_greatest_chain 3 = true := by decide
@[simp] theorem o4_greatest_chain : ok_greatest_chain 4 = true := by decide
def m_greatest_chain : FM := mDef 5 f_greatest_chain b_greatest_chain
theorem e_greatest_chain : mOf n_greatest_chain s_greatest_chain f_greatest_chain T5 md 0 = m_greatest_chain := by kernel_rfl
def T6 : List (Str × FM × Nat) := ("greatest_chain", m_greatest_chain, 1) :: T5
/-! ### are_cells -/
abbrev s_are_cells : Stmt := topS 19
def n_are_cells : List Str := ["table", "value", "number", "later"]
def p_are_cells : List Str := ["table", "value"]
def f_are_cells : List Bool := [true, true]
def ok_are_cells : Nat → Bool := fun i => !(cpOf f_are_cells).contains i
theorem sc_are_cells : FnScope n_are_cells p_are_cells (defScope s_are_cells) := ⟨rfl, rfl, rfl, by decide +kernel, rfl, by decide +kernel, by decide +kernel⟩
def le_are_cells_1 : M O := (mLook (cmpF .Lt) (.sl 2) (.sl 3))
abbrev co_are_cells_1 : M O := (mComp [2, 3] (mZip (mCons (mVar 1) (mCons (mSlcS 1 (mPart (Dl.ret (.val (.int 1)))) (Dl.ret none)) (Dl.ret [])))) (mGTup 2 (mGCons (mSet (inOf [2, 3]) 2) (mGCons (mSet (inOf [2, 3]) 3) mGNil))) (Dl.ret true) le_are_cells_1)
def le_are_cells_2 : M O := (mCall m_is_integer [(.sl 2), (.ev (Dl.ret (.val (.int 0)))), (.ev (mOp2 (binF .Sub) (mLook1 lenD (.ev (mIxS 0 (Dl.ret (.val (.int 1)))))) (Dl.ret (.val (.int 1)))))])
abbrev co_are_cells_2 : M O := (mCompS [2] 1 (mSeqI (mVar 1)) (mSet (inOf [2]) 2) (Dl.ret true) le_are_cells_2)
abbrev ic_are_cells_1 : M Bool := (mOr (mNot (mB (mLook1 (isiD "tuple") (.sl 1)))) (mNot (mB (mLook1 allD (.ev (mCompS [2] 1 (mSeqI (mVar 1)) (mSet (inOf [2]) 2) (Dl.ret true) le_are_cells_2))))))
def b_are_cells : M Fl := (mSeq (mIfS (mOr (mNot (mB (mLook1 (isiD "tuple") (.sl 1)))) (mNot (mB (mLook1 allD (.ev (mCompS [2] 1 (mSeqI (mVar 1)) (mSet (inOf [2]) 2) (Dl.ret true) le_are_cells_2)))))) (mSeq (mRet (Dl.ret (.val (.bl false)))) (Dl.ret .nx)) (Dl.ret .nx)) (mSeq (mRet (mLook1 allD (.ev (mComp [2, 3] (mZip (mCons (mVar 1) (mCons (mSlcS 1 (mPart (Dl.ret (.val (.int 1)))) (Dl.ret none)) (Dl.ret [])))) (mGTup 2 (mGCons (mSet (inOf [2, 3]) 2) (mGCons (mSet (inOf [2, 3]) 3) mGNil))) (Dl.ret true) le_are_cells_1)))) (Dl.ret .nx)))
@[simp] theorem o2_are_cells : ok_are_cells 2 = true := by decide
@[simp] theorem o3_are_cells : ok_are_cells 3 = true := by decide
def m_are_cells : FM := mDef 4 f_are_cells b_are_cells
theorem e_are_cells : mOf n_are_cells s_are_cells f_are_cells T6 md 0 = m_are_cells := by kernel_rfl
def T7 : List (Str × FM × Nat) := ("are_cells", m_are_cells, 2) :: T6
/-! ### loads -/
abbrev s_loads : Stmt := topS 20
def n_loads : List Str := ["table", "counts", "found", "begin", "end", "need", "count", "column"]
def p_loads : List Str := ["table", "counts"]
def f_loads : List Bool := [true, true]
def ok_loads : Nat → Bool := fun i => !(cpOf f_loads).contains i
theorem sc_loads : FnScope n_loads p_loads (defScope s_loads) := ⟨rfl, rfl, rfl, by decide +kernel, rfl, by decide +kernel, by decide +kernel⟩
def lb_loads_1 : M Fl := (mSeq (mAugS (fun i j => i + j) 2 (mVar 7) (mVar 6)) (Dl.ret .nx))
abbrev fo_loads_1 : M Fl := (mFor (mRng (mCons (mVar 3) (mCons (mVar 4) (Dl.ret [])))) (mSet ok_loads 7) lb_loads_1)
def lb_loads_2 : M Fl := (mSeq (mFor (mRng (mCons (mVar 3) (mCons (mVar 4) (Dl.ret [])))) (mSet ok_loads 7) lb_loads_1) (Dl.ret .nx))
abbrev fo_loads_2 : M Fl := (mFor (mZip (mCons (mIxS 0 (Dl.ret (.val (.int 1)))) (mCons (mVar 1) (Dl.ret [])))) (mGTup 2 (mGCons (mGTup 3 (mGCons (mSet ok_loads 3) (mGCons (mSet ok_loads 4) (mGCons (mSet ok_loads 5) mGNil)))) (mGCons (mSet ok_loads 6) mGNil))) lb_loads_2)
def b_loads : M Fl := (mSeq (mAsg (mOp2 (binF .Mult) (mLst (mCons (Dl.ret (.val (.int 0))) (Dl.ret []))) (mIxS 0 (Dl.ret (.val (.int 0))))) (mSet ok_loads 2)) (mSeq (mFor (mZip (mCons (mIxS 0 (Dl.ret (.val (.int 1)))) (mCons (mVar 1) (Dl.ret [])))) (mGTup 2 (mGCons (mGTup 3 (mGCons (mSet ok_loads 3) (mGCons (mSet ok_loads 4) (mGCons (mSet ok_loads 5) mGNil)))) (mGCons (mSet ok_loads 6) mGNil))) lb_loads_2) (mSeq (mRet (mVar 2)) (Dl.ret .nx))))
@[simp] theorem o2_loads : ok_loads 2 = true := by decide
@[simp] theorem o3_loads : ok_loads 3 = true := by decide
@[simp] theorem o4_loads : ok_loads 4 = true := by decide
@[simp] theorem o5_loads : ok_loads 5 = true := by decide
@[simp] theorem o6_loads : ok_loads 6 = true := by decide
@[simp] theorem o7_loads : ok_loads 7 = true := by decide
def m_loads : FM := mDef 8 f_loads b_loads
theorem e_loads : mOf n_loads s_loads f_loads T7 md 0 = m_loads := by kernel_rfl
def T8 : List (Str × FM × Nat) := ("loads", m_loads, 2) :: T7
/-! ### counts_in -/
abbrev s_counts_in : Stmt := topS 21
def n_counts_in : List Str := ["table", "numbers", "number"]
def p_counts_in : List Str := ["table", "numbers"]
def f_counts_in : List Bool := [true, true]
def ok_counts_in : Nat → Bool := fun i => !(cpOf f_counts_in).contains i
theorem sc_counts_in : FnScope n_counts_in p_counts_in (defScope s_counts_in) := ⟨rfl, rfl, rfl, by decide +kernel, rfl, by decide +kernel, by decide +kernel⟩
def le_counts_in_1 : M O := (mLook1 intD (.ev (mLook (cmpF .In) (.sl 2) (.sl 1))))
abbrev co_counts_in_1 : M O := (mComp [2] (mRng (mCons (mLook1 lenD (.ev (mIxS 0 (Dl.ret (.val (.int 1)))))) (Dl.ret []))) (mSet (inOf [2]) 2) (Dl.ret true) le_counts_in_1)
def b_counts_in : M Fl := (mSeq (mRet (mComp [2] (mRng (mCons (mLook1 lenD (.ev (mIxS 0 (Dl.ret (.val (.int 1)))))) (Dl.ret []))) (mSet (inOf [2]) 2) (Dl.ret true) le_counts_in_1)) (Dl.ret .nx))
@[simp] theorem o2_counts_in : ok_counts_in 2 = true := by decide
def m_counts_in : FM := mDef 3 f_counts_in b_counts_in
theorem e_counts_in : mOf n_counts_in s_counts_in f_counts_in T8 md 0 = m_counts_in := by kernel_rfl
def T9 : List (Str × FM × Nat) := ("counts_in", m_counts_in, 2) :: T8
/-! ### sum_of -/
abbrev s_sum_of : Stmt := topS 22
def n_sum_of : List Str := ["table", "numbers", "number"]
def p_sum_of : List Str := ["table", "numbers"]
def f_sum_of : List Bool := [true, true]
def ok_sum_of : Nat → Bool := fun i => !(cpOf f_sum_of).contains i
theorem sc_sum_of : FnScope n_sum_of p_sum_of (defScope s_sum_of) := ⟨rfl, rfl, rfl, by decide +kernel, rfl, by decide +kernel, by decide +kernel⟩
def le_sum_of_1 : M O := (mOp2 ixD (mOp2 ixD (mIxS 0 (Dl.ret (.val (.int 1)))) (mVar 2)) (Dl.ret (.val (.int 2))))
abbrev co_sum_of_1 : M O := (mCompS [2] 1 (mSeqI (mVar 1)) (mSet (inOf [2]) 2) (Dl.ret true) le_sum_of_1)
def b_sum_of : M Fl := (mSeq (mRet (mLook1 sumD (.ev (mCompS [2] 1 (mSeqI (mVar 1)) (mSet (inOf [2]) 2) (Dl.ret true) le_sum_of_1)))) (Dl.ret .nx))
@[simp] theorem o2_sum_of : ok_sum_of 2 = true := by decide
def m_sum_of : FM := mDef 3 f_sum_of b_sum_of
theorem e_sum_of : mOf n_sum_of s_sum_of f_sum_of T9 md 0 = m_sum_of := by kernel_rfl
def T10 : List (Str × FM × Nat) := ("sum_of", m_sum_of, 2) :: T9
/-! ### is_chain -/
abbrev s_is_chain : Stmt := topS 23
def n_is_chain : List Str := ["table", "value"]
def p_is_chain : List Str := ["table", "value"]
def f_is_chain : List Bool := [true, true]
def ok_is_chain : Nat → Bool := fun i => !(cpOf f_is_chain).contains i
theorem sc_is_chain : FnScope n_is_chain p_is_chain (defScope s_is_chain) := ⟨rfl, rfl, rfl, by decide +kernel, rfl, by decide +kernel, by decide +kernel⟩
def b_is_chain : M Fl := (mSeq (mRet (mAndV (mCall m_are_cells [(.sl 0), (.sl 1)]) (mLook (cmpF .LtE) (.ev (mLook1 maxD (.ev (mCall m_loads [(.sl 0), (.ev (mCall m_counts_in [(.sl 0), (.sl 1)]))])))) (.ev (Dl.ret (.val (.int 1))))))) (Dl.ret .nx))
def m_is_chain : FM := mDef 2 f_is_chain b_is_chain
theorem e_is_chain : mOf n_is_chain s_is_chain f_is_chain T10 md 0 = m_is_chain := by kernel_rfl
def T11 : List (Str × FM × Nat) := ("is_chain", m_is_chain, 2) :: T10
/-! ### shows_least -/
abbrev s_shows_least : Stmt := topS 24
def n_shows_least : List Str := ["table", "number", "value"]
def p_shows_least : List Str := ["table", "number", "value"]
def f_shows_least : List Bool := [true, true, true]
def ok_shows_least : Nat → Bool := fun i => !(cpOf f_shows_least).contains i
theorem sc_shows_least : FnScope n_shows_least p_shows_least (defScope s_shows_least) := ⟨rfl, rfl, rfl, by decide +kernel, rfl, by decide +kernel, by decide +kernel⟩
abbrev ic_shows_least_1 : M Bool := (mOr (mNot (mB (mLook1 (isiD "int") (.sl 1)))) (mB (mLook1 (isiD "bool") (.sl 1))))
def b_shows_least : M Fl := (mSeq (mIfS (mOr (mNot (mB (mLook1 (isiD "int") (.sl 1)))) (mB (mLook1 (isiD "bool") (.sl 1)))) (mSeq (mRet (Dl.ret (.val (.bl false)))) (Dl.ret .nx)) (Dl.ret .nx)) (mSeq (mRet (mAndV (mCall m_is_chain [(.sl 0), (.sl 2)]) (mLook (cmpF .GtE) (.ev (mCall m_sum_of [(.sl 0), (.sl 2)])) (.sl 1)))) (Dl.ret .nx)))
def m_shows_least : FM := mDef 3 f_shows_least b_shows_least
theorem e_shows_least : mOf n_shows_least s_shows_least f_shows_least T11 md 0 = m_shows_least := by kernel_rfl
def T12 : List (Str × FM × Nat) := ("shows_least", m_shows_least, 3) :: T11
/-! ### chain_sum -/
abbrev s_chain_sum : Stmt := topS 25
def n_chain_sum : List Str := ["table", "low", "high"]
def p_chain_sum : List Str := ["table", "low", "high"]
def f_chain_sum : List Bool := [true, true, true]
def ok_chain_sum : Nat → Bool := fun i => !(cpOf f_chain_sum).contains i
theorem sc_chain_sum : FnScope n_chain_sum p_chain_sum (defScope s_chain_sum) := ⟨rfl, rfl, rfl, by decide +kernel, rfl, by decide +kernel, by decide +kernel⟩
def b_chain_sum : M Fl := (mSeq (mDo (mCall m_check_edge [(.sl 0), (.sl 1)])) (mSeq (mDo (mCall m_check_edge [(.sl 0), (.sl 2)])) (mSeq (mRet (mIf (mLookB (cmpF .LtE) (.sl 1) (.sl 2)) (mOp2 ixD (mOp2 ixD (mCall m_chain_sums [(.sl 0)]) (mVar 1)) (mVar 2)) (Dl.ret (.val (.int 0))))) (Dl.ret .nx))))
def m_chain_sum : FM := mDef 3 f_chain_sum b_chain_sum
theorem e_chain_sum : mOf n_chain_sum s_chain_sum f_chain_sum T12 md 0 = m_chain_sum := by kernel_rfl
def T13 : List (Str × FM × Nat) := ("chain_sum", m_chain_sum, 3) :: T12
/-! ### l_hand -/
abbrev s_l_hand : Stmt := topS 27
def n_l_hand : List Str := ["_law_script", "_law_k", "_law_cell", "_law_great"]
def p_l_hand : List Str := ["_law_script", "_law_k"]
def f_l_hand : List Bool := [true, true]
def ok_l_hand : Nat → Bool := fun i => !(cpOf f_l_hand).contains i
theorem sc_l_hand : FnScope n_l_hand p_l_hand (defScope s_l_hand) := ⟨rfl, rfl, rfl, by decide +kernel, rfl, by decide +kernel, by decide +kernel⟩
def b_l_hand : M Fl := (mSeq (mAsg (mIf (mLookB (cmpF .Lt) (.sl 1) (.ev (mLook1 lenD (.sl 0)))) (mIxS 0 (mVar 1)) (Dl.ret (.val (.int 0)))) (mSet ok_l_hand 2)) (mSeq (mAsg (mOp2 (binF .Mult) (mOp2 (binF .Mod) (mLook1 absD (.sl 2)) (mOp2 (binF .Mult) (mOp2 (binF .Mult) (mOp2 (binF .Pow) (Dl.ret (.val (.int 10))) (Dl.ret (.val (.int 60)))) (mOp2 (binF .Pow) (Dl.ret (.val (.int 10))) (Dl.ret (.val (.int 60))))) (mOp2 (binF .Pow) (Dl.ret (.val (.int 10))) (Dl.ret (.val (.int 60)))))) (mLook1 intD (.ev (mLook (cmpF .GtE) (.ev (mLook1 absD (.sl 2))) (.ev (mOp2 (binF .Pow) (Dl.ret (.val (.int 10))) (Dl.ret (.val (.int 18))))))))) (mSet ok_l_hand 3)) (mSeq (mRet (mLst (mCons (mVar 3) (mCons (mOp2 (binF .Mod) (mOp2 (binF .Mult) (mOp2 (binF .Add) (mOp2 (binF .Add) (mOp2 (binF .Mod) (mVar 2) (Dl.ret (.val (.int 2147483629)))) (mOp2 (binF .Mult) (Dl.ret (.val (.int 7919))) (mVar 1))) (Dl.ret (.val (.int 13)))) (Dl.ret (.val (.int 48271)))) (Dl.ret (.val (.int 2147483647)))) (mCons (Dl.ret (.val (.int 0))) (Dl.ret [])))))) (Dl.ret .nx))))
@[simp] theorem o2_l_hand : ok_l_hand 2 = true := by decide
@[simp] theorem o3_l_hand : ok_l_hand 3 = true := by decide
def m_l_hand : FM := mDef 4 f_l_hand b_l_hand
theorem e_l_hand : mOf n_l_hand s_l_hand f_l_hand T13 md 0 = m_l_hand := by kernel_rfl
def T14 : List (Str × FM × Nat) := ("_law_hand", m_l_hand, 2) :: T13
/-! ### l_take -/
abbrev s_l_take : Stmt := topS 28
def n_l_take : List Str := ["_law_hand_here", "_law_many", "_law_digit", "_law_prime", "_law_drawn"]
def p_l_take : List Str := ["_law_hand_here", "_law_many"]
def f_l_take : List Bool := [true, true]
def ok_l_take : Nat → Bool := fun i => !(cpOf f_l_take).contains i
theorem sc_l_take : FnScope n_l_take p_l_take (defScope s_l_take) := ⟨rfl, rfl, rfl, by decide +kernel, rfl, by decide +kernel, by decide +kernel⟩
abbrev ic_l_take_1 : M Bool := (mLookB (cmpF .Gt) (.ev (mIxS 0 (Dl.ret (.val (.int 0))))) (.ev (Dl.ret (.val (.int 0)))))
def b_l_take : M Fl := (mSeq (mIfS (mLookB (cmpF .Gt) (.ev (mIxS 0 (Dl.ret (.val (.int 0))))) (.ev (Dl.ret (.val (.int 0))))) (mSeq (mAsg (mOp2 (binF .Mod) (mIxS 0 (Dl.ret (.val (.int 0)))) (mVar 1)) (mSet ok_l_take 2)) (mSeq (mAsg (mOp2 (binF .FloorDiv) (mIxS 0 (Dl.ret (.val (.int 0)))) (mVar 1)) (mPut 0 (Dl.ret (.val (.int 0))))) (mSeq (mRet (mVar 2)) (Dl.ret .nx)))) (Dl.ret .nx)) (mSeq (mAsg (mOp2 (binF .Add) (mIxS 0 (Dl.ret (.val (.int 2)))) (Dl.ret (.val (.int 1)))) (mPut 0 (Dl.ret (.val (.int 2))))) (mSeq (mAsg (mOp2 ixD (mLst (mCons (Dl.ret (.val (.int 2147483647))) (mCons (Dl.ret (.val (.int 2147483629))) (mCons (Dl.ret (.val (.int 2147483587))) (mCons (Dl.ret (.val (.int 2147483579))) (mCons (Dl.ret (.val (.int 2147483563))) (Dl.ret []))))))) (mOp2 (binF .Mod) (mIxS 0 (Dl.ret (.val (.int 2)))) (Dl.ret (.val (.int 5))))) (mSet ok_l_take 3)) (mSeq (mAsg (mOp2 (binF .Mod) (mOp2 (binF .Pow) (mOp2 (binF .Add) (mIxS 0 (Dl.ret (.val (.int 1)))) (mOp2 (binF .Mult) (Dl.ret (.val (.int 7919))) (mIxS 0 (Dl.ret (.val (.int 2)))))) (Dl.ret (.val (.int 3)))) (mVar 3)) (mSet ok_l_take 4)) (mSeq (mRet (mOp2 (binF .Mod) (mOp2 (binF .FloorDiv) (mOp2 (binF .Mod) (mOp2 (binF .Mult) (mVar 4) (mOp2 (binF .Add) (mOp2 (binF .Mod) (mVar 4) (Dl.ret (.val (.int 1009)))) (mIxS 0 (Dl.ret (.val (.int 2)))))) (mVar 3)) (Dl.ret (.val (.int 11)))) (mVar 1))) (Dl.ret .nx))))))
@[simp] theorem o2_l_take : ok_l_take 2 = true := by decide
@[simp] theorem o3_l_take : ok_l_take 3 = true := by decide
@[simp] theorem o4_l_take : ok_l_take 4 = true := by decide
def m_l_take : FM := mDef 5 f_l_take b_l_take
theorem e_l_take : mOf n_l_take s_l_take f_l_take T14 md 0 = m_l_take := by kernel_rfl
def T15 : List (Str × FM × Nat) := ("_law_take", m_l_take, 2) :: T14
/-! ### l_of -/
abbrev s_l_of : Stmt := topS 29
def n_l_of : List Str := ["_law_hand_here", "_law_some"]
def p_l_of : List Str := ["_law_hand_here", "_law_some"]
def f_l_of : List Bool := [true, true]
def ok_l_of : Nat → Bool := fun i => !(cpOf f_l_of).contains i
theorem sc_l_of : FnScope n_l_of p_l_of (defScope s_l_of) := ⟨rfl, rfl, rfl, by decide +kernel, rfl, by decide +kernel, by decide +kernel⟩
def b_l_of : M Fl := (mSeq (mRet (mIxS 1 (mCall m_l_take [(.sl 0), (.ev (mLook1 lenD (.sl 1)))]))) (Dl.ret .nx))
def m_l_of : FM := mDef 2 f_l_of b_l_of
theorem e_l_of : mOf n_l_of s_l_of f_l_of T15 md 0 = m_l_of := by kernel_rfl
def T16 : List (Str × FM × Nat) := ("_law_of", m_l_of, 2) :: T15
/-! ### l_need -/
abbrev s_l_need : Stmt := topS 30
def n_l_need : List Str := ["_law_hand_here", "_law_top", "_law_some"]
def p_l_need : List Str := ["_law_hand_here", "_law_top"]
def f_l_need : List Bool := [true, true]
def ok_l_need : Nat → Bool := fun i => !(cpOf f_l_need).contains i
theorem sc_l_need : FnScope n_l_need p_l_need (defScope s_l_need) := ⟨rfl, rfl, rfl, by decide +kernel, rfl, by decide +kernel, by decide +kernel⟩
def b_l_need : M Fl := (mSeq (mAsg (mLst (mCons (Dl.ret (.val (.int 0))) (mCons (Dl.ret (.val (.int 1))) (mCons (mCall m_l_take [(.sl 0), (.ev (Dl.ret (.val (.int 4))))]) (mCons (mCall m_l_take [(.sl 0), (.ev (mOp2 (binF .Add) (mVar 1) (Dl.ret (.val (.int 1)))))]) (mCons (mCall m_l_take [(.sl 0), (.ev (mOp2 (binF .Add) (mVar 1) (Dl.ret (.val (.int 1)))))]) (mCons (mCall m_l_take [(.sl 0), (.ev (mOp2 (binF .Add) (mVar 1) (Dl.ret (.val (.int 1)))))]) (Dl.ret [])))))))) (mSet ok_l_need 2)) (mSeq (mRet (mCall m_l_of [(.sl 0), (.ev (mOp2 (binF .Add) (mVar 2) (mLst (mCons (mIf (mLookB (cmpF .Gt) (.sl 1) (.ev (Dl.ret (.val (.int 99))))) (mOp2 (binF .Pow) (Dl.ret (.val (.int 10))) (Dl.ret (.val (.int 9)))) (mVar 1)) (Dl.ret [])))))])) (Dl.ret .nx)))
@[simp] theorem o2_l_need : ok_l_need 2 = true := by decide
def m_l_need : FM := mDef 3 f_l_need b_l_need
theorem e_l_need : mOf n_l_need s_l_need f_l_need T16 md 0 = m_l_need := by kernel_rfl
def T17 : List (Str × FM × Nat) := ("_law_need", m_l_need, 2) :: T16
/-! ### l_grid -/
abbrev s_l_grid : Stmt := topS 31
def n_l_grid : List Str := ["_law_hand_here", "_law_widest", "_law_most", "_law_top", "_law_wide", "_law_way", "_law_found", "_law_number", "_law_begin", "_law_end"]
def p_l_grid : List Str := ["_law_hand_here", "_law_widest", "_law_most", "_law_top"]
def f_l_grid : List Bool := [true, true, true, true]
def ok_l_grid : Nat → Bool := fun i => !(cpOf f_l_grid).contains i
theorem sc_l_grid : FnScope n_l_grid p_l_grid (defScope s_l_grid) := ⟨rfl, rfl, rfl, by decide +kernel, rfl, by decide +kernel, by decide +kernel⟩
abbrev ic_l_grid_1 : M Bool := (mAnd (mLookB (cmpF .Eq) (.sl 5) (.ev (Dl.ret (.val (.int 5))))) (mLookB (cmpF .NotEq) (.sl 6) (.ev (mLst (Dl.ret [])))))
abbrev ic_l_grid_2 : M Bool := (mAnd (mLookB (cmpF .Eq) (.sl 5) (.ev (Dl.ret (.val (.int 4))))) (mLookB (cmpF .Eq) (.ev (mCall m_l_take [(.sl 0), (.ev (Dl.ret (.val (.int 2))))])) (.ev (Dl.ret (.val (.int 0))))))
abbrev ic_l_grid_3 : M Bool := (mLookB (cmpF .Eq) (.sl 5) (.ev (Dl.ret (.val (.int 3)))))
abbrev ic_l_grid_4 : M Bool := (mLookB (cmpF .Eq) (.sl 5) (.ev (Dl.ret (.val (.int 2)))))
abbrev ic_l_grid_5 : M Bool := (mLookB (cmpF .Eq) (.sl 5) (.ev (Dl.ret (.val (.int 1)))))
def lb_l_grid_1 : M Fl := (mSeq (mAsg (mCall m_l_take [(.sl 0), (.sl 4)]) (mSet ok_l_grid 8)) (mSeq (mAsg (mOp2 (binF .Add) (mOp2 (binF .Add) (mVar 8) (Dl.ret (.val (.int 1)))) (mCall m_l_take [(.sl 0), (.ev (mOp2 (binF .Sub) (mVar 4) (mVar 8)))])) (mSet ok_l_grid 9)) (mSeq (mIfS (mLookB (cmpF .Eq) (.sl 5) (.ev (Dl.ret (.val (.int 1))))) (mSeq (mAsg (mScN min2 (mCons (mVar 4) (mCons (mOp2 (binF .Add) (mOp2 (binF .Add) (mVar 8) (Dl.ret (.val (.int 1)))) (mCall m_l_take [(.sl 0), (.ev (Dl.ret (.val (.int 2))))])) (Dl.ret [])))) (mSet ok_l_grid 9)) (Dl.ret .nx)) (Dl.ret .nx)) (mSeq (mIfS (mLookB (cmpF .Eq) (.sl 5) (.ev (Dl.ret (.val (.int 2))))) (mSeq (mAsg (mOp2 (binF .Mod) (mVar 7) (mVar 4)) (mSet ok_l_grid 8)) (mSeq (mAsg (mScN min2 (mCons (mVar 4) (mCons (mOp2 (binF .Add) (mVar 8) (Dl.ret (.val (.int 2)))) (Dl.ret [])))) (mSet ok_l_grid 9)) (Dl.ret .nx))) (Dl.ret .nx)) (mSeq (mIfS (mLookB (cmpF .Eq) (.sl 5) (.ev (Dl.ret (.val (.int 3))))) (mSeq (mPar2 ok_l_grid 8 9 (mCons (mOp2 (binF .FloorDiv) (mScN min2 (mCons (mVar 7) (mCons (mOp2 (binF .Sub) (mVar 4) (Dl.ret (.val (.int 1)))) (Dl.ret [])))) (Dl.ret (.val (.int 2)))) (mCons (mScN max2 (mCons (mOp2 (binF .Sub) (mVar 4) (mOp2 (binF .FloorDiv) (mVar 7) (Dl.ret (.val (.int 2))))) (mCons (mOp2 (binF .Add) (mOp2 (binF .FloorDiv) (mScN min2 (mCons (mVar 7) (mCons (mOp2 (binF .Sub) (mVar 4) (Dl.ret (.val (.int 1)))) (Dl.ret [])))) (Dl.ret (.val (.int 2)))) (Dl.ret (.val (.int 1)))) (Dl.ret [])))) (Dl.ret [])))) (Dl.ret .nx)) (Dl.ret .nx)) (mSeq (mIfS (mAnd (mLookB (cmpF .Eq) (.sl 5) (.ev (Dl.ret (.val (.int 4))))) (mLookB (cmpF .Eq) (.ev (mCall m_l_take [(.sl 0), (.ev (Dl.ret (.val (.int 2))))])) (.ev (Dl.ret (.val (.int 0)))))) (mSeq (mAsg (mOp2 (binF .Add) (mVar 8) (Dl.ret (.val (.int 1)))) (mSet ok_l_grid 9)) (Dl.ret .nx)) (Dl.ret .nx)) (mSeq (mIfS (mAnd (mLookB (cmpF .Eq) (.sl 5) (.ev (Dl.ret (.val (.int 5))))) (mLookB (cmpF .NotEq) (.sl 6) (.ev (mLst (Dl.ret []))))) (mSeq (mAsg (mSlc (mCall m_l_of [(.sl 0), (.sl 6)]) (Dl.ret none) (mPart (Dl.ret (.val (.int 2))))) (mGTup 2 (mGCons (mSet ok_l_grid 8) (mGCons (mSet ok_l_grid 9) mGNil)))) (Dl.ret .nx)) (Dl.ret .nx)) (mSeq (mDo (mApp 6 (mTup (mCons (mVar 8) (mCons (mVar 9) (mCons (mCall m_l_need [(.sl 0), (.sl 3)]) (Dl.ret []))))))) (Dl.ret .nx)))))))))
abbrev fo_l_grid_1 : M Fl := (mFor (mRng (mCons (mCall m_l_take [(.sl 0), (.ev (mOp2 (binF .Add) (mVar 2) (Dl.ret (.val (.int 1)))))]) (Dl.ret []))) (mSet ok_l_grid 7) lb_l_grid_1)
def b_l_grid : M Fl := (mSeq (mPar3 ok_l_grid 4 5 6 (mCons (mOp2 (binF .Add) (Dl.ret (.val (.int 1))) (mCall m_l_take [(.sl 0), (.sl 1)])) (mCons (mCall m_l_take [(.sl 0), (.ev (Dl.ret (.val (.int 6))))]) (mCons (mLst (Dl.ret [])) (Dl.ret []))))) (mSeq (mFor (mRng (mCons (mCall m_l_take [(.sl 0), (.ev (mOp2 (binF .Add) (mVar 2) (Dl.ret (.val (.int 1)))))]) (Dl.ret []))) (mSet ok_l_grid 7) lb_l_grid_1) (mSeq (mRet (mTup (mCons (mVar 4) (mCons (mOpN tupN (mCons (mVar 6) (Dl.ret []))) (Dl.ret []))))) (Dl.ret .nx))))
@[simp] theorem o4_l_grid : ok_l_grid 4 = true := by decide
@[simp] theorem o5_l_grid : ok_l_grid 5 = true := by decide
@[simp] theorem o6_l_grid : ok_l_grid 6 = true := by decide
@[simp] theorem o7_l_grid : ok_l_grid 7 = true := by decide
@[simp] theorem o8_l_grid : ok_l_grid 8 = true := by decide
@[simp] theorem o9_l_grid : ok_l_grid 9 = true := by decide
def m_l_grid : FM := mDef 10 f_l_grid b_l_grid
theorem e_l_grid : mOf n_l_grid s_l_grid f_l_grid T17 md 0 = m_l_grid := by kernel_rfl
def T18 : List (Str × FM × Nat) := ("_law_grid", m_l_grid, 4) :: T17
/-! ### l_sums -/
abbrev s_l_sums : Stmt := topS 32
def n_l_sums : List Str := ["_law_grid_here", "_law_low", "_law_found", "_law_turn", "_law_begin", "_law_end", "_law_need_here", "_law_edge"]
def p_l_sums : List Str := ["_law_grid_here", "_law_low"]
def f_l_sums : List Bool := [true, true]
def ok_l_sums : Nat → Bool := fun i => !(cpOf f_l_sums).contains i
theorem sc_l_sums : FnScope n_l_sums p_l_sums (defScope s_l_sums) := ⟨rfl, rfl, rfl, by decide +kernel, rfl, by decide +kernel, by decide +kernel⟩
def lb_l_sums_1 : M Fl := (mSeq (mAsg (mScN max2 (mCons (mIxS 2 (mVar 7)) (mCons (mIxS 2 (mOp2 (binF .Sub) (mVar 7) (Dl.ret (.val (.int 1))))) (Dl.ret [])))) (mPut 2 (mVar 7))) (Dl.ret .nx))
abbrev fo_l_sums_1 : M Fl := (mFor (mRng (mCons (mOp2 (binF .Add) (mVar 1) (Dl.ret (.val (.int 1)))) (mCons (mOp2 (binF .Add) (mIxS 0 (Dl.ret (.val (.int 0)))) (Dl.ret (.val (.int 1)))) (Dl.ret [])))) (mSet ok_l_sums 7) lb_l_sums_1)
abbrev ic_l_sums_1 : M Bool := (mLookB (cmpF .GtE) (.sl 4) (.sl 1))
def lb_l_sums_2 : M Fl := (mSeq (mIfS (mLookB (cmpF .GtE) (.sl 4) (.sl 1)) (mSeq (mAsg (mScN max2 (mCons (mIxS 2 (mVar 5)) (mCons (mOp2 (binF .Add) (mIxS 2 (mVar 4)) (mVar 6)) (Dl.ret [])))) (mPut 2 (mVar 5))) (Dl.ret .nx)) (Dl.ret .nx)) (Dl.ret .nx))
abbrev fo_l_sums_2 : M Fl := (mFor (mSeqI (mIxS 0 (Dl.ret (.val (.int 1))))) (mGTup 3 (mGCons (mSet ok_l_sums 4) (mGCons (mSet ok_l_sums 5) (mGCons (mSet ok_l_sums 6) mGNil)))) lb_l_sums_2)
def lb_l_sums_3 : M Fl := (mSeq (mFor (mSeqI (mIxS 0 (Dl.ret (.val (.int 1))))) (mGTup 3 (mGCons (mSet ok_l_sums 4) (mGCons (mSet ok_l_sums 5) (mGCons (mSet ok_l_sums 6) mGNil)))) lb_l_sums_2) (mSeq (mFor (mRng (mCons (mOp2 (binF .Add) (mVar 1) (Dl.ret (.val (.int 1)))) (mCons (mOp2 (binF .Add) (mIxS 0 (Dl.ret (.val (.int 0)))) (Dl.ret (.val (.int 1)))) (Dl.ret [])))) (mSet ok_l_sums 7) lb_l_sums_1) (Dl.ret .nx)))
abbrev fo_l_sums_3 : M Fl := (mFor (mRng (mCons (mIxS 0 (Dl.ret (.val (.int 0)))) (Dl.ret []))) (mSet ok_l_sums 3) lb_l_sums_3)
def b_l_sums : M Fl := (mSeq (mAsg (mOp2 (binF .Mult) (mLst (mCons (Dl.ret (.val (.int 0))) (Dl.ret []))) (mOp2 (binF .Add) (mIxS 0 (Dl.ret (.val (.int 0)))) (Dl.ret (.val (.int 1))))) (mSet ok_l_sums 2)) (mSeq (mFor (mRng (mCons (mIxS 0 (Dl.ret (.val (.int 0)))) (Dl.ret []))) (mSet ok_l_sums 3) lb_l_sums_3) (mSeq (mRet (mVar 2)) (Dl.ret .nx))))
@[simp] theorem o2_l_sums : ok_l_sums 2 = true := by decide
@[simp] theorem o3_l_sums : ok_l_sums 3 = true := by decide
@[simp] theorem o4_l_sums : ok_l_sums 4 = true := by decide
@[simp] theorem o5_l_sums : ok_l_sums 5 = true := by decide
@[simp] theorem o6_l_sums : ok_l_sums 6 = true := by decide
@[simp] theorem o7_l_sums : ok_l_sums 7 = true := by decide
def m_l_sums : FM := mDef 8 f_l_sums b_l_sums
theorem e_l_sums : mOf n_l_sums s_l_sums f_l_sums T18 md 0 = m_l_sums := by kernel_rfl
def T19 : List (Str × FM × Nat) := ("_law_sums", m_l_sums, 2) :: T18
/-! ### l_least -/
abbrev s_l_least : Stmt := topS 33
def n_l_least : List Str := ["_law_grid_here"]
def p_l_least : List Str := ["_law_grid_here"]
def f_l_least : List Bool := [true]
def ok_l_least : Nat → Bool := fun i => !(cpOf f_l_least).contains i
theorem sc_l_least : FnScope n_l_least p_l_least (defScope s_l_least) := ⟨rfl, rfl, rfl, by decide +kernel, rfl, by decide +kernel, by decide +kernel⟩
def b_l_least : M Fl := (mSeq (mRet (mOp2 ixD (mCall m_l_sums [(.sl 0), (.ev (Dl.ret (.val (.int 0))))]) (mIxS 0 (Dl.ret (.val (.int 0)))))) (Dl.ret .nx))
def m_l_least : FM := mDef 1 f_l_least b_l_least
theorem e_l_least : mOf n_l_least s_l_least f_l_least T19 md 0 = m_l_least := by kernel_rfl
def T20 : List (Str × FM × Nat) := ("_law_least", m_l_least, 1) :: T19
/-! ### l_weights -/
abbrev s_l_weights : Stmt := topS 34
def n_l_weights : List Str := ["_law_grid_here", "_law_counts", "_law_found", "_law_cell", "_law_count", "_law_at"]
def p_l_weights : List Str := ["_law_grid_here", "_law_counts"]
def f_l_weights : List Bool := [true, true]
def ok_l_weights : Nat → Bool := fun i => !(cpOf f_l_weights).contains i
theorem sc_l_weights : FnScope n_l_weights p_l_weights (defScope s_l_weights) := ⟨rfl, rfl, rfl, by decide +kernel, rfl, by decide +kernel, by decide +kernel⟩
def lb_l_weights_1 : M Fl := (mSeq (mAsg (mOp2 (binF .Add) (mIxS 2 (mVar 5)) (mVar 4)) (mPut 2 (mVar 5))) (Dl.ret .nx))
abbrev fo_l_weights_1 : M Fl := (mFor (mRng (mCons (mIxS 3 (Dl.ret (.val (.int 0)))) (mCons (mIxS 3 (Dl.ret (.val (.int 1)))) (Dl.ret [])))) (mSet ok_l_weights 5) lb_l_weights_1)
def lb_l_weights_2 : M Fl := (mSeq (mFor (mRng (mCons (mIxS 3 (Dl.ret (.val (.int 0)))) (mCons (mIxS 3 (Dl.ret (.val (.int 1)))) (Dl.ret [])))) (mSet ok_l_weights 5) lb_l_weights_1) (Dl.ret .nx))
abbrev fo_l_weights_2 : M Fl := (mFor (mZip (mCons (mIxS 0 (Dl.ret (.val (.int 1)))) (mCons (mVar 1) (Dl.ret [])))) (mGTup 2 (mGCons (mSet ok_l_weights 3) (mGCons (mSet ok_l_weights 4) mGNil))) lb_l_weights_2)
def b_l_weights : M Fl := (mSeq (mAsg (mOp2 (binF .Mult) (mLst (mCons (Dl.ret (.val (.int 0))) (Dl.ret []))) (mIxS 0 (Dl.ret (.val (.int 0))))) (mSet ok_l_weights 2)) (mSeq (mFor (mZip (mCons (mIxS 0 (Dl.ret (.val (.int 1)))) (mCons (mVar 1) (Dl.ret [])))) (mGTup 2 (mGCons (mSet ok_l_weights 3) (mGCons (mSet ok_l_weights 4) mGNil))) lb_l_weights_2) (mSeq (mRet (mVar 2)) (Dl.ret .nx))))
@[simp] theorem o2_l_weights : ok_l_weights 2 = true := by decide
@[simp] theorem o3_l_weights : ok_l_weights 3 = true := by decide
@[simp] theorem o4_l_weights : ok_l_weights 4 = true := by decide
@[simp] theorem o5_l_weights : ok_l_weights 5 = true := by decide
def m_l_weights : FM := mDef 6 f_l_weights b_l_weights
theorem e_l_weights : mOf n_l_weights s_l_weights f_l_weights T20 md 0 = m_l_weights := by kernel_rfl
def T21 : List (Str × FM × Nat) := ("_law_weights", m_l_weights, 2) :: T20
/-! ### l_odd -/
abbrev s_l_odd : Stmt := topS 35
def n_l_odd : List Str := ["_law_hand_here", "_law_thing", "_law_some"]
def p_l_odd : List Str := ["_law_hand_here", "_law_thing"]
def f_l_odd : List Bool := [true, true]
def ok_l_odd : Nat → Bool := fun i => !(cpOf f_l_odd).contains i
theorem sc_l_odd : FnScope n_l_odd p_l_odd (defScope s_l_odd) := ⟨rfl, rfl, rfl, by decide +kernel, rfl, by decide +kernel, by decide +kernel⟩
abbrev ic_l_odd_1 : M Bool := (mB (mLook1 (isiD "int") (.sl 1)))
abbrev ic_l_odd_2 : M Bool := (mB (mLook1 (isiD "tuple") (.sl 1)))
def b_l_odd : M Fl := (mSeq (mAsg (mLst (mCons (Dl.ret (.val .non)) (mCons (Dl.ret (.val (.bl true))) (mCons (Dl.ret (.val (.bl false))) (mCons (Dl.ret (.val (.int 0))) (mCons (Dl.ret (.val (.int 1))) (mCons (mOp1 negF (Dl.ret (.val (.int 1)))) (mCons (Dl.ret (.val (.int 99))) (mCons (mOp2 (binF .Pow) (Dl.ret (.val (.int 10))) (Dl.ret (.val (.int 13)))) (mCons (Dl.ret (.val (.str ""))) (mCons (Dl.ret (.val (.str "a"))) (mCons (Dl.ret (.val (.str "0"))) (mCons (mTup (Dl.ret [])) (mCons (mLst (Dl.ret [])) (mCons (Dl.ret (.val (.dct [] []))) (mCons (mTup (mCons (Dl.ret (.val (.int 0))) (Dl.ret []))) (mCons (mTup (mCons (mTup (mCons (Dl.ret (.val (.int 0))) (mCons (Dl.ret (.val (.int 1))) (mCons (Dl.ret (.val (.int 1))) (Dl.ret []))))) (Dl.ret []))) (mCons (mLst (mCons (Dl.ret (.val (.int 0))) (Dl.ret []))) (mCons (mDct1 "a" (Dl.ret (.val (.int 1)))) (Dl.ret [])))))))))))))))))))) (mSet ok_l_odd 2)) (mSeq (mIfS (mB (mLook1 (isiD "tuple") (.sl 1))) (mSeq (mAsg (mOp2 (binF .Add) (mVar 2) (mOp2 (binF .Mult) (mLst (mCons (mOpN lstN (mCons (mVar 1) (Dl.ret []))) (mCons (mOp2 (binF .Add) (mVar 1) (mSlcS 1 (mPart (mOp1 negF (Dl.ret (.val (.int 1))))) (Dl.ret none))) (mCons (mSlcS 1 (Dl.ret none) (mPart (mOp1 negF (Dl.ret (.val (.int 1)))))) (mCons (mOp1 revF (mVar 1)) (mCons (mTup (mCons (mVar 1) (Dl.ret []))) (mCons (mSlcS 1 (mPart (Dl.ret (.val (.int 1)))) (Dl.ret none)) (Dl.ret [])))))))) (Dl.ret (.val (.int 3))))) (mSet ok_l_odd 2)) (Dl.ret .nx)) (Dl.ret .nx)) (mSeq (mIfS (mB (mLook1 (isiD "int") (.sl 1))) (mSeq (mAsg (mOp2 (binF .Add) (mVar 2) (mOp2 (binF .Mult) (mLst (mCons (mOp2 (binF .Add) (mVar 1) (Dl.ret (.val (.int 1)))) (mCons (mOp2 (binF .Sub) (mVar 1) (Dl.ret (.val (.int 1)))) (mCons (mLook1 strD (.sl 1)) (mCons (mTup (mCons (mVar 1) (Dl.ret []))) (mCons (mLook (cmpF .Eq) (.sl 1) (.ev (Dl.ret (.val (.int 1))))) (mCons (mOp2 (binF .Sub) (Dl.ret (.val (.int 0))) (mVar 1)) (Dl.ret [])))))))) (Dl.ret (.val (.int 3))))) (mSet ok_l_odd 2)) (Dl.ret .nx)) (Dl.ret .nx)) (mSeq (mRet (mCall m_l_of [(.sl 0), (.sl 2)])) (Dl.ret .nx)))))
@[simp] theorem o2_l_odd : ok_l_odd 2 = true := by decide
def m_l_odd : FM := mDef 3 f_l_odd b_l_odd
theorem e_l_odd : mOf n_l_odd s_l_odd f_l_odd T21 md 0 = m_l_odd := by kernel_rfl
def T22 : List (Str × FM × Nat) := ("_law_odd", m_l_odd, 2) :: T21
/-! ### l_is_whole -/
abbrev s_l_is_whole : Stmt := topS 36
def n_l_is_whole : List Str := ["_law_thing", "_law_low", "_law_high"]
def p_l_is_whole : List Str := ["_law_thing", "_law_low", "_law_high"]
def f_l_is_whole : List Bool := [true, true, true]
def ok_l_is_whole : Nat → Bool := fun i => !(cpOf f_l_is_whole).contains i
theorem sc_l_is_whole : FnScope n_l_is_whole p_l_is_whole (defScope s_l_is_whole) := ⟨rfl, rfl, rfl, by decide +kernel, rfl, by decide +kernel, by decide +kernel⟩
def b_l_is_whole : M Fl := (mSeq (mRet (mAndV (mLook1 (isiD "int") (.sl 0)) (mAndV (mOp1 notF (mLook1 (isiD "bool") (.sl 0))) (mChain (cmpF .LtE) (cmpF .LtE) (mVar 1) (mVar 0) (mVar 2))))) (Dl.ret .nx))
def m_l_is_whole : FM := mDef 3 f_l_is_whole b_l_is_whole
theorem e_l_is_whole : mOf n_l_is_whole s_l_is_whole f_l_is_whole T22 md 0 = m_l_is_whole := by kernel_rfl
def T23 : List (Str × FM × Nat) := ("_law_is_whole", m_l_is_whole, 3) :: T22
/-! ### l_edges_right -/
abbrev s_l_edges_right : Stmt := topS 38
def n_l_edges_right : List Str := ["_law_hand_here", "_law_grid_here", "_law_low", "_law_sums_here", "_law_due", "_law_high", "_law_thing", "_law_told"]
def p_l_edges_right : List Str := ["_law_hand_here", "_law_grid_here"]
def f_l_edges_right : List Bool := [true, true]
def ok_l_edges_right : Nat → Bool := fun i => !(cpOf f_l_edges_right).contains i
theorem sc_l_edges_right : FnScope n_l_edges_right p_l_edges_right (defScope s_l_edges_right) := ⟨rfl, rfl, rfl, by decide +kernel, rfl, by decide +kernel, by decide +kernel⟩
abbrev ic_l_edges_right_1 : M Bool := (mNot (mB (mCall m_l_is_whole [(.sl 6), (.ev (Dl.ret (.val (.int 0)))), (.ev (mIxS 1 (Dl.ret (.val (.int 0)))))])))
abbrev ic_l_edges_right_2 : M Bool := (mLookB (cmpF .NotEq) (.ev (mLook1 reprD (.sl 7))) (.ev (mLook1 reprD (.ev (mOp2 (binF .Mult) (mLst (mCons (mTup (mCons (Dl.ret (.val (.str "edge"))) (mCons (mVar 6) (Dl.ret [])))) (Dl.ret []))) (Dl.ret (.val (.int 2))))))))
def la_l_edges_right_1 : M O := (mCall m_chain_sum [(.sl 1), (.ev (Dl.ret (.val (.int 0)))), (.sl 6)])
def la_l_edges_right_2 : M O := (mCall m_chain_sum [(.sl 1), (.sl 6), (.ev (Dl.ret (.val .non)))])
def lb_l_edges_right_3 : M Fl := (mSeq (mIfS (mNot (mB (mCall m_l_is_whole [(.sl 6), (.ev (Dl.ret (.val (.int 0)))), (.ev (mIxS 1 (Dl.ret (.val (.int 0)))))]))) (mSeq (mAsg (mLst (mCons (mLam t_l_caught la_l_edges_right_2) (Dl.ret []))) (mSet ok_l_edges_right 7)) (mSeq (mDo (mApp 7 (mLam t_l_caught la_l_edges_right_1))) (mSeq (mIfS (mLookB (cmpF .NotEq) (.ev (mLook1 reprD (.sl 7))) (.ev (mLook1 reprD (.ev (mOp2 (binF .Mult) (mLst (mCons (mTup (mCons (Dl.ret (.val (.str "edge"))) (mCons (mVar 6) (Dl.ret [])))) (Dl.ret []))) (Dl.ret (.val (.int 2)))))))) (mSeq (mRet (Dl.ret (.val (.bl false)))) (Dl.ret .nx)) (Dl.ret .nx)) (Dl.ret .nx)))) (Dl.ret .nx)) (Dl.ret .nx))
abbrev fo_l_edges_right_1 : M Fl := (mFor (mSeqI (mTup (mCons (mOp1 negF (Dl.ret (.val (.int 1)))) (mCons (mOp2 (binF .Add) (mIxS 1 (Dl.ret (.val (.int 0)))) (Dl.ret (.val (.int 1)))) (mCons (Dl.ret (.val (.bl true))) (mCons (Dl.ret (.val .non)) (mCons (Dl.ret (.val (.str "0"))) (mCons (mTup (mCons (Dl.ret (.val (.int 0))) (Dl.ret []))) (mCons (mCall m_l_odd [(.sl 0), (.ev (Dl.ret (.val (.int 0))))]) (Dl.ret [])))))))))) (mSet ok_l_edges_right 6) lb_l_edges_right_3)
def le_l_edges_right_4 : M O := (mCall m_chain_sum [(.sl 1), (.sl 2), (.sl 5)])
abbrev co_l_edges_right_1 : M O := (mComp [5] (mRng (mCons (mOp2 (binF .Add) (mIxS 1 (Dl.ret (.val (.int 0)))) (Dl.ret (.val (.int 1)))) (Dl.ret []))) (mSet (inOf [5]) 5) (Dl.ret true) le_l_edges_right_4)
abbrev ic_l_edges_right_3 : M Bool := (mLookB (cmpF .NotEq) (.ev (mLook1 reprD (.ev (mComp [5] (mRng (mCons (mOp2 (binF .Add) (mIxS 1 (Dl.ret (.val (.int 0)))) (Dl.ret (.val (.int 1)))) (Dl.ret []))) (mSet (inOf [5]) 5) (Dl.ret true) le_l_edges_right_4)))) (.ev (mLook1 reprD (.sl 4))))
def le_l_edges_right_5 : M O := (mIf (mLookB (cmpF .GtE) (.sl 5) (.sl 2)) (mIxS 3 (mVar 5)) (Dl.ret (.val (.int 0))))
abbrev co_l_edges_right_2 : M O := (mComp [5] (mRng (mCons (mOp2 (binF .Add) (mIxS 1 (Dl.ret (.val (.int 0)))) (Dl.ret (.val (.int 1)))) (Dl.ret []))) (mSet (inOf [5]) 5) (Dl.ret true) le_l_edges_right_5)
def lb_l_edges_right_6 : M Fl := (mSeq (mAsg (mCall m_l_sums [(.sl 1), (.sl 2)]) (mSet ok_l_edges_right 3)) (mSeq (mAsg (mComp [5] (mRng (mCons (mOp2 (binF .Add) (mIxS 1 (Dl.ret (.val (.int 0)))) (Dl.ret (.val (.int 1)))) (Dl.ret []))) (mSet (inOf [5]) 5) (Dl.ret true) le_l_edges_right_5) (mSet ok_l_edges_right 4)) (mSeq (mIfS (mLookB (cmpF .NotEq) (.ev (mLook1 reprD (.ev (mComp [5] (mRng (mCons (mOp2 (binF .Add) (mIxS 1 (Dl.ret (.val (.int 0)))) (Dl.ret (.val (.int 1)))) (Dl.ret []))) (mSet (inOf [5]) 5) (Dl.ret true) le_l_edges_right_4)))) (.ev (mLook1 reprD (.sl 4)))) (mSeq (mRet (Dl.ret (.val (.bl false)))) (Dl.ret .nx)) (Dl.ret .nx)) (Dl.ret .nx))))
abbrev fo_l_edges_right_2 : M Fl := (mFor (mRng (mCons (mOp2 (binF .Add) (mIxS 1 (Dl.ret (.val (.int 0)))) (Dl.ret (.val (.int 1)))) (Dl.ret []))) (mSet ok_l_edges_right 2) lb_l_edges_right_6)
def b_l_edges_right : M Fl := (mSeq (mFor (mRng (mCons (mOp2 (binF .Add) (mIxS 1 (Dl.ret (.val (.int 0)))) (Dl.ret (.val (.int 1)))) (Dl.ret []))) (mSet ok_l_edges_right 2) lb_l_edges_right_6) (mSeq (mFor (mSeqI (mTup (mCons (mOp1 negF (Dl.ret (.val (.int 1)))) (mCons (mOp2 (binF .Add) (mIxS 1 (Dl.ret (.val (.int 0)))) (Dl.ret (.val (.int 1)))) (mCons (Dl.ret (.val (.bl true))) (mCons (Dl.ret (.val .non)) (mCons (Dl.ret (.val (.str "0"))) (mCons (mTup (mCons (Dl.ret (.val (.int 0))) (Dl.ret []))) (mCons (mCall m_l_odd [(.sl 0), (.ev (Dl.ret (.val (.int 0))))]) (Dl.ret [])))))))))) (mSet ok_l_edges_right 6) lb_l_edges_right_3) (mSeq (mRet (Dl.ret (.val (.bl true)))) (Dl.ret .nx))))
@[simp] theorem o2_l_edges_right : ok_l_edges_right 2 = true := by decide
@[simp] theorem o3_l_edges_right : ok_l_edges_right 3 = true := by decide
@[simp] theorem o4_l_edges_right : ok_l_edges_right 4 = true := by decide
@[simp] theorem o5_l_edges_right : ok_l_edges_right 5 = true := by decide
@[simp] theorem o6_l_edges_right : ok_l_edges_right 6 = true := by decide
@[simp] theorem o7_l_edges_right : ok_l_edges_right 7 = true := by decide
def m_l_edges_right : FM := mDef 8 f_l_edges_right b_l_edges_right
theorem e_l_edges_right : mOf n_l_edges_right s_l_edges_right f_l_edges_right T23 md 2 = m_l_edges_right := by kernel_rfl
def T24 : List (Str × FM × Nat) := ("_law_edges_right", m_l_edges_right, 2) :: T23
/-! ### law -/
abbrev s_law : Stmt := topS 39
def n_law : List Str := ["_law_script", "_law_k", "_law_hand_here", "_law_turn", "_law_grid_here", "_law_due", "_law_held", "_law_chain", "_law_number", "_law_told"]
def p_law : List Str := ["_law_script"]
def f_law : List Bool := [true]
def ok_law : Nat → Bool := fun i => !(cpOf f_law).contains i
theorem sc_law : FnScope n_law p_law (defScope s_law) := ⟨rfl, rfl, rfl, by decide +kernel, rfl, by decide +kernel, by decide +kernel⟩
abbrev ic_law_1 : M Bool := (mLookB (cmpF .NotEq) (.ev (mLook1 reprD (.sl 9))) (.ev (mLook1 reprD (.ev (mLst (mCons (Dl.ret (.val (.bl true))) (mCons (Dl.ret (.val (.bl false))) (mCons (Dl.ret (.val (.bl true))) (mCons (Dl.ret (.val (.bl true))) (Dl.ret []))))))))))
def le_law_1 : M O := (mCall m_shows_least [(.sl 4), (.sl 8), (.sl 7)])
abbrev co_law_1 : M O := (mComp [8] (mSeqI (mTup (mCons (mVar 5) (mCons (mOp2 (binF .Add) (mVar 5) (Dl.ret (.val (.int 1)))) (mCons (mOp2 (binF .Sub) (mVar 5) (Dl.ret (.val (.int 1)))) (mCons (mOp1 negF (Dl.ret (.val (.int 7)))) (Dl.ret []))))))) (mSet (inOf [8]) 8) (Dl.ret true) le_law_1)
def le_law_2 : M O := (mOp2 ixD (mOp2 ixD (mIxS 4 (Dl.ret (.val (.int 1)))) (mVar 8)) (Dl.ret (.val (.int 2))))
abbrev co_law_2 : M O := (mCompS [8] 7 (mSeqI (mVar 7)) (mSet (inOf [8]) 8) (Dl.ret true) le_law_2)
abbrev ic_law_2 : M Bool := (mLookB (cmpF .NotEq) (.ev (mLook1 sumD (.ev (mCompS [8] 7 (mSeqI (mVar 7)) (mSet (inOf [8]) 8) (Dl.ret true) le_law_2)))) (.sl 5))
def le_law_3 : M O := (mLook1 intD (.ev (mLook (cmpF .In) (.sl 8) (.sl 7))))
abbrev co_law_3 : M O := (mComp [8] (mRng (mCons (mLook1 lenD (.ev (mIxS 4 (Dl.ret (.val (.int 1)))))) (Dl.ret []))) (mSet (inOf [8]) 8) (Dl.ret true) le_law_3)
abbrev ic_law_3 : M Bool := (mLookB (cmpF .Gt) (.ev (mLook1 maxD (.ev (mCall m_l_weights [(.sl 4), (.ev (mComp [8] (mRng (mCons (mLook1 lenD (.ev (mIxS 4 (Dl.ret (.val (.int 1)))))) (Dl.ret []))) (mSet (inOf [8]) 8) (Dl.ret true) le_law_3))])))) (.ev (Dl.ret (.val (.int 1)))))
abbrev ic_law_4 : M Bool := (mOr (mNot (mB (mLook1 (isiD "tuple") (.sl 7)))) (mLookB (cmpF .NotEq) (.ev (mOpN lstN (mCons (mVar 7) (Dl.ret [])))) (.ev (mOp1 ssetF (mVar 7)))))
abbrev ic_law_5 : M Bool := (mOr (mLookB (cmpF .NotEq) (.ev (mLook1 reprD (.ev (mCall m_least_width [(.sl 4)])))) (.ev (mLook1 reprD (.sl 5)))) (mOr (mNot (mB (mCall m_l_edges_right [(.sl 2), (.sl 4)]))) (mLookB (cmpF .NotEq) (.ev (mLook1 reprD (.sl 4))) (.sl 6))))
def lb_law_4 : M Fl := (mSeq (mAsg (mCall m_l_grid [(.sl 2), (.ev (Dl.ret (.val (.int 12)))), (.ev (Dl.ret (.val (.int 20)))), (.ev (mCall m_l_of [(.sl 2), (.ev (mLst (mCons (Dl.ret (.val (.int 3))) (mCons (Dl.ret (.val (.int 20))) (mCons (Dl.ret (.val (.int 1000))) (mCons (mOp2 (binF .Sub) (mOp2 (binF .Pow) (Dl.ret (.val (.int 10))) (Dl.ret (.val (.int 9)))) (Dl.ret (.val (.int 1)))) (Dl.ret [])))))))]))]) (mSet ok_law 4)) (mSeq (mPar2 ok_law 5 6 (mCons (mCall m_l_least [(.sl 4)]) (mCons (mLook1 reprD (.sl 4)) (Dl.ret [])))) (mSeq (mAsg (mCall m_greatest_chain [(.sl 4)]) (mSet ok_law 7)) (mSeq (mIfS (mOr (mLookB (cmpF .NotEq) (.ev (mLook1 reprD (.ev (mCall m_least_width [(.sl 4)])))) (.ev (mLook1 reprD (.sl 5)))) (mOr (mNot (mB (mCall m_l_edges_right [(.sl 2), (.sl 4)]))) (mLookB (cmpF .NotEq) (.ev (mLook1 reprD (.sl 4))) (.sl 6)))) (mSeq (mRet (Dl.ret (.val (.bl false)))) (Dl.ret .nx)) (Dl.ret .nx)) (mSeq (mIfS (mOr (mNot (mB (mLook1 (isiD "tuple") (.sl 7)))) (mLookB (cmpF .NotEq) (.ev (mOpN lstN (mCons (mVar 7) (Dl.ret [])))) (.ev (mOp1 ssetF (mVar 7))))) (mSeq (mRet (Dl.ret (.val (.bl false)))) (Dl.ret .nx)) (Dl.ret .nx)) (mSeq (mIfS (mLookB (cmpF .Gt) (.ev (mLook1 maxD (.ev (mCall m_l_weights [(.sl 4), (.ev (mComp [8] (mRng (mCons (mLook1 lenD (.ev (mIxS 4 (Dl.ret (.val (.int 1)))))) (Dl.ret []))) (mSet (inOf [8]) 8) (Dl.ret true) le_law_3))])))) (.ev (Dl.ret (.val (.int 1))))) (mSeq (mRet (Dl.ret (.val (.bl false)))) (Dl.ret .nx)) (Dl.ret .nx)) (mSeq (mIfS (mLookB (cmpF .NotEq) (.ev (mLook1 sumD (.ev (mCompS [8] 7 (mSeqI (mVar 7)) (mSet (inOf [8]) 8) (Dl.ret true) le_law_2)))) (.sl 5)) (mSeq (mRet (Dl.ret (.val (.bl false)))) (Dl.ret .nx)) (Dl.ret .nx)) (mSeq (mAsg (mComp [8] (mSeqI (mTup (mCons (mVar 5) (mCons (mOp2 (binF .Add) (mVar 5) (Dl.ret (.val (.int 1)))) (mCons (mOp2 (binF .Sub) (mVar 5) (Dl.ret (.val (.int 1)))) (mCons (mOp1 negF (Dl.ret (.val (.int 7)))) (Dl.ret []))))))) (mSet (inOf [8]) 8) (Dl.ret true) le_law_1) (mSet ok_law 9)) (mSeq (mIfS (mLookB (cmpF .NotEq) (.ev (mLook1 reprD (.sl 9))) (.ev (mLook1 reprD (.ev (mLst (mCons (Dl.ret (.val (.bl true))) (mCons (Dl.ret (.val (.bl false))) (mCons (Dl.ret (.val (.bl true))) (mCons (Dl.ret (.val (.bl true))) (Dl.ret [])))))))))) (mSeq (mRet (Dl.ret (.val (.bl false)))) (Dl.ret .nx)) (Dl.ret .nx)) (Dl.ret .nx))))))))))
abbrev fo_law_1 : M Fl := (mFor (mRng (mCons (Dl.ret (.val (.int 6))) (Dl.ret []))) (mSet ok_law 3) lb_law_4)
def lb_law_5 : M Fl := (mSeq (mAsg (mCall m_l_hand [(.sl 0), (.sl 1)]) (mSet ok_law 2)) (mSeq (mFor (mRng (mCons (Dl.ret (.val (.int 6))) (Dl.ret []))) (mSet ok_law 3) lb_law_4) (Dl.ret .nx)))
abbrev fo_law_2 : M Fl := (mFor (mRng (mCons (mScN max2 (mCons (Dl.ret (.val (.int 1))) (mCons (mScN min2 (mCons (Dl.ret (.val (.int 3))) (mCons (mLook1 lenD (.sl 0)) (Dl.ret [])))) (Dl.ret [])))) (Dl.ret []))) (mSet ok_law 1) lb_law_5)
def b_law : M Fl := (mSeq (mFor (mRng (mCons (mScN max2 (mCons (Dl.ret (.val (.int 1))) (mCons (mScN min2 (mCons (Dl.ret (.val (.int 3))) (mCons (mLook1 lenD (.sl 0)) (Dl.ret [])))) (Dl.ret [])))) (Dl.ret []))) (mSet ok_law 1) lb_law_5) (mSeq (mRet (Dl.ret (.val (.bl true)))) (Dl.ret .nx)))
@[simp] theorem o1_law : ok_law 1 = true := by decide
@[simp] theorem o2_law : ok_law 2 = true := by decide
@[simp] theorem o3_law : ok_law 3 = true := by decide
@[simp] theorem o4_law : ok_law 4 = true := by decide
@[simp] theorem o5_law : ok_law 5 = true := by decide
@[simp] theorem o6_law : ok_law 6 = true := by decide
@[simp] theorem o7_law : ok_law 7 = true := by decide
@[simp] theorem o8_law : ok_law 8 = true := by decide
@[simp] theorem o9_law : ok_law 9 = true := by decide
def m_law : FM := mDef 10 f_law b_law
theorem e_law : mOf n_law s_law f_law T24 md 0 = m_law := by kernel_rfl
def T25 : List (Str × FM × Nat) := ("law", m_law, 1) :: T24
end Kl

set_option maxHeartbeats 8000000
namespace Dl
open PySem L2
end Dl
namespace Kl
open PySem L2 Dl
theorem take_zero (s c n p : Int) (h0 : 0 ≤ s) (h1 : s < 2147483647) (h2 : 0 ≤ c) (h3 : c ≤ 1000000000) (hn : 0 < n)
    (hp : 0 < p) (hp2 : p < 2147483648) (ha : atI [D.int 2147483647, .int 2147483629, .int 2147483587, .int 2147483579, .int 2147483563] ((c + 1) % 5) = some (.int p)) :
    ∃ d, m_l_take [.lst [.val (.int 0), .val (.int s), .val (.int c)], .val (.int n)] = .ok (.val (.int d)) [.lst [.val (.int 0), .val (.int s), .val (.int (c + 1))], .val (.int n)] ∧ 0 ≤ d ∧ d < n := by
  have l1 := bin_mul 7919 (c + 1) (limI (by omega) (by omega)) (limI (by omega) (by omega))
  have l2 := bin_mod (c + 1) 5 (by omega)
  have l3 := bin_pow (s + 7919 * (c + 1)) 3 (by omega) (by omega) (by omega)
  generalize hq : s + 7919 * (c + 1) = q at l3
  have l3 : binF .Pow (.int q) (.int 3) = some (.val (.int (q ^ 3))) := l3
  have l4 := bin_mod (q ^ 3) p hp
  have b1 := Int.emod_nonneg (q ^ 3) (show p ≠ 0 by omega)
  have b2 := Int.emod_lt_of_pos (q ^ 3) hp
  generalize q ^ 3 % p = r at l4 b1 b2
  have l5 := bin_mod r 1009 (by omega)
  have l6 := bin_mul r (r % 1009 + (c + 1)) (limI (by omega) (by omega)) (limI (by omega) (by omega))
  have l7 := bin_mod (r * (r % 1009 + (c + 1))) p hp
  have l8 := bin_div (r * (r % 1009 + (c + 1)) % p) 11 (by omega) (limI (by omega) (by omega))
  have l9 := bin_mod (r * (r % 1009 + (c + 1)) % p / 11) n hn
  refine ⟨r * (r % 1009 + (c + 1)) % p / 11 % n, ?_, Int.emod_nonneg _ (by omega), Int.emod_lt_of_pos _ hn⟩
  simp [m_l_take, b_l_take, f_l_take, ixN, l1, l2, ha, hq, l3, l4, l5, l6, l7, l8, l9]
theorem take_spec {B n : Int} {hl : List O} (h : Hd B hl) (hB : B ≤ 1000000000) (hn : 0 < n) (hn2 : n ≤ 10000000000000000000000000000000000000000) :
    ∃ d hl', m_l_take [.lst hl, .val (.int n)] = .ok (.val (.int d)) [.lst hl', .val (.int n)] ∧ 0 ≤ d ∧ d < n ∧ Hd (B + 1) hl' := by
  obtain ⟨g, s, c, rfl, h0, h1, h2, h3, h4⟩ := h.ex
  by_cases hg : 0 < g
  · refine ⟨g % n, [.val (.int (g / n)), .val (.int s), .val (.int c)], ?_, Int.emod_nonneg _ (by omega), Int.emod_lt_of_pos _ hn, ⟨_, _, _, rfl, Int.ediv_nonneg h0 (by omega), h1, h2, h3, by omega⟩⟩
    simp [m_l_take, b_l_take, bin_mod, bin_div, hg, hn, limI (show -10000000000000000000000000000000000000000 ≤ n by omega) hn2, f_l_take, ixN]
  · have hg0 : g = 0 := by omega
    subst hg0
    have hp : ∃ p, 0 < p ∧ p < 2147483648 ∧ atI [D.int 2147483647, .int 2147483629, .int 2147483587, .int 2147483579, .int 2147483563] ((c + 1) % 5) = some (.int p) := by
      have hr : (c + 1) % 5 = 0 ∨ (c + 1) % 5 = 1 ∨ (c + 1) % 5 = 2 ∨ (c + 1) % 5 = 3 ∨ (c + 1) % 5 = 4 := by omega
      rcases hr with hr | hr | hr | hr | hr <;> rw [hr]
      · exact ⟨2147483647, by omega, by omega, atI_0 _ _⟩
      · exact ⟨2147483629, by omega, by omega, atI_1 _ _ _⟩
      · exact ⟨2147483587, by omega, by omega, atI_2 _ _ _ _⟩
      · exact ⟨2147483579, by omega, by omega, atI_3 _ _ _ _ _⟩
      · exact ⟨2147483563, by omega, by omega, atI_4 _ _ _ _ _ _⟩
    obtain ⟨p, p1, p2, p3⟩ := hp
    obtain ⟨d, e, d1, d2⟩ := take_zero s c n p h1 h2 h3 (by omega) hn p1 p2 p3
    exact ⟨d, _, e, d1, d2, ⟨_, _, _, rfl, by omega, h1, h2, by omega, by omega⟩⟩
/-- one of some things -/
theorem of_own {B : Int} {hl : List O} {ds : List D} (h : Hd B hl) (hB : B ≤ 1000000000) (hn : ds ≠ []) (hn2 : ds.length ≤ 1000000) :
    ∃ d hl', m_l_of [.lst hl, .lst (ds.map .val)] = .ok (.val d) [.lst hl', .lst (ds.map .val)] ∧ d ∈ ds ∧ Hd (B + 1) hl' := by
  have hp : 0 < ds.length := List.length_pos_iff.mpr hn
  obtain ⟨i, hl', e, i0, i1, h'⟩ := take_spec (n := (ds.length : Int)) h hB (by omega) (by omega)
  obtain ⟨a, e2, ha⟩ := atI_in (l := ds) i0 i1
  have e3 : atI (ds.map O.val) i = some (.val a) := by
    rw [atI_mp, e2]; rfl
  refine ⟨a, hl', ?_, ha, h'⟩
  simp [m_l_of, b_l_of, f_l_of, e, e3]
end Kl

namespace Kl
open PySem L2 Dl
theorem need_spec {B top : Int} {hl : List O} (h : Hd B hl) (hB : B ≤ 900000000) (ht : 0 ≤ top) (ht2 : top ≤ 1000000000) :
    ∃ v hl', m_l_need [.lst hl, .val (.int top)] = .ok (.val (.int v)) [.lst hl', .val (.int top)] ∧ 0 ≤ v ∧ v ≤ 1000000000 ∧ Hd (B + 5) hl' := by
  obtain ⟨d1, h1, e1, _, _, k1⟩ := take_spec (n := 4) h (by omega) (by omega) (by omega)
  obtain ⟨d2, h2, e2, _, _, k2⟩ := take_spec (n := top + 1) k1 (by omega) (by omega) (by omega)
  obtain ⟨d3, h3, e3, _, _, k3⟩ := take_spec (n := top + 1) k2 (by omega) (by omega) (by omega)
  obtain ⟨d4, h4, e4, _, _, k4⟩ := take_spec (n := top + 1) k3 (by omega) (by omega) (by omega)
  have fin : ∀ z : Int, 0 ≤ z → z ≤ 1000000000 → ∃ v h', m_l_of [.lst h4, .lst [.val (.int 0), .val (.int 1), .val (.int d1), .val (.int d2), .val (.int d3), .val (.int d4), .val (.int z)]] = .ok (.val (.int v)) [.lst h', .lst [.val (.int 0), .val (.int 1), .val (.int d1), .val (.int d2), .val (.int d3), .val (.int d4), .val (.int z)]] ∧ 0 ≤ v ∧ v ≤ 1000000000 ∧ Hd (B + 5) h' := fun z hz hz2 => by
    obtain ⟨d, h5, e5, hm, k5⟩ := of_own (ds := [.int 0, .int 1, .int d1, .int d2, .int d3, .int d4, .int z]) k4 (by omega) (by simp) (by simp)
    simp only [List.map_cons, List.map_nil] at e5
    simp only [List.mem_cons, List.not_mem_nil, or_false] at hm
    have k6 := k5.mono (show B + 1 + 1 + 1 + 1 + 1 ≤ B + 5 by omega)
    rcases hm with rfl | rfl | rfl | rfl | rfl | rfl | rfl <;> exact ⟨_, _, e5, by omega, by omega, k6⟩
  by_cases hc : 99 < top
  · obtain ⟨v, h', e, v1, v2, k⟩ := fin 1000000000 (by omega) (by omega)
    refine ⟨v, h', ?_, v1, v2, k⟩
    simp [m_l_need, b_l_need, f_l_need, e1, e2, e3, e4, hc, ten9, sum_ll, e]
  · obtain ⟨v, h', e, v1, v2, k⟩ := fin top (by omega) (by omega)
    refine ⟨v, h', ?_, v1, v2, k⟩
    simp [m_l_need, b_l_need, f_l_need, e1, e2, e3, e4, hc, ten9, sum_ll, e]
end Kl

namespace Kl
open PySem L2 Dl
section
variable {B top wide way num : Int} {hl : List O} {fd : List D} {s1 s2 : Option O} {s8 s9 : Option O}
theorem grid_turn (h : Hd B hl) (hB : B ≤ 800000000) (ht : 0 ≤ top) (ht2 : top ≤ 1000000000) (hw : 0 < wide) (hw2 : wide ≤ 1000) (hn : 0 ≤ num) (hn2 : num ≤ 1000000) (hf : fd.length < 1000000) (hc : ∀ d ∈ fd, CellD wide d) :
    ∃ hl' b e v, lb_l_grid_1 [some (.lst hl), s1, s2, some (.val (.int top)), some (.val (.int wide)), some (.val (.int way)), some (.lst (fd.map .val)), some (.val (.int num)), s8, s9]
      = .ok .nx [some (.lst hl'), s1, s2, some (.val (.int top)), some (.val (.int wide)), some (.val (.int way)), some (.lst (fd.map .val ++ [.val (.tup [.int b, .int e, .int v])])), some (.val (.int num)), some (.val (.int b)), some (.val (.int e))] ∧ CellD wide (.tup [.int b, .int e, .int v]) ∧ Hd (B + 8) hl' := by
  obtain ⟨d1, h1, e1, _, _, k1⟩ := take_spec (n := wide) h (by omega) (by omega) (by omega)
  obtain ⟨d2, h2, e2, _, _, k2⟩ := take_spec (n := wide - d1) k1 (by omega) (by omega) (by omega)
  have nl := ne_lnil (n := 1) (fun d hd => (hc d hd).tm hw2) (by omega)
  by_cases w1 : way = 1
  · subst w1
    obtain ⟨d3, h3, e3, _, _, k3⟩ := take_spec (n := 2) k2 (by omega) (by omega) (by omega)
    obtain ⟨v, h4, e4, _, _, k4⟩ := need_spec k3 (by omega) ht ht2
    refine ⟨h4, d1, (if d1 + 1 + d3 < wide then d1 + 1 + d3 else wide), v, ?_, ⟨_, _, _, rfl, by omega, ?_, ?_, by omega, by omega⟩, k4.mono (by omega)⟩
    · simp [lb_l_grid_1, e1, e2, e3, e4, hf]
    · split <;> omega
    · split <;> omega
  by_cases w2 : way = 2
  · subst w2
    obtain ⟨v, h4, e4, _, _, k4⟩ := need_spec k2 (by omega) ht ht2
    have r1 := Int.emod_nonneg num (show wide ≠ 0 by omega)
    have r2 := Int.emod_lt_of_pos num hw
    refine ⟨h4, (num % wide), (if num % wide + 2 < wide then num % wide + 2 else wide), v, ?_, ⟨_, _, _, rfl, by omega, ?_, ?_, by omega, by omega⟩, k4.mono (by omega)⟩
    · simp [lb_l_grid_1, e1, e2, e4, hf, bin_mod _ _ hw]
    · split <;> omega
    · split <;> omega
  by_cases w3 : way = 3
  · subst w3
    obtain ⟨v, h4, e4, _, _, k4⟩ := need_spec k2 (by omega) ht ht2
    refine ⟨h4, ((if wide - 1 < num then wide - 1 else num) / 2), (if (if wide - 1 < num then wide - 1 else num) / 2 + 1 > wide - num / 2 then (if wide - 1 < num then wide - 1 else num) / 2 + 1 else wide - num / 2), v, ?_, ⟨_, _, _, rfl, ?_, ?_, ?_, by omega, by omega⟩, k4.mono (by omega)⟩
    · simp [lb_l_grid_1, e1, e2, e4, hf, bin_div _ 2 (by omega) (limI (by omega) (by omega))]
    · split <;> omega
    · split <;> split <;> omega
    · split <;> split <;> omega
  by_cases w4 : way = 4
  · subst w4
    obtain ⟨d3, h3, e3, _, _, k3⟩ := take_spec (n := 2) k2 (by omega) (by omega) (by omega)
    obtain ⟨v, h4, e4, _, _, k4⟩ := need_spec k3 (by omega) ht ht2
    by_cases z : d3 = 0
    · refine ⟨h4, d1, (d1 + 1), v, ?_, ⟨_, _, _, rfl, by omega, by omega, by omega, by omega, by omega⟩, k4.mono (by omega)⟩
      simp [lb_l_grid_1, e1, e2, e3, e4, hf, z]
    · refine ⟨h4, d1, (d1 + 1 + d2), v, ?_, ⟨_, _, _, rfl, by omega, by omega, by omega, by omega, by omega⟩, k4.mono (by omega)⟩
      simp [lb_l_grid_1, e1, e2, e3, e4, hf, z]
  by_cases w5 : way = 5 ∧ fd ≠ []
  · obtain ⟨rfl, hne⟩ := w5
    obtain ⟨d, h3, e3, hm, k3⟩ := of_own k2 (by omega) hne (by omega)
    obtain ⟨b, e, n, rfl, _, _, _, _, _⟩ := (hc d hm).ex
    obtain ⟨v, h4, e4, _, _, k4⟩ := need_spec k3 (by omega) ht ht2
    refine ⟨h4, b, e, v, ?_, ⟨_, _, _, rfl, by omega, by omega, by omega, by omega, by omega⟩, k4.mono (by omega)⟩
    simp [lb_l_grid_1, e1, e2, e3, e4, hf, nl, hne, slF, cut2]
  · obtain ⟨v, h4, e4, _, _, k4⟩ := need_spec k2 (by omega) ht ht2
    refine ⟨h4, d1, (d1 + 1 + d2), v, ?_, ⟨_, _, _, rfl, by omega, by omega, by omega, by omega, by omega⟩, k4.mono (by omega)⟩
    by_cases w6 : way = 5
    · have w7 : fd = [] := Classical.byContradiction fun z => w5 ⟨w6, z⟩
      subst w6 w7
      have nl' : neD (.lst []) (.lst []) = some (.bl false) := nl
      simp [lb_l_grid_1, e1, e2, e4, hf, nl']
    · simp [lb_l_grid_1, e1, e2, e4, hf, w1, w2, w3, w4, w6]
end
end Kl

namespace Dl
open PySem L2
end Dl
namespace Kl
open PySem L2 Dl
theorem grid_spec {B widest most top : Int} {hl : List O} (h : Hd B hl) (hB : B ≤ 700000000) (h1 : 1 ≤ widest) (h2 : widest ≤ 1000) (h3 : 0 ≤ most) (h4 : most ≤ 1000) (ht : 0 ≤ top) (ht2 : top ≤ 1000000000) :
    ∃ hl' w fd, m_l_grid [.lst hl, .val (.int widest), .val (.int most), .val (.int top)] = .ok (.val (.tup [.int w, .tup fd])) [.lst hl', .val (.int widest), .val (.int most), .val (.int top)] ∧ 1 ≤ w ∧ w ≤ widest ∧ fd.length ≤ most.toNat ∧ (∀ d ∈ fd, CellD w d) ∧ Hd (B + 3 + 8 * most) hl' := by
  obtain ⟨d1, g1, e1, _, _, k1⟩ := take_spec (n := widest) h (by omega) (by omega) (by omega)
  obtain ⟨d2, g2, e2, _, _, k2⟩ := take_spec (n := 6) k1 (by omega) (by omega) (by omega)
  obtain ⟨d3, g3, e3, d30, d31, k3⟩ := take_spec (n := most + 1) k2 (by omega) (by omega) (by omega)
  have hloop := loop_ok (t := mSet ok_l_grid 7) (b := lb_l_grid_1) (fun (k : Nat) (ρ : Sl) => ∃ hl' fd s7 s8 s9, ρ = [some (.lst hl'), some (.val (.int widest)), some (.val (.int most)), some (.val (.int top)), some (.val (.int (1 + d1))), some (.val (.int d2)), some (.lst (fd.map .val)), s7, s8, s9] ∧ Hd (B + 3 + 8 * k) hl' ∧ fd.length ≤ k ∧ ∀ d ∈ fd, CellD (1 + d1) d)
    (rngL 0 d3.toNat) 0 [some (.lst g3), some (.val (.int widest)), some (.val (.int most)), some (.val (.int top)), some (.val (.int (1 + d1))), some (.val (.int d2)), some (.lst []), none, none, none]
    ⟨g3, [], none, none, none, rfl, k3.mono (by omega), by simp, by simp⟩ fun i d ρ hd hI => by
      obtain ⟨rfl, hi⟩ := rngL_at hd
      obtain ⟨hl', fd, s7, s8, s9, rfl, hh, hfl, hfc⟩ := hI
      obtain ⟨hl2, b, e, v, et, hc, hh2⟩ := grid_turn (s1 := some (.val (.int widest))) (s2 := some (.val (.int most))) (way := d2) (num := 0 + (i : Int)) (s8 := s8) (s9 := s9) hh (by omega) ht ht2 (show 0 < 1 + d1 by omega) (by omega) (by omega) (by omega) (by omega) hfc
      refine ⟨[some (.lst hl'), some (.val (.int widest)), some (.val (.int most)), some (.val (.int top)), some (.val (.int (1 + d1))), some (.val (.int d2)), some (.lst (fd.map .val)), some (.val (.int (0 + (i : Int)))), s8, s9], .nx, _, by simp, et, .inl rfl, ?_⟩
      refine ⟨hl2, fd ++ [.tup [.int b, .int e, .int v]], _, _, _, by simp; exact ⟨rfl, rfl, rfl⟩, hh2.mono (by omega), by simp; omega, ?_⟩
      intro x hx
      rcases List.mem_append.mp hx with z | z
      · exact hfc x z
      · simp at z; subst z; exact hc
  obtain ⟨ρ', el, hl', fd, s7, s8, s9, rfl, hh, hfl, hfc⟩ := hloop
  rw [rngL_len] at hh hfl
  refine ⟨hl', 1 + d1, fd, ?_, by omega, by omega, by omega, hfc, hh.mono (by omega)⟩
  simp [m_l_grid, b_l_grid, f_l_grid, e1, e2, e3, rng_1 (show -1000000000 ≤ d3 by omega) (by omega), el]
end Kl

namespace Kl
open PySem L2 Dl
theorem hand_at (ns : List Int) (k : Int) (h0 : 0 ≤ k) (h1 : k ≤ 1000) (c : Int) (hc : (if k < ns.length then atI ns k else some 0) = some c) :
    ∃ hl, m_l_hand [.val (.fl ns), .val (.int k)] = .ok (.lst hl) [.val (.fl ns), .val (.int k)] ∧ Hd 0 hl := by
  have l1 := bin_mod c 2147483629 (by omega)
  have l2 := bin_mul 7919 k (limI (by omega) (by omega)) (limI (by omega) (by omega))
  have l3 := bin_mul (c % 2147483629 + 7919 * k + 13) 48271 (limI (by omega) (by omega)) (limI (by omega) (by omega))
  have l4 := bin_mod ((c % 2147483629 + 7919 * k + 13) * 48271) 2147483647 (by omega)
  have l5 := bin_mul P60 P60 P60_lim P60_lim
  have l6 := bin_mul (P60 * P60) P60 P60P_lim P60_lim
  have l7 := bin_mod (if c < 0 then -c else c) (P60 * P60 * P60) P180_pos
  have l8 := bin_mul ((if c < 0 then -c else c) % (P60 * P60 * P60)) (if decide (P18 ≤ if c < 0 then -c else c) then 1 else 0) P180_lim (by split <;> exact limI (by omega) (by omega))
  refine ⟨[.val (.int ((if c < 0 then -c else c) % (P60 * P60 * P60) * (if decide (P18 ≤ if c < 0 then -c else c) then 1 else 0))), .val (.int ((c % 2147483629 + 7919 * k + 13) * 48271 % 2147483647)), .val (.int 0)], ?_, ⟨_, _, _, rfl, ?_, by omega, by omega, by omega, by omega⟩⟩
  · generalize hA : (if c < 0 then -c else c) = A at *
    generalize hZ : A % (P60 * P60 * P60) * (if decide (P18 ≤ A) then 1 else 0) = Z at *
    by_cases hk : k < ns.length
    · rw [if_pos hk] at hc
      by_cases hp : P18 ≤ A
      · simp [hp] at l8
        simp [m_l_hand, b_l_hand, f_l_hand, hk, hc, l1, l2, l3, l4, l5, l6, l7, l8, pw60, pw18, hA, hp]
      · simp [hp] at l8
        simp [m_l_hand, b_l_hand, f_l_hand, hk, hc, l1, l2, l3, l4, l5, l6, l7, l8, pw60, pw18, hA, hp]
    · rw [if_neg hk] at hc
      cases hc
      simp at hA
      subst hA
      have hp : ¬ P18 ≤ 0 := by unfold P18; omega
      simp [hp] at l8
      simp at l1 l3 l4 l7
      simp [m_l_hand, b_l_hand, f_l_hand, hk, l1, l2, l3, l4, l5, l6, l7, l8, pw60, pw18, hp]
  · refine Int.mul_nonneg (Int.emod_nonneg _ (by have := P180_pos; omega)) ?_
    split <;> omega
theorem hand_spec (ns : List Int) (k : Int) (h0 : 0 ≤ k) (h1 : k ≤ 1000) : ∃ hl, m_l_hand [.val (.fl ns), .val (.int k)] = .ok (.lst hl) [.val (.fl ns), .val (.int k)] ∧ Hd 0 hl := by
  by_cases hk : k < ns.length
  · obtain ⟨c, e, _⟩ := atI_in h0 hk
    exact hand_at ns k h0 h1 c (by rw [if_pos hk, e])
  · exact hand_at ns k h0 h1 0 (by rw [if_neg hk])
end Kl

namespace Kl
open PySem L2 Dl
end Kl

namespace Dl
open PySem L2
end Dl
namespace Kl
open PySem L2 Dl
theorem whole_spec (d : D) (lo hi : Int) : m_l_is_whole [.val d, .val (.int lo), .val (.int hi)] = .ok (.val (.bl (isI lo hi d))) [.val d, .val (.int lo), .val (.int hi)] := by
  cases d with
  | int i =>
    by_cases h : lo ≤ i
    · simp [m_l_is_whole, b_l_is_whole, f_l_is_whole, isi_int, isi_bool, isI, notF, h]
    · simp [m_l_is_whole, b_l_is_whole, f_l_is_whole, isi_int, isi_bool, isI, notF, h]
  | _ => simp [m_l_is_whole, b_l_is_whole, f_l_is_whole, isi_int, isi_bool, isI, notF]
theorem odd_tup {B : Int} {hl : List O} {l : List D} (h : Hd B hl) (hB : B ≤ 1000000000) (hn : l.length ≤ 100000) :
    ∃ d hl', m_l_odd [.lst hl, .val (.tup l)] = .ok (.val d) [.lst hl', .val (.tup l)] ∧ (d ∈ oddB ∨ d ∈ oddT l) ∧ Hd (B + 1) hl' := by
  obtain ⟨d, hl', e, hm, h'⟩ := of_own (ds := oddB ++ (oddT l ++ (oddT l ++ oddT l))) h hB (by simp [oddB]) (by simp [oddB, oddT])
  refine ⟨d, hl', ?_, ?_, h'⟩
  · have hc : (cutD l (some (-1)) none).length ≤ 100000 := Nat.le_trans (cut_sub _ _ _).length_le hn
    have hs := sum_tt l (cutD l (some (-1)) none) (by omega)
    have e1 := mul_l3 (oddT l) (by simp [oddT])
    have e2 := sum_ll oddB (oddT l ++ (oddT l ++ oddT l)) (by simp [oddB, oddT])
    generalize hY : (oddT l ++ (oddT l ++ oddT l)) = Y at *
    generalize hZ : oddB ++ Y = Z at *
    simp only [oddB] at e2
    simp only [oddT] at e1
    simp [m_l_odd, b_l_odd, f_l_odd, isi_tup, isi_int, ten13, negF, slF, revF, hs, lstN, e1, e2, e]
  · simpa [or_assoc] using hm
theorem odd_int {B : Int} {hl : List O} {i : Int} (h : Hd B hl) (hB : B ≤ 1000000000) (hi : i.natAbs < 10 ^ 60) :
    ∃ d hl', m_l_odd [.lst hl, .val (.int i)] = .ok (.val d) [.lst hl', .val (.int i)] ∧ (d ∈ oddB ∨ d ∈ oddI i) ∧ Hd (B + 1) hl' := by
  obtain ⟨d, hl', e, hm, h'⟩ := of_own (ds := oddB ++ (oddI i ++ (oddI i ++ oddI i))) h hB (by simp [oddB]) (by simp [oddB, oddI])
  refine ⟨d, hl', ?_, ?_, h'⟩
  · have e1 := mul_l3 (oddI i) (by simp [oddI])
    have e2 := sum_ll oddB (oddI i ++ (oddI i ++ oddI i)) (by simp [oddB, oddI])
    have e3 := str_i hi
    generalize hY : (oddI i ++ (oddI i ++ oddI i)) = Y at *
    generalize hZ : oddB ++ Y = Z at *
    simp only [oddB] at e2
    simp only [oddI] at e1
    generalize (toString i : String) = tx at *
    simp [m_l_odd, b_l_odd, f_l_odd, isi_tup, isi_int, ten13, negF, slF, revF, lstN, e1, e2, e3, e]
  · simpa [or_assoc] using hm
theorem odd_spec {B : Int} {hl : List O} {b k n b' : Nat} {thing : D} (h : Hd B hl) (hB : B ≤ 1000000000) (ht : Nst b k n thing) (hk : k ≤ 100000) (h1 : b + 2 ≤ b') (h2 : 10 ^ 14 ≤ b') (h3 : b' ≤ 10 ^ 60) :
    ∃ d hl', m_l_odd [.lst hl, .val thing] = .ok (.val d) [.lst hl', .val thing] ∧ An b' (k + 3) (n + 2) d ∧ szB d ≤ 2 * szB thing + 700 ∧ Hd (B + 1) hl' := by
  have fB : ∀ d ∈ oddB, An b' (k + 3) (n + 2) d ∧ szB d ≤ 2 * szB thing + 700 := fun d hd => ⟨An.mono h2 (by omega) (by omega) (oddB_an hd).1, by have := (oddB_an hd).2; omega⟩
  have hn := ht.an
  rcases ht.cases with ⟨i, rfl, hi⟩ | ⟨m, l, rfl, rfl, hl', hm⟩
  · obtain ⟨d, hl2, e, hd, k2⟩ := odd_int (i := i) h hB (by omega)
    rcases hd with hd | hd
    · exact ⟨d, hl2, e, (fB d hd).1, (fB d hd).2, k2⟩
    · have q := oddI_an (b := b') (k := k + 3) (by omega) h3 (by omega) hd
      exact ⟨d, hl2, e, An.mono (Nat.le_refl _) (Nat.le_refl _) (by omega) q.1, by have := q.2; omega, k2⟩
  · obtain ⟨d, hl2, e, hd, k2⟩ := odd_tup (l := l) h hB (by omega)
    rcases hd with hd | hd
    · exact ⟨d, hl2, e, (fB d hd).1, (fB d hd).2, k2⟩
    · have q := oddT_an (b := b) (k := k + 1) (n := m) (An.mono (Nat.le_refl _) (by omega) (Nat.le_refl _) hn) (by omega) hd
      exact ⟨d, hl2, e, An.mono (by omega) (by omega) (by omega) q.1, by have := q.2; omega, k2⟩
end Kl
namespace Kl
open PySem L2 Dl
theorem of_val {B : Int} {hl : List O} {ds : List D} (h : Hd B hl) (hB : B ≤ 1000000000) (hn : ds ≠ []) (hn2 : ds.length ≤ 1000000) :
    ∃ d hl', m_l_of [.lst hl, .val (.lst ds)] = .ok (.val d) [.lst hl', .val (.lst ds)] ∧ d ∈ ds ∧ Hd (B + 1) hl' := by
  have hp : 0 < ds.length := List.length_pos_iff.mpr hn
  obtain ⟨i, hl', e, i0, i1, h'⟩ := take_spec (n := (ds.length : Int)) h hB (by omega) (by omega)
  obtain ⟨a, e2, ha⟩ := atI_in (l := ds) i0 i1
  refine ⟨a, hl', ?_, ha, h'⟩
  simp [m_l_of, b_l_of, f_l_of, e, e2]
theorem of_tup {B : Int} {hl : List O} {ds : List D} (h : Hd B hl) (hB : B ≤ 1000000000) (hn : ds ≠ []) (hn2 : ds.length ≤ 1000000) :
    ∃ d hl', m_l_of [.lst hl, .val (.tup ds)] = .ok (.val d) [.lst hl', .val (.tup ds)] ∧ d ∈ ds ∧ Hd (B + 1) hl' := by
  have hp : 0 < ds.length := List.length_pos_iff.mpr hn
  obtain ⟨i, hl', e, i0, i1, h'⟩ := take_spec (n := (ds.length : Int)) h hB (by omega) (by omega)
  obtain ⟨a, e2, ha⟩ := atI_in (l := ds) i0 i1
  refine ⟨a, hl', ?_, ha, h'⟩
  simp [m_l_of, b_l_of, f_l_of, e, e2]
end Kl

namespace Kl
open PySem L2 Dl
theorem odd_i {B i : Int} {hl : List O} (h : Hd B hl) (hB : B ≤ 1000000000) (hi : i.natAbs < 10 ^ 10) : ∃ d hl', m_l_odd [.lst hl, .val (.int i)] = .ok (.val d) [.lst hl', .val (.int i)] ∧ Th d ∧ Hd (B + 1) hl' := by
  obtain ⟨x, g2, e2, x1, x2, k2⟩ := odd_spec (b := 10 ^ 10) (k := 20) (n := 0) (b' := 10 ^ 15) (thing := .int i) h (by omega) hi (by omega) (by omega) (by omega) (by omega)
  exact ⟨x, g2, e2, th_of x1 (show szB x ≤ 5000 by have : szB (.int i) ≤ 100 := by simp [szB]
                                                   omega) (by omega) (by omega) (by omega) (by omega), k2⟩
end Kl

namespace Kl
open PySem L2 Dl
/-! ### cells by number; columns -/
theorem is_integer_spec (d : D) (lo hi : Int) : m_is_integer [.val d, .val (.int lo), .val (.int hi)] = .ok (.val (.bl (isI lo hi d))) [.val d, .val (.int lo), .val (.int hi)] := by
  cases d with
  | int i =>
    by_cases h : lo ≤ i
    · simp [m_is_integer, b_is_integer, f_is_integer, isi_int, isi_bool, isI, notF, h]
    · simp [m_is_integer, b_is_integer, f_is_integer, isi_int, isi_bool, isI, notF, h]
  | _ => simp [m_is_integer, b_is_integer, f_is_integer, isi_int, isi_bool, isI, notF]
end Kl

namespace Kl
open PySem L2 Dl
section
variable {w : Int} {cs : List Cl}
end
end Kl

namespace Kl
open PySem L2 Dl
/-! ### chain_sums, least_width -/
section
variable {w low high : Int} {cs : List Cl} {s0 s3 s6 s7 s8 s9 s10 : Option O}
def upTo (cs : List Cl) (low high : Int) (j : Int) : Int := if j < high then lp cs low j else 0
theorem chain_turn (h0 : 0 ≤ low) (h1 : low < high) (h2 : high ≤ w) (hw : w ≤ 1000) (hl : cs.length ≤ 1000) (hc : ∀ c ∈ cs, OkC w c) :
    ∃ s7', lb_chain_sums_3 [s0, some (.val (.int w)), some (.val (.tup (cs.map cellD))), s3, some (.val (.int low)), some (.lst (io (fnl (w + 1).toNat (upTo cs low high)))), some (.val (.int high)), s7, s8, s9, s10]
      = .ok .nx [s0, some (.val (.int w)), some (.val (.tup (cs.map cellD))), s3, some (.val (.int low)), some (.lst (io (fnl (w + 1).toNat (upTo cs low (high + 1))))), some (.val (.int high)), s7', none, none, none] := by
  have hn : ((w + 1).toNat : Int) = w + 1 := by omega
  have k1 : co_chain_sums_1 [s0, some (.val (.int w)), some (.val (.tup (cs.map cellD))), s3, some (.val (.int low)), some (.lst (io (fnl (w + 1).toNat (upTo cs low high)))), some (.val (.int high)), s7, s8, s9, s10] =
      .ok (.lst ((cs.filter fun c => decide (c.2.1 = high) && decide (low ≤ c.1)).map fun c => .val (.int (lp cs low c.1 + c.2.2)))) [s0, some (.val (.int w)), some (.val (.tup (cs.map cellD))), s3, some (.val (.int low)), some (.lst (io (fnl (w + 1).toNat (upTo cs low high)))), some (.val (.int high)), s7, none, none, none] := by
    refine comp_F cellD (fun c => decide (c.2.1 = high) && decide (low ≤ c.1)) (fun c => O.val (.int (lp cs low c.1 + c.2.2))) cs (by simp) rfl (by omega) fun x hx => ?_
    obtain ⟨b, e, n⟩ := x
    obtain ⟨q1, q2, q3⟩ := hc _ hx
    dsimp only at q1 q2 q3
    have a1 := fnl_ato (n := (w + 1).toNat) (S := upTo cs low high) q1 (by omega)
    generalize fnl (w + 1).toNat (upTo cs low high) = L at *
    by_cases z : e = high
    · subst z
      have a2 : upTo cs low e b = lp cs low b := if_pos q2
      by_cases z2 : low ≤ b
      · simp [lc_chain_sums_1, le_chain_sums_2, cellD, z2, a1, a2]
      · simp [lc_chain_sums_1, le_chain_sums_2, cellD, z2]
    · simp [lc_chain_sums_1, le_chain_sums_2, cellD, z]
  have eL : ((cs.filter fun c => decide (c.2.1 = high) && decide (low ≤ c.1)).map fun c => O.val (.int (lp cs low c.1 + c.2.2))) = io ((cs.filter fun c => decide (c.2.1 = high) && decide (low ≤ c.1)).map fun c => lp cs low c.1 + c.2.2) := by simp [io]
  rw [eL] at k1
  have hrec := lp_rec cs low high (by omega) fun c h => ⟨(hc c h).1, (hc c h).2.1⟩
  generalize hL : ((cs.filter fun c => decide (c.2.1 = high) && decide (low ≤ c.1)).map fun c => lp cs low c.1 + c.2.2) = L at *
  have hLl : L.length ≤ 1000 := by rw [← hL, List.length_map]; exact Nat.le_trans (List.length_filter_le _ _) hl
  have a1 := fnl_ato (n := (w + 1).toNat) (S := upTo cs low high) (j := high - 1) (by omega) (by omega)
  have a1' : upTo cs low high (high - 1) = lp cs low (high - 1) := if_pos (by omega)
  rw [a1'] at a1
  have a2 := ixN_io (n := (w + 1).toNat) (j := high) (by omega) (by omega)
  have ev := maxD_fold L (lp cs low (high - 1))
  rw [← hrec] at ev
  have hs : sumF (.lst [.int (lp cs low (high - 1))]) (.lst (L.map D.int)) = some (.lst (([D.int (lp cs low (high - 1))] ++ L.map D.int).map O.val)) := sum_ll _ _ (by simp; omega)
  have ef : frzs (([D.int (lp cs low (high - 1))] ++ L.map D.int).map O.val) = (lp cs low (high - 1) :: L).map D.int := frzs_map _
  have es : (fnl (w + 1).toNat (upTo cs low high)).set high.toNat (lp cs low high) = fnl (w + 1).toNat (upTo cs low (high + 1)) := by
    rw [fnl_set (by omega)]
    refine fnl_congr fun j j0 j1 => ?_
    unfold upTo
    by_cases e : j = high
    · rw [if_pos e, if_pos (by omega), e]
    · rw [if_neg e]
      by_cases e2 : j < high
      · rw [if_pos e2, if_pos (by omega)]
      · rw [if_neg e2, if_neg (by omega)]
  refine ⟨some (.val (.lst (L.map D.int))), ?_⟩
  rw [← es, ← io_set]
  have hll : (io (fnl (w + 1).toNat (upTo cs low high))).length = (w + 1).toNat := by simp
  generalize io (fnl (w + 1).toNat (upTo cs low high)) = R at *
  generalize ([D.int (lp cs low (high - 1))] ++ L.map D.int).map O.val = Z at hs ef
  generalize lp cs low (high - 1) = A at *
  generalize lp cs low high = A' at *
  simp only [List.map_cons] at ev ef
  simp [lb_chain_sums_3, k1, a1, hs, ef, ev, a2, hll]
theorem upTo_0 (h0 : 0 ≤ low) (h1 : low ≤ w) (hc : ∀ c ∈ cs, OkC w c) : List.replicate (w + 1).toNat (0 : Int) = fnl (w + 1).toNat (upTo cs low (low + 1)) := by
  rw [fnl_zero]
  refine fnl_congr fun j j0 j1 => ?_
  unfold upTo
  split
  · exact (lp_low hc j j0 (by omega) (by omega)).symm
  · rfl
theorem upTo_w : fnl (w + 1).toNat (upTo cs low (w + 1)) = fnl (w + 1).toNat (lp cs low) := fnl_congr fun j j0 j1 => if_pos (by omega)
/-- one row -/
theorem chain_row (h0 : 0 ≤ low) (h1 : low ≤ w) (hw1 : 1 ≤ w) (hw : w ≤ 1000) (hl : cs.length ≤ 1000) (hc : ∀ c ∈ cs, OkC w c) {fd : List D} (hf : fd.length < 2000) :
    ∃ s5' s6' s7' s8' s9' s10', lb_chain_sums_4 [s0, some (.val (.int w)), some (.val (.tup (cs.map cellD))), some (.lst (fd.map .val)), some (.val (.int low)), s3, s6, s7, s8, s9, s10]
      = .ok .nx [s0, some (.val (.int w)), some (.val (.tup (cs.map cellD))), some (.lst ((fd ++ [rowD w cs low]).map .val)), some (.val (.int low)), s5', s6', s7', s8', s9', s10'] := by
  have l1 : ∃ t6 t7 t8 t9 t10, fo_chain_sums_1 [s0, some (.val (.int w)), some (.val (.tup (cs.map cellD))), some (.lst (fd.map .val)), some (.val (.int low)), some (.lst (io (fnl (w + 1).toNat (upTo cs low (low + 1))))), s6, s7, s8, s9, s10] =
      .ok .nx [s0, some (.val (.int w)), some (.val (.tup (cs.map cellD))), some (.lst (fd.map .val)), some (.val (.int low)), some (.lst (io (fnl (w + 1).toNat (lp cs low)))), t6, t7, t8, t9, t10] := by
    obtain ⟨ρ', e, t6, t7, t8, t9, t10, rfl⟩ := for_R (i := (mRng (mCons (mOp2 (binF .Add) (mVar 4) (Dl.ret (.val (.int 1)))) (mCons (mOp2 (binF .Add) (mVar 1) (Dl.ret (.val (.int 1)))) (Dl.ret []))))) (t := (mSet ok_chain_sums 6)) (b := lb_chain_sums_3) (lo := low + 1) (n := (w + 1 - (low + 1)).toNat) (ρ := [s0, some (.val (.int w)), some (.val (.tup (cs.map cellD))), some (.lst (fd.map .val)), some (.val (.int low)), some (.lst (io (fnl (w + 1).toNat (upTo cs low (low + 1))))), s6, s7, s8, s9, s10])
      (fun k ρ => ∃ t6 t7 t8 t9 t10, ρ = [s0, some (.val (.int w)), some (.val (.tup (cs.map cellD))), some (.lst (fd.map .val)), some (.val (.int low)), some (.lst (io (fnl (w + 1).toNat (upTo cs low (low + 1 + (k : Int)))))), t6, t7, t8, t9, t10])
      (by simp [rng_2 (i := low + 1) (j := w + 1) (by omega) (by omega) (by omega) (by omega)]) ⟨_, _, _, _, _, by simp; exact ⟨rfl, rfl, rfl, rfl, rfl⟩⟩ fun k ρ hk ⟨t6, t7, t8, t9, t10, e⟩ => by
        subst e
        obtain ⟨s7', et⟩ := chain_turn (low := low) (high := low + 1 + (k : Int)) (w := w) (cs := cs) (s0 := s0) (s3 := some (.lst (fd.map .val))) (s7 := t7) (s8 := t8) (s9 := t9) (s10 := t10) h0 (by omega) (by omega) hw hl hc
        rw [show low + 1 + ((k + 1 : Nat) : Int) = low + 1 + (k : Int) + 1 by omega]
        generalize io (fnl (w + 1).toNat (upTo cs low (low + 1 + (k : Int) + 1))) = R at *
        generalize io (fnl (w + 1).toNat (upTo cs low (low + 1 + (k : Int)))) = R' at *
        generalize low + 1 + (k : Int) = j at *
        simp [et]
    refine ⟨t6, t7, t8, t9, t10, ?_⟩
    rw [show low + 1 + ((w + 1 - (low + 1)).toNat : Int) = w + 1 by omega, upTo_w] at e
    exact e
  obtain ⟨t6, t7, t8, t9, t10, l1⟩ := l1
  have r0 := rep0 (w + 1) (by omega) (by omega)
  rw [upTo_0 h0 h1 hc] at r0
  refine ⟨some (.val (rowD w cs low)), t6, t7, t8, t9, t10, ?_⟩
  have e1 : frzs (io (fnl (w + 1).toNat (lp cs low))) = (fnl (w + 1).toNat (lp cs low)).map D.int := frzs_io _
  generalize io (fnl (w + 1).toNat (upTo cs low (low + 1))) = R at *
  generalize io (fnl (w + 1).toNat (lp cs low)) = R' at *
  simp [lb_chain_sums_4, r0, l1, e1, show fd.length < 1000000 by omega, rowD]
theorem chain_sums_spec (hw1 : 1 ≤ w) (hw : w ≤ 1000) (hl : cs.length ≤ 1000) (hc : ∀ c ∈ cs, OkC w c) : m_chain_sums [.val (tabD w cs)] = .ok (.val (.lst (rowsD w cs))) [.val (tabD w cs)] := by
  have l1 : ∃ t4 t5 t6 t7 t8 t9 t10, fo_chain_sums_2 [some (.val (tabD w cs)), some (.val (.int w)), some (.val (.tup (cs.map cellD))), some (.lst []), none, none, none, none, none, none, none] =
      .ok .nx [some (.val (tabD w cs)), some (.val (.int w)), some (.val (.tup (cs.map cellD))), some (.lst ((rowsD w cs).map .val)), t4, t5, t6, t7, t8, t9, t10] := by
    obtain ⟨ρ', e, t4, t5, t6, t7, t8, t9, t10, rfl⟩ := for_R (i := (mRng (mCons (mOp2 (binF .Add) (mVar 1) (Dl.ret (.val (.int 1)))) (Dl.ret [])))) (t := (mSet ok_chain_sums 4)) (b := lb_chain_sums_4) (lo := 0) (n := (w + 1).toNat) (ρ := [some (.val (tabD w cs)), some (.val (.int w)), some (.val (.tup (cs.map cellD))), some (.lst []), none, none, none, none, none, none, none])
      (fun k ρ => ∃ t4 t5 t6 t7 t8 t9 t10, ρ = [some (.val (tabD w cs)), some (.val (.int w)), some (.val (.tup (cs.map cellD))), some (.lst (((List.range k).map fun (i : Nat) => rowD w cs (i : Int)).map .val)), t4, t5, t6, t7, t8, t9, t10])
      (by simp [rng_1 (n := w + 1) (by omega) (by omega)]) ⟨_, _, _, _, _, _, _, rfl⟩ fun k ρ hk ⟨t4, t5, t6, t7, t8, t9, t10, e⟩ => by
        subst e
        obtain ⟨u5, u6, u7, u8, u9, u10, et⟩ := chain_row (low := 0 + (k : Int)) (w := w) (cs := cs) (s0 := some (.val (tabD w cs))) (s3 := t5) (s6 := t6) (s7 := t7) (s8 := t8) (s9 := t9) (s10 := t10) (fd := (List.range k).map fun (i : Nat) => rowD w cs (i : Int)) (by omega) (by omega) hw1 hw hl hc (by simp; omega)
        rw [List.range_succ, List.map_append, List.map_cons, List.map_nil]
        rw [show rowD w cs (0 + (k : Int)) = rowD w cs (k : Int) by rw [Int.zero_add]] at et
        generalize ((List.range k).map fun (i : Nat) => rowD w cs (i : Int)) = L at *
        generalize 0 + (k : Int) = j at *
        simp at et
        simp [et]
    exact ⟨t4, t5, t6, t7, t8, t9, t10, e⟩
  obtain ⟨t4, t5, t6, t7, t8, t9, t10, l1⟩ := l1
  generalize rowsD w cs = L at *
  simp only [tabD] at *
  simp [m_chain_sums, b_chain_sums, f_chain_sums, l1]
theorem least_width_spec (hw1 : 1 ≤ w) (hw : w ≤ 1000) (hl : cs.length ≤ 1000) (hc : ∀ c ∈ cs, OkC w c) : m_least_width [.val (tabD w cs)] = .ok (.val (.int (lp cs 0 w))) [.val (tabD w cs)] := by
  have e := chain_sums_spec hw1 hw hl hc
  have a1 := rowsD_at (w := w) (cs := cs) (i := 0) (by omega) (by omega)
  have a2 := rowD_at (w := w) (cs := cs) (i := 0) (j := w) (by omega) (by omega)
  generalize rowsD w cs = L at *
  generalize rowD w cs 0 = R at *
  simp only [tabD] at *
  simp [m_least_width, b_least_width, f_least_width, e, a1, a2]
end
end Kl

namespace Kl
open PySem L2 Dl
/-! ### the law's own sums -/
section
variable {w low : Int} {cs : List Cl} {R : Int → Int} {s0 s3 s4 s5 s6 s7 : Option O}
theorem lsum_edge {k : Int} (h1 : 1 ≤ k) (h2 : k ≤ w) : lb_l_sums_1 [s0, some (.val (.int low)), some (.lst (io (fnl (w + 1).toNat R))), s3, s4, s5, s6, some (.val (.int k))] =
    .ok .nx [s0, some (.val (.int low)), some (.lst (io (fnl (w + 1).toNat (stE R k)))), s3, s4, s5, s6, some (.val (.int k))] := by
  have a1 := fnl_ato (n := (w + 1).toNat) (S := R) (j := k - 1) (by omega) (by omega)
  have a2 := fnl_ato (n := (w + 1).toNat) (S := R) (j := k) (by omega) (by omega)
  have a3 := ixN_io (n := (w + 1).toNat) (j := k) (by omega) (by omega)
  have es : fnl (w + 1).toNat (stE R k) = (fnl (w + 1).toNat R).set k.toNat (mx (R k) (R (k - 1))) := (fnl_set (by omega)).symm
  rw [es, ← io_set]
  have hl : (io (fnl (w + 1).toNat R)).length = (w + 1).toNat := by simp
  generalize io (fnl (w + 1).toNat R) = L at *
  simp [lb_l_sums_1, a1, a2, a3, hl, mx]
theorem lsum_cell {c : Cl} (hc : OkC w c) : lb_l_sums_2 [s0, some (.val (.int low)), some (.lst (io (fnl (w + 1).toNat R))), s3, some (.val (.int c.1)), some (.val (.int c.2.1)), some (.val (.int c.2.2)), s7] =
    .ok .nx [s0, some (.val (.int low)), some (.lst (io (fnl (w + 1).toNat (stC low R c)))), s3, some (.val (.int c.1)), some (.val (.int c.2.1)), some (.val (.int c.2.2)), s7] := by
  obtain ⟨h1, h2, h3⟩ := hc
  by_cases hl : low ≤ c.1
  · have a1 := fnl_ato (n := (w + 1).toNat) (S := R) (j := c.1) (by omega) (by omega)
    have a2 := fnl_ato (n := (w + 1).toNat) (S := R) (j := c.2.1) (by omega) (by omega)
    have a3 := ixN_io (n := (w + 1).toNat) (j := c.2.1) (by omega) (by omega)
    have es : fnl (w + 1).toNat (stC low R c) = (fnl (w + 1).toNat R).set c.2.1.toNat (mx (R c.2.1) (R c.1 + c.2.2)) := by
      rw [fnl_set (by omega)]
      unfold stC
      rw [if_pos hl]
    rw [es, ← io_set]
    have hll : (io (fnl (w + 1).toNat R)).length = (w + 1).toNat := by simp
    generalize io (fnl (w + 1).toNat R) = L at *
    simp [lb_l_sums_2, a1, a2, a3, hll, hl, mx]
  · have es : stC low R c = R := if_neg hl
    rw [es]
    generalize io (fnl (w + 1).toNat R) = L at *
    simp [lb_l_sums_2, hl]
theorem lsum_cells (hc : ∀ c ∈ cs, OkC w c) : ∃ t4 t5 t6, fo_l_sums_2 [some (.val (tabD w cs)), some (.val (.int low)), some (.lst (io (fnl (w + 1).toNat R))), s3, s4, s5, s6, s7] =
    .ok .nx [some (.val (tabD w cs)), some (.val (.int low)), some (.lst (io (fnl (w + 1).toNat (paC low cs R)))), s3, t4, t5, t6, s7] := by
  obtain ⟨ρ', e, t4, t5, t6, rfl⟩ := for_P (i := (mSeqI (mIxS 0 (Dl.ret (.val (.int 1)))))) (t := (mGTup 3 (mGCons (mSet ok_l_sums 4) (mGCons (mSet ok_l_sums 5) (mGCons (mSet ok_l_sums 6) mGNil))))) (b := lb_l_sums_2) (ρ := [some (.val (tabD w cs)), some (.val (.int low)), some (.lst (io (fnl (w + 1).toNat R))), s3, s4, s5, s6, s7]) cellD cs
    (fun pre ρ => ∃ t4 t5 t6, ρ = [some (.val (tabD w cs)), some (.val (.int low)), some (.lst (io (fnl (w + 1).toNat (paC low pre R)))), s3, t4, t5, t6, s7]) (by simp [tabD]) ⟨_, _, _, rfl⟩ fun pre x post ρ hx ⟨t4, t5, t6, e⟩ => by
      subst e
      have q := lsum_cell (w := w) (low := low) (R := paC low pre R) (s0 := some (.val (tabD w cs))) (s3 := s3) (s7 := s7) (hc x (by rw [hx]; simp))
      have e2 : paC low (pre ++ [x]) R = stC low (paC low pre R) x := by
        unfold paC
        rw [List.foldl_append]
        rfl
      rw [e2]
      generalize io (fnl (w + 1).toNat (stC low (paC low pre R) x)) = L1 at *
      generalize io (fnl (w + 1).toNat (paC low pre R)) = L2 at *
      simp [cellD, q]
  exact ⟨t4, t5, t6, e⟩
theorem lsum_edges (h0 : 0 ≤ low) (h1 : low ≤ w) (hw : w ≤ 1000) : ∃ t7, fo_l_sums_1 [some (.val (tabD w cs)), some (.val (.int low)), some (.lst (io (fnl (w + 1).toNat R))), s3, s4, s5, s6, s7] =
    .ok .nx [some (.val (tabD w cs)), some (.val (.int low)), some (.lst (io (fnl (w + 1).toNat (paE low (w - low).toNat R)))), s3, s4, s5, s6, t7] := by
  obtain ⟨ρ', e, t7, rfl⟩ := for_R (i := (mRng (mCons (mOp2 (binF .Add) (mVar 1) (Dl.ret (.val (.int 1)))) (mCons (mOp2 (binF .Add) (mIxS 0 (Dl.ret (.val (.int 0)))) (Dl.ret (.val (.int 1)))) (Dl.ret []))))) (t := (mSet ok_l_sums 7)) (b := lb_l_sums_1) (lo := low + 1) (n := (w - low).toNat) (ρ := [some (.val (tabD w cs)), some (.val (.int low)), some (.lst (io (fnl (w + 1).toNat R))), s3, s4, s5, s6, s7])
    (fun k ρ => ∃ t7, ρ = [some (.val (tabD w cs)), some (.val (.int low)), some (.lst (io (fnl (w + 1).toNat (paE low k R)))), s3, s4, s5, s6, t7])
    (by simp [tabD, rng_2 (i := low + 1) (j := w + 1) (by omega) (by omega) (by omega) (by omega), show w + 1 - (low + 1) = w - low by omega]) ⟨_, rfl⟩ fun k ρ hk ⟨t7, e⟩ => by
      subst e
      have q := lsum_edge (w := w) (low := low) (R := paE low k R) (s0 := some (.val (tabD w cs))) (s3 := s3) (s4 := s4) (s5 := s5) (s6 := s6) (k := low + 1 + (k : Int)) (by omega) (by omega)
      have e2 : paE low (k + 1) R = stE (paE low k R) (low + 1 + (k : Int)) := by
        unfold paE
        rw [List.range_succ, List.foldl_append]
        rfl
      rw [e2]
      generalize io (fnl (w + 1).toNat (stE (paE low k R) (low + 1 + (k : Int)))) = L1 at *
      generalize io (fnl (w + 1).toNat (paE low k R)) = L2 at *
      generalize low + 1 + (k : Int) = j at *
      simp [q]
  exact ⟨t7, e⟩
theorem lsums_spec (h0 : 0 ≤ low) (h1 : low ≤ w) (hw1 : 1 ≤ w) (hw : w ≤ 1000) (hc : ∀ c ∈ cs, OkC w c) : m_l_sums [.val (tabD w cs), .val (.int low)] = .ok (.val (rowD w cs low)) [.val (tabD w cs), .val (.int low)] := by
  have l1 : ∃ t3 t4 t5 t6 t7, fo_l_sums_3 [some (.val (tabD w cs)), some (.val (.int low)), some (.lst (io (List.replicate (w + 1).toNat 0))), none, none, none, none, none] =
      .ok .nx [some (.val (tabD w cs)), some (.val (.int low)), some (.lst (io (fnl (w + 1).toNat (lp cs low)))), t3, t4, t5, t6, t7] := by
    rw [fnl_zero]
    obtain ⟨ρ', e, t3, t4, t5, t6, t7, rfl⟩ := for_R (i := (mRng (mCons (mIxS 0 (Dl.ret (.val (.int 0)))) (Dl.ret [])))) (t := (mSet ok_l_sums 3)) (b := lb_l_sums_3) (lo := 0) (n := w.toNat) (ρ := [some (.val (tabD w cs)), some (.val (.int low)), some (.lst (io (fnl (w + 1).toNat fun _ => 0))), none, none, none, none, none])
      (fun k ρ => ∃ t3 t4 t5 t6 t7, ρ = [some (.val (tabD w cs)), some (.val (.int low)), some (.lst (io (fnl (w + 1).toNat (turns low w cs k)))), t3, t4, t5, t6, t7])
      (by simp [tabD, rng_1 (n := w) (by omega) (by omega)]) ⟨_, _, _, _, _, rfl⟩ fun k ρ hk ⟨t3, t4, t5, t6, t7, e⟩ => by
        subst e
        obtain ⟨u4, u5, u6, q1⟩ := lsum_cells (w := w) (low := low) (R := turns low w cs k) (s3 := some (.val (.int (0 + (k : Int))))) (s4 := t4) (s5 := t5) (s6 := t6) (s7 := t7) hc
        obtain ⟨u7, q2⟩ := lsum_edges (w := w) (low := low) (cs := cs) (R := paC low cs (turns low w cs k)) (s3 := some (.val (.int (0 + (k : Int))))) (s4 := u4) (s5 := u5) (s6 := u6) (s7 := t7) h0 h1 hw
        have q3 : lb_l_sums_3 [some (.val (tabD w cs)), some (.val (.int low)), some (.lst (io (fnl (w + 1).toNat (turns low w cs k)))), some (.val (.int (0 + (k : Int)))), t4, t5, t6, t7] =
            .ok .nx [some (.val (tabD w cs)), some (.val (.int low)), some (.lst (io (fnl (w + 1).toNat (turns low w cs (k + 1))))), some (.val (.int (0 + (k : Int)))), u4, u5, u6, u7] := by
          have e2 : turns low w cs (k + 1) = paE low (w - low).toNat (paC low cs (turns low w cs k)) := rfl
          rw [e2]
          generalize 0 + (k : Int) = j at *
          simp [lb_l_sums_3, q1, q2]
        generalize io (fnl (w + 1).toNat (turns low w cs (k + 1))) = L1 at *
        generalize io (fnl (w + 1).toNat (turns low w cs k)) = L2 at *
        generalize 0 + (k : Int) = j at *
        simp [q3]
    rw [turns_w h0 h1 hc] at e
    exact ⟨t3, t4, t5, t6, t7, e⟩
  obtain ⟨t3, t4, t5, t6, t7, l1⟩ := l1
  have r0 := rep0 (w + 1) (by omega) (by omega)
  have e1 : frzs (io (fnl (w + 1).toNat (lp cs low))) = (fnl (w + 1).toNat (lp cs low)).map D.int := frzs_io _
  unfold rowD
  generalize io (fnl (w + 1).toNat (lp cs low)) = L1 at *
  generalize io (List.replicate (w + 1).toNat 0) = L2 at *
  simp only [tabD] at *
  simp [m_l_sums, b_l_sums, f_l_sums, r0, l1, e1]
theorem lleast_spec (hw1 : 1 ≤ w) (hw : w ≤ 1000) (hc : ∀ c ∈ cs, OkC w c) : m_l_least [.val (tabD w cs)] = .ok (.val (.int (lp cs 0 w))) [.val (tabD w cs)] := by
  have e := lsums_spec (low := 0) (by omega) (by omega) hw1 hw hc
  have a2 := rowD_at (w := w) (cs := cs) (i := 0) (j := w) (by omega) (by omega)
  generalize rowD w cs 0 = R at *
  simp only [tabD] at *
  simp [m_l_least, b_l_least, f_l_least, e, a2]
end
end Kl

namespace Dl
open PySem L2
/-! ### lists by a function of the place -/
end Dl
namespace Kl
open PySem L2 Dl
theorem loads_spec {w : Int} {cs : List Cl} (hw : 1 ≤ w) (hw2 : w ≤ 1000) (hc : CsOk w cs) (ns : List Int) :
    m_loads [.val (tabD w cs), .lst (io ns)] = .ok (.val (.lst ((fnL w.toNat (ldS (cs.zip ns))).map D.int))) [.val (tabD w cs), .val (.lst (ns.map D.int))] := by
  obtain ⟨ρ', el, s3, s4, s5, s6, s7, rfl⟩ := loop_ok (t := mGTup 2 (mGCons (mGTup 3 (mGCons (mSet ok_loads 3) (mGCons (mSet ok_loads 4) (mGCons (mSet ok_loads 5) mGNil)))) (mGCons (mSet ok_loads 6) mGNil))) (b := lb_loads_2)
    (fun k ρ => ∃ s3 s4 s5 s6 s7, ρ = [some (.val (tabD w cs)), some (.val (.lst (ns.map D.int))), some (.lst (io (fnL w.toNat (ldS ((cs.zip ns).take k))))), s3, s4, s5, s6, s7]) ((cs.zip ns).map fun p => .tup [cellD p.1, .int p.2]) 0
    [some (.val (tabD w cs)), some (.val (.lst (ns.map D.int))), some (.lst (io (fnL w.toNat (fun _ => 0)))), none, none, none, none, none]
    ⟨none, none, none, none, none, rfl⟩ fun i d ρ hd hI => by
      obtain ⟨⟨⟨b, e, n⟩, m⟩, hp, rfl⟩ := getMap hd
      obtain ⟨s3, s4, s5, s6, s7, rfl⟩ := hI
      have hm : (b, e, n) ∈ cs := (List.of_mem_zip (List.mem_of_getElem? hp)).1
      obtain ⟨c1, c2, c3, c4, c5⟩ := hc _ hm
      dsimp only at c1 c2 c3
      obtain ⟨s', es⟩ := add_loop (w := w.toNat) (S := ldS ((cs.zip ns).take (0 + i))) (b := b) (e := e) (n := m) c1 (by omega) (mSet ok_loads 7) lb_loads_1
        (fun r s => [some (.val (tabD w cs)), some (.val (.lst (ns.map D.int))), some (.lst (io r)), some (.val (.int b)), some (.val (.int e)), some (.val (.int n)), some (.val (.int m)), s]) (s := s7) (fun r c s => by simp) (fun r c h0 h1 h2 => by
          simp [lb_loads_1, atI_io h0 h1, ixN_io h0 h1, io_set])
      refine ⟨[some (.val (tabD w cs)), some (.val (.lst (ns.map D.int))), some (.lst (io (fnL w.toNat (ldS ((cs.zip ns).take (0 + i)))))), some (.val (.int b)), some (.val (.int e)), some (.val (.int n)), some (.val (.int m)), s7], .nx, _, by simp [cellD], ?_, .inl rfl, some (.val (.int b)), some (.val (.int e)), some (.val (.int n)), some (.val (.int m)), s', rfl⟩
      simp [lb_loads_2, rng_2 (show -1000000000 ≤ b by omega) (show b ≤ 1000000000 by omega) (show -1000000000 ≤ e by omega) (show e ≤ 1000000000 by omega)]
      simp only [Nat.zero_add] at es
      rw [es]
      simp only [Out.ok.injEq, true_and, List.cons.injEq, Option.some.injEq, O.lst.injEq, and_true]
      congr 1
      refine fnL_congr fun j hj => ?_
      rw [List.take_add_one, hp]
      exact (ldS_app ((cs.zip ns).take i) ((b, e, n), m) j).symm
  rw [Nat.zero_add, List.length_map, List.take_length] at el
  have hz := zipL_ints cs ns
  have z0 : binF .Mult (.lst [.int 0]) (.int w) = some (.lst (io (fnL w.toNat (fun _ => 0)))) := by rw [rep0 w (by omega) (by omega), fnL_zero]
  have zz : zipD [.tup (cs.map cellD), .lst (ns.map D.int)] = some ((cs.zip ns).map fun p => .tup [cellD p.1, .int p.2]) := by
    show some (zipL (cs.map cellD) (ns.map D.int)) = _
    rw [hz]
  simp only [tabD] at el ⊢
  simp [m_loads, b_loads, f_loads, z0, zz, el]
theorem are_cells_spec {w : Int} {cs : List Cl} (d : D) (hd : ∀ l, d = .tup l → l.length ≤ 1000000) :
    m_are_cells [.val (tabD w cs), .val d] = .ok (.val (.bl (areC cs.length d))) [.val (tabD w cs), .val d] := by
  cases d with
  | tup l =>
    have hl := hd l rfl
    have c1 := comps_map (vs := [2]) (t := mSet (inOf [2]) 2) (c := Dl.ret true) (e := le_are_cells_2) (ρ := [some (.val (tabD w cs)), some (.val (.tup l)), none, none]) (fun d => d) (fun d => O.val (.bl (isI 0 ((cs.length : Int) - 1) d))) l [] fun x hx => by
      refine ⟨[some (.val (tabD w cs)), some (.val (.tup l)), some (.val x), none], [some (.val (tabD w cs)), some (.val (.tup l)), some (.val x), none], [some (.val (tabD w cs)), some (.val (.tup l)), some (.val x), none], by simp, rfl, ?_, rfl⟩
      have := is_integer_spec x 0 ((cs.length : Int) - 1)
      simp [le_are_cells_2, tabD, this]
    rw [List.map_id'] at c1
    have i1 : (mSeqI (mVar 1)) [some (.val (tabD w cs)), some (.val (.tup l)), none, none] = .ok l [some (.val (tabD w cs)), some (.val (.tup l)), none, none] := by simp
    have k1 := comp_ok i1 hl c1
    rw [List.nil_append] at k1
    have fz := frzs_vals (fun d => D.bl (isI 0 ((cs.length : Int) - 1) d)) l
    have al := allD_bls (l.map (isI 0 ((cs.length : Int) - 1)))
    rw [List.map_map, List.all_map] at al
    have al : allD (.lst (l.map fun d => D.bl (isI 0 ((cs.length : Int) - 1) d))) = some (.bl (l.all (isI 0 ((cs.length : Int) - 1)))) := al
    by_cases ha : l.all (isI 0 ((cs.length : Int) - 1)) = true
    · rw [ha] at al
      obtain ⟨ns, rfl, hn⟩ := isI_all ha
      have c2 := comps_map (vs := [2, 3]) (t := mGTup 2 (mGCons (mSet (inOf [2, 3]) 2) (mGCons (mSet (inOf [2, 3]) 3) mGNil))) (c := Dl.ret true) (e := le_are_cells_1) (ρ := [some (.val (tabD w cs)), some (.val (.tup (ns.map D.int))), none, none]) (fun p : Int × Int => .tup [.int p.1, .int p.2]) (fun p => O.val (.bl (decide (p.1 < p.2)))) (ns.zip (ns.drop 1)) [] fun x hx => by
        refine ⟨[some (.val (tabD w cs)), some (.val (.tup (ns.map D.int))), some (.val (.int x.1)), some (.val (.int x.2))], [some (.val (tabD w cs)), some (.val (.tup (ns.map D.int))), some (.val (.int x.1)), some (.val (.int x.2))], [some (.val (tabD w cs)), some (.val (.tup (ns.map D.int))), some (.val (.int x.1)), some (.val (.int x.2))], by simp, rfl, by simp [le_are_cells_1], rfl⟩
      rw [← zipL_ii, List.map_drop, List.nil_append] at c2
      have i2 : (mZip (mCons (mVar 1) (mCons (mSlcS 1 (mPart (Dl.ret (.val (.int 1)))) (Dl.ret none)) (Dl.ret [])))) [some (.val (tabD w cs)), some (.val (.tup (ns.map D.int))), none, none] = .ok (zipL (ns.map D.int) ((ns.map D.int).drop 1)) [some (.val (tabD w cs)), some (.val (.tup (ns.map D.int))), none, none] := by
        simp [slF, cut_1, zipD]
      have k2 := comp_ok i2 (by rw [← List.map_drop, zipL_ii]; simp at hl ⊢; omega) c2
      have fz2 := frzs_vals (fun p : Int × Int => D.bl (decide (p.1 < p.2))) (ns.zip (ns.drop 1))
      have al2 := allD_bls ((ns.zip (ns.drop 1)).map fun p => decide (p.1 < p.2))
      rw [List.map_map, List.all_map] at al2
      have al2 : allD (.lst ((ns.zip (ns.drop 1)).map fun p => D.bl (decide (p.1 < p.2)))) = some (.bl (ascB ns)) := by
        rw [← ascB_zip]; exact al2
      have ar : areC cs.length (.tup (ns.map D.int)) = ascB ns := by
        simp only [areC, ha, Bool.true_and, ints_of2]
      rw [ar]
      rw [← fz] at al
      rw [← fz2] at al2
      generalize (List.map (fun d => O.val (D.bl (isI 0 ((cs.length : Int) - 1) d))) (ns.map D.int)) = os1 at k1 al
      generalize (List.map (fun p : Int × Int => O.val (D.bl (decide (p.fst < p.snd)))) (ns.zip (ns.drop 1))) = os2 at k2 al2
      simp [m_are_cells, b_are_cells, f_are_cells, isi_tup, k1, al, k2, al2]
    · have ha : l.all (isI 0 ((cs.length : Int) - 1)) = false := by simpa using ha
      have ar : areC cs.length (.tup l) = false := by simp only [areC, ha, Bool.false_and]
      rw [ha] at al
      rw [ar]
      simp [m_are_cells, b_are_cells, f_are_cells, isi_tup, k1, fz, al]
  | _ => simp [m_are_cells, b_are_cells, f_are_cells, isi_tup, areC]
theorem counts_in_spec {w : Int} {cs : List Cl} (ns : List Int) (hl : cs.length ≤ 1000) :
    m_counts_in [.val (tabD w cs), .val (.tup (ns.map D.int))] = .ok (.lst (io (cntF cs.length ns))) [.val (tabD w cs), .val (.tup (ns.map D.int))] := by
  have c1 := comps_map (vs := [2]) (t := mSet (inOf [2]) 2) (c := Dl.ret true) (e := le_counts_in_1) (ρ := [some (.val (tabD w cs)), some (.val (.tup (ns.map D.int))), none]) (fun i : Nat => .int (0 + (i : Int))) (fun i => O.val (.int (if ns.any (· == (0 + (i : Int))) = true then 1 else 0))) (List.range cs.length) [] fun x hx => by
    refine ⟨[some (.val (tabD w cs)), some (.val (.tup (ns.map D.int))), some (.val (.int (0 + (x : Int))))], [some (.val (tabD w cs)), some (.val (.tup (ns.map D.int))), some (.val (.int (0 + (x : Int))))], [some (.val (tabD w cs)), some (.val (.tup (ns.map D.int))), some (.val (.int (0 + (x : Int))))], by simp, rfl, ?_, rfl⟩
    have e := inF_ints (0 + (x : Int)) ns
    generalize 0 + (x : Int) = y at *
    generalize ns.any (· == y) = q at *
    simp [le_counts_in_1, e]
  have i1 : (mRng (mCons (mLook1 lenD (.ev (mIxS 0 (Dl.ret (.val (.int 1)))))) (Dl.ret []))) [some (.val (tabD w cs)), some (.val (.tup (ns.map D.int))), none] = .ok (rngL 0 cs.length) [some (.val (tabD w cs)), some (.val (.tup (ns.map D.int))), none] := by
    simp [tabD, rng_1 (show (-1000000000 : Int) ≤ (cs.length : Int) by omega) (show (cs.length : Int) ≤ 1000000000 by omega)]
  have k1 := comp_ok i1 (by rw [rngL_len]; omega) c1
  have e2 : [] ++ List.map (fun i : Nat => O.val (.int (if ns.any (· == (0 + (i : Int))) = true then 1 else 0))) (List.range cs.length) = io (cntF cs.length ns) := by
    simp [io, cntF]
  rw [e2] at k1
  simp [m_counts_in, b_counts_in, f_counts_in, k1]
end Kl

namespace Kl
open PySem L2 Dl
theorem weights_spec {w : Int} {cs : List Cl} (hw : 1 ≤ w) (hw2 : w ≤ 1000) (hc : CsOk w cs) (ns : List Int) :
    m_l_weights [.val (tabD w cs), .lst (io ns)] = .ok (.val (.lst ((fnL w.toNat (ldS (cs.zip ns))).map D.int))) [.val (tabD w cs), .val (.lst (ns.map D.int))] := by
  obtain ⟨ρ', el, s3, s4, s5, rfl⟩ := loop_ok (t := mGTup 2 (mGCons (mSet ok_l_weights 3) (mGCons (mSet ok_l_weights 4) mGNil))) (b := lb_l_weights_2)
    (fun k ρ => ∃ s3 s4 s5, ρ = [some (.val (tabD w cs)), some (.val (.lst (ns.map D.int))), some (.lst (io (fnL w.toNat (ldS ((cs.zip ns).take k))))), s3, s4, s5]) ((cs.zip ns).map fun p => .tup [cellD p.1, .int p.2]) 0
    [some (.val (tabD w cs)), some (.val (.lst (ns.map D.int))), some (.lst (io (fnL w.toNat (fun _ => 0)))), none, none, none]
    ⟨none, none, none, rfl⟩ fun i d ρ hd hI => by
      obtain ⟨⟨⟨b, e, n⟩, m⟩, hp, rfl⟩ := getMap hd
      obtain ⟨s3, s4, s5, rfl⟩ := hI
      have hm : (b, e, n) ∈ cs := (List.of_mem_zip (List.mem_of_getElem? hp)).1
      obtain ⟨c1, c2, c3, c4, c5⟩ := hc _ hm
      dsimp only at c1 c2 c3
      obtain ⟨s', es⟩ := add_loop (w := w.toNat) (S := ldS ((cs.zip ns).take (0 + i))) (b := b) (e := e) (n := m) c1 (by omega) (mSet ok_l_weights 5) lb_l_weights_1
        (fun r s => [some (.val (tabD w cs)), some (.val (.lst (ns.map D.int))), some (.lst (io r)), some (.val (.tup [.int b, .int e, .int n])), some (.val (.int m)), s]) (s := s5) (fun r c s => by simp) (fun r c h0 h1 h2 => by
          simp [lb_l_weights_1, atI_io h0 h1, ixN_io h0 h1, io_set])
      refine ⟨[some (.val (tabD w cs)), some (.val (.lst (ns.map D.int))), some (.lst (io (fnL w.toNat (ldS ((cs.zip ns).take (0 + i)))))), some (.val (.tup [.int b, .int e, .int n])), some (.val (.int m)), s5], .nx, _, by simp [cellD], ?_, .inl rfl, some (.val (.tup [.int b, .int e, .int n])), some (.val (.int m)), s', rfl⟩
      simp [lb_l_weights_2, rng_2 (show -1000000000 ≤ b by omega) (show b ≤ 1000000000 by omega) (show -1000000000 ≤ e by omega) (show e ≤ 1000000000 by omega)]
      simp only [Nat.zero_add] at es
      rw [es]
      simp only [Out.ok.injEq, true_and, List.cons.injEq, Option.some.injEq, O.lst.injEq, and_true]
      congr 1
      refine fnL_congr fun j hj => ?_
      rw [List.take_add_one, hp]
      exact (ldS_app ((cs.zip ns).take i) ((b, e, n), m) j).symm
  rw [Nat.zero_add, List.length_map, List.take_length] at el
  have hz := zipL_ints cs ns
  have z0 : binF .Mult (.lst [.int 0]) (.int w) = some (.lst (io (fnL w.toNat (fun _ => 0)))) := by rw [rep0 w (by omega) (by omega), fnL_zero]
  have zz : zipD [.tup (cs.map cellD), .lst (ns.map D.int)] = some ((cs.zip ns).map fun p => .tup [cellD p.1, .int p.2]) := by
    show some (zipL (cs.map cellD) (ns.map D.int)) = _
    rw [hz]
  simp only [tabD] at el ⊢
  simp [m_l_weights, b_l_weights, f_l_weights, z0, zz, el]
end Kl

namespace Dl
open PySem L2
end Dl
namespace Kl
open PySem L2 Dl
theorem is_chain_spec {w : Int} {cs : List Cl} (hw : 1 ≤ w) (hw2 : w ≤ 1000) (hc : CsOk w cs) (hl : cs.length ≤ 1000) (d : D) (hd : ∀ l, d = .tup l → l.length ≤ 1000000) :
    m_is_chain [.val (tabD w cs), .val d] = .ok (.val (.bl (famB w cs 1 d))) [.val (tabD w cs), .val d] := by
  have e1 := are_cells_spec (w := w) (cs := cs) d hd
  cases ha : areC cs.length d with
  | false =>
    rw [ha] at e1
    have : famB w cs 1 d = false := by unfold famB; rw [ha, Bool.false_and]
    rw [this]
    simp [m_is_chain, b_is_chain, f_is_chain, e1]
  | true =>
    rw [ha] at e1
    obtain ⟨ns, rfl, hn, ho⟩ := areC_ints ha
    have e2 := counts_in_spec (w := w) (cs := cs) ns hl
    have e3 := loads_spec hw hw2 hc (cntF cs.length ns)
    obtain ⟨m, e4, hm⟩ := maxD_fn (w := w.toNat) (ldS (cs.zip (cntF cs.length ns))) (by omega)
    rw [← famB_eq hm ha]
    simp [m_is_chain, b_is_chain, f_is_chain, e1, e2, e3, e4]
theorem sum_of_spec {w : Int} {cs : List Cl} (ns : List Int) (hn : Nums cs.length ns) (hl : ns.length ≤ 1000000) :
    m_sum_of [.val (tabD w cs), .val (.tup (ns.map D.int))] = .ok (.val (.int (sumN cs ns))) [.val (tabD w cs), .val (.tup (ns.map D.int))] := by
  have c1 := comps_map (vs := [2]) (t := mSet (inOf [2]) 2) (c := Dl.ret true) (e := le_sum_of_1) (ρ := [some (.val (tabD w cs)), some (.val (.tup (ns.map D.int))), none]) (fun k : Int => .int k) (fun k => O.val (.int ((cs[k.toNat]?).getD (0, 0, 0)).2.2)) ns [] fun x hx => by
    obtain ⟨h1, h2⟩ := hn x hx
    obtain ⟨c, ec, hc, ec2⟩ := atI_cells (cs := cs) h1 h2
    refine ⟨[some (.val (tabD w cs)), some (.val (.tup (ns.map D.int))), some (.val (.int x))], [some (.val (tabD w cs)), some (.val (.tup (ns.map D.int))), some (.val (.int x))], [some (.val (tabD w cs)), some (.val (.tup (ns.map D.int))), some (.val (.int x))], by simp, rfl, ?_, rfl⟩
    rw [ec2]
    simp only [tabD]
    simp [le_sum_of_1, ec, cellD]
  have i1 : (mSeqI (mVar 1)) [some (.val (tabD w cs)), some (.val (.tup (ns.map D.int))), none] = .ok (ns.map D.int) [some (.val (tabD w cs)), some (.val (.tup (ns.map D.int))), none] := by simp
  have k1 := comp_ok i1 (by simpa using hl) c1
  rw [List.nil_append] at k1
  have sm := sumD_ok (ns.map fun k => ((cs[k.toNat]?).getD (0, 0, 0)).2.2)
  have fz := frzs_vals (fun k : Int => D.int ((cs[k.toNat]?).getD (0, 0, 0)).2.2) ns
  rw [List.map_map] at sm
  have sm : sumD (.lst (ns.map fun k => D.int ((cs[k.toNat]?).getD (0, 0, 0)).2.2)) = some (.int (sumN cs ns)) := sm
  rw [← fz] at sm
  generalize (ns.map fun k => O.val (D.int ((cs[k.toNat]?).getD (0, 0, 0)).2.2)) = os at k1 sm
  simp [m_sum_of, b_sum_of, f_sum_of, k1, sm]
theorem shows_least_spec {w : Int} {cs : List Cl} (hw : 1 ≤ w) (hw2 : w ≤ 1000) (hc : CsOk w cs) (hl : cs.length ≤ 1000) (n d : D) (hd : ∀ l, d = .tup l → l.length ≤ 1000000) :
    m_shows_least [.val (tabD w cs), .val n, .val d] = .ok (.val (.bl (shB w cs n d))) [.val (tabD w cs), .val n, .val d] := by
  cases n with
  | int i =>
    have e1 := is_chain_spec hw hw2 hc hl d hd
    cases hf : famB w cs 1 d with
    | false =>
      rw [hf] at e1
      have : shB w cs (.int i) d = false := by
        cases d with
        | tup l => simp only [shB, isJ, hf, Bool.false_and]
        | _ => rfl
      rw [this]
      simp [m_shows_least, b_shows_least, f_shows_least, isi_int, isi_bool, e1]
    | true =>
      rw [hf] at e1
      have ha : areC cs.length d = true := by
        unfold famB at hf
        rw [Bool.and_eq_true] at hf
        exact hf.1
      obtain ⟨ns, rfl, hn, ho⟩ := areC_ints ha
      have e2 := sum_of_spec (w := w) (cs := cs) ns hn (by simpa using hd _ rfl)
      have : shB w cs (.int i) (.tup (ns.map D.int)) = decide (i ≤ sumN cs ns) := by
        simp only [shB, isJ, hf, Bool.true_and, ints_of2]
      rw [this]
      simp [m_shows_least, b_shows_least, f_shows_least, isi_int, isi_bool, e1, e2]
  | _ => simp [m_shows_least, b_shows_least, f_shows_least, isi_int, isi_bool, shB, isJ]
end Kl


set_option maxHeartbeats 8000000
namespace Kl
open PySem L2 Dl
/-! ### edges, chain_sum, greatest_chain -/
section
variable {w : Int} {cs : List Cl} {s3 s4 s5 s6 : Option O}
theorem check_edge_ok {d : D} (h : isI 0 w d = true) : m_check_edge [.val (tabD w cs), .val d] = .ok (.val .non) [.val (tabD w cs), .val d] := by
  have e := is_integer_spec d 0 w
  rw [h] at e
  simp only [tabD] at *
  simp [m_check_edge, b_check_edge, f_check_edge, e]
theorem check_edge_no {d : D} (h : isI 0 w d = false) : m_check_edge [.val (tabD w cs), .val d] = .ex ⟨"NoEdge", ["value"], [d]⟩ [.val (tabD w cs), .val d] := by
  have e := is_integer_spec d 0 w
  rw [h] at e
  simp only [tabD] at *
  simp [m_check_edge, b_check_edge, f_check_edge, e, frzs]
theorem chain_sum_spec {low high : Int} (h0 : 0 ≤ low) (h1 : low ≤ w) (h2 : 0 ≤ high) (h3 : high ≤ w) (hw1 : 1 ≤ w) (hw : w ≤ 1000) (hl : cs.length ≤ 1000) (hc : ∀ c ∈ cs, OkC w c) :
    m_chain_sum [.val (tabD w cs), .val (.int low), .val (.int high)] = .ok (.val (.int (lp cs low high))) [.val (tabD w cs), .val (.int low), .val (.int high)] := by
  have e0 := chain_sums_spec hw1 hw hl hc
  have e1 := check_edge_ok (w := w) (cs := cs) (d := .int low) (by rw [isI_int]; simp; omega)
  have e2 := check_edge_ok (w := w) (cs := cs) (d := .int high) (by rw [isI_int]; simp; omega)
  have a1 := rowsD_at (w := w) (cs := cs) (i := low) (by omega) (by omega)
  have a2 := rowD_at (w := w) (cs := cs) (i := low) (j := high) (by omega) (by omega)
  generalize rowsD w cs = L at *
  generalize rowD w cs low = R at *
  by_cases q : low ≤ high
  · generalize tabD w cs = T0 at *
    simp [m_chain_sum, b_chain_sum, f_chain_sum, e0, e1, e2, a1, a2, q]
  · have z := lp_low (low := low) hc high h2 (by omega) h3
    rw [z]
    generalize tabD w cs = T0 at *
    simp [m_chain_sum, b_chain_sum, f_chain_sum, e1, e2, q]
theorem chain_sum_no1 {d e : D} (h : isI 0 w d = false) : m_chain_sum [.val (tabD w cs), .val d, .val e] = .ex ⟨"NoEdge", ["value"], [d]⟩ [.val (tabD w cs), .val d, .val e] := by
  have e1 := check_edge_no (w := w) (cs := cs) h
  generalize tabD w cs = T0 at *
  simp [m_chain_sum, b_chain_sum, f_chain_sum, e1]
theorem chain_sum_no2 {d e : D} (h : isI 0 w d = true) (h' : isI 0 w e = false) : m_chain_sum [.val (tabD w cs), .val d, .val e] = .ex ⟨"NoEdge", ["value"], [e]⟩ [.val (tabD w cs), .val d, .val e] := by
  have e1 := check_edge_ok (w := w) (cs := cs) h
  have e2 := check_edge_no (w := w) (cs := cs) h'
  generalize tabD w cs = T0 at *
  simp [m_chain_sum, b_chain_sum, f_chain_sum, e1, e2]
theorem last_cell_spec {here : Int} (h1 : 1 ≤ here) (h2 : here ≤ w) (hl : cs.length ≤ 1000) (hc : ∀ c ∈ cs, OkC w c) :
    (lp cs 0 here = lp cs 0 (here - 1) ∧ m_last_cell [.val (.tup (cs.map cellD)), .val (rowD w cs 0), .val (.int here)] = .ok (.val .non) [.val (.tup (cs.map cellD)), .val (rowD w cs 0), .val (.int here)]) ∨
    ∃ (i : Nat) (c : Cl), cs[i]? = some c ∧ c.2.1 = here ∧ lp cs 0 c.1 + c.2.2 = lp cs 0 here ∧ m_last_cell [.val (.tup (cs.map cellD)), .val (rowD w cs 0), .val (.int here)] = .ok (.val (.int (i : Nat))) [.val (.tup (cs.map cellD)), .val (rowD w cs 0), .val (.int here)] := by
  have a1 := rowD_at (w := w) (cs := cs) (i := 0) (j := here) (by omega) (by omega)
  have a2 := rowD_at (w := w) (cs := cs) (i := 0) (j := here - 1) (by omega) (by omega)
  by_cases q : lp cs 0 here = lp cs 0 (here - 1)
  · refine .inl ⟨q, ?_⟩
    rw [q] at a1
    generalize rowD w cs 0 = R at *
    simp [m_last_cell, b_last_cell, f_last_cell, a1, a2]
  · right
    have l1 : ∃ ρ', (∃ t3 t4 t5 t6, ρ' = [some (.val (.tup (cs.map cellD))), some (.val (rowD w cs 0)), some (.val (.int here)), t3, t4, t5, t6]) ∧ fo_last_cell_1 [some (.val (.tup (cs.map cellD))), some (.val (rowD w cs 0)), some (.val (.int here)), none, none, none, none] =
        .ok (findR (fun p => O.val (.int (p.2 : Nat))) (cs.zipIdx.find? (fun p => decide (p.1.2.1 = here) && decide (lp cs 0 p.1.1 + p.1.2.2 = lp cs 0 here)))) ρ' := by
      refine for_find (fun p : Cl × Nat => .tup [.int (p.2 : Nat), cellD p.1]) _ (fun p => O.val (.int (p.2 : Nat))) cs.zipIdx (fun ρ => ∃ t3 t4 t5 t6, ρ = [some (.val (.tup (cs.map cellD))), some (.val (rowD w cs 0)), some (.val (.int here)), t3, t4, t5, t6]) (by rw [← enum_cells]; simp) ⟨_, _, _, _, rfl⟩ fun x hx ρ ⟨t3, t4, t5, t6, e⟩ => ?_
      subst e
      obtain ⟨⟨b, e, n⟩, i⟩ := x
      have hi : cs[i]? = some (b, e, n) := by simpa using List.mem_zipIdx_iff_getElem?.mp hx
      obtain ⟨q1, q2, q3⟩ := hc _ (List.mem_of_getElem? hi)
      dsimp only at q1 q2 q3
      have a3 := rowD_at (w := w) (cs := cs) (i := 0) (j := b) q1 (by omega)
      have q4 : lb_last_cell_1 [some (.val (.tup (cs.map cellD))), some (.val (rowD w cs 0)), some (.val (.int here)), some (.val (.int (i : Nat))), some (.val (.int b)), some (.val (.int e)), some (.val (.int n))] = .ok (if (decide (e = here) && decide (lp cs 0 b + n = lp cs 0 here)) = true then .rt (.val (.int (i : Nat))) else .nx) [some (.val (.tup (cs.map cellD))), some (.val (rowD w cs 0)), some (.val (.int here)), some (.val (.int (i : Nat))), some (.val (.int b)), some (.val (.int e)), some (.val (.int n))] := by
        generalize rowD w cs 0 = R at *
        by_cases z1 : e = here
        · by_cases z2 : lp cs 0 b + n = lp cs 0 here
          · simp [lb_last_cell_1, z1, z2, a1, a3]
          · simp [lb_last_cell_1, z1, z2, a1, a3]
        · simp [lb_last_cell_1, z1]
      generalize rowD w cs 0 = R at *
      simp [cellD, q4]
      exact ⟨fun z1 z2 => ⟨z1, z2⟩, fun z => .inl z⟩
    obtain ⟨ρ', ⟨t3, t4, t5, t6, rfl⟩, l1⟩ := l1
    obtain ⟨c, hcm, hce, hcs⟩ : ∃ c, c ∈ cs ∧ c.2.1 = here ∧ lp cs 0 here = lp cs 0 c.1 + c.2.2 := by
      rcases (lp_is (low := 0) hc).att here (by omega) h2 with z | ⟨c, ⟨z1, _⟩, z2, z3⟩
      · exact absurd z q
      · exact ⟨c, z1, z2, z3⟩
    cases hf : cs.zipIdx.find? (fun p => decide (p.1.2.1 = here) && decide (lp cs 0 p.1.1 + p.1.2.2 = lp cs 0 here)) with
    | none =>
      obtain ⟨i, hi⟩ := List.getElem?_of_mem hcm
      have hm : (c, i) ∈ cs.zipIdx := List.mem_zipIdx_iff_getElem?.mpr (by simpa using hi)
      have := List.find?_eq_none.mp hf _ hm
      simp [hce, hcs] at this
    | some p =>
      rw [hf] at l1
      obtain ⟨c', i⟩ := p
      have hi : cs[i]? = some c' := by simpa using List.mem_zipIdx_iff_getElem?.mp (List.mem_of_find?_eq_some hf)
      have hp := List.find?_some hf
      simp only [Bool.and_eq_true, decide_eq_true_eq] at hp
      refine ⟨i, c', hi, hp.1, hp.2, ?_⟩
      simp only [findR_some] at l1
      have q' : ¬ lp cs 0 here = lp cs 0 (here - 1) := q
      generalize lp cs 0 here = A at *
      generalize lp cs 0 (here - 1) = A' at *
      generalize rowD w cs 0 = R at *
      simp [m_last_cell, b_last_cell, f_last_cell, a1, a2, q', l1]
theorem greatest_chain_spec (hw1 : 1 ≤ w) (hw : w ≤ 1000) (hl : cs.length ≤ 1000) (hc : ∀ c ∈ cs, OkC w c) :
    ∃ ns : List Int, m_greatest_chain [.val (tabD w cs)] = .ok (.val (.tup (ns.map D.int))) [.val (tabD w cs)] ∧ ChN cs ns ∧ ascB ns = true ∧ sumN cs ns = lp cs 0 w := by
  have e0 := chain_sums_spec hw1 hw hl hc
  have a1 := rowsD_at (w := w) (cs := cs) (i := 0) (by omega) (by omega)
  have e3 : ixO (.val (tabD w cs)) (.int 1) = some (.tup (cs.map cellD)) := by simp [tabD]
  have e4 : ixO (.val (tabD w cs)) (.int 0) = some (.int w) := by simp [tabD]
  have l1 : ∃ ρ', wh_greatest_chain_1 [some (.val (tabD w cs)), some (.val (rowD w cs 0)), some (.val (.int w)), some (.lst (io [])), none] = .ok .nx ρ' ∧ ∃ ns t4, ρ' = [some (.val (tabD w cs)), some (.val (rowD w cs 0)), some (.val (.int 0)), some (.lst (io ns)), t4] ∧ ChN cs ns ∧ sumN cs ns = lp cs 0 w := by
    refine while_ok (c := lt_greatest_chain_1) (b := lb_greatest_chain_2) (fun n ρ => ∃ (h : Int) (ns : List Int) (t4 : Option O), ρ = [some (.val (tabD w cs)), some (.val (rowD w cs 0)), some (.val (.int h)), some (.lst (io ns)), t4] ∧ 0 ≤ h ∧ h ≤ w ∧ n = h.toNat ∧ ChN cs ns ∧ (ns.length : Int) + h ≤ w ∧ (∀ k ∈ ns, h ≤ (cellAt cs k).1) ∧ sumN cs ns + lp cs 0 h = lp cs 0 w)
      (fun ρ' => ∃ ns t4, ρ' = [some (.val (tabD w cs)), some (.val (rowD w cs 0)), some (.val (.int 0)), some (.lst (io ns)), t4] ∧ ChN cs ns ∧ sumN cs ns = lp cs 0 w) (fun n ρ hI => ?_) wfuel w.toNat _ (by unfold wfuel; omega) ⟨w, [], none, rfl, by omega, Int.le_refl _, rfl, ⟨fun k hk => by simp at hk, List.Pairwise.nil⟩, by simp, fun k hk => by simp at hk, by simp [sumN]⟩
    obtain ⟨h, ns, t4, rfl, h0, h1, rfl, cn, nl, hb, hs⟩ := hI
    by_cases hz : h = 0
    · subst hz
      left
      refine ⟨[some (.val (tabD w cs)), some (.val (rowD w cs 0)), some (.val (.int 0)), some (.lst (io ns)), t4], by simp [lt_greatest_chain_1], ns, t4, rfl, cn, ?_⟩
      rw [lp_0] at hs
      omega
    · right
      have hp : 0 < h := by omega
      rcases last_cell_spec (w := w) (cs := cs) (here := h) (by omega) h1 hl hc with ⟨q1, q2⟩ | ⟨i, c, q1, q2, q3, q4⟩
      · refine ⟨[some (.val (tabD w cs)), some (.val (rowD w cs 0)), some (.val (.int h)), some (.lst (io ns)), t4], .nx, [some (.val (tabD w cs)), some (.val (rowD w cs 0)), some (.val (.int (h - 1))), some (.lst (io ns)), some (.val .non)], (h - 1).toNat, by simp [lt_greatest_chain_1, hp], ?_, .inl rfl, by omega, h - 1, ns, _, rfl, by omega, by omega, rfl, cn, by omega, fun k hk => by have := hb k hk; omega, by rw [← q1]; exact hs⟩
        have is1 := is_non
        generalize rowD w cs 0 = R at *
        generalize io ns = N at *
        generalize tabD w cs = T0 at *
        simp [lb_greatest_chain_2, e3, q2, is1]
      · have hm := List.mem_of_getElem? q1
        obtain ⟨r1, r2, r3⟩ := hc c hm
        have hil := (List.getElem?_eq_some_iff.mp q1).1
        have ec : cellAt cs (i : Nat) = c := by
          unfold cellAt
          rw [Int.toNat_natCast, q1]
          rfl
        refine ⟨[some (.val (tabD w cs)), some (.val (rowD w cs 0)), some (.val (.int h)), some (.lst (io ns)), t4], .nx, [some (.val (tabD w cs)), some (.val (rowD w cs 0)), some (.val (.int c.1)), some (.lst (io (ns ++ [(i : Int)]))), some (.val (.int (i : Nat)))], c.1.toNat, by simp [lt_greatest_chain_1, hp], ?_, .inl rfl, by omega, c.1, ns ++ [(i : Int)], _, rfl, by omega, by omega, rfl, ⟨fun k hk => ?_, ?_⟩, by simp; omega, fun k hk => ?_, ?_⟩
        · have i2 : atI (cs.map cellD) (i : Nat) = some (cellD c) := atI_get (by omega) (by simp [q1])
          have is1 : cmpF .Is (.int (i : Nat)) .non = some (.bl false) := rfl
          have hio : io (ns ++ [(i : Int)]) = io ns ++ [.val (.int (i : Nat))] := by simp [io]
          have hlen : (io ns).length < 1000000 := by rw [io_len]; omega
          simp only [cellD] at i2
          rw [hio]
          generalize rowD w cs 0 = R at *
          generalize io ns = N at *
          generalize tabD w cs = T0 at *
          simp [lb_greatest_chain_2, e3, q4, is1, i2, hlen]
        · rcases List.mem_append.mp hk with z | z
          · exact cn.nums k z
          · simp at z; subst z; omega
        · rw [List.pairwise_append]
          refine ⟨cn.dis, List.pairwise_singleton _ _, fun a ha b hb' => ?_⟩
          simp at hb'
          subst hb'
          rw [ec]
          have := hb a ha
          exact .inr (by omega)
        · rcases List.mem_append.mp hk with z | z
          · have := hb k z; omega
          · simp at z; subst z; rw [ec]; exact Int.le_refl _
        · have : sumN cs (ns ++ [(i : Int)]) = sumN cs ns + c.2.2 := by
            rw [sumN_eq, List.map_append, List.sum_append]
            simp [ec, sumN_eq]
          rw [this]
          omega
  obtain ⟨_, l1, ns, t4, rfl, cn, hs⟩ := l1
  refine ⟨isort ns, ?_, ?_, isort_asc (cn.nodup hc), ?_⟩
  · have x1 := sortN_ok ns
    have x2 := frzs_io (isort ns)
    have x3 := frzs_io ns
    have l1' : wh_greatest_chain_1 [some (.val (tabD w cs)), some (.val (rowD w cs 0)), some (.val (.int w)), some (.lst []), none] = .ok .nx [some (.val (tabD w cs)), some (.val (rowD w cs 0)), some (.val (.int 0)), some (.lst (io ns)), t4] := l1
    generalize rowsD w cs = L at *
    generalize rowD w cs 0 = R at *
    generalize io (isort ns) = N2 at *
    generalize io ns = N at *
    generalize tabD w cs = T0 at *
    generalize (isort ns).map D.int = I2 at *
    generalize ns.map D.int = I1 at *
    simp [m_greatest_chain, b_greatest_chain, f_greatest_chain, e0, a1, e4, l1', x1, x2, x3]
  · letI : Kc := ⟨[], [], []⟩
    exact cn.perm (isort_perm ns).symm
  · letI : Kc := ⟨[], [], []⟩
    rw [sumN_perm (isort_perm ns)]
    exact hs
end
end Kl

set_option maxHeartbeats 8000000
namespace Dl
open PySem L2
theorem mul_l2 (x : List D) (h : x.length ≤ 1000) : binF .Mult (.lst x) (.int 2) = some (.lst ((x ++ x).map O.val)) := by
  show lnL (.lst x) (.int 2) = _
  unfold lnL
  dsimp only
  rw [if_pos ⟨by omega, by omega, by simp; omega⟩]
  simp [List.replicate]
end Dl
namespace Kl
open PySem L2 Dl
theorem caught_in (o : O) : t_l_caught (.inl o) = some (.val (.tup [.str "told", frz o])) := by kernel_rfl
theorem caught_edge (d : D) : t_l_caught (.inr ⟨"NoEdge", ["value"], [d]⟩) = some (.val (.tup [.str "edge", d])) := by kernel_rfl
section
variable {w : Int} {cs : List Cl} {s0 s3 s4 s5 s6 s7 : Option O}
theorem rowD_rp {low : Int} (hw : 1 ≤ w) (hw2 : w ≤ 12) (hc : CsOk w cs) : Rp 1 ((61 + 2) * 13 + 4) (rowD w cs low) := by
  refine rp_lst (n := 0) (c := 61) (m := 13) (fun d hd => ?_) (by simp; omega)
  obtain ⟨x, hx, rfl⟩ := List.mem_map.mp hd
  obtain ⟨k, hk, rfl⟩ := List.mem_map.mp hx
  have hk := List.mem_range.mp hk
  have b1 := lp_nonneg (low := low) hc.ok (show (0 : Int) ≤ (k : Int) by omega) (by omega)
  have b2 := lp_bound (w := w) (low := low) (N := 1000000000) hc.ok (fun c h => (hc c h).2.2.2.2) (by omega) (k : Int) (by omega) (by omega)
  exact rp_int (by omega)
theorem low_turn {low : Int} (h0 : 0 ≤ low) (h1 : low ≤ w) (hw1 : 1 ≤ w) (hw : w ≤ 12) (hl : cs.length ≤ 20) (hc : CsOk w cs) : ∃ t3 t4 t5, lb_l_edges_right_6 [s0, some (.val (tabD w cs)), some (.val (.int low)), s3, s4, s5, s6, s7] = .ok .nx [s0, some (.val (tabD w cs)), some (.val (.int low)), t3, t4, t5, s6, s7] := by
  have e1 := lsums_spec h0 h1 hw1 (by omega) hc.ok
  have r1 := rng_1 (n := w + 1) (by omega) (by omega)
  have e4 : ixO (.val (tabD w cs)) (.int 0) = some (.int w) := by simp [tabD]
  have eR : ∀ L : List O, L = ((List.range (w + 1).toNat).map fun (j : Nat) => O.val (.int (lp cs low (j : Int)))) → O.lst L = .lst (((fnl (w + 1).toNat (lp cs low)).map D.int).map O.val) := fun L h => by rw [h]; simp [fnl]
  have k1 : co_l_edges_right_2 [s0, some (.val (tabD w cs)), some (.val (.int low)), some (.val (rowD w cs low)), s4, s5, s6, s7] = .ok (.lst (((fnl (w + 1).toNat (lp cs low)).map D.int).map O.val)) [s0, some (.val (tabD w cs)), some (.val (.int low)), some (.val (rowD w cs low)), s4, none, s6, s7] := by
    rw [← eR _ rfl]
    refine comp_M (fun j : Nat => .int (0 + (j : Int))) _ (List.range (w + 1).toNat) (by simp [e4, r1, rngL]) rfl (by simp; omega) fun x hx => ?_
    have hx := List.mem_range.mp hx
    rw [Int.zero_add]
    have a2 := rowD_at (w := w) (cs := cs) (i := low) (j := (x : Int)) (by omega) (by omega)
    by_cases q : low ≤ (x : Int)
    · generalize rowD w cs low = R at *
      simp [le_l_edges_right_5, q, a2]
    · have z := lp_low (low := low) hc.ok (x : Int) (by omega) (by omega) (by omega)
      rw [z]
      generalize rowD w cs low = R at *
      simp [le_l_edges_right_5, q]
  have k2 : co_l_edges_right_1 [s0, some (.val (tabD w cs)), some (.val (.int low)), some (.val (rowD w cs low)), some (.lst (((fnl (w + 1).toNat (lp cs low)).map D.int).map O.val)), none, s6, s7] = .ok (.lst (((fnl (w + 1).toNat (lp cs low)).map D.int).map O.val)) [s0, some (.val (tabD w cs)), some (.val (.int low)), some (.val (rowD w cs low)), some (.lst (((fnl (w + 1).toNat (lp cs low)).map D.int).map O.val)), none, s6, s7] := by
    generalize hL : (fnl (w + 1).toNat (lp cs low)).map D.int = L
    have eL : O.lst (L.map O.val) = .lst ((List.range (w + 1).toNat).map fun (j : Nat) => O.val (.int (lp cs low (j : Int)))) := by rw [← hL]; simp [fnl]
    rw [show Out.ok (O.lst (L.map O.val)) [s0, some (.val (tabD w cs)), some (.val (.int low)), some (.val (rowD w cs low)), some (.lst (L.map O.val)), none, s6, s7] = Out.ok (O.lst ((List.range (w + 1).toNat).map fun (j : Nat) => O.val (.int (lp cs low (j : Int))))) [s0, some (.val (tabD w cs)), some (.val (.int low)), some (.val (rowD w cs low)), some (.lst (L.map O.val)), none, s6, s7] by rw [← eL]]
    refine comp_M (fun j : Nat => .int (0 + (j : Int))) _ (List.range (w + 1).toNat) (by simp [e4, r1, rngL]) rfl (by simp; omega) fun x hx => ?_
    have hx := List.mem_range.mp hx
    rw [Int.zero_add]
    have e5 := chain_sum_spec (high := (x : Int)) h0 h1 (by omega) (by omega) hw1 (by omega) (by omega) hc.ok
    generalize rowD w cs low = R at *
    generalize tabD w cs = T0 at *
    simp [le_l_edges_right_4, e5]
  have rr := rowD_rp (low := low) hw1 hw hc
  have x1 := rr.repr (by omega) (by omega)
  have x2 := rr.ne
  refine ⟨some (.val (rowD w cs low)), some (.lst (((fnl (w + 1).toNat (lp cs low)).map D.int).map O.val)), none, ?_⟩
  have eD : rowD w cs low = .lst ((fnl (w + 1).toNat (lp cs low)).map D.int) := rfl
  generalize (toP (rowD w cs low)).shown = sx at *
  rw [eD] at x1
  clear rr eD eR
  generalize rowD w cs low = R at *
  generalize (fnl (w + 1).toNat (lp cs low)).map D.int = L at *
  generalize tabD w cs = T0 at *
  simp [lb_l_edges_right_6, e1, k1, k2, x1, x2]
theorem thing_turn {s2 : Option O} {d : D} (hd : Th d) (hw1 : 1 ≤ w) (hw : w ≤ 12) (hl : cs.length ≤ 20) (hc : CsOk w cs) : ∃ t7, lb_l_edges_right_3 [s0, some (.val (tabD w cs)), s2, s3, s4, s5, some (.val d), s7] = .ok .nx [s0, some (.val (tabD w cs)), s2, s3, s4, s5, some (.val d), t7] := by
  have e := whole_spec d 0 w
  have e4 : ixO (.val (tabD w cs)) (.int 0) = some (.int w) := by simp [tabD]
  cases q : isI 0 w d with
  | true =>
    rw [q] at e
    refine ⟨s7, ?_⟩
    generalize tabD w cs = T0 at *
    simp [lb_l_edges_right_3, e4, e]
  | false =>
    rw [q] at e
    have a1 := chain_sum_no1 (w := w) (cs := cs) (e := .non) q
    have a2 := chain_sum_no2 (w := w) (cs := cs) (d := .int 0) (by rw [isI_int]; simp; omega) q
    have t := (th_str "edge" (by decide +kernel)).pair hd
    have t2 : Rp 10 ((70000 + 2) * 2 + 4) (.lst [.tup [.str "edge", d], .tup [.str "edge", d]]) := rp_lst (n := 9) (c := 70000) (m := 2) (fun d hd => by
      simp only [List.mem_cons, List.not_mem_nil, or_false] at hd
      rcases hd with rfl | rfl <;> exact t) (by simp)
    have x1 := t2.repr (by omega) (by omega)
    have x2 := t2.ne
    have x3 := mul_l2 [.tup [.str "edge", d]] (by simp)
    refine ⟨some (.lst [.val (.tup [.str "edge", d]), .val (.tup [.str "edge", d])]), ?_⟩
    generalize (toP (.lst [.tup [.str "edge", d], .tup [.str "edge", d]])).shown = sy at *
    generalize tabD w cs = T0 at *
    simp at x3
    simp [lb_l_edges_right_3, e4, e, la_l_edges_right_1, la_l_edges_right_2, a1, a2, caught_edge, x1, x2, x3]
theorem edges_right_spec {B : Int} {hl : List O} (h : Hd B hl) (hB : B ≤ 100000000) (hw1 : 1 ≤ w) (hw : w ≤ 12) (hcl : cs.length ≤ 20) (hc : CsOk w cs) :
    ∃ hl', m_l_edges_right [.lst hl, .val (tabD w cs)] = .ok (.val (.bl true)) [.lst hl', .val (tabD w cs)] ∧ Hd (B + 1) hl' := by
  obtain ⟨d1, g1, e1, th1, k1⟩ := odd_i (i := 0) h (by omega) (by omega)
  have e4 : ixO (.val (tabD w cs)) (.int 0) = some (.int w) := by simp [tabD]
  have r1 := rng_1 (n := w + 1) (by omega) (by omega)
  have l1 : ∃ ρ', fo_l_edges_right_2 [some (.lst hl), some (.val (tabD w cs)), none, none, none, none, none, none] = .ok .nx ρ' ∧ ∃ t2 t3 t4 t5, ρ' = [some (.lst hl), some (.val (tabD w cs)), t2, t3, t4, t5, none, none] := by
    refine for_R (lo := 0) (n := (w + 1).toNat) (fun k ρ => ∃ t2 t3 t4 t5, ρ = [some (.lst hl), some (.val (tabD w cs)), t2, t3, t4, t5, none, none]) (by simp [e4, r1]) ⟨_, _, _, _, rfl⟩ fun k ρ hk ⟨t2, t3, t4, t5, e⟩ => ?_
    subst e
    obtain ⟨u3, u4, u5, q⟩ := low_turn (s0 := some (.lst hl)) (s3 := t3) (s4 := t4) (s5 := t5) (s6 := none) (s7 := none) (low := 0 + (k : Int)) (by omega) (by omega) hw1 hw hcl hc
    generalize (0 + (k : Int)) = j at *
    simp [q]
  obtain ⟨_, l1, t2, t3, t4, t5, rfl⟩ := l1
  have l2 : ∃ ρ', fo_l_edges_right_1 [some (.lst hl), some (.val (tabD w cs)), t2, t3, t4, t5, none, none] = .ok .nx ρ' ∧ ∃ t6 t7, ρ' = [some (.lst g1), some (.val (tabD w cs)), t2, t3, t4, t5, t6, t7] := by
    refine for_P' (ρ1 := [some (.lst g1), some (.val (tabD w cs)), t2, t3, t4, t5, none, none]) id [.int (-1), .int (w + 1), .bl true, .non, .str "0", .tup [.int 0], d1] (fun _ ρ => ∃ t6 t7, ρ = [some (.lst g1), some (.val (tabD w cs)), t2, t3, t4, t5, t6, t7]) ?_ ⟨_, _, rfl⟩ fun pre x post ρ hx ⟨t6, t7, e⟩ => ?_
    · generalize tabD w cs = T0 at *
      simp [e4, e1, negF]
    · subst e
      have hd : Th x := by
        have : x ∈ [.int (-1), .int (w + 1), .bl true, .non, .str "0", .tup [.int 0], d1] := by rw [hx]; simp
        simp only [List.mem_cons, List.not_mem_nil, or_false] at this
        rcases this with rfl | rfl | rfl | rfl | rfl | rfl | rfl
        · exact ⟨show (-1 : Int).natAbs < _ by decide, by simp [szB]⟩
        · exact ⟨show (w + 1).natAbs < _ by omega, by simp [szB]⟩
        · exact ⟨True.intro, by simp [szB]⟩
        · exact ⟨True.intro, by simp [szB]⟩
        · exact ⟨sk_of _, by decide +kernel⟩
        · exact ⟨by simp [An], by simp [szB, szBs]⟩
        · exact th1
      obtain ⟨u7, q⟩ := thing_turn (w := w) (cs := cs) (s0 := some (.lst g1)) (s2 := t2) (s3 := t3) (s4 := t4) (s5 := t5) (s7 := t7) hd hw1 hw hcl hc
      simp [q]
  obtain ⟨_, l2, t6, t7, rfl⟩ := l2
  refine ⟨g1, ?_, k1⟩
  generalize tabD w cs = T0 at *
  simp [m_l_edges_right, b_l_edges_right, f_l_edges_right, l1, l2]
end
end Kl

set_option maxHeartbeats 8000000
namespace Kl
open PySem L2 Dl
theorem nums_of {cs : List Cl} {ns : List Int} (h : ChN cs ns) : areC cs.length (.tup (ns.map D.int)) = ascB ns := by
  have h1 : (ns.map D.int).all (isI 0 ((cs.length : Int) - 1)) = true := by
    rw [List.all_eq_true]
    intro d hd
    obtain ⟨k, hk, rfl⟩ := List.mem_map.mp hd
    have := h.nums k hk
    rw [isI_int]
    simp
    omega
  unfold areC
  dsimp only
  rw [h1, ints_of2]
  rfl
theorem chain_fam {w : Int} {cs : List Cl} {ns : List Int} (hc : ∀ c ∈ cs, OkC w c) (h : ChN cs ns) (ha : ascB ns = true) : famB w cs 1 (.tup (ns.map D.int)) = true := by
  unfold famB
  dsimp only
  rw [nums_of h, ha, ints_of2]
  simp only [Bool.true_and, List.all_eq_true, decide_eq_true_eq]
  intro j _
  exact h.one hc j
theorem asc_len {cs : List Cl} {ns : List Int} (h : ChN cs ns) (ha : ascB ns = true) : ns.length ≤ cs.length := by
  have p := (asc_iff ns).mp ha
  have nd : ns.Nodup := p.imp fun h => by omega
  have hs : ∀ k ∈ ns, k ∈ (List.range cs.length).map fun (i : Nat) => (i : Int) := fun k hk => by
    have := h.nums k hk
    exact List.mem_map.mpr ⟨k.toNat, List.mem_range.mpr (by omega), by omega⟩
  have key : ∀ (a b : List Int), a.Nodup → (∀ k ∈ a, k ∈ b) → a.length ≤ b.length := by
    intro a
    induction a with
    | nil => intro b _ _; simp
    | cons x a ih =>
      intro b hd hs
      obtain ⟨h1, h2⟩ := List.nodup_cons.mp hd
      have hx := hs x (by simp)
      have := ih (b.erase x) h2 fun k hk => by
        have hne : k ≠ x := fun z => h1 (z ▸ hk)
        exact (List.mem_erase_of_ne hne).mpr (hs k (List.mem_cons_of_mem _ hk))
      rw [List.length_erase_of_mem hx] at this
      have := List.length_pos_of_mem hx
      simp only [List.length_cons]
      omega
  have := key ns _ nd hs
  simpa using this
section
variable {ns : List Int} {w : Int} {cs : List Cl} {s0 s1 s3 s8 s9 : Option O}
theorem c_sum {hl : List O} (hn : ChN cs ns) (hl2 : ns.length ≤ 20) : co_law_2 [s0, s1, some (.lst hl), s3, some (.val (tabD w cs)), some (.val (.int (lp cs 0 w))), some (.val (.str ((toP (tabD w cs)).shown))), some (.val (.tup (ns.map D.int))), s8, s9] = .ok (.lst ((ns.map fun k => (cellAt cs k).2.2).map D.int |>.map O.val)) [s0, s1, some (.lst hl), s3, some (.val (tabD w cs)), some (.val (.int (lp cs 0 w))), some (.val (.str ((toP (tabD w cs)).shown))), some (.val (.tup (ns.map D.int))), none, s9] := by
  rw [show ((ns.map fun k => (cellAt cs k).2.2).map D.int |>.map O.val) = ns.map fun k => O.val (.int (cellAt cs k).2.2) by simp]
  have e3 : ixO (.val (tabD w cs)) (.int 1) = some (.tup (cs.map cellD)) := by simp [tabD]
  refine comp_M D.int _ ns (by simp) rfl (by omega) fun k hk => ?_
  have hk := hn.nums k hk
  have a1 : atI (cs.map cellD) k = some (cellD (cellAt cs k)) := atI_get hk.1 (by rw [List.getElem?_map, cellAt_get hk.1 hk.2]; rfl)
  generalize (toP (tabD w cs)).shown = sx at *
  generalize tabD w cs = T0 at *
  generalize ns.map D.int = L at *
  simp only [cellD] at a1
  simp [le_law_2, e3, a1]
theorem c_cnt {hl : List O} (hl2 : cs.length ≤ 20) : co_law_3 [s0, s1, some (.lst hl), s3, some (.val (tabD w cs)), some (.val (.int (lp cs 0 w))), some (.val (.str ((toP (tabD w cs)).shown))), some (.val (.tup (ns.map D.int))), s8, s9] = .ok (.lst (io (cntF cs.length ns))) [s0, s1, some (.lst hl), s3, some (.val (tabD w cs)), some (.val (.int (lp cs 0 w))), some (.val (.str ((toP (tabD w cs)).shown))), some (.val (.tup (ns.map D.int))), none, s9] := by
  rw [show io (cntF cs.length ns) = (List.range cs.length).map fun (i : Nat) => O.val (.int (if ns.any (· == (0 + (i : Int))) = true then 1 else 0)) by simp [io, cntF]]
  have e3 : ixO (.val (tabD w cs)) (.int 1) = some (.tup (cs.map cellD)) := by simp [tabD]
  have r1 := rng_1 (n := (cs.length : Int)) (by omega) (by omega)
  refine comp_M (fun j : Nat => .int (0 + (j : Int))) _ (List.range cs.length) ?_ rfl (by simp; omega) fun k hk => ?_
  · generalize (toP (tabD w cs)).shown = sx at *
    generalize tabD w cs = T0 at *
    generalize ns.map D.int = L at *
    simp [e3, r1, rngL]
  · have q := inF_ints (0 + (k : Int)) ns
    generalize (ns.any (· == (0 + (k : Int)))) = b at *
    generalize (toP (tabD w cs)).shown = sx at *
    generalize tabD w cs = T0 at *
    generalize ns.map D.int = L at *
    generalize 0 + (k : Int) = j at *
    simp [le_law_3, q]
theorem c_shows {hl : List O} (hw1 : 1 ≤ w) (hw : w ≤ 1000) (hcl : cs.length ≤ 20) (hc : CsOk w cs) (hn : ChN cs ns) (ha : ascB ns = true) (hs : sumN cs ns = lp cs 0 w) : co_law_1 [s0, s1, some (.lst hl), s3, some (.val (tabD w cs)), some (.val (.int (lp cs 0 w))), some (.val (.str ((toP (tabD w cs)).shown))), some (.val (.tup (ns.map D.int))), s8, s9] = .ok (.lst [.val (.bl true), .val (.bl false), .val (.bl true), .val (.bl true)]) [s0, s1, some (.lst hl), s3, some (.val (tabD w cs)), some (.val (.int (lp cs 0 w))), some (.val (.str ((toP (tabD w cs)).shown))), some (.val (.tup (ns.map D.int))), none, s9] := by
  have hl2 := asc_len hn ha
  have key : ∀ i : Int, m_shows_least [.val (tabD w cs), .val (.int i), .val (.tup (ns.map D.int))] = .ok (.val (.bl (decide (i ≤ lp cs 0 w)))) [.val (tabD w cs), .val (.int i), .val (.tup (ns.map D.int))] := fun i => by
    rw [shows_least_spec hw1 hw hc (by omega) (.int i) (.tup (ns.map D.int)) (fun l e => by cases e; simp; omega)]
    congr 3
    unfold shB isJ
    dsimp only
    rw [chain_fam hc.ok hn ha, ints_of2]
    simp [hs]
  have := comp_M (vs := [8]) (i := (mSeqI (mTup (mCons (mVar 5) (mCons (mOp2 (binF .Add) (mVar 5) (Dl.ret (.val (.int 1)))) (mCons (mOp2 (binF .Sub) (mVar 5) (Dl.ret (.val (.int 1)))) (mCons (mOp1 negF (Dl.ret (.val (.int 7)))) (Dl.ret [])))))))) (t := mSet (inOf [8]) 8) (e := le_law_1) (ρ := [s0, s1, some (.lst hl), s3, some (.val (tabD w cs)), some (.val (.int (lp cs 0 w))), some (.val (.str ((toP (tabD w cs)).shown))), some (.val (.tup (ns.map D.int))), s8, s9]) (ρ2 := [s0, s1, some (.lst hl), s3, some (.val (tabD w cs)), some (.val (.int (lp cs 0 w))), some (.val (.str ((toP (tabD w cs)).shown))), some (.val (.tup (ns.map D.int))), none, s9]) D.int (fun i => O.val (.bl (decide (i ≤ lp cs 0 w)))) [lp cs 0 w, lp cs 0 w + 1, lp cs 0 w - 1, -7] (by simp [negF]) rfl (by simp) fun i hi => by
      have q := key i
      generalize (toP (tabD w cs)).shown = sx at *
      generalize tabD w cs = T0 at *
      generalize ns.map D.int = L at *
      simp [le_law_1, q]
  have z := lp_nonneg (low := 0) hc.ok (show 0 ≤ w by omega) (Int.le_refl _)
  have q1 : ¬ lp cs 0 w + 1 ≤ lp cs 0 w := by omega
  have q2 : lp cs 0 w - 1 ≤ lp cs 0 w := by omega
  have q3 : -7 ≤ lp cs 0 w := by omega
  simpa [q1, q2, q3] using this
end
section
variable {w : Int} {cs : List Cl} {s0 s1 s3 s4 s5 s6 s7 s8 s9 : Option O}
theorem law_turn {B : Int} {hl : List O} (h : Hd B hl) (hB : B ≤ 10000000) : ∃ hl' t4 t5 t6 t7 t8 t9, lb_law_4 [s0, s1, some (.lst hl), s3, s4, s5, s6, s7, s8, s9] = .ok .nx [s0, s1, some (.lst hl'), s3, t4, t5, t6, t7, t8, t9] ∧ Hd (B + 200) hl' := by
  obtain ⟨q, g2, e2, hq, k2⟩ := of_own (ds := [.int 3, .int 20, .int 1000, .int 999999999]) h (by omega) (by simp) (by simp)
  obtain ⟨top, rfl, o1, o2⟩ : ∃ k : Int, q = .int k ∧ 0 ≤ k ∧ k ≤ 1000000000 := by
    simp only [List.mem_cons, List.not_mem_nil, or_false] at hq
    rcases hq with rfl | rfl | rfl | rfl <;> exact ⟨_, rfl, by omega, by omega⟩
  simp only [List.map_cons, List.map_nil] at e2
  obtain ⟨g3, w, fd, e3, w1, w2, hfl, hfd, k3⟩ := grid_spec (widest := 12) (most := 20) (top := top) k2 (by omega) (by omega) (by omega) (by omega) (by omega) o1 o2
  obtain ⟨cs, rfl, hcl, hc⟩ := cells_of hfd
  have hcl2 : cs.length ≤ 20 := by rw [hcl]; simpa using hfl
  have hc' : CsOk w cs := hc
  obtain ⟨ns, e4, hn, ha, hs⟩ := greatest_chain_spec w1 (show w ≤ 1000 by omega) (show cs.length ≤ 1000 by omega) hc'.ok
  have nl := asc_len hn ha
  obtain ⟨g4, e5, k4⟩ := edges_right_spec k3 (by omega) w1 w2 hcl2 hc'
  have t1 := (tab_th w1 (by omega) hc' hcl2).rp
  have a1 := t1.repr (by omega) (by omega)
  have a2 := t1.ne
  have e6 := lleast_spec w1 (by omega) hc'.ok
  have e7 := least_width_spec w1 (show w ≤ 1000 by omega) (show cs.length ≤ 1000 by omega) hc'.ok
  have hb : 0 ≤ lp cs 0 w ∧ lp cs 0 w ≤ 12000000000 := by
    have q1 := lp_nonneg (low := 0) hc'.ok (show 0 ≤ w by omega) (Int.le_refl _)
    have q2 := lp_bound (w := w) (low := 0) (N := 1000000000) hc'.ok (fun c h => (hc' c h).2.2.2.2) (by omega) w (by omega) (Int.le_refl _)
    omega
  have r1 : Rp 0 61 (.int (lp cs 0 w)) := rp_int (by omega)
  have x1 := r1.repr (by omega) (by omega)
  have x2 := r1.ne
  have i5 : ic_law_5 [s0, s1, some (.lst g3), s3, some (.val (tabD w cs)), some (.val (.int (lp cs 0 w))), some (.val (.str ((toP (tabD w cs)).shown))), some (.val (.tup (ns.map D.int))), s8, s9] = .ok false [s0, s1, some (.lst g4), s3, some (.val (tabD w cs)), some (.val (.int (lp cs 0 w))), some (.val (.str ((toP (tabD w cs)).shown))), some (.val (.tup (ns.map D.int))), s8, s9] := by
    generalize (toP (.int (lp cs 0 w))).shown = sy at *
    generalize (toP (tabD w cs)).shown = sx at *
    generalize tabD w cs = T0 at *
    generalize ns.map D.int = L at *
    simp [e7, x1, x2, e5, a1, a2]
  have i4 : ic_law_4 [s0, s1, some (.lst g4), s3, some (.val (tabD w cs)), some (.val (.int (lp cs 0 w))), some (.val (.str ((toP (tabD w cs)).shown))), some (.val (.tup (ns.map D.int))), s8, s9] = .ok false [s0, s1, some (.lst g4), s3, some (.val (tabD w cs)), some (.val (.int (lp cs 0 w))), some (.val (.str ((toP (tabD w cs)).shown))), some (.val (.tup (ns.map D.int))), s8, s9] := by
    have u1 := sset_ints ns (by omega)
    have u2 : ns = usort ns := of_decide_eq_true (by rw [usort_asc]; exact ha)
    rw [← u2] at u1
    have u3 := ne_lints ns ns
    have u4 : frzs (io ns) = ns.map D.int := frzs_io ns
    have u5 : lstN [.tup (ns.map D.int)] = some (.lst ((ns.map D.int).map O.val)) := rfl
    generalize io ns = N at *
    generalize (toP (tabD w cs)).shown = sx at *
    generalize tabD w cs = T0 at *
    generalize ns.map D.int = L at *
    simp [isi_tup, u1, u4, u5, u3]
  have i3 : ic_law_3 [s0, s1, some (.lst g4), s3, some (.val (tabD w cs)), some (.val (.int (lp cs 0 w))), some (.val (.str ((toP (tabD w cs)).shown))), some (.val (.tup (ns.map D.int))), s8, s9] = .ok false [s0, s1, some (.lst g4), s3, some (.val (tabD w cs)), some (.val (.int (lp cs 0 w))), some (.val (.str ((toP (tabD w cs)).shown))), some (.val (.tup (ns.map D.int))), none, s9] := by
    have u1 := c_cnt (ns := ns) (w := w) (cs := cs) (s0 := s0) (s1 := s1) (s3 := s3) (s8 := s8) (s9 := s9) (hl := g4) hcl2
    have u2 := weights_spec w1 (show w ≤ 1000 by omega) hc' (cntF cs.length ns)
    obtain ⟨m, u3, u4⟩ := maxD_fn (w := w.toNat) (ldS (cs.zip (cntF cs.length ns))) (by omega)
    have u5 : ¬ 1 < m := by
      have := (u4 1).mpr fun j _ => hn.one hc'.ok j
      omega
    generalize (fnL w.toNat (ldS (cs.zip (cntF cs.length ns)))).map D.int = LL at *
    generalize io (cntF cs.length ns) = N at *
    generalize (cntF cs.length ns).map D.int = N' at *
    generalize (toP (tabD w cs)).shown = sx at *
    generalize tabD w cs = T0 at *
    generalize ns.map D.int = L at *
    simp [u1, u2, u3, u5]
  have i2 : ic_law_2 [s0, s1, some (.lst g4), s3, some (.val (tabD w cs)), some (.val (.int (lp cs 0 w))), some (.val (.str ((toP (tabD w cs)).shown))), some (.val (.tup (ns.map D.int))), none, s9] = .ok false [s0, s1, some (.lst g4), s3, some (.val (tabD w cs)), some (.val (.int (lp cs 0 w))), some (.val (.str ((toP (tabD w cs)).shown))), some (.val (.tup (ns.map D.int))), none, s9] := by
    have u1 := c_sum (ns := ns) (w := w) (cs := cs) (s0 := s0) (s1 := s1) (s3 := s3) (s8 := none) (s9 := s9) (hl := g4) hn (by omega)
    have u2 := sumD_ok (ns.map fun k => (cellAt cs k).2.2)
    rw [← sumN_eq, hs] at u2
    have u3 : neD (.int (lp cs 0 w)) (.int (lp cs 0 w)) = some (.bl false) := by simp
    generalize (toP (tabD w cs)).shown = sx at *
    generalize tabD w cs = T0 at *
    generalize (ns.map fun k => (cellAt cs k).2.2).map D.int = LL at *
    generalize ns.map D.int = L at *
    generalize lp cs 0 w = BW at *
    simp [u1, u2]
  have c1 := c_shows (ns := ns) (w := w) (cs := cs) (s0 := s0) (s1 := s1) (s3 := s3) (s8 := none) (s9 := s9) (hl := g4) w1 (by omega) hcl2 hc' hn ha hs
  have r2 : Rp 1 ((10 + 2) * 4 + 4) (.lst [.bl true, .bl false, .bl true, .bl true]) := rp_lst (n := 0) (c := 10) (m := 4) (fun d hd => by
    simp only [List.mem_cons, List.not_mem_nil, or_false] at hd
    rcases hd with rfl | rfl | rfl | rfl <;> exact (rp_bl _).mono (by omega) (by omega)) (by simp)
  have y1 := r2.repr (by omega) (by omega)
  have y2 := r2.ne
  refine ⟨g4, some (.val (tabD w cs)), some (.val (.int (lp cs 0 w))), some (.val (.str ((toP (tabD w cs)).shown))), some (.val (.tup (ns.map D.int))), none, some (.lst [.val (.bl true), .val (.bl false), .val (.bl true), .val (.bl true)]), ?_, k4.mono (by omega)⟩
  have eT : (.tup [.int w, .tup (cs.map cellD)]) = tabD w cs := rfl
  rw [eT] at e3
  generalize (toP (.lst [.bl true, .bl false, .bl true, .bl true])).shown = sz at *
  generalize (toP (tabD w cs)).shown = sx at *
  generalize tabD w cs = T0 at *
  generalize ns.map D.int = L at *
  generalize lp cs 0 w = BW at *
  clear t1 r1 r2 e7 hb
  simp [lb_law_4, e2, e3, ten9, e4, e6, a1, i5, i4, i3, i2, c1, y1, y2]
end
theorem law_spec (ns : List Int) : ∃ o, m_law [.val (.fl ns)] = .ok (.val (.bl true)) [o] := by
  have hn : ∃ n : Int, max2 [.int 1, .int (if (ns.length : Int) < 3 then ns.length else 3)] = some (.int n) ∧ 0 ≤ n ∧ n ≤ 3 := by
    refine ⟨_, max2_ii _ _, ?_, ?_⟩ <;> (split <;> (try split) <;> omega)
  obtain ⟨n, en, n1, n2⟩ := hn
  have l1 : ∃ ρ', fo_law_2 [some (.val (.fl ns)), none, none, none, none, none, none, none, none, none] = .ok .nx ρ' ∧ ∃ s1 s2 s3 s4 s5 s6 s7 s8 s9, ρ' = [some (.val (.fl ns)), s1, s2, s3, s4, s5, s6, s7, s8, s9] := by
    refine for_R (lo := 0) (n := n.toNat) (fun k ρ => ∃ s1 s2 s3 s4 s5 s6 s7 s8 s9, ρ = [some (.val (.fl ns)), s1, s2, s3, s4, s5, s6, s7, s8, s9]) (by simp [en, rng_1 (show -1000000000 ≤ n by omega) (by omega)]) ⟨_, _, _, _, _, _, _, _, _, rfl⟩ fun i ρ hi ⟨s1, s2, s3, s4, s5, s6, s7, s8, s9, e⟩ => ?_
    subst e
    obtain ⟨hl, e1, h1⟩ := hand_spec ns (0 + (i : Int)) (by omega) (by omega)
    have l2 : ∃ ρ', fo_law_1 [some (.val (.fl ns)), some (.val (.int (0 + (i : Int)))), some (.lst hl), s3, s4, s5, s6, s7, s8, s9] = .ok .nx ρ' ∧ ∃ hl' s3 s4 s5 s6 s7 s8 s9, ρ' = [some (.val (.fl ns)), some (.val (.int (0 + (i : Int)))), some (.lst hl'), s3, s4, s5, s6, s7, s8, s9] ∧ Hd (200 * (6 : Nat)) hl' := by
      refine for_R (lo := 0) (n := 6) (fun k ρ => ∃ hl' s3 s4 s5 s6 s7 s8 s9, ρ = [some (.val (.fl ns)), some (.val (.int (0 + (i : Int)))), some (.lst hl'), s3, s4, s5, s6, s7, s8, s9] ∧ Hd (200 * (k : Nat)) hl') (by simp [rng_1]) ⟨hl, _, _, _, _, _, _, _, rfl, h1.mono (by omega)⟩ fun k ρ hk ⟨hl', s3, s4, s5, s6, s7, s8, s9, e, h2⟩ => ?_
      subst e
      obtain ⟨g, u4, u5, u6, u7, u8, u9, q, h3⟩ := law_turn (s0 := some (.val (.fl ns))) (s1 := some (.val (.int (0 + (i : Int))))) (s3 := some (.val (.int (0 + (k : Int))))) (s4 := s4) (s5 := s5) (s6 := s6) (s7 := s7) (s8 := s8) (s9 := s9) h2 (by omega)
      generalize (0 + (k : Int)) = j at *
      generalize (0 + (i : Int)) = j at *
      simp [q]
      exact h3.mono (by omega)
    obtain ⟨_, l2, hl', u3, u4, u5, u6, u7, u8, u9, rfl, _⟩ := l2
    have q : lb_law_5 [some (.val (.fl ns)), some (.val (.int (0 + (i : Int)))), s2, s3, s4, s5, s6, s7, s8, s9] = .ok .nx [some (.val (.fl ns)), some (.val (.int (0 + (i : Int)))), some (.lst hl'), u3, u4, u5, u6, u7, u8, u9] := by
      generalize (0 + (i : Int)) = j at *
      simp [lb_law_5, e1, l2]
    generalize (0 + (i : Int)) = j at *
    simp [q]
  obtain ⟨_, el, s1, s2, s3, s4, s5, s6, s7, s8, s9, rfl⟩ := l1
  refine ⟨.val (.fl ns), ?_⟩
  simp [m_law, b_law, f_law, el]
end Kl

set_option maxHeartbeats 8000000
namespace Kl
open PySem L2 Dl PySem.Spec PyProof.Rows
theorem all_mk {l : PySem.W.OpenLaw} {w : World} {K : PySem.W.Frag} {h : Heap} {mg mb : Str → Option Value} {fa : Addr} {q : Program} {loose : List Str} {mean : ExcName → Option Value} (TP : Top q loose mean mg mb h) (X : K.In h) (G : h.Ns mainGlobals mg) (hfa : mg "law" = some (.ref fa))
    {f1 : Addr} {od1 an1 : Option Addr} {sl1 : Array (Option Value)} {oc1 kV1 dc1 pm1 cd1 ct1 : Value}
    {f2 : Addr} {od2 an2 : Option Addr} {sl2 : Array (Option Value)} {oc2 kV2 dc2 pm2 cd2 ct2 : Value}
    {f3 : Addr} {od3 an3 : Option Addr} {sl3 : Array (Option Value)} {oc3 kV3 dc3 pm3 cd3 ct3 : Value}
    {f4 : Addr} {od4 an4 : Option Addr} {sl4 : Array (Option Value)} {oc4 kV4 dc4 pm4 cd4 ct4 : Value}
    {f5 : Addr} {od5 an5 : Option Addr} {sl5 : Array (Option Value)} {oc5 kV5 dc5 pm5 cd5 ct5 : Value}
    {f6 : Addr} {od6 an6 : Option Addr} {sl6 : Array (Option Value)} {oc6 kV6 dc6 pm6 cd6 ct6 : Value}
    {f7 : Addr} {od7 an7 : Option Addr} {sl7 : Array (Option Value)} {oc7 kV7 dc7 pm7 cd7 ct7 : Value}
    {f8 : Addr} {od8 an8 : Option Addr} {sl8 : Array (Option Value)} {oc8 kV8 dc8 pm8 cd8 ct8 : Value}
    {f9 : Addr} {od9 an9 : Option Addr} {sl9 : Array (Option Value)} {oc9 kV9 dc9 pm9 cd9 ct9 : Value}
    {f10 : Addr} {od10 an10 : Option Addr} {sl10 : Array (Option Value)} {oc10 kV10 dc10 pm10 cd10 ct10 : Value}
    {f11 : Addr} {od11 an11 : Option Addr} {sl11 : Array (Option Value)} {oc11 kV11 dc11 pm11 cd11 ct11 : Value}
    {f12 : Addr} {od12 an12 : Option Addr} {sl12 : Array (Option Value)} {oc12 kV12 dc12 pm12 cd12 ct12 : Value}
    {f13 : Addr} {od13 an13 : Option Addr} {sl13 : Array (Option Value)} {oc13 kV13 dc13 pm13 cd13 ct13 : Value}
    {f14 : Addr} {od14 an14 : Option Addr} {sl14 : Array (Option Value)} {oc14 kV14 dc14 pm14 cd14 ct14 : Value}
    {f15 : Addr} {od15 an15 : Option Addr} {sl15 : Array (Option Value)} {oc15 kV15 dc15 pm15 cd15 ct15 : Value}
    {f16 : Addr} {od16 an16 : Option Addr} {sl16 : Array (Option Value)} {oc16 kV16 dc16 pm16 cd16 ct16 : Value}
    {f17 : Addr} {od17 an17 : Option Addr} {sl17 : Array (Option Value)} {oc17 kV17 dc17 pm17 cd17 ct17 : Value}
    {f18 : Addr} {od18 an18 : Option Addr} {sl18 : Array (Option Value)} {oc18 kV18 dc18 pm18 cd18 ct18 : Value}
    {f19 : Addr} {od19 an19 : Option Addr} {sl19 : Array (Option Value)} {oc19 kV19 dc19 pm19 cd19 ct19 : Value}
    {f20 : Addr} {od20 an20 : Option Addr} {sl20 : Array (Option Value)} {oc20 kV20 dc20 pm20 cd20 ct20 : Value}
    {f21 : Addr} {od21 an21 : Option Addr} {sl21 : Array (Option Value)} {oc21 kV21 dc21 pm21 cd21 ct21 : Value}
    {f22 : Addr} {od22 an22 : Option Addr} {sl22 : Array (Option Value)} {oc22 kV22 dc22 pm22 cd22 ct22 : Value}
    {f23 : Addr} {od23 an23 : Option Addr} {sl23 : Array (Option Value)} {oc23 kV23 dc23 pm23 cd23 ct23 : Value}
    {f24 : Addr} {od24 an24 : Option Addr} {sl24 : Array (Option Value)} {oc24 kV24 dc24 pm24 cd24 ct24 : Value}
    {f25 : Addr} {od25 an25 : Option Addr} {sl25 : Array (Option Value)} {oc25 kV25 dc25 pm25 cd25 ct25 : Value}
    {f26 : Addr} {od26 an26 : Option Addr} {sl26 : Array (Option Value)} {oc26 kV26 dc26 pm26 cd26 ct26 : Value}
    {tc25 tp25 : Addr} {dr25 : DefRec} {toc25 : Value} {tod25 : Option Addr} {tsl25 : Array (Option Value)} {tvs25 : Array Value}
    {C1 : Addr}
    {C2 : Addr}
    {C3 : Addr}
    {C4 : Addr}
    {C5 : Addr}
    {C6 : Addr}
    {C7 : Addr}
    {C8 : Addr}
    {C9 : Addr}
    {nm5 q5 : Str} {N5 : Addr} {bs5 : List Value} {sn5 : List Str} {sub5 : List Value} {ab5 : Bool} {col5 : Option Bool} {dd5 : Option Addr} {m05 m15 m25 m35 m55 : Option Value}
    {g5 : Addr} {xod5 xan5 : Option Addr} {xsl5 : Array (Option Value)} {xoc5 xkV5 xdc5 xpm5 xcd5 xct5 : Value}
    (a1 : PySem.W.nsIn K mainGlobals "_law_caught" = some (some (.ref f1)))
    (l1 : K.lookup f1 = some ⟨oc1, od1, .func (PySem.W.fnOf "_law_caught" "_law_caught" (defArgs s_l_caught) (defBody s_l_caught) (defScope s_l_caught) .none kV1 dc1 pm1 an1 cd1 ct1), sl1⟩)
    (c1 : PySem.W.codeIn K cd1 "_law_caught" = true)
    (k1 : PySem.W.keepIn K (.ref f1) = true)
    (a2 : PySem.W.nsIn K mainGlobals "is_integer" = some (some (.ref f2)))
    (l2 : K.lookup f2 = some ⟨oc2, od2, .func (PySem.W.fnOf "is_integer" "is_integer" (defArgs s_is_integer) (defBody s_is_integer) (defScope s_is_integer) .none kV2 dc2 pm2 an2 cd2 ct2), sl2⟩)
    (c2 : PySem.W.codeIn K cd2 "is_integer" = true)
    (k2 : PySem.W.keepIn K (.ref f2) = true)
    (a3 : PySem.W.nsIn K mainGlobals "check_edge" = some (some (.ref f3)))
    (l3 : K.lookup f3 = some ⟨oc3, od3, .func (PySem.W.fnOf "check_edge" "check_edge" (defArgs s_check_edge) (defBody s_check_edge) (defScope s_check_edge) .none kV3 dc3 pm3 an3 cd3 ct3), sl3⟩)
    (c3 : PySem.W.codeIn K cd3 "check_edge" = true)
    (k3 : PySem.W.keepIn K (.ref f3) = true)
    (a4 : PySem.W.nsIn K mainGlobals "chain_sums" = some (some (.ref f4)))
    (l4 : K.lookup f4 = some ⟨oc4, od4, .func (PySem.W.fnOf "chain_sums" "chain_sums" (defArgs s_chain_sums) (defBody s_chain_sums) (defScope s_chain_sums) .none kV4 dc4 pm4 an4 cd4 ct4), sl4⟩)
    (c4 : PySem.W.codeIn K cd4 "chain_sums" = true)
    (k4 : PySem.W.keepIn K (.ref f4) = true)
    (a5 : PySem.W.nsIn K mainGlobals "least_width" = some (some (.ref f5)))
    (l5 : K.lookup f5 = some ⟨oc5, od5, .func (PySem.W.fnOf "least_width" "least_width" (defArgs s_least_width) (defBody s_least_width) (defScope s_least_width) .none kV5 dc5 pm5 an5 cd5 ct5), sl5⟩)
    (c5 : PySem.W.codeIn K cd5 "least_width" = true)
    (k5 : PySem.W.keepIn K (.ref f5) = true)
    (a6 : PySem.W.nsIn K mainGlobals "last_cell" = some (some (.ref f6)))
    (l6 : K.lookup f6 = some ⟨oc6, od6, .func (PySem.W.fnOf "last_cell" "last_cell" (defArgs s_last_cell) (defBody s_last_cell) (defScope s_last_cell) .none kV6 dc6 pm6 an6 cd6 ct6), sl6⟩)
    (c6 : PySem.W.codeIn K cd6 "last_cell" = true)
    (k6 : PySem.W.keepIn K (.ref f6) = true)
    (a7 : PySem.W.nsIn K mainGlobals "greatest_chain" = some (some (.ref f7)))
    (l7 : K.lookup f7 = some ⟨oc7, od7, .func (PySem.W.fnOf "greatest_chain" "greatest_chain" (defArgs s_greatest_chain) (defBody s_greatest_chain) (defScope s_greatest_chain) .none kV7 dc7 pm7 an7 cd7 ct7), sl7⟩)
    (c7 : PySem.W.codeIn K cd7 "greatest_chain" = true)
    (k7 : PySem.W.keepIn K (.ref f7) = true)
    (a8 : PySem.W.nsIn K mainGlobals "are_cells" = some (some (.ref f8)))
    (l8 : K.lookup f8 = some ⟨oc8, od8, .func (PySem.W.fnOf "are_cells" "are_cells" (defArgs s_are_cells) (defBody s_are_cells) (defScope s_are_cells) .none kV8 dc8 pm8 an8 cd8 ct8), sl8⟩)
    (c8 : PySem.W.codeIn K cd8 "are_cells" = true)
    (k8 : PySem.W.keepIn K (.ref f8) = true)
    (a9 : PySem.W.nsIn K mainGlobals "loads" = some (some (.ref f9)))
    (l9 : K.lookup f9 = some ⟨oc9, od9, .func (PySem.W.fnOf "loads" "loads" (defArgs s_loads) (defBody s_loads) (defScope s_loads) .none kV9 dc9 pm9 an9 cd9 ct9), sl9⟩)
    (c9 : PySem.W.codeIn K cd9 "loads" = true)
    (k9 : PySem.W.keepIn K (.ref f9) = true)
    (a10 : PySem.W.nsIn K mainGlobals "counts_in" = some (some (.ref f10)))
    (l10 : K.lookup f10 = some ⟨oc10, od10, .func (PySem.W.fnOf "counts_in" "counts_in" (defArgs s_counts_in) (defBody s_counts_in) (defScope s_counts_in) .none kV10 dc10 pm10 an10 cd10 ct10), sl10⟩)
    (c10 : PySem.W.codeIn K cd10 "counts_in" = true)
    (k10 : PySem.W.keepIn K (.ref f10) = true)
    (a11 : PySem.W.nsIn K mainGlobals "sum_of" = some (some (.ref f11)))
    (l11 : K.lookup f11 = some ⟨oc11, od11, .func (PySem.W.fnOf "sum_of" "sum_of" (defArgs s_sum_of) (defBody s_sum_of) (defScope s_sum_of) .none kV11 dc11 pm11 an11 cd11 ct11), sl11⟩)
    (c11 : PySem.W.codeIn K cd11 "sum_of" = true)
    (k11 : PySem.W.keepIn K (.ref f11) = true)
    (a12 : PySem.W.nsIn K mainGlobals "is_chain" = some (some (.ref f12)))
    (l12 : K.lookup f12 = some ⟨oc12, od12, .func (PySem.W.fnOf "is_chain" "is_chain" (defArgs s_is_chain) (defBody s_is_chain) (defScope s_is_chain) .none kV12 dc12 pm12 an12 cd12 ct12), sl12⟩)
    (c12 : PySem.W.codeIn K cd12 "is_chain" = true)
    (k12 : PySem.W.keepIn K (.ref f12) = true)
    (a13 : PySem.W.nsIn K mainGlobals "shows_least" = some (some (.ref f13)))
    (l13 : K.lookup f13 = some ⟨oc13, od13, .func (PySem.W.fnOf "shows_least" "shows_least" (defArgs s_shows_least) (defBody s_shows_least) (defScope s_shows_least) .none kV13 dc13 pm13 an13 cd13 ct13), sl13⟩)
    (c13 : PySem.W.codeIn K cd13 "shows_least" = true)
    (k13 : PySem.W.keepIn K (.ref f13) = true)
    (a14 : PySem.W.nsIn K mainGlobals "chain_sum" = some (some (.ref f14)))
    (l14 : K.lookup f14 = some ⟨oc14, od14, .func (PySem.W.fnOf "chain_sum" "chain_sum" (defArgs s_chain_sum) (defBody s_chain_sum) (defScope s_chain_sum) .none kV14 dc14 pm14 an14 cd14 ct14), sl14⟩)
    (c14 : PySem.W.codeIn K cd14 "chain_sum" = true)
    (k14 : PySem.W.keepIn K (.ref f14) = true)
    (a15 : PySem.W.nsIn K mainGlobals "_law_hand" = some (some (.ref f15)))
    (l15 : K.lookup f15 = some ⟨oc15, od15, .func (PySem.W.fnOf "_law_hand" "_law_hand" (defArgs s_l_hand) (defBody s_l_hand) (defScope s_l_hand) .none kV15 dc15 pm15 an15 cd15 ct15), sl15⟩)
    (c15 : PySem.W.codeIn K cd15 "_law_hand" = true)
    (k15 : PySem.W.keepIn K (.ref f15) = true)
    (a16 : PySem.W.nsIn K mainGlobals "_law_take" = some (some (.ref f16)))
    (l16 : K.lookup f16 = some ⟨oc16, od16, .func (PySem.W.fnOf "_law_take" "_law_take" (defArgs s_l_take) (defBody s_l_take) (defScope s_l_take) .none kV16 dc16 pm16 an16 cd16 ct16), sl16⟩)
    (c16 : PySem.W.codeIn K cd16 "_law_take" = true)
    (k16 : PySem.W.keepIn K (.ref f16) = true)
    (a17 : PySem.W.nsIn K mainGlobals "_law_of" = some (some (.ref f17)))
    (l17 : K.lookup f17 = some ⟨oc17, od17, .func (PySem.W.fnOf "_law_of" "_law_of" (defArgs s_l_of) (defBody s_l_of) (defScope s_l_of) .none kV17 dc17 pm17 an17 cd17 ct17), sl17⟩)
    (c17 : PySem.W.codeIn K cd17 "_law_of" = true)
    (k17 : PySem.W.keepIn K (.ref f17) = true)
    (a18 : PySem.W.nsIn K mainGlobals "_law_need" = some (some (.ref f18)))
    (l18 : K.lookup f18 = some ⟨oc18, od18, .func (PySem.W.fnOf "_law_need" "_law_need" (defArgs s_l_need) (defBody s_l_need) (defScope s_l_need) .none kV18 dc18 pm18 an18 cd18 ct18), sl18⟩)
    (c18 : PySem.W.codeIn K cd18 "_law_need" = true)
    (k18 : PySem.W.keepIn K (.ref f18) = true)
    (a19 : PySem.W.nsIn K mainGlobals "_law_grid" = some (some (.ref f19)))
    (l19 : K.lookup f19 = some ⟨oc19, od19, .func (PySem.W.fnOf "_law_grid" "_law_grid" (defArgs s_l_grid) (defBody s_l_grid) (defScope s_l_grid) .none kV19 dc19 pm19 an19 cd19 ct19), sl19⟩)
    (c19 : PySem.W.codeIn K cd19 "_law_grid" = true)
    (k19 : PySem.W.keepIn K (.ref f19) = true)
    (a20 : PySem.W.nsIn K mainGlobals "_law_sums" = some (some (.ref f20)))
    (l20 : K.lookup f20 = some ⟨oc20, od20, .func (PySem.W.fnOf "_law_sums" "_law_sums" (defArgs s_l_sums) (defBody s_l_sums) (defScope s_l_sums) .none kV20 dc20 pm20 an20 cd20 ct20), sl20⟩)
    (c20 : PySem.W.codeIn K cd20 "_law_sums" = true)
    (k20 : PySem.W.keepIn K (.ref f20) = true)
    (a21 : PySem.W.nsIn K mainGlobals "_law_least" = some (some (.ref f21)))
    (l21 : K.lookup f21 = some ⟨oc21, od21, .func (PySem.W.fnOf "_law_least" "_law_least" (defArgs s_l_least) (defBody s_l_least) (defScope s_l_least) .none kV21 dc21 pm21 an21 cd21 ct21), sl21⟩)
    (c21 : PySem.W.codeIn K cd21 "_law_least" = true)
    (k21 : PySem.W.keepIn K (.ref f21) = true)
    (a22 : PySem.W.nsIn K mainGlobals "_law_weights" = some (some (.ref f22)))
    (l22 : K.lookup f22 = some ⟨oc22, od22, .func (PySem.W.fnOf "_law_weights" "_law_weights" (defArgs s_l_weights) (defBody s_l_weights) (defScope s_l_weights) .none kV22 dc22 pm22 an22 cd22 ct22), sl22⟩)
    (c22 : PySem.W.codeIn K cd22 "_law_weights" = true)
    (k22 : PySem.W.keepIn K (.ref f22) = true)
    (a23 : PySem.W.nsIn K mainGlobals "_law_odd" = some (some (.ref f23)))
    (l23 : K.lookup f23 = some ⟨oc23, od23, .func (PySem.W.fnOf "_law_odd" "_law_odd" (defArgs s_l_odd) (defBody s_l_odd) (defScope s_l_odd) .none kV23 dc23 pm23 an23 cd23 ct23), sl23⟩)
    (c23 : PySem.W.codeIn K cd23 "_law_odd" = true)
    (k23 : PySem.W.keepIn K (.ref f23) = true)
    (a24 : PySem.W.nsIn K mainGlobals "_law_is_whole" = some (some (.ref f24)))
    (l24 : K.lookup f24 = some ⟨oc24, od24, .func (PySem.W.fnOf "_law_is_whole" "_law_is_whole" (defArgs s_l_is_whole) (defBody s_l_is_whole) (defScope s_l_is_whole) .none kV24 dc24 pm24 an24 cd24 ct24), sl24⟩)
    (c24 : PySem.W.codeIn K cd24 "_law_is_whole" = true)
    (k24 : PySem.W.keepIn K (.ref f24) = true)
    (a25 : PySem.W.nsIn K mainGlobals "_law_edges_right" = some (some (.ref f25)))
    (l25 : K.lookup f25 = some ⟨oc25, od25, .func (PySem.W.fnOf "_law_edges_right" "_law_edges_right" (defArgs s_l_edges_right) (defBody s_l_edges_right) (defScope s_l_edges_right) .none kV25 dc25 pm25 an25 cd25 ct25), sl25⟩)
    (c25 : PySem.W.codeIn K cd25 "_law_edges_right" = true)
    (k25 : PySem.W.keepIn K (.ref f25) = true)
    (tcd25 : cd25 = .ref tc25)
    (tl25 : K.lookup tc25 = some ⟨toc25, tod25, .fields tvs25, tsl25⟩)
    (tv25 : (tvs25[11]? : Option Value) = some (.ref tp25))
    (tn25 : K.lookup tp25 = none)
    (tr25 : (recsOf q).find? (fun e => e.name == ("_law_edges_right" : Str)) = some dr25)
    (a26 : PySem.W.nsIn K mainGlobals "law" = some (some (.ref f26)))
    (l26 : K.lookup f26 = some ⟨oc26, od26, .func (PySem.W.fnOf "law" "law" (defArgs s_law) (defBody s_law) (defScope s_law) .none kV26 dc26 pm26 an26 cd26 ct26), sl26⟩)
    (c26 : PySem.W.codeIn K cd26 "law" = true)
    (k26 : PySem.W.keepIn K (.ref f26) = true)
    (z1 : PySem.W.nsIn K mainGlobals "len" = some none)
    (z2 : PySem.W.nsIn K mainGlobals "abs" = some none)
    (z3 : PySem.W.nsIn K mainGlobals "sum" = some none)
    (z4 : PySem.W.nsIn K mainGlobals "all" = some none)
    (z5 : PySem.W.nsIn K mainGlobals "max" = some none)
    (z6 : PySem.W.nsIn K mainGlobals "min" = some none)
    (z7 : PySem.W.nsIn K mainGlobals "repr" = some none)
    (z8 : PySem.W.nsIn K mainGlobals "int" = some none)
    (z9 : PySem.W.nsIn K mainGlobals "tuple" = some none)
    (z10 : PySem.W.nsIn K mainGlobals "list" = some none)
    (z11 : PySem.W.nsIn K mainGlobals "range" = some none)
    (z12 : PySem.W.nsIn K mainGlobals "enumerate" = some none)
    (z13 : PySem.W.nsIn K mainGlobals "zip" = some none)
    (z14 : PySem.W.nsIn K mainGlobals "isinstance" = some none)
    (z15 : PySem.W.nsIn K mainGlobals "str" = some none)
    (z16 : PySem.W.nsIn K mainGlobals "sorted" = some none)
    (z17 : PySem.W.nsIn K mainGlobals "set" = some none)
    (z18 : PySem.W.nsIn K mainGlobals "bool" = some none)
    (zV : PySem.W.nsIn K mainGlobals "ValueError" = some none)
    (eV : PySem.W.subIn K (.type "ValueError") (.type "BaseException") = some true)
    (hn : PySem.W.specialIn K (.builtin "object.__class__") "__get__" = some (some (.builtin "getset_descriptor.__get__")))
    (ht : PySem.W.takesIn K (.builtin "object.__class__") = some true)
    (xa1 : PySem.W.nsIn K mainGlobals "TableError" = some (some (.ref C1)))
    (xi1 : PySem.W.isClsIn K C1 = true)
    (xt1 : PySem.W.typeIn K (.ref C1) = some (.type "type"))
    (xe1 : PySem.W.subIn K (.ref C1) (.type "BaseException") = some true)
    (xa2 : PySem.W.nsIn K mainGlobals "NoCell" = some (some (.ref C2)))
    (xi2 : PySem.W.isClsIn K C2 = true)
    (xt2 : PySem.W.typeIn K (.ref C2) = some (.type "type"))
    (xe2 : PySem.W.subIn K (.ref C2) (.type "BaseException") = some true)
    (xa3 : PySem.W.nsIn K mainGlobals "BadTable" = some (some (.ref C3)))
    (xi3 : PySem.W.isClsIn K C3 = true)
    (xt3 : PySem.W.typeIn K (.ref C3) = some (.type "type"))
    (xe3 : PySem.W.subIn K (.ref C3) (.type "BaseException") = some true)
    (xa4 : PySem.W.nsIn K mainGlobals "BadWidths" = some (some (.ref C4)))
    (xi4 : PySem.W.isClsIn K C4 = true)
    (xt4 : PySem.W.typeIn K (.ref C4) = some (.type "type"))
    (xe4 : PySem.W.subIn K (.ref C4) (.type "BaseException") = some true)
    (xa5 : PySem.W.nsIn K mainGlobals "NoEdge" = some (some (.ref C5)))
    (xi5 : PySem.W.isClsIn K C5 = true)
    (xt5 : PySem.W.typeIn K (.ref C5) = some (.type "type"))
    (xe5 : PySem.W.subIn K (.ref C5) (.type "BaseException") = some true)
    (xa6 : PySem.W.nsIn K mainGlobals "BadPlace" = some (some (.ref C6)))
    (xi6 : PySem.W.isClsIn K C6 = true)
    (xt6 : PySem.W.typeIn K (.ref C6) = some (.type "type"))
    (xe6 : PySem.W.subIn K (.ref C6) (.type "BaseException") = some true)
    (xa7 : PySem.W.nsIn K mainGlobals "OtherTable" = some (some (.ref C7)))
    (xi7 : PySem.W.isClsIn K C7 = true)
    (xt7 : PySem.W.typeIn K (.ref C7) = some (.type "type"))
    (xe7 : PySem.W.subIn K (.ref C7) (.type "BaseException") = some true)
    (xa8 : PySem.W.nsIn K mainGlobals "TooNarrow" = some (some (.ref C8)))
    (xi8 : PySem.W.isClsIn K C8 = true)
    (xt8 : PySem.W.typeIn K (.ref C8) = some (.type "type"))
    (xe8 : PySem.W.subIn K (.ref C8) (.type "BaseException") = some true)
    (xa9 : PySem.W.nsIn K mainGlobals "BadPrices" = some (some (.ref C9)))
    (xi9 : PySem.W.isClsIn K C9 = true)
    (xt9 : PySem.W.typeIn K (.ref C9) = some (.type "type"))
    (xe9 : PySem.W.subIn K (.ref C9) (.type "BaseException") = some true)
    (tr : PySem.W.readsIn K C1 (.type "type") = true)
    (tg : PySem.W.specialIn K (.ref C1) "__getattribute__" = some (some (.builtin "type.__getattribute__")))
    (tv : PySem.W.findCls K (.ref C1) (.type "type") "__init__" = some (.val (.builtin "ValueError.__init__")))
    (xL5 : K.lookup C5 = some (excClassObj nm5 q5 C5 N5 bs5 [.ref C1, .type "ValueError", .type "Exception", .type "BaseException", .type "object"] true sn5 sub5 ab5 col5 dd5 m05 m15 m25 m35 m55 "ValueError.__new__"))
    (xs5 : PySem.W.findIn K (.ref C5) "__setattr__" = some (some (.builtin "object.__setattr__")))
    (xk5 : PySem.W.keepIn K (.ref C5) = true)
    (xg5 : PySem.W.findIn K (.ref C5) "__getattribute__" = some (some (.builtin "BaseException.__getattribute__")))
    (xh5 : PySem.W.findIn K (.ref C5) "__getattr__" = some none)
    (xd5 : PySem.W.hasDictIn K C5 = true)
    (xc5 : PySem.W.findIn K (.ref C5) "__class__" = some (some (.builtin "object.__class__")))
    (xm5 : PySem.W.mroIn K C5 (.type "object") = some true)
    (xb5_1 : PySem.W.subIn K (.ref C5) (.type "int") = some false)
    (xb5_2 : PySem.W.subIn K (.ref C5) (.type "bool") = some false)
    (xb5_3 : PySem.W.subIn K (.ref C5) (.type "tuple") = some false)
    (xb5_4 : PySem.W.subIn K (.ref C5) (.type "list") = some false)
    (xb5_5 : PySem.W.subIn K (.ref C5) (.type "dict") = some false)
    (xb5_6 : PySem.W.subIn K (.ref C5) (.type "str") = some false)
    (xn5_1 : PySem.W.findIn K (.ref C5) "value" = some none)
    (xn5_2 : PySem.W.findIn K (.ref C5) "number" = some none)
    (xn5_3 : PySem.W.findIn K (.ref C5) "cell" = some none)
    (xn5_4 : PySem.W.findIn K (.ref C5) "count" = some none)
    (xn5_5 : PySem.W.findIn K (.ref C5) "row" = some none)
    (xn5_6 : PySem.W.findIn K (.ref C5) "line" = some none)
    (xn5_7 : PySem.W.findIn K (.ref C5) "low" = some none)
    (xn5_8 : PySem.W.findIn K (.ref C5) "high" = some none)
    (xn5_9 : PySem.W.findIn K (.ref C5) "own_table" = some none)
    (xn5_10 : PySem.W.findIn K (.ref C5) "own_widths" = some none)
    (xn5_11 : PySem.W.findIn K (.ref C5) "own_places" = some none)
    (xn5_12 : PySem.W.findIn K (.ref C5) "own_order" = some none)
    (xI5 : PySem.W.findIn K (.ref C5) "__init__" = some (some (.ref g5)))
    (xJ5 : PySem.W.typeIn K (.ref g5) = some (.type "function"))
    (xl5 : K.lookup g5 = some ⟨xoc5, xod5, .func (PySem.W.fnOf "__init__" "NoEdge.__init__" (defArgs s_init_NoEdge) (defBody s_init_NoEdge) (defScope s_init_NoEdge) .none xkV5 xdc5 xpm5 xan5 xcd5 xct5), xsl5⟩)
    (xq5 : PySem.W.codeIn K xcd5 "NoEdge.__init__" = true)
    (xr5 : PySem.W.keepIn K (.ref g5) = true)
    (u5_1 : PySem.W.subIn K (.ref C5) (.ref C1) = some true)
    (u5_3 : PySem.W.subIn K (.ref C5) (.ref C3) = some false)
    (u5_4 : PySem.W.subIn K (.ref C5) (.ref C4) = some false)
    (u5_2 : PySem.W.subIn K (.ref C5) (.ref C2) = some false)
    (u5_5 : PySem.W.subIn K (.ref C5) (.ref C5) = some true)
    (u5_6 : PySem.W.subIn K (.ref C5) (.ref C6) = some false)
    (u5_9 : PySem.W.subIn K (.ref C5) (.ref C9) = some false)
    (u5_7 : PySem.W.subIn K (.ref C5) (.ref C7) = some false)
    (u5_8 : PySem.W.subIn K (.ref C5) (.ref C8) = some false)
    (u5_V : PySem.W.subIn K (.ref C5) (.type "ValueError") = some true)
    : ∃ (fd : FuncData) (cls : List (Str × Addr)) (cs : List (Addr × Addr × Str)), (∀ p ∈ cs, h.get? p.2.1 = some { cls := .none, data := .fields #[] } ∧ K.lookup p.2.1 = none ∧ PySem.W.CodeHd h p.1 p.2.1) ∧ (∀ (s : Shared) (v : Value), BindsTo s fd ⟨[v], []⟩ [("_law_script", v)]) ∧ ∀ base : Heap, K.In base → base.Ns mainGlobals mg → (∀ p ∈ cs, LamX.TabB base mg p.1 p.2.1) → FnG l.prog w K mg base (L2.CX l.prog w) 29 fa fd ["_law_script"] (@spM ⟨K, cls, cs.map (·.2)⟩ (@xhE ⟨K, cls, cs.map (·.2)⟩) 1 m_law) := by
  have e := hfa.symm.trans (PySem.W.mg_of X G a26)
  cases e
  have F1 := fun_mk (st := s_l_caught) l1 c1 k1
  have b1 := F1.binds (ps := p_l_caught) fun _ _ _ _ _ _ us hl => match us, hl with | [_], _ => rfl
  have F2 := fun_mk (st := s_is_integer) l2 c2 k2
  have b2 := F2.binds (ps := p_is_integer) fun _ _ _ _ _ _ us hl => match us, hl with | [_, _, _], _ => rfl
  have F3 := fun_mk (st := s_check_edge) l3 c3 k3
  have b3 := F3.binds (ps := p_check_edge) fun _ _ _ _ _ _ us hl => match us, hl with | [_, _], _ => rfl
  have F4 := fun_mk (st := s_chain_sums) l4 c4 k4
  have b4 := F4.binds (ps := p_chain_sums) fun _ _ _ _ _ _ us hl => match us, hl with | [_], _ => rfl
  have F5 := fun_mk (st := s_least_width) l5 c5 k5
  have b5 := F5.binds (ps := p_least_width) fun _ _ _ _ _ _ us hl => match us, hl with | [_], _ => rfl
  have F6 := fun_mk (st := s_last_cell) l6 c6 k6
  have b6 := F6.binds (ps := p_last_cell) fun _ _ _ _ _ _ us hl => match us, hl with | [_, _, _], _ => rfl
  have F7 := fun_mk (st := s_greatest_chain) l7 c7 k7
  have b7 := F7.binds (ps := p_greatest_chain) fun _ _ _ _ _ _ us hl => match us, hl with | [_], _ => rfl
  have F8 := fun_mk (st := s_are_cells) l8 c8 k8
  have b8 := F8.binds (ps := p_are_cells) fun _ _ _ _ _ _ us hl => match us, hl with | [_, _], _ => rfl
  have F9 := fun_mk (st := s_loads) l9 c9 k9
  have b9 := F9.binds (ps := p_loads) fun _ _ _ _ _ _ us hl => match us, hl with | [_, _], _ => rfl
  have F10 := fun_mk (st := s_counts_in) l10 c10 k10
  have b10 := F10.binds (ps := p_counts_in) fun _ _ _ _ _ _ us hl => match us, hl with | [_, _], _ => rfl
  have F11 := fun_mk (st := s_sum_of) l11 c11 k11
  have b11 := F11.binds (ps := p_sum_of) fun _ _ _ _ _ _ us hl => match us, hl with | [_, _], _ => rfl
  have F12 := fun_mk (st := s_is_chain) l12 c12 k12
  have b12 := F12.binds (ps := p_is_chain) fun _ _ _ _ _ _ us hl => match us, hl with | [_, _], _ => rfl
  have F13 := fun_mk (st := s_shows_least) l13 c13 k13
  have b13 := F13.binds (ps := p_shows_least) fun _ _ _ _ _ _ us hl => match us, hl with | [_, _, _], _ => rfl
  have F14 := fun_mk (st := s_chain_sum) l14 c14 k14
  have b14 := F14.binds (ps := p_chain_sum) fun _ _ _ _ _ _ us hl => match us, hl with | [_, _, _], _ => rfl
  have F15 := fun_mk (st := s_l_hand) l15 c15 k15
  have b15 := F15.binds (ps := p_l_hand) fun _ _ _ _ _ _ us hl => match us, hl with | [_, _], _ => rfl
  have F16 := fun_mk (st := s_l_take) l16 c16 k16
  have b16 := F16.binds (ps := p_l_take) fun _ _ _ _ _ _ us hl => match us, hl with | [_, _], _ => rfl
  have F17 := fun_mk (st := s_l_of) l17 c17 k17
  have b17 := F17.binds (ps := p_l_of) fun _ _ _ _ _ _ us hl => match us, hl with | [_, _], _ => rfl
  have F18 := fun_mk (st := s_l_need) l18 c18 k18
  have b18 := F18.binds (ps := p_l_need) fun _ _ _ _ _ _ us hl => match us, hl with | [_, _], _ => rfl
  have F19 := fun_mk (st := s_l_grid) l19 c19 k19
  have b19 := F19.binds (ps := p_l_grid) fun _ _ _ _ _ _ us hl => match us, hl with | [_, _, _, _], _ => rfl
  have F20 := fun_mk (st := s_l_sums) l20 c20 k20
  have b20 := F20.binds (ps := p_l_sums) fun _ _ _ _ _ _ us hl => match us, hl with | [_, _], _ => rfl
  have F21 := fun_mk (st := s_l_least) l21 c21 k21
  have b21 := F21.binds (ps := p_l_least) fun _ _ _ _ _ _ us hl => match us, hl with | [_], _ => rfl
  have F22 := fun_mk (st := s_l_weights) l22 c22 k22
  have b22 := F22.binds (ps := p_l_weights) fun _ _ _ _ _ _ us hl => match us, hl with | [_, _], _ => rfl
  have F23 := fun_mk (st := s_l_odd) l23 c23 k23
  have b23 := F23.binds (ps := p_l_odd) fun _ _ _ _ _ _ us hl => match us, hl with | [_, _], _ => rfl
  have F24 := fun_mk (st := s_l_is_whole) l24 c24 k24
  have b24 := F24.binds (ps := p_l_is_whole) fun _ _ _ _ _ _ us hl => match us, hl with | [_, _, _], _ => rfl
  have F25 := fun_mk (st := s_l_edges_right) l25 c25 k25
  have b25 := F25.binds (ps := p_l_edges_right) fun _ _ _ _ _ _ us hl => match us, hl with | [_, _], _ => rfl
  have F26 := fun_mk (st := s_law) l26 c26 k26
  have FI5 := fun_mk (st := s_init_NoEdge) xl5 xq5 xr5
  have bI5 := FI5.binds (ps := ["self", "value"]) fun _ _ _ _ _ _ us hl => match us, hl with | [_, _], _ => rfl
  have xx5 : XcC K C5 := xcC_mk xi5 xg5 xh5 xe5 xd5 xc5 hn ht xm5 xb5_1 xb5_2 xb5_3 xb5_4 xb5_5 xb5_6 xn5_1 xn5_2 xn5_3 xn5_4 xn5_5 xn5_6 xn5_7 xn5_8 xn5_9 xn5_10 xn5_11 xn5_12
  have xo5 : OexC K C5 := ⟨⟨_, _, _, _, _, _, _, _, _, _, _, _, _, _, _, xL5, by rfl⟩, xs5, xe5, xt5, xk5⟩
  have te : TeC K C1 := ⟨tr, tg, tv⟩
  have tt25 := tab_mk a25 l25 tcd25 tl25 tv25
  refine ⟨PySem.W.fnOf "law" "law" (defArgs s_law) (defBody s_law) (defScope s_law) .none kV26 dc26 pm26 an26 cd26 ct26, [("NoEdge", C5)], [(tc25, tp25, ("_law_edges_right" : Str) ++ ".<locals>." ++ "<lambda>")], ?_, fun s v => .of_eq rfl, fun base _ _ hTB => ?_⟩
  · intro p hp
    simp only [List.mem_cons, List.not_mem_nil, or_false] at hp
    rcases hp with rfl
    · exact ⟨(PySem.W.tab_of TP X tr25 tt25).2, tn25, (PySem.W.tab_of TP X tr25 tt25).1⟩
  letI : Kc := ⟨K, [("NoEdge", C5)], [(tp25, ("_law_edges_right" : Str) ++ ".<locals>." ++ "<lambda>")]⟩
  have hL25 : LamD K mg base "_law_edges_right" cd25 := by
    refine ⟨tc25, tp25, hTB (tc25, tp25, ("_law_edges_right" : Str) ++ ".<locals>." ++ "<lambda>") (.head _), tab_code a25 l25 tt25, (.head _), fun p hp e => ?_⟩
    have hp : p ∈ ([(tp25, ("_law_edges_right" : Str) ++ ".<locals>." ++ "<lambda>")] : List (Addr × Str)) := hp
    simp only [List.mem_cons, List.not_mem_nil, or_false] at hp
    rcases hp with rfl
    · rfl
  have hC : ∀ x d, md.cst.lookup x = some d → ∃ u v, mg x = some u ∧ sc d = some v ∧ RelV v u := by
      intro x d h
      exact nomatch h
  have hB : ∀ x, x ∈ md.blt → mg x = none := by
      intro x hx
      simp only [md, blt, List.mem_cons, List.not_mem_nil, or_false] at hx
      rcases hx with rfl | rfl | rfl | rfl | rfl | rfl | rfl | rfl | rfl | rfl | rfl | rfl | rfl | rfl | rfl | rfl | rfl | rfl
      · exact PySem.W.mg_none_of X G z1
      · exact PySem.W.mg_none_of X G z2
      · exact PySem.W.mg_none_of X G z3
      · exact PySem.W.mg_none_of X G z4
      · exact PySem.W.mg_none_of X G z5
      · exact PySem.W.mg_none_of X G z6
      · exact PySem.W.mg_none_of X G z7
      · exact PySem.W.mg_none_of X G z8
      · exact PySem.W.mg_none_of X G z9
      · exact PySem.W.mg_none_of X G z10
      · exact PySem.W.mg_none_of X G z11
      · exact PySem.W.mg_none_of X G z12
      · exact PySem.W.mg_none_of X G z13
      · exact PySem.W.mg_none_of X G z14
      · exact PySem.W.mg_none_of X G z15
      · exact PySem.W.mg_none_of X G z16
      · exact PySem.W.mg_none_of X G z17
      · exact PySem.W.mg_none_of X G z18
  have hX : ∀ x ks, md.exc.lookup x = some ks → ∃ C, Kc.cls.lookup x = some C ∧ XcC Kc.k C ∧ ExM l.prog w K mg base x C ks := by
      intro x ks h
      simp only [md, exc, List.lookup_cons] at h
      by_cases e1 : x = "NoEdge"
      · subst e1
        simp only [beq_self_eq_true] at h
        cases h
        refine ⟨C5, by rfl, xx5, xo5, PySem.W.mg_of X G xa5, (fun k hk => by simp only [List.mem_cons, List.not_mem_nil, or_false] at hk; rcases hk with rfl <;> assumption), _, _, xI5, xJ5, ?_, bI5⟩
        exact init1_ok FI5 sc_init_NoEdge rfl rfl (by decide) (by decide) (PySem.W.mg_of X G xa1) te (fun env => ⟨_, rfl⟩)
      rw [show (x == ("NoEdge" : Str)) = false from by simpa using e1] at h
      simp only at h
      exact nomatch h
  have hI : ∀ x li, md.isa.lookup x = some li → ∃ v u, ClsV mg x v u ∧ ∀ c b, li.lookup c = some b → ∃ C, Kc.cls.lookup c = some C ∧ PySem.W.kitOne K (.ref C) u = some b ∧ PySem.W.exmOne K (.ref C) u = some b := by
      intro x li h
      simp only [md, isa, List.lookup_cons] at h
      by_cases e1 : x = "TableError"
      · subst e1
        simp only [beq_self_eq_true] at h
        cases h
        refine ⟨.ref C1, .ref C1, ⟨rfl, fun w hw => hw, .inl (PySem.W.mg_of X G xa1)⟩, fun c b hb => ?_⟩
        simp only [isa_TableError, List.lookup_cons] at hb
        by_cases d1 : c = "NoEdge"
        · subst d1
          simp only [beq_self_eq_true] at hb
          cases hb
          exact ⟨C5, by rfl, isaR xi1 xt1 u5_1 u5_5 xe1⟩
        rw [show (c == ("NoEdge" : Str)) = false from by simpa using d1] at hb
        simp only at hb
        exact nomatch hb
      rw [show (x == ("TableError" : Str)) = false from by simpa using e1] at h
      simp only at h
      by_cases e2 : x = "BadTable"
      · subst e2
        simp only [beq_self_eq_true] at h
        cases h
        refine ⟨.ref C3, .ref C3, ⟨rfl, fun w hw => hw, .inl (PySem.W.mg_of X G xa3)⟩, fun c b hb => ?_⟩
        simp only [isa_BadTable, List.lookup_cons] at hb
        by_cases d1 : c = "NoEdge"
        · subst d1
          simp only [beq_self_eq_true] at hb
          cases hb
          exact ⟨C5, by rfl, isaR xi3 xt3 u5_3 u5_5 xe3⟩
        rw [show (c == ("NoEdge" : Str)) = false from by simpa using d1] at hb
        simp only at hb
        exact nomatch hb
      rw [show (x == ("BadTable" : Str)) = false from by simpa using e2] at h
      simp only at h
      by_cases e3 : x = "BadWidths"
      · subst e3
        simp only [beq_self_eq_true] at h
        cases h
        refine ⟨.ref C4, .ref C4, ⟨rfl, fun w hw => hw, .inl (PySem.W.mg_of X G xa4)⟩, fun c b hb => ?_⟩
        simp only [isa_BadWidths, List.lookup_cons] at hb
        by_cases d1 : c = "NoEdge"
        · subst d1
          simp only [beq_self_eq_true] at hb
          cases hb
          exact ⟨C5, by rfl, isaR xi4 xt4 u5_4 u5_5 xe4⟩
        rw [show (c == ("NoEdge" : Str)) = false from by simpa using d1] at hb
        simp only at hb
        exact nomatch hb
      rw [show (x == ("BadWidths" : Str)) = false from by simpa using e3] at h
      simp only at h
      by_cases e4 : x = "NoCell"
      · subst e4
        simp only [beq_self_eq_true] at h
        cases h
        refine ⟨.ref C2, .ref C2, ⟨rfl, fun w hw => hw, .inl (PySem.W.mg_of X G xa2)⟩, fun c b hb => ?_⟩
        simp only [isa_NoCell, List.lookup_cons] at hb
        by_cases d1 : c = "NoEdge"
        · subst d1
          simp only [beq_self_eq_true] at hb
          cases hb
          exact ⟨C5, by rfl, isaR xi2 xt2 u5_2 u5_5 xe2⟩
        rw [show (c == ("NoEdge" : Str)) = false from by simpa using d1] at hb
        simp only at hb
        exact nomatch hb
      rw [show (x == ("NoCell" : Str)) = false from by simpa using e4] at h
      simp only at h
      by_cases e5 : x = "NoEdge"
      · subst e5
        simp only [beq_self_eq_true] at h
        cases h
        refine ⟨.ref C5, .ref C5, ⟨rfl, fun w hw => hw, .inl (PySem.W.mg_of X G xa5)⟩, fun c b hb => ?_⟩
        simp only [isa_NoEdge, List.lookup_cons] at hb
        by_cases d1 : c = "NoEdge"
        · subst d1
          simp only [beq_self_eq_true] at hb
          cases hb
          exact ⟨C5, by rfl, isaR xi5 xt5 u5_5 u5_5 xe5⟩
        rw [show (c == ("NoEdge" : Str)) = false from by simpa using d1] at hb
        simp only at hb
        exact nomatch hb
      rw [show (x == ("NoEdge" : Str)) = false from by simpa using e5] at h
      simp only at h
      by_cases e6 : x = "BadPlace"
      · subst e6
        simp only [beq_self_eq_true] at h
        cases h
        refine ⟨.ref C6, .ref C6, ⟨rfl, fun w hw => hw, .inl (PySem.W.mg_of X G xa6)⟩, fun c b hb => ?_⟩
        simp only [isa_BadPlace, List.lookup_cons] at hb
        by_cases d1 : c = "NoEdge"
        · subst d1
          simp only [beq_self_eq_true] at hb
          cases hb
          exact ⟨C5, by rfl, isaR xi6 xt6 u5_6 u5_5 xe6⟩
        rw [show (c == ("NoEdge" : Str)) = false from by simpa using d1] at hb
        simp only at hb
        exact nomatch hb
      rw [show (x == ("BadPlace" : Str)) = false from by simpa using e6] at h
      simp only at h
      by_cases e7 : x = "BadPrices"
      · subst e7
        simp only [beq_self_eq_true] at h
        cases h
        refine ⟨.ref C9, .ref C9, ⟨rfl, fun w hw => hw, .inl (PySem.W.mg_of X G xa9)⟩, fun c b hb => ?_⟩
        simp only [isa_BadPrices, List.lookup_cons] at hb
        by_cases d1 : c = "NoEdge"
        · subst d1
          simp only [beq_self_eq_true] at hb
          cases hb
          exact ⟨C5, by rfl, isaR xi9 xt9 u5_9 u5_5 xe9⟩
        rw [show (c == ("NoEdge" : Str)) = false from by simpa using d1] at hb
        simp only at hb
        exact nomatch hb
      rw [show (x == ("BadPrices" : Str)) = false from by simpa using e7] at h
      simp only at h
      by_cases e8 : x = "OtherTable"
      · subst e8
        simp only [beq_self_eq_true] at h
        cases h
        refine ⟨.ref C7, .ref C7, ⟨rfl, fun w hw => hw, .inl (PySem.W.mg_of X G xa7)⟩, fun c b hb => ?_⟩
        simp only [isa_OtherTable, List.lookup_cons] at hb
        by_cases d1 : c = "NoEdge"
        · subst d1
          simp only [beq_self_eq_true] at hb
          cases hb
          exact ⟨C5, by rfl, isaR xi7 xt7 u5_7 u5_5 xe7⟩
        rw [show (c == ("NoEdge" : Str)) = false from by simpa using d1] at hb
        simp only at hb
        exact nomatch hb
      rw [show (x == ("OtherTable" : Str)) = false from by simpa using e8] at h
      simp only at h
      by_cases e9 : x = "TooNarrow"
      · subst e9
        simp only [beq_self_eq_true] at h
        cases h
        refine ⟨.ref C8, .ref C8, ⟨rfl, fun w hw => hw, .inl (PySem.W.mg_of X G xa8)⟩, fun c b hb => ?_⟩
        simp only [isa_TooNarrow, List.lookup_cons] at hb
        by_cases d1 : c = "NoEdge"
        · subst d1
          simp only [beq_self_eq_true] at hb
          cases hb
          exact ⟨C5, by rfl, isaR xi8 xt8 u5_8 u5_5 xe8⟩
        rw [show (c == ("NoEdge" : Str)) = false from by simpa using d1] at hb
        simp only at hb
        exact nomatch hb
      rw [show (x == ("TooNarrow" : Str)) = false from by simpa using e9] at h
      simp only at h
      by_cases e10 : x = "ValueError"
      · subst e10
        simp only [beq_self_eq_true] at h
        cases h
        refine ⟨.ty "ValueError", .type "ValueError", ⟨rfl, fun w hw => hw, .inr ⟨PySem.W.mg_none_of X G zV, by decide +kernel⟩⟩, fun c b hb => ?_⟩
        simp only [isa_ValueError, List.lookup_cons] at hb
        by_cases d1 : c = "NoEdge"
        · subst d1
          simp only [beq_self_eq_true] at hb
          cases hb
          exact ⟨C5, by rfl, isaT' u5_V (by decide +kernel) eV⟩
        rw [show (c == ("NoEdge" : Str)) = false from by simpa using d1] at hb
        simp only at hb
        exact nomatch hb
      rw [show (x == ("ValueError" : Str)) = false from by simpa using e10] at h
      simp only at h
      exact nomatch h
  have hT : ∀ x tf, md.T.lookup x = some tf → ∀ X' : Cx, X'.prog = l.prog → X'.w = w → X'.K = K → X'.mg = mg → X'.base = base → X'.A.guards = some [] → THas X' x tf := by
      intro x tf h X' h1 h2 h3 h4 h5 h6
      simp only [md, tls, List.lookup_cons] at h
      by_cases e1 : x = "_law_caught"
      · subst e1
        simp only [beq_self_eq_true] at h
        cases h
        exact has_two (md := md) (st := s_l_caught) (N := n_l_caught) (a := "_law_ask") (y := "_law_caught_here") (e := "TableError") (n := "e") (ie := 3) (ia := 1) (l := isa_TableError) (z := "_law_told") (ib := 2) rfl hC hB hI l1 c1 k1 (PySem.W.mg_of X G a1) b1 sc_l_caught rfl (by decide +kernel) (by decide +kernel) rfl (by rfl) (by decide +kernel) (by decide +kernel) rfl (by decide +kernel) (by decide +kernel) rfl (by decide +kernel) rfl (by decide +kernel) (by decide) (by decide) (by decide) (by kernel_rfl) r_l_caught X' h3 h4 h6
      rw [show (x == ("_law_caught" : Str)) = false from by simpa using e1] at h
      simp only at h
      exact nomatch h
  have hM : MdOk l.prog w K mg base md := ⟨rfl, hC, hB, hX, hI, hT⟩
  have S0 : FSt l.prog w K mg base 2 T0 := FSt.nil
  have q2 := step (x := "is_integer") (N := n_is_integer) (ps := p_is_integer) (fs := f_is_integer) (F := T0) (md := md) 0 S0 hM (fun z => nomatch z) F2 sc_is_integer rfl (PySem.W.mg_of X G a2) b2
  rw [e_is_integer] at q2
  have S1 : FSt l.prog w K mg base 3 T1 := FSt.cons q2 (S0.mono (by omega))
  have q3 := step (x := "check_edge") (N := n_check_edge) (ps := p_check_edge) (fs := f_check_edge) (F := T1) (md := md) 0 S1 hM (fun z => nomatch z) F3 sc_check_edge rfl (PySem.W.mg_of X G a3) b3
  rw [e_check_edge] at q3
  have S2 : FSt l.prog w K mg base 4 T2 := FSt.cons q3 (S1.mono (by omega))
  have q4 := step (x := "chain_sums") (N := n_chain_sums) (ps := p_chain_sums) (fs := f_chain_sums) (F := T2) (md := md) 0 S2 hM (fun z => nomatch z) F4 sc_chain_sums rfl (PySem.W.mg_of X G a4) b4
  rw [e_chain_sums] at q4
  have S3 : FSt l.prog w K mg base 5 T3 := FSt.cons q4 (S2.mono (by omega))
  have q5 := step (x := "least_width") (N := n_least_width) (ps := p_least_width) (fs := f_least_width) (F := T3) (md := md) 0 S3 hM (fun z => nomatch z) F5 sc_least_width rfl (PySem.W.mg_of X G a5) b5
  rw [e_least_width] at q5
  have S4 : FSt l.prog w K mg base 6 T4 := FSt.cons q5 (S3.mono (by omega))
  have q6 := step (x := "last_cell") (N := n_last_cell) (ps := p_last_cell) (fs := f_last_cell) (F := T4) (md := md) 0 S4 hM (fun z => nomatch z) F6 sc_last_cell rfl (PySem.W.mg_of X G a6) b6
  rw [e_last_cell] at q6
  have S5 : FSt l.prog w K mg base 7 T5 := FSt.cons q6 (S4.mono (by omega))
  have q7 := step (x := "greatest_chain") (N := n_greatest_chain) (ps := p_greatest_chain) (fs := f_greatest_chain) (F := T5) (md := md) 0 S5 hM (fun z => nomatch z) F7 sc_greatest_chain rfl (PySem.W.mg_of X G a7) b7
  rw [e_greatest_chain] at q7
  have S6 : FSt l.prog w K mg base 8 T6 := FSt.cons q7 (S5.mono (by omega))
  have q8 := step (x := "are_cells") (N := n_are_cells) (ps := p_are_cells) (fs := f_are_cells) (F := T6) (md := md) 0 S6 hM (fun z => nomatch z) F8 sc_are_cells rfl (PySem.W.mg_of X G a8) b8
  rw [e_are_cells] at q8
  have S7 : FSt l.prog w K mg base 9 T7 := FSt.cons q8 (S6.mono (by omega))
  have q9 := step (x := "loads") (N := n_loads) (ps := p_loads) (fs := f_loads) (F := T7) (md := md) 0 S7 hM (fun z => nomatch z) F9 sc_loads rfl (PySem.W.mg_of X G a9) b9
  rw [e_loads] at q9
  have S8 : FSt l.prog w K mg base 10 T8 := FSt.cons q9 (S7.mono (by omega))
  have q10 := step (x := "counts_in") (N := n_counts_in) (ps := p_counts_in) (fs := f_counts_in) (F := T8) (md := md) 0 S8 hM (fun z => nomatch z) F10 sc_counts_in rfl (PySem.W.mg_of X G a10) b10
  rw [e_counts_in] at q10
  have S9 : FSt l.prog w K mg base 11 T9 := FSt.cons q10 (S8.mono (by omega))
  have q11 := step (x := "sum_of") (N := n_sum_of) (ps := p_sum_of) (fs := f_sum_of) (F := T9) (md := md) 0 S9 hM (fun z => nomatch z) F11 sc_sum_of rfl (PySem.W.mg_of X G a11) b11
  rw [e_sum_of] at q11
  have S10 : FSt l.prog w K mg base 12 T10 := FSt.cons q11 (S9.mono (by omega))
  have q12 := step (x := "is_chain") (N := n_is_chain) (ps := p_is_chain) (fs := f_is_chain) (F := T10) (md := md) 0 S10 hM (fun z => nomatch z) F12 sc_is_chain rfl (PySem.W.mg_of X G a12) b12
  rw [e_is_chain] at q12
  have S11 : FSt l.prog w K mg base 13 T11 := FSt.cons q12 (S10.mono (by omega))
  have q13 := step (x := "shows_least") (N := n_shows_least) (ps := p_shows_least) (fs := f_shows_least) (F := T11) (md := md) 0 S11 hM (fun z => nomatch z) F13 sc_shows_least rfl (PySem.W.mg_of X G a13) b13
  rw [e_shows_least] at q13
  have S12 : FSt l.prog w K mg base 14 T12 := FSt.cons q13 (S11.mono (by omega))
  have q14 := step (x := "chain_sum") (N := n_chain_sum) (ps := p_chain_sum) (fs := f_chain_sum) (F := T12) (md := md) 0 S12 hM (fun z => nomatch z) F14 sc_chain_sum rfl (PySem.W.mg_of X G a14) b14
  rw [e_chain_sum] at q14
  have S13 : FSt l.prog w K mg base 15 T13 := FSt.cons q14 (S12.mono (by omega))
  have q15 := step (x := "_law_hand") (N := n_l_hand) (ps := p_l_hand) (fs := f_l_hand) (F := T13) (md := md) 0 S13 hM (fun z => nomatch z) F15 sc_l_hand rfl (PySem.W.mg_of X G a15) b15
  rw [e_l_hand] at q15
  have S14 : FSt l.prog w K mg base 16 T14 := FSt.cons q15 (S13.mono (by omega))
  have q16 := step (x := "_law_take") (N := n_l_take) (ps := p_l_take) (fs := f_l_take) (F := T14) (md := md) 0 S14 hM (fun z => nomatch z) F16 sc_l_take rfl (PySem.W.mg_of X G a16) b16
  rw [e_l_take] at q16
  have S15 : FSt l.prog w K mg base 17 T15 := FSt.cons q16 (S14.mono (by omega))
  have q17 := step (x := "_law_of") (N := n_l_of) (ps := p_l_of) (fs := f_l_of) (F := T15) (md := md) 0 S15 hM (fun z => nomatch z) F17 sc_l_of rfl (PySem.W.mg_of X G a17) b17
  rw [e_l_of] at q17
  have S16 : FSt l.prog w K mg base 18 T16 := FSt.cons q17 (S15.mono (by omega))
  have q18 := step (x := "_law_need") (N := n_l_need) (ps := p_l_need) (fs := f_l_need) (F := T16) (md := md) 0 S16 hM (fun z => nomatch z) F18 sc_l_need rfl (PySem.W.mg_of X G a18) b18
  rw [e_l_need] at q18
  have S17 : FSt l.prog w K mg base 19 T17 := FSt.cons q18 (S16.mono (by omega))
  have q19 := step (x := "_law_grid") (N := n_l_grid) (ps := p_l_grid) (fs := f_l_grid) (F := T17) (md := md) 0 S17 hM (fun z => nomatch z) F19 sc_l_grid rfl (PySem.W.mg_of X G a19) b19
  rw [e_l_grid] at q19
  have S18 : FSt l.prog w K mg base 20 T18 := FSt.cons q19 (S17.mono (by omega))
  have q20 := step (x := "_law_sums") (N := n_l_sums) (ps := p_l_sums) (fs := f_l_sums) (F := T18) (md := md) 0 S18 hM (fun z => nomatch z) F20 sc_l_sums rfl (PySem.W.mg_of X G a20) b20
  rw [e_l_sums] at q20
  have S19 : FSt l.prog w K mg base 21 T19 := FSt.cons q20 (S18.mono (by omega))
  have q21 := step (x := "_law_least") (N := n_l_least) (ps := p_l_least) (fs := f_l_least) (F := T19) (md := md) 0 S19 hM (fun z => nomatch z) F21 sc_l_least rfl (PySem.W.mg_of X G a21) b21
  rw [e_l_least] at q21
  have S20 : FSt l.prog w K mg base 22 T20 := FSt.cons q21 (S19.mono (by omega))
  have q22 := step (x := "_law_weights") (N := n_l_weights) (ps := p_l_weights) (fs := f_l_weights) (F := T20) (md := md) 0 S20 hM (fun z => nomatch z) F22 sc_l_weights rfl (PySem.W.mg_of X G a22) b22
  rw [e_l_weights] at q22
  have S21 : FSt l.prog w K mg base 23 T21 := FSt.cons q22 (S20.mono (by omega))
  have q23 := step (x := "_law_odd") (N := n_l_odd) (ps := p_l_odd) (fs := f_l_odd) (F := T21) (md := md) 0 S21 hM (fun z => nomatch z) F23 sc_l_odd rfl (PySem.W.mg_of X G a23) b23
  rw [e_l_odd] at q23
  have S22 : FSt l.prog w K mg base 24 T22 := FSt.cons q23 (S21.mono (by omega))
  have q24 := step (x := "_law_is_whole") (N := n_l_is_whole) (ps := p_l_is_whole) (fs := f_l_is_whole) (F := T22) (md := md) 0 S22 hM (fun z => nomatch z) F24 sc_l_is_whole rfl (PySem.W.mg_of X G a24) b24
  rw [e_l_is_whole] at q24
  have S23 : FSt l.prog w K mg base 25 T23 := FSt.cons q24 (S22.mono (by omega))
  have q25 := step (x := "_law_edges_right") (N := n_l_edges_right) (ps := p_l_edges_right) (fs := f_l_edges_right) (F := T23) (md := md) 2 S23 hM (fun _ => hL25) F25 sc_l_edges_right rfl (PySem.W.mg_of X G a25) b25
  rw [e_l_edges_right] at q25
  have S24 : FSt l.prog w K mg base 28 T24 := FSt.cons q25 (S23.mono (by omega))
  have q26 := step_G (P := l.prog) (w := w) (base := base) (x := "law") (N := n_law) (ps := p_law) (fs := f_law) (F := T24) (md := md) 0 S24 hM (fun z => nomatch z) F26 sc_law rfl
  rw [e_law] at q26
  exact q26
end Kl
open PySem PySem.W PyProof.Rows
set_option maxRecDepth 100000 in
set_option maxHeartbeats 0 in
theorem PySem.Challenge.cw_spanwidths_k24_least_widths_holds : PySem.Challenge.rw_spanwidths_k24_least_widths.Holds := by
  w_on; o_law; k_head; (case hw => w_witness2)
  k_fill
  refine Dl.walk_GT (l := PySem.Challenge.rw_spanwidths_k24_least_widths) (k := 29) (x := "_law_script") (m := Kl.m_law) rfl (by decide) rfl ⟨rfl, by decide, by decide⟩ (fun w h Y => by first | exact PySem.W.kIn_of Y | exact PySem.W.km_in_of Y) ?F (fun ns _ => Kl.law_spec ns)
  case F =>
    intro w mg mb fa h lo mean TP KX G hmg
    refine' Kl.all_mk TP KX G hmg ?a1 ?l1 ?c1 ?k1 ?a2 ?l2 ?c2 ?k2 ?a3 ?l3 ?c3 ?k3 ?a4 ?l4 ?c4 ?k4 ?a5 ?l5 ?c5 ?k5 ?a6 ?l6 ?c6 ?k6 ?a7 ?l7 ?c7 ?k7 ?a8 ?l8 ?c8 ?k8 ?a9 ?l9 ?c9 ?k9 ?a10 ?l10 ?c10 ?k10 ?a11 ?l11 ?c11 ?k11 ?a12 ?l12 ?c12 ?k12 ?a13 ?l13 ?c13 ?k13 ?a14 ?l14 ?c14 ?k14 ?a15 ?l15 ?c15 ?k15 ?a16 ?l16 ?c16 ?k16 ?a17 ?l17 ?c17 ?k17 ?a18 ?l18 ?c18 ?k18 ?a19 ?l19 ?c19 ?k19 ?a20 ?l20 ?c20 ?k20 ?a21 ?l21 ?c21 ?k21 ?a22 ?l22 ?c22 ?k22 ?a23 ?l23 ?c23 ?k23 ?a24 ?l24 ?c24 ?k24 ?a25 ?l25 ?c25 ?k25 ?tcd25 ?tl25 ?tv25 ?tn25 ?tr25 ?a26 ?l26 ?c26 ?k26 ?z1 ?z2 ?z3 ?z4 ?z5 ?z6 ?z7 ?z8 ?z9 ?z10 ?z11 ?z12 ?z13 ?z14 ?z15 ?z16 ?z17 ?z18 ?zV ?eV ?hn ?ht ?xa1 ?xi1 ?xt1 ?xe1 ?xa2 ?xi2 ?xt2 ?xe2 ?xa3 ?xi3 ?xt3 ?xe3 ?xa4 ?xi4 ?xt4 ?xe4 ?xa5 ?xi5 ?xt5 ?xe5 ?xa6 ?xi6 ?xt6 ?xe6 ?xa7 ?xi7 ?xt7 ?xe7 ?xa8 ?xi8 ?xt8 ?xe8 ?xa9 ?xi9 ?xt9 ?xe9 ?tr ?tg ?tv ?xL5 ?xs5 ?xk5 ?xg5 ?xh5 ?xd5 ?xc5 ?xm5 ?xb5_1 ?xb5_2 ?xb5_3 ?xb5_4 ?xb5_5 ?xb5_6 ?xn5_1 ?xn5_2 ?xn5_3 ?xn5_4 ?xn5_5 ?xn5_6 ?xn5_7 ?xn5_8 ?xn5_9 ?xn5_10 ?xn5_11 ?xn5_12 ?xI5 ?xJ5 ?xl5 ?xq5 ?xr5 ?u5_1 ?u5_3 ?u5_4 ?u5_2 ?u5_5 ?u5_6 ?u5_9 ?u5_7 ?u5_8 ?u5_V
    (case a1 => k_is)
    (case l1 => k_is)
    (case c1 => k_is)
    (case k1 => k_is)
    (case a2 => k_is)
    (case l2 => k_is)
    (case c2 => k_is)
    (case k2 => k_is)
    (case a3 => k_is)
    (case l3 => k_is)
    (case c3 => k_is)
    (case k3 => k_is)
    (case a4 => k_is)
    (case l4 => k_is)
    (case c4 => k_is)
    (case k4 => k_is)
    (case a5 => k_is)
    (case l5 => k_is)
    (case c5 => k_is)
    (case k5 => k_is)
    (case a6 => k_is)
    (case l6 => k_is)
    (case c6 => k_is)
    (case k6 => k_is)
    (case a7 => k_is)
    (case l7 => k_is)
    (case c7 => k_is)
    (case k7 => k_is)
    (case a8 => k_is)
    (case l8 => k_is)
    (case c8 => k_is)
    (case k8 => k_is)
    (case a9 => k_is)
    (case l9 => k_is)
    (case c9 => k_is)
    (case k9 => k_is)
    (case a10 => k_is)
    (case l10 => k_is)
    (case c10 => k_is)
    (case k10 => k_is)
    (case a11 => k_is)
    (case l11 => k_is)
    (case c11 => k_is)
    (case k11 => k_is)
    (case a12 => k_is)
    (case l12 => k_is)
    (case c12 => k_is)
    (case k12 => k_is)
    (case a13 => k_is)
    (case l13 => k_is)
    (case c13 => k_is)
    (case k13 => k_is)
    (case a14 => k_is)
    (case l14 => k_is)
    (case c14 => k_is)
    (case k14 => k_is)
    (case a15 => k_is)
    (case l15 => k_is)
    (case c15 => k_is)
    (case k15 => k_is)
    (case a16 => k_is)
    (case l16 => k_is)
    (case c16 => k_is)
    (case k16 => k_is)
    (case a17 => k_is)
    (case l17 => k_is)
    (case c17 => k_is)
    (case k17 => k_is)
    (case a18 => k_is)
    (case l18 => k_is)
    (case c18 => k_is)
    (case k18 => k_is)
    (case a19 => k_is)
    (case l19 => k_is)
    (case c19 => k_is)
    (case k19 => k_is)
    (case a20 => k_is)
    (case l20 => k_is)
    (case c20 => k_is)
    (case k20 => k_is)
    (case a21 => k_is)
    (case l21 => k_is)
    (case c21 => k_is)
    (case k21 => k_is)
    (case a22 => k_is)
    (case l22 => k_is)
    (case c22 => k_is)
    (case k22 => k_is)
    (case a23 => k_is)
    (case l23 => k_is)
    (case c23 => k_is)
    (case k23 => k_is)
    (case a24 => k_is)
    (case l24 => k_is)
    (case c24 => k_is)
    (case k24 => k_is)
    (case a25 => k_is)
    (case l25 => k_is)
    (case c25 => k_is)
    (case k25 => k_is)
    (case tcd25 => exact rfl)
    (case tl25 => k_is)
    (case tv25 => exact rfl)
    (case tn25 => kernel_rfl)
    (case tr25 => exact rfl)
    (case a26 => k_is)
    (case l26 => k_is)
    (case c26 => k_is)
    (case k26 => k_is)
    (case z1 => k_is)
    (case z2 => k_is)
    (case z3 => k_is)
    (case z4 => k_is)
    (case z5 => k_is)
    (case z6 => k_is)
    (case z7 => k_is)
    (case z8 => k_is)
    (case z9 => k_is)
    (case z10 => k_is)
    (case z11 => k_is)
    (case z12 => k_is)
    (case z13 => k_is)
    (case z14 => k_is)
    (case z15 => k_is)
    (case z16 => k_is)
    (case z17 => k_is)
    (case z18 => k_is)
    (case zV => k_is)
    (case eV => k_is)
    (case hn => k_is)
    (case ht => k_is)
    (case xa1 => k_is)
    (case xi1 => k_is)
    (case xt1 => k_is)
    (case xe1 => k_is)
    (case xa2 => k_is)
    (case xi2 => k_is)
    (case xt2 => k_is)
    (case xe2 => k_is)
    (case xa3 => k_is)
    (case xi3 => k_is)
    (case xt3 => k_is)
    (case xe3 => k_is)
    (case xa4 => k_is)
    (case xi4 => k_is)
    (case xt4 => k_is)
    (case xe4 => k_is)
    (case xa5 => k_is)
    (case xi5 => k_is)
    (case xt5 => k_is)
    (case xe5 => k_is)
    (case xa6 => k_is)
    (case xi6 => k_is)
    (case xt6 => k_is)
    (case xe6 => k_is)
    (case xa7 => k_is)
    (case xi7 => k_is)
    (case xt7 => k_is)
    (case xe7 => k_is)
    (case xa8 => k_is)
    (case xi8 => k_is)
    (case xt8 => k_is)
    (case xe8 => k_is)
    (case xa9 => k_is)
    (case xi9 => k_is)
    (case xt9 => k_is)
    (case xe9 => k_is)
    (case tr => k_is)
    (case tg => k_is)
    (case tv => k_is)
    (case xL5 => k_is)
    (case xs5 => k_is)
    (case xk5 => k_is)
    (case xg5 => k_is)
    (case xh5 => k_is)
    (case xd5 => k_is)
    (case xc5 => k_is)
    (case xm5 => k_is)
    (case xb5_1 => k_is)
    (case xb5_2 => k_is)
    (case xb5_3 => k_is)
    (case xb5_4 => k_is)
    (case xb5_5 => k_is)
    (case xb5_6 => k_is)
    (case xn5_1 => k_is)
    (case xn5_2 => k_is)
    (case xn5_3 => k_is)
    (case xn5_4 => k_is)
    (case xn5_5 => k_is)
    (case xn5_6 => k_is)
    (case xn5_7 => k_is)
    (case xn5_8 => k_is)
    (case xn5_9 => k_is)
    (case xn5_10 => k_is)
    (case xn5_11 => k_is)
    (case xn5_12 => k_is)
    (case xI5 => k_is)
    (case xJ5 => k_is)
    (case xl5 => k_is)
    (case xq5 => k_is)
    (case xr5 => k_is)
    (case u5_1 => k_is)
    (case u5_3 => k_is)
    (case u5_4 => k_is)
    (case u5_2 => k_is)
    (case u5_5 => k_is)
    (case u5_6 => k_is)
    (case u5_9 => k_is)
    (case u5_7 => k_is)
    (case u5_8 => k_is)
    (case u5_V => k_is)

