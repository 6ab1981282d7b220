import PyProof.Rows.All
import Wide.All
import OpenK.AllK
import Wide.FinOn
import HandS.ForMost
import HandS.ForExc
import HandS.Wide
import HandS.TupAny
import HandS.TupMul
import HandS.Deep
import HandS.IsInst
import HandS.StrMore
import HandS.Walk
import HandS.Zip
import HandS.Rev
import HandS.More
import PyProof.CollectIter
import PyProof.SetRoads
import HandS.SetBool
import HandS.SetKeys
import PyProof.ReprRoads
import HandS.Defaults
import HandS.HeadEnd
import PyProof.Rows.FactsN_isinstance
import PyProof.Rows.FactsN_abs
import PySem.Challenge.RW_slowmirror_k91_texts_of_rows
import HandS.Text
import KE.KStateDown
import HandS.Head0
import HandS.Head1
import HandS.Head2
import HandS.HeadHook1
import HandS.HeadHook2
import HandS.HeadHook3
import HandS.HeadHook4
set_option Elab.async false
set_option linter.all false
set_option maxRecDepth 100000
set_option maxHeartbeats 0
/-! L3a: deep data, cells, and how they stand in the abstract heap. -/
namespace L3
open PySem L2

/-! ### data -/
/-- data at any depth; an instance by its class's name and fields -/
inductive D where
  | non | bl (b : Bool) | int (i : Int) | str (x : Str)
  | tup (ds : List D) | lst (ds : List D)
  /-- a list that is only read (the script) -/
  | rol (ds : List D)
  | dk (ks : List Key) (ds : List D)
  | dt (ks : List (List Key)) (ds : List D)
  | ins (c : Str) (ns : List Str) (ds : List D)
  /-- a built-in type; a def or a class of the module -/
  | ty (n : String) | gl (n : Str)
  deriving Inhabited
/-- a cell: data that never changes, or a list of one's own -/
inductive C where
  | dat (d : D) | own (cs : List C)
  deriving Inhabited
mutual
def C.toD : C → D
  | .dat d => d
  | .own cs => .lst (C.toDs cs)
def C.toDs : List C → List D
  | [] => []
  | c :: cs => c.toD :: C.toDs cs
end
/-- where one stands: the written part, the module's names -/
structure Tx where
  K : PySem.W.Frag
  mg : Str → Option Value

mutual
inductive DR (T : Tx) (F : Hp) : V → D → Prop
  | non : DR T F .non .non
  | bl (b : Bool) : DR T F (.bl b) (.bl b)
  | int (i : Int) : DR T F (.int i) (.int i)
  | str (x : Str) : DR T F (.str x) (.str x)
  | tup {a : Addr} {vs : List V} {ds : List D} : SqT T.K F a vs → DRs T F vs ds → DR T F (.ref a) (.tup ds)
  | lst {a : Addr} {vs : List V} {ds : List D} : F a = some (.lst vs) → DRs T F vs ds → DR T F (.ref a) (.lst ds)
  | rol {a : Addr} {vs : List V} {ds : List D} : SqL T.K F a vs → DRs T F vs ds → DR T F (.ref a) (.rol ds)
  | dk {a : Addr} {ks : List Key} {vs : List V} {ds : List D} : F a = some (.dK (ks.zip vs)) → ks.length = vs.length → DRs T F vs ds → DR T F (.ref a) (.dk ks ds)
  | dt {a : Addr} {ks : List (List Key)} {vs : List V} {ds : List D} : F a = some (.dT (ks.zip vs)) → ks.length = vs.length → DRs T F vs ds → DR T F (.ref a) (.dt ks ds)
  | ins {a dx C : Addr} {c : Str} {ns : List Str} {vs : List V} {ds : List D} : T.mg c = some (.ref C) → F a = some (.ins C dx (ns.zip vs)) → ns.length = vs.length → DRs T F vs ds → DR T F (.ref a) (.ins c ns ds)
  | ty (n : String) : DR T F (.ty n) (.ty n)
  | gl {a : Addr} {n : Str} : T.mg n = some (.ref a) → DR T F (.ref a) (.gl n)
inductive DRs (T : Tx) (F : Hp) : List V → List D → Prop
  | nil : DRs T F [] []
  | cons {v : V} {d : D} {vs : List V} {ds : List D} : DR T F v d → DRs T F vs ds → DRs T F (v :: vs) (d :: ds)
end

/-- one heap holds all that the other does -/
def Ext (F F' : Hp) : Prop := ∀ a o, F a = some o → F' a = some o
theorem Ext.refl (F : Hp) : Ext F F := fun _ _ h => h
theorem Ext.trans {F G H : Hp} (a : Ext F G) (b : Ext G H) : Ext F H := fun x o h => b x o (a x o h)
theorem Ext.new {H : Hp} {p : Addr} {o : HO} (h : H p = none) : Ext H (upd H p o) := fun a u e => by
  rw [upd_ne (ne_of_none e h)]
  exact e
theorem Ext.none {F F' : Hp} (e : Ext F F') {a : Addr} (h : F' a = none) : F a = none := by
  cases q : F a with
  | none => rfl
  | some o => rw [e a o q] at h; cases h
theorem ext_sl {K : PySem.W.Frag} {F F' : Hp} {a : Addr} {xs : List V} (e : Ext F F') (h : SqL K F a xs) : SqL K F' a xs := by
  rcases h with (h | ⟨o, h⟩) | h
  · exact .inl (.inl (e _ _ h))
  · exact .inl (.inr ⟨o, e _ _ h⟩)
  · exact .inr h
theorem ext_st {K : PySem.W.Frag} {F F' : Hp} {a : Addr} {xs : List V} (e : Ext F F') (h : SqT K F a xs) : SqT K F' a xs := by
  rcases h with (h | ⟨o, h⟩) | h
  · exact .inl (.inl (e _ _ h))
  · exact .inl (.inr ⟨o, e _ _ h⟩)
  · exact .inr h
mutual
theorem DR.ext {T : Tx} {F F' : Hp} (e : Ext F F') : ∀ {v : V} {d : D}, DR T F v d → DR T F' v d
  | _, _, .non => .non
  | _, _, .bl b => .bl b
  | _, _, .int i => .int i
  | _, _, .str x => .str x
  | _, _, .tup h r => .tup (ext_st e h) (DRs.ext e r)
  | _, _, .lst h r => .lst (e _ _ h) (DRs.ext e r)
  | _, _, .rol h r => .rol (ext_sl e h) (DRs.ext e r)
  | _, _, .dk h l r => .dk (e _ _ h) l (DRs.ext e r)
  | _, _, .dt h l r => .dt (e _ _ h) l (DRs.ext e r)
  | _, _, .ins m h l r => .ins m (e _ _ h) l (DRs.ext e r)
  | _, _, .ty n => .ty n
  | _, _, .gl h => .gl h
theorem DRs.ext {T : Tx} {F F' : Hp} (e : Ext F F') : ∀ {vs : List V} {ds : List D}, DRs T F vs ds → DRs T F' vs ds
  | _, _, .nil => .nil
  | _, _, .cons h r => .cons (DR.ext e h) (DRs.ext e r)
end
section
variable {T : Tx} {F : Hp}
theorem DRs.length : ∀ {vs : List V} {ds : List D}, DRs T F vs ds → vs.length = ds.length
  | _, _, .nil => rfl
  | _, _, .cons _ r => congrArg Nat.succ r.length
theorem DRs.get : ∀ {vs : List V} {ds : List D} {i : Nat} {d : D}, DRs T F vs ds → ds[i]? = some d → ∃ v, vs[i]? = some v ∧ DR T F v d
  | _, _, _, _, .nil, e => by simp at e
  | _, _, 0, _, .cons h _, e => by simp at e; subst e; exact ⟨_, rfl, h⟩
  | _, _, i + 1, d, .cons _ r, e => by
    obtain ⟨v, h1, h2⟩ := DRs.get (i := i) (d := d) r (by simpa using e)
    exact ⟨v, by simpa using h1, h2⟩
theorem DRs.getV : ∀ {vs : List V} {ds : List D} {i : Nat} {v : V}, DRs T F vs ds → vs[i]? = some v → ∃ d, ds[i]? = some d ∧ DR T F v d
  | _, _, _, _, .nil, e => by simp at e
  | _, _, 0, _, .cons h _, e => by simp at e; subst e; exact ⟨_, rfl, h⟩
  | _, _, i + 1, v, .cons _ r, e => by
    obtain ⟨d, h1, h2⟩ := DRs.getV (i := i) (v := v) r (by simpa using e)
    exact ⟨d, by simpa using h1, h2⟩
theorem DRs.append : ∀ {vs ws : List V} {ds es : List D}, DRs T F vs ds → DRs T F ws es → DRs T F (vs ++ ws) (ds ++ es)
  | _, _, _, _, .nil, s => s
  | _, _, _, _, .cons h r, s => .cons h (r.append s)
theorem DRs.take : ∀ {vs : List V} {ds : List D} (n : Nat), DRs T F vs ds → DRs T F (vs.take n) (ds.take n)
  | _, _, 0, _ => .nil
  | _, _, _ + 1, .nil => .nil
  | _, _, n + 1, .cons h r => .cons h (r.take n)
theorem DRs.drop : ∀ {vs : List V} {ds : List D} (n : Nat), DRs T F vs ds → DRs T F (vs.drop n) (ds.drop n)
  | _, _, 0, r => r
  | _, _, _ + 1, .nil => .nil
  | _, _, n + 1, .cons _ r => DRs.drop n r
theorem DRs.reverse : ∀ {vs : List V} {ds : List D}, DRs T F vs ds → DRs T F vs.reverse ds.reverse
  | _, _, .nil => .nil
  | _, _, .cons h r => by
    rw [List.reverse_cons, List.reverse_cons]
    exact r.reverse.append (.cons h .nil)
theorem DRs.set : ∀ {vs : List V} {ds : List D} {v : V} {d : D} (i : Nat), DRs T F vs ds → DR T F v d → DRs T F (vs.set i v) (ds.set i d)
  | _, _, _, _, _, .nil, _ => .nil
  | _, _, _, _, 0, .cons _ r, h => .cons h r
  | _, _, _, _, i + 1, .cons a r, h => .cons a (r.set i h)
theorem DRs.rep {v : V} {d : D} (h : DR T F v d) : ∀ n, DRs T F (List.replicate n v) (List.replicate n d)
  | 0 => .nil
  | n + 1 => .cons h (DRs.rep h n)
theorem DRs.flatten : ∀ {vs : List (List V)} {ds : List (List D)}, Paired (DRs T F) vs ds → DRs T F vs.flatten ds.flatten
  | _, _, .nil => .nil
  | _, _, .cons h r => by
    rw [List.flatten_cons, List.flatten_cons]
    exact h.append (DRs.flatten r)
end

/-! ### cells, their footprints -/
mutual
inductive CR (T : Tx) (F H : Hp) : V → C → List Addr → Prop
  | dat {v : V} {d : D} : DR T F v d → CR T F H v (.dat d) []
  | own {a : Addr} {vs : List V} {cs : List C} {as : List Addr} : H a = some (.lst vs) → CRs T F H vs cs as → CR T F H (.ref a) (.own cs) (a :: as)
inductive CRs (T : Tx) (F H : Hp) : List V → List C → List Addr → Prop
  | nil : CRs T F H [] [] []
  | cons {v : V} {c : C} {as : List Addr} {vs : List V} {cs : List C} {bs : List Addr} : CR T F H v c as → CRs T F H vs cs bs → CRs T F H (v :: vs) (c :: cs) (as ++ bs)
end
/-- an environment: what the slots hold (none: unknown) -/
abbrev Ro := List (Option C)
inductive SL (T : Tx) (F H : Hp) : St → Ro → List Addr → Prop
  | nil : SL T F H [] [] []
  | non {x : Option V} {σ : St} {ρ : Ro} {as : List Addr} : SL T F H σ ρ as → SL T F H (x :: σ) (none :: ρ) as
  | som {v : V} {c : C} {as : List Addr} {σ : St} {ρ : Ro} {bs : List Addr} : CR T F H v c as → SL T F H σ ρ bs → SL T F H (some v :: σ) (some c :: ρ) (as ++ bs)
mutual
theorem CR.frame {T : Tx} {F H F' H' : Hp} (e : Ext F F') : ∀ {v : V} {c : C} {as : List Addr}, CR T F H v c as → (∀ a ∈ as, H' a = H a) → CR T F' H' v c as
  | _, _, _, .dat h, _ => .dat (h.ext e)
  | _, _, _, .own h r, k => .own ((k _ (List.mem_cons_self)).trans h) (CRs.frame e r fun a m => k a (List.mem_cons_of_mem _ m))
theorem CRs.frame {T : Tx} {F H F' H' : Hp} (e : Ext F F') : ∀ {vs : List V} {cs : List C} {as : List Addr}, CRs T F H vs cs as → (∀ a ∈ as, H' a = H a) → CRs T F' H' vs cs as
  | _, _, _, .nil, _ => .nil
  | _, _, _, .cons h r, k => .cons (CR.frame e h fun a m => k a (List.mem_append_left _ m)) (CRs.frame e r fun a m => k a (List.mem_append_right _ m))
end
theorem SL.frame {T : Tx} {F H F' H' : Hp} (e : Ext F F') : ∀ {σ : St} {ρ : Ro} {as : List Addr}, SL T F H σ ρ as → (∀ a ∈ as, H' a = H a) → SL T F' H' σ ρ as
  | _, _, _, .nil, _ => .nil
  | _, _, _, .non r, k => .non (SL.frame e r k)
  | _, _, _, .som h r, k => .som (h.frame e fun a m => k a (List.mem_append_left _ m)) (SL.frame e r fun a m => k a (List.mem_append_right _ m))
mutual
theorem CR.there {T : Tx} {F H : Hp} : ∀ {v : V} {c : C} {as : List Addr}, CR T F H v c as → ∀ a ∈ as, ∃ o, H a = some o
  | _, _, _, .dat _, a, m => by cases m
  | _, _, _, .own h r, a, m => by
    rcases List.mem_cons.mp m with e | m
    · subst e; exact ⟨_, h⟩
    · exact CRs.there r a m
theorem CRs.there {T : Tx} {F H : Hp} : ∀ {vs : List V} {cs : List C} {as : List Addr}, CRs T F H vs cs as → ∀ a ∈ as, ∃ o, H a = some o
  | _, _, _, .nil, a, m => by cases m
  | _, _, _, .cons h r, a, m => by
    rcases List.mem_append.mp m with m | m
    · exact CR.there h a m
    · exact CRs.there r a m
end
theorem SL.there {T : Tx} {F H : Hp} : ∀ {σ : St} {ρ : Ro} {as : List Addr}, SL T F H σ ρ as → ∀ a ∈ as, ∃ o, H a = some o
  | _, _, _, .nil, a, m => by cases m
  | _, _, _, .non r, a, m => SL.there r a m
  | _, _, _, .som h r, a, m => by
    rcases List.mem_append.mp m with m | m
    · exact h.there a m
    · exact SL.there r a m
mutual
/-- frozen: data over any heap that holds both -/
theorem CR.toDR {T : Tx} {F H G : Hp} (e : Ext F G) : ∀ {v : V} {c : C} {as : List Addr}, CR T F H v c as → (∀ a ∈ as, G a = H a) → DR T G v c.toD
  | _, _, _, .dat h, _ => h.ext e
  | _, _, _, .own h r, k => .lst ((k _ List.mem_cons_self).trans h) (CRs.toDR e r fun a m => k a (List.mem_cons_of_mem _ m))
theorem CRs.toDR {T : Tx} {F H G : Hp} (e : Ext F G) : ∀ {vs : List V} {cs : List C} {as : List Addr}, CRs T F H vs cs as → (∀ a ∈ as, G a = H a) → DRs T G vs (C.toDs cs)
  | _, _, _, .nil, _ => .nil
  | _, _, _, .cons h r, k => .cons (CR.toDR e h fun a m => k a (List.mem_append_left _ m)) (CRs.toDR e r fun a m => k a (List.mem_append_right _ m))
end
/-- over the whole heap a cell is data -/
theorem CR.look {T : Tx} {F H : Hp} (sb : Ext F H) {v : V} {c : C} {as : List Addr} (h : CR T F H v c as) : DR T H v c.toD := h.toDR sb fun _ _ => rfl

theorem CRs.length {T : Tx} {F H : Hp} : ∀ {vs : List V} {cs : List C} {as : List Addr}, CRs T F H vs cs as → vs.length = cs.length
  | _, _, _, .nil => rfl
  | _, _, _, .cons _ r => congrArg Nat.succ r.length
theorem CRs.append {T : Tx} {F H : Hp} : ∀ {vs ws : List V} {cs es : List C} {as bs : List Addr}, CRs T F H vs cs as → CRs T F H ws es bs → CRs T F H (vs ++ ws) (cs ++ es) (as ++ bs)
  | _, _, _, _, _, _, .nil, s => s
  | _, _, _, _, _, _, .cons h r, s => by
    rw [List.append_assoc]
    exact .cons h (r.append s)
theorem toDs_length : ∀ cs : List C, (C.toDs cs).length = cs.length
  | [] => rfl
  | _ :: cs => congrArg Nat.succ (toDs_length cs)
theorem toDs_append : ∀ cs es : List C, C.toDs (cs ++ es) = C.toDs cs ++ C.toDs es
  | [], _ => rfl
  | c :: cs, es => congrArg (c.toD :: ·) (toDs_append cs es)
/-- cells of data alone -/
def dats (ds : List D) : List C := ds.map C.dat
theorem toDs_dats : ∀ ds : List D, C.toDs (dats ds) = ds
  | [] => rfl
  | d :: ds => congrArg (d :: ·) (toDs_dats ds)
theorem DRs.cells {T : Tx} {F H : Hp} : ∀ {vs : List V} {ds : List D}, DRs T F vs ds → CRs T F H vs (dats ds) []
  | _, _, .nil => .nil
  | _, _, .cons h r => .cons (as := []) (bs := []) (.dat h) (DRs.cells r)
/-- the data of cells that are all data -/
def undat : List C → Option (List D)
  | [] => some []
  | .dat d :: cs => match undat cs with
    | some ds => some (d :: ds)
    | none => none
  | .own _ :: _ => none
theorem undat_eq : ∀ {cs : List C} {ds : List D}, undat cs = some ds → cs = dats ds
  | [], ds, h => by cases h; rfl
  | .dat d :: cs, ds, h => by
    have h' : (match undat cs with
      | some ds => some (d :: ds)
      | none => none) = some ds := h
    cases e : undat cs with
    | none => rw [e] at h'; cases h'
    | some es =>
      rw [e] at h'
      cases h'
      rw [undat_eq e]
      rfl
  | .own _ :: _, _, h => by cases h
@[simp] theorem undat_dats : ∀ ds : List D, undat (dats ds) = some ds
  | [] => rfl
  | d :: ds => by
    show (match undat (dats ds) with
      | some ds => some (d :: ds)
      | none => none) = some (d :: ds)
    rw [undat_dats ds]
theorem CRs.dats {T : Tx} {F H : Hp} : ∀ {vs : List V} {ds : List D} {as : List Addr}, CRs T F H vs (dats ds) as → as = [] ∧ DRs T F vs ds
  | _, [], _, .nil => ⟨rfl, .nil⟩
  | _, d :: ds, _, .cons h r => by
    cases h with
    | dat h =>
      obtain ⟨e, q⟩ := CRs.dats (ds := ds) r
      subst e
      exact ⟨rfl, .cons h q⟩

/-! ### the slots -/
theorem SL.length {T : Tx} {F H : Hp} : ∀ {σ : St} {ρ : Ro} {as : List Addr}, SL T F H σ ρ as → σ.length = ρ.length
  | _, _, _, .nil => rfl
  | _, _, _, .non r => congrArg Nat.succ r.length
  | _, _, _, .som _ r => congrArg Nat.succ r.length
/-- a slot that holds something: taken out, put otherwise -/
theorem SL.get {T : Tx} {F H : Hp} : ∀ {σ : St} {ρ : Ro} {as : List Addr} {i : Nat} {c : C}, SL T F H σ ρ as → ρ[i]? = some (some c) →
    ∃ v l fp r, as = l ++ (fp ++ r) ∧ σ[i]? = some (some v) ∧ CR T F H v c fp ∧
      (∀ {F' H' : Hp} {v' : V} {c' : C} {fp' : List Addr}, Ext F F' → (∀ a ∈ l ++ r, H' a = H a) → CR T F' H' v' c' fp' → SL T F' H' (σ.set i (some v')) (ρ.set i (some c')) (l ++ (fp' ++ r))) ∧
      (∀ {F' H' : Hp}, Ext F F' → (∀ a ∈ l ++ r, H' a = H a) → SL T F' H' σ (ρ.set i none) (l ++ r))
  | _, _, _, i, c, .nil, e => by simp at e
  | _, _, _, 0, c, .non r, e => by simp at e
  | _, _, _, i + 1, c, .non r, e => by
    obtain ⟨v, l, fp, r', e1, e2, h, k1, k2⟩ := SL.get (i := i) (c := c) r (by simpa using e)
    exact ⟨v, l, fp, r', e1, by simpa using e2, h, fun x k q => .non (k1 x k q), fun x k => .non (k2 x k)⟩
  | _, _, _, 0, c, .som (as := fp) (bs := bs) h r, e => by
    simp at e
    subst e
    exact ⟨_, [], fp, bs, rfl, rfl, h, fun {F' H' v' c' fp'} x k q => (show SL T F' H' _ _ (fp' ++ bs) from .som q (r.frame x k)), fun x k => .non (r.frame x k)⟩
  | _, _, _, i + 1, c, .som (as := a0) h r, e => by
    obtain ⟨v, l, fp, r', e1, e2, h', k1, k2⟩ := SL.get (i := i) (c := c) r (by simpa using e)
    subst e1
    refine ⟨v, a0 ++ l, fp, r', by simp, by simpa using e2, h', fun x k q => ?_, fun x k => ?_⟩
    · have := SL.som (h.frame x fun a m => k a (by simp [m])) (k1 x (fun a m => k a (by simp at m ⊢; rcases m with m | m <;> simp [m])) q)
      simpa using this
    · have := SL.som (h.frame x fun a m => k a (by simp [m])) (k2 x (fun a m => k a (by simp at m ⊢; rcases m with m | m <;> simp [m])))
      simpa using this
/-- a slot is given another content: what it held is dropped -/
theorem SL.put {T : Tx} {F H : Hp} {v' : V} {c' : C} {fp' : List Addr} (q : CR T F H v' c' fp') : ∀ {σ : St} {ρ : Ro} {as : List Addr} {i : Nat}, SL T F H σ ρ as → i < ρ.length →
    ∃ l r, (∃ m, as = l ++ (m ++ r)) ∧ SL T F H (σ.set i (some v')) (ρ.set i (some c')) (l ++ (fp' ++ r))
  | _, _, _, i, .nil, e => by simp at e
  | _, _, _, 0, .non (as := as) r, e => ⟨[], as, ⟨[], rfl⟩, (show SL T F H _ _ (fp' ++ as) from .som q r)⟩
  | _, _, _, i + 1, .non r, e => by
    obtain ⟨l, r', m, k⟩ := SL.put q (i := i) r (by simpa using e)
    exact ⟨l, r', m, .non k⟩
  | _, _, _, 0, .som (as := a0) (bs := bs) h r, e => ⟨[], bs, ⟨a0, rfl⟩, (show SL T F H _ _ (fp' ++ bs) from .som q r)⟩
  | _, _, _, i + 1, .som (as := a0) h r, e => by
    obtain ⟨l, r', ⟨m, em⟩, k⟩ := SL.put q (i := i) r (by simpa using e)
    subst em
    exact ⟨a0 ++ l, r', ⟨m, by simp⟩, by simpa using SL.som h k⟩
/-- a slot is forgotten (its value may become anything) -/
theorem SL.drop {T : Tx} {F H : Hp} {x : Option V} : ∀ {σ : St} {ρ : Ro} {as : List Addr} (i : Nat), SL T F H σ ρ as → ∃ bs, bs.Sublist as ∧ SL T F H (σ.set i x) (ρ.set i none) bs
  | _, _, _, i, .nil => ⟨[], .slnil, .nil⟩
  | _, _, _, 0, .non (as := as) r => ⟨as, List.Sublist.refl _, .non r⟩
  | _, _, _, i + 1, .non r => by
    obtain ⟨bs, m, k⟩ := SL.drop i r
    exact ⟨bs, m, .non k⟩
  | _, _, _, 0, .som (as := a0) (bs := bs) h r => ⟨bs, List.sublist_append_right _ _, .non r⟩
  | _, _, _, i + 1, .som (as := a0) h r => by
    obtain ⟨bs, m, k⟩ := SL.drop i r
    exact ⟨a0 ++ bs, m.append_left a0, .som h k⟩

/-! ### a step -/
structure Stp (F H : Hp) (as : List Addr) (F' H' : Hp) (as' : List Addr) : Prop where
  ext : Ext F F'
  frm : ∀ a o, H a = some o → a ∉ as → H' a = some o
  newF : ∀ a o, F' a = some o → (∃ u, F a = some u) ∨ H a = none ∨ a ∈ as
  newA : ∀ a, a ∈ as' → H a = none ∨ a ∈ as
theorem Stp.refl {F H : Hp} {as : List Addr} : Stp F H as F H as := ⟨Ext.refl F, fun _ _ h _ => h, fun _ _ h => .inl ⟨_, h⟩, fun _ h => .inr h⟩
theorem Stp.trans {F H F1 H1 F2 H2 : Hp} {as bs cs : List Addr} (x : Stp F H as F1 H1 bs) (y : Stp F1 H1 bs F2 H2 cs) : Stp F H as F2 H2 cs := by
  have back : ∀ a, H1 a = none → H a = none ∨ a ∈ as := fun a h => by
    by_cases m : a ∈ as
    · exact .inr m
    · cases q : H a with
      | none => exact .inl rfl
      | some o => rw [x.frm a o q m] at h; cases h
  refine ⟨x.ext.trans y.ext, fun a o h m => y.frm a o (x.frm a o h m) fun z => ?_, fun a o h => ?_, fun a h => ?_⟩
  · rcases x.newA a z with q | q
    · rw [h] at q; cases q
    · exact m q
  · rcases y.newF a o h with ⟨u, q⟩ | q | q
    · exact x.newF a u q
    · exact .inr (back a q)
    · exact .inr (x.newA a q)
  · rcases y.newA a h with q | q
    · exact back a q
    · exact x.newA a q
/-- from fewer, to more of one's own -/
theorem Stp.mono {F H F' H' : Hp} {as bs cs ds : List Addr} (x : Stp F H as F' H' bs) (h1 : ∀ a ∈ as, a ∈ cs) (h2 : ∀ a ∈ ds, a ∈ bs ∨ a ∈ cs) : Stp F H cs F' H' ds :=
  ⟨x.ext, fun a o h m => x.frm a o h fun z => m (h1 a z), fun a o h => by
    rcases x.newF a o h with q | q | q
    · exact .inl q
    · exact .inr (.inl q)
    · exact .inr (.inr (h1 a q)), fun a h => by
    rcases h2 a h with h | h
    · rcases x.newA a h with q | q
      · exact .inl q
      · exact .inr (h1 a q)
    · exact .inr h⟩

/-- the state: slots, the frozen part F of the heap H, one's own addresses -/
structure SR (T : Tx) (σ : St) (F H : Hp) (ρ : Ro) (as : List Addr) : Prop where
  sl : SL T F H σ ρ as
  nd : as.Nodup
  fr : ∀ a ∈ as, F a = none
  sb : Ext F H
/-- .. beside a value of one's own that isn't in a slot -/
structure SV (T : Tx) (σ : St) (F H : Hp) (ρ : Ro) (as : List Addr) (v : V) (c : C) (ts : List Addr) : Prop where
  sl : SL T F H σ ρ as
  cr : CR T F H v c ts
  nd : (ts ++ as).Nodup
  fr : ∀ a ∈ ts ++ as, F a = none
  sb : Ext F H
theorem SV.sr {T : Tx} {σ : St} {F H : Hp} {ρ : Ro} {as ts : List Addr} {v : V} {c : C} (h : SV T σ F H ρ as v c ts) : SR T σ F H ρ as :=
  ⟨h.sl, (List.nodup_append.mp h.nd).2.1, fun a m => h.fr a (List.mem_append_right _ m), h.sb⟩

/-- the heap's own part made frozen -/
def frz (F H : Hp) (ts : List Addr) : Hp := fun a => if a ∈ ts then H a else F a
theorem frz_in {F H : Hp} {ts : List Addr} {a : Addr} (h : a ∈ ts) : frz F H ts a = H a := if_pos h
theorem frz_out {F H : Hp} {ts : List Addr} {a : Addr} (h : a ∉ ts) : frz F H ts a = F a := if_neg h
theorem frz_ext {F H : Hp} (sb : Ext F H) (ts : List Addr) : Ext F (frz F H ts) := fun a o e => by
  by_cases m : a ∈ ts
  · rw [frz_in m]; exact sb a o e
  · rw [frz_out m]; exact e
theorem frz_sub {F H : Hp} (sb : Ext F H) (ts : List Addr) : Ext (frz F H ts) H := fun a o e => by
  by_cases m : a ∈ ts
  · rw [frz_in m] at e; exact e
  · rw [frz_out m] at e; exact sb a o e
theorem frz_nil {F H : Hp} : frz F H [] = F := by
  funext a
  exact frz_out (by simp)
theorem frz_frz {F H : Hp} {ts us : List Addr} : frz (frz F H ts) H us = frz F H (ts ++ us) := by
  funext a
  by_cases m : a ∈ us
  · rw [frz_in m, frz_in (List.mem_append_right _ m)]
  · rw [frz_out m]
    by_cases n : a ∈ ts
    · rw [frz_in n, frz_in (List.mem_append_left _ n)]
    · rw [frz_out n, frz_out (by simp [m, n])]
/-- freezing a part of one's own -/
theorem Stp.frz {F H : Hp} (sb : Ext F H) {ts as : List Addr} : Stp F H (ts ++ as) (frz F H ts) H as :=
  ⟨frz_ext sb ts, fun _ _ h _ => h, fun a o e => by
    by_cases m : a ∈ ts
    · exact .inr (.inr (List.mem_append_left _ m))
    · rw [frz_out m] at e; exact .inl ⟨o, e⟩, fun a m => .inr (List.mem_append_right _ m)⟩
theorem SV.frz {T : Tx} {σ : St} {F H : Hp} {ρ : Ro} {as ts : List Addr} {v : V} {c : C} (h : SV T σ F H ρ as v c ts) : SR T σ (frz F H ts) H ρ as ∧ DR T (L3.frz F H ts) v c.toD := by
  obtain ⟨n1, n2, n3⟩ := List.nodup_append.mp h.nd
  refine ⟨⟨h.sl.frame (frz_ext h.sb ts) fun _ _ => rfl, n2, fun a m => ?_, frz_sub h.sb ts⟩, h.cr.toDR (frz_ext h.sb ts) fun a m => frz_in m⟩
  have nm : a ∉ ts := fun z => n3 a z a m rfl
  rw [frz_out nm]
  exact h.fr a (List.mem_append_right _ m)
end L3
/-! L3b: the functional semantics, the judgements, freezing, operators. -/
namespace L3
open PySem L2

/-! ### the semantics' own words -/
/-- an exception: its class's name, its fields -/
structure Exn where
  cls : Str
  fs : List (Str × D)
inductive O (α : Type) where
  | ok (a : α) (ρ : Ro) | ex (x : Exn) (ρ : Ro)
abbrev S (α : Type) := Ro → Option (O α)
def S.bind {α β : Type} (m : S α) (k : α → S β) : S β := fun ρ => match m ρ with
  | some (.ok a ρ') => k a ρ'
  | some (.ex x ρ') => some (.ex x ρ')
  | none => none
def S.ret {α : Type} (a : α) : S α := fun ρ => some (.ok a ρ)
@[simp] theorem S.ret_run {α : Type} (a : α) (ρ : Ro) : S.ret a ρ = some (.ok a ρ) := rfl
theorem S.bind_ok {α β : Type} {m : S α} {k : α → S β} {ρ ρ' : Ro} {a : α} (h : m ρ = some (.ok a ρ')) : S.bind m k ρ = k a ρ' := by
  unfold S.bind; rw [h]
theorem S.bind_ex {α β : Type} {m : S α} {k : α → S β} {ρ ρ' : Ro} {x : Exn} (h : m ρ = some (.ex x ρ')) : S.bind m k ρ = some (.ex x ρ') := by
  unfold S.bind; rw [h]
/-- what an expression gives: a cell, or the very list of one's own in a slot -/
inductive R where
  | val (c : C) | slot (i : Nat)
def res : R → Ro → Option C
  | .val c, _ => some c
  | .slot i, ρ => match ρ[i]? with
    | some (some c) => some c
    | _ => none

/-- how an exception lies -/
def XR (T : Tx) (F H : Hp) (cls : Value) (d : Option Addr) (x : Exn) : Prop :=
  ∃ C vs, T.mg x.cls = some (.ref C) ∧ cls = .ref C ∧ DRs T F vs (x.fs.map (·.2)) ∧ (x.fs = [] ∨ ∃ dd, d = some dd ∧ H dd = some (.xd ((x.fs.map (·.1)).zip vs)))
/-- what is wanted of an exception -/
def XW (T : Tx) (W : WX) (σ : L2.St) (F H : Hp) (as : List Addr) {α : Type} : O α → Prop
  | .ok _ _ => True
  | .ex x ρ' => ∀ cls d F' H' as', Stp F H as F' H' as' → SR T σ F' H' ρ' as' → XR T F' H' cls d x → W cls d σ H'
section
variable {T : Tx} {W : WX} {σ : L2.St} {F H F1 H1 : Hp} {as bs : List Addr} {α : Type} {o : O α}
theorem XW.step (h : XW T W σ F H as o) (s : Stp F H as F1 H1 bs) : XW T W σ F1 H1 bs o := by
  cases o with
  | ok a ρ => trivial
  | ex x ρ => exact fun cls d F' H' as' s' r q => h cls d F' H' as' (s.trans s') r q
theorem XW.mono (h : XW T W σ F H bs o) (m : ∀ a ∈ as, a ∈ bs) : XW T W σ F H as o := by
  cases o with
  | ok a ρ => trivial
  | ex x ρ => exact fun cls d F' H' as' s' r q => h cls d F' H' as' (s'.mono m fun a z => .inl z) r q
end

/-- v is what r tells -/
def Vw (T : Tx) (σ : L2.St) (F H : Hp) (v : V) : R → List Addr → Prop
  | .val c, ts => CR T F H v c ts
  | .slot i, ts => ts = [] ∧ σ[i]? = some (some v)
/-- a state beside a value -/
structure RS (T : Tx) (σ : L2.St) (F H : Hp) (ρ : Ro) (as : List Addr) (v : V) (r : R) (ts : List Addr) : Prop where
  sl : SL T F H σ ρ as
  vw : Vw T σ F H v r ts
  nd : (ts ++ as).Nodup
  fr : ∀ a ∈ ts ++ as, F a = none
  sb : Ext F H
theorem RS.sr {T : Tx} {σ : L2.St} {F H : Hp} {ρ : Ro} {as ts : List Addr} {v : V} {r : R} (h : RS T σ F H ρ as v r ts) : SR T σ F H ρ as :=
  ⟨h.sl, (List.nodup_append.mp h.nd).2.1, fun a m => h.fr a (List.mem_append_right _ m), h.sb⟩
theorem Vw.there {T : Tx} {σ : L2.St} {F H : Hp} {v : V} {r : R} {ts : List Addr} (h : Vw T σ F H v r ts) : ∀ a ∈ ts, ∃ o, H a = some o := by
  cases r with
  | val c => exact CR.there h
  | slot i => obtain ⟨e, _⟩ := h; subst e; intro a m; cases m
theorem Vw.frame {T : Tx} {σ : L2.St} {F H F' H' : Hp} {v : V} {r : R} {ts : List Addr} (h : Vw T σ F H v r ts) (e : Ext F F') (k : ∀ a ∈ ts, H' a = H a) : Vw T σ F' H' v r ts := by
  cases r with
  | val c => exact CR.frame e h k
  | slot i => exact h
/-- what stands aside stays through a step of the rest -/
theorem aside {F1 H1 F2 H2 : Hp} {ts as bs : List Addr} (nd : (ts ++ as).Nodup) (fr : ∀ a ∈ ts, F1 a = none) (th : ∀ a ∈ ts, ∃ o, H1 a = some o) (s : Stp F1 H1 as F2 H2 bs) :
    (∀ a ∈ ts, H2 a = H1 a) ∧ (∀ a ∈ ts, F2 a = none) ∧ (∀ a ∈ ts, a ∉ bs) := by
  obtain ⟨n1, n2, n3⟩ := List.nodup_append.mp nd
  have out : ∀ a ∈ ts, a ∉ as := fun a m z => n3 a m a z rfl
  refine ⟨fun a m => ?_, fun a m => ?_, fun a m z => ?_⟩
  · obtain ⟨o, e⟩ := th a m
    rw [e]
    exact s.frm a o e (out a m)
  · cases q : F2 a with
    | none => rfl
    | some o =>
      obtain ⟨o', e⟩ := th a m
      rcases s.newF a o q with ⟨u, z⟩ | z | z
      · rw [fr a m] at z; cases z
      · rw [e] at z; cases z
      · exact absurd z (out a m)
  · obtain ⟨o', e⟩ := th a m
    rcases s.newA a z with z | z
    · rw [e] at z; cases z
    · exact out a m z
theorem nodup_join {ts bs : List Addr} (h1 : ts.Nodup) (h2 : bs.Nodup) (h3 : ∀ a ∈ ts, a ∉ bs) : (ts ++ bs).Nodup :=
  List.nodup_append.mpr ⟨h1, h2, fun a m b n e => h3 a m (e ▸ n)⟩

/-! ### the judgement of a reading -/
def Ev (T : Tx) (W : WX) (t : TE) (f : S R) : Prop := ∀ (σ : L2.St) (F H : Hp) (ρ : Ro) (as : List Addr) (o : O R) (Q : VK), SR T σ F H ρ as → f ρ = some o → XW T W σ F H as o →
  (∀ r ρ', o = .ok r ρ' → ∀ v F' H' ts as', Stp F H as F' H' (ts ++ as') → RS T σ F' H' ρ' as' v r ts → Q v H') → t σ H Q
/-- of a test -/
def EvT (T : Tx) (W : WX) (t : TT) (f : S Bool) : Prop := ∀ (σ : L2.St) (F H : Hp) (ρ : Ro) (as : List Addr) (o : O Bool) (Q : Bool → Hp → Prop), SR T σ F H ρ as → f ρ = some o → XW T W σ F H as o →
  (∀ b ρ', o = .ok b ρ' → ∀ F' H' as', Stp F H as F' H' as' → SR T σ F' H' ρ' as' → Q b H') → t σ H Q
section
variable {T : Tx} {W : WX} {σ : L2.St} {F H : Hp} {ρ : Ro} {as : List Addr} {α : Type}
theorem Ev.bind {t : TE} {f : S R} (h : Ev T W t f) {k : R → S α} {o : O α} {Q : VK} (s : SR T σ F H ρ as) (e : S.bind f k ρ = some o) (x : XW T W σ F H as o)
    (q : ∀ r ρ1 v F1 H1 ts as1, k r ρ1 = some o → Stp F H as F1 H1 (ts ++ as1) → RS T σ F1 H1 ρ1 as1 v r ts → XW T W σ F1 H1 (ts ++ as1) o → Q v H1) : t σ H Q := by
  cases hf : f ρ with
  | none => unfold S.bind at e; rw [hf] at e; cases e
  | some o1 =>
    cases o1 with
    | ok r ρ1 =>
      rw [S.bind_ok hf] at e
      refine h σ F H ρ as _ Q s hf trivial fun r' ρ' he v F' H' ts as' st rs => ?_
      cases he
      exact q _ _ v F' H' ts as' e st rs (x.step st)
    | ex y ρ1 =>
      rw [S.bind_ex hf] at e
      cases e
      exact h σ F H ρ as _ Q s hf x fun r' ρ' he => nomatch he
theorem EvT.bind {t : TT} {f : S Bool} (h : EvT T W t f) {k : Bool → S α} {o : O α} {Q : Bool → Hp → Prop} (s : SR T σ F H ρ as) (e : S.bind f k ρ = some o) (x : XW T W σ F H as o)
    (q : ∀ b ρ1 F1 H1 as1, k b ρ1 = some o → Stp F H as F1 H1 as1 → SR T σ F1 H1 ρ1 as1 → XW T W σ F1 H1 as1 o → Q b H1) : t σ H Q := by
  cases hf : f ρ with
  | none => unfold S.bind at e; rw [hf] at e; cases e
  | some o1 =>
    cases o1 with
    | ok r ρ1 =>
      rw [S.bind_ok hf] at e
      refine h σ F H ρ as _ Q s hf trivial fun r' ρ' he F' H' as' st rs => ?_
      cases he
      exact q _ _ F' H' as' e st rs (x.step st)
    | ex y ρ1 =>
      rw [S.bind_ex hf] at e
      cases e
      exact h σ F H ρ as _ Q s hf x fun r' ρ' he => nomatch he
/-- two values beside a state -/
structure RS2 (T : Tx) (σ : L2.St) (F H : Hp) (ρ : Ro) (as : List Addr) (v : V) (r : R) (ts : List Addr) (v' : V) (r' : R) (ts' : List Addr) : Prop where
  sl : SL T F H σ ρ as
  vw : Vw T σ F H v r ts
  vw' : Vw T σ F H v' r' ts'
  nd : (ts ++ (ts' ++ as)).Nodup
  fr : ∀ a ∈ ts ++ (ts' ++ as), F a = none
  sb : Ext F H
theorem RS2.sr {v v' : V} {r r' : R} {ts ts' : List Addr} (h : RS2 T σ F H ρ as v r ts v' r' ts') : SR T σ F H ρ as :=
  ⟨h.sl, (List.nodup_append.mp (List.nodup_append.mp h.nd).2.1).2.1, fun a m => h.fr a (List.mem_append_right _ (List.mem_append_right _ m)), h.sb⟩
/-- a value that stood aside, then another one -/
theorem RS.then_ {F1 H1 F2 H2 : Hp} {ρ1 ρ2 : Ro} {as1 as2 ts1 ts2 : List Addr} {v1 v2 : V} {r1 r2 : R} (a : RS T σ F1 H1 ρ1 as1 v1 r1 ts1) (s : Stp F1 H1 as1 F2 H2 (ts2 ++ as2)) (b : RS T σ F2 H2 ρ2 as2 v2 r2 ts2) :
    RS2 T σ F2 H2 ρ2 as2 v1 r1 ts1 v2 r2 ts2 ∧ Stp F1 H1 (ts1 ++ as1) F2 H2 (ts1 ++ (ts2 ++ as2)) := by
  obtain ⟨k1, k2, k3⟩ := aside a.nd (fun c m => a.fr c (List.mem_append_left _ m)) a.vw.there s
  refine ⟨⟨b.sl, a.vw.frame s.ext k1, b.vw, nodup_join (List.nodup_append.mp a.nd).1 b.nd k3, fun c m => ?_, b.sb⟩, s.mono (fun c m => List.mem_append_right _ m) fun c m => ?_⟩
  · rcases List.mem_append.mp m with m | m
    · exact k2 c m
    · exact b.fr c m
  · rcases List.mem_append.mp m with m | m
    · exact .inr (List.mem_append_left _ m)
    · exact .inl m
theorem Ev.bind2 {ta tb : TE} {fa fb : S R} (ha : Ev T W ta fa) (hb : Ev T W tb fb) {k : R → R → S α} {o : O α} {Q : V → V → Hp → Prop} (s : SR T σ F H ρ as)
    (e : S.bind fa (fun r1 => S.bind fb fun r2 => k r1 r2) ρ = some o) (x : XW T W σ F H as o)
    (q : ∀ r1 r2 ρ2 v1 v2 F2 H2 t1 t2 as2, k r1 r2 ρ2 = some o → Stp F H as F2 H2 (t1 ++ (t2 ++ as2)) → RS2 T σ F2 H2 ρ2 as2 v1 r1 t1 v2 r2 t2 → XW T W σ F2 H2 (t1 ++ (t2 ++ as2)) o → Q v1 v2 H2) :
    ta σ H fun x H1 => tb σ H1 fun y H2 => Q x y H2 := by
  refine ha.bind s e x fun r1 ρ1 v1 F1 H1 t1 as1 e1 s1 rs1 x1 => ?_
  refine hb.bind rs1.sr e1 (x1.mono fun a m => List.mem_append_right _ m) fun r2 ρ2 v2 F2 H2 t2 as2 e2 s2 rs2 x2 => ?_
  obtain ⟨w, st⟩ := rs1.then_ s2 rs2
  exact q r1 r2 ρ2 v1 v2 F2 H2 t1 t2 as2 e2 (s1.trans st) w (x1.step st)
/-- the cell of a value -/
theorem Vw.res {v : V} {r : R} {ts : List Addr} {c : C} (sl : SL T F H σ ρ as) (h : Vw T σ F H v r ts) (e : res r ρ = some c) : ∃ fp, CR T F H v c fp ∧ ∀ a ∈ fp, a ∈ ts ++ as := by
  cases r with
  | val c' =>
    have e' : c' = c := Option.some.inj e
    subst e'
    exact ⟨ts, h, fun a m => List.mem_append_left _ m⟩
  | slot i =>
    obtain ⟨_, hv⟩ := h
    have e' : (match ρ[i]? with
      | some (some c) => some c
      | _ => none) = some c := e
    cases q : ρ[i]? with
    | none => rw [q] at e'; cases e'
    | some oc =>
      cases oc with
      | none => rw [q] at e'; cases e'
      | some c' =>
        rw [q] at e'
        cases e'
        obtain ⟨v', l, fp, r, ea, hv', cr, _⟩ := sl.get q
        rw [hv] at hv'
        cases hv'
        exact ⟨fp, cr, fun a m => by rw [ea]; simp [m]⟩
end

/-! ### something new -/
structure Nw (F H F' H' : Hp) : Prop where
  ext : Ext F F'
  exh : Ext H H'
  sb : Ext F' H'
  new : ∀ a o, F' a = some o → (∃ u, F a = some u) ∨ H a = none
theorem Nw.refl {F H : Hp} (sb : Ext F H) : Nw F H F H := ⟨Ext.refl F, Ext.refl H, sb, fun _ _ h => .inl ⟨_, h⟩⟩
/-- a new object, one's own -/
theorem Nw.own {F H : Hp} {p : Addr} {o : HO} (sb : Ext F H) (h : H p = none) : Nw F H F (upd H p o) := ⟨Ext.refl F, Ext.new h, sb.trans (Ext.new h), fun _ _ h => .inl ⟨_, h⟩⟩
/-- a new object, frozen -/
theorem Nw.frozen {F H : Hp} {p : Addr} {o : HO} (sb : Ext F H) (h : H p = none) : Nw F H (upd F p o) (upd H p o) := by
  refine ⟨Ext.new (sb.none h), Ext.new h, fun a u e => ?_, fun a u e => ?_⟩
  · by_cases ha : a = p
    · subst ha; rw [upd_same] at e ⊢; exact e
    · rw [upd_ne ha] at e ⊢; exact sb a u e
  · by_cases ha : a = p
    · subst ha; exact .inr h
    · rw [upd_ne ha] at e; exact .inl ⟨u, e⟩
theorem Nw.trans {F H F1 H1 F2 H2 : Hp} (a : Nw F H F1 H1) (b : Nw F1 H1 F2 H2) : Nw F H F2 H2 := by
  refine ⟨a.ext.trans b.ext, a.exh.trans b.exh, b.sb, fun c o e => ?_⟩
  rcases b.new c o e with ⟨u, q⟩ | q
  · exact a.new c u q
  · exact .inr (a.exh.none q)
section
variable {T : Tx} {W : WX} {σ : L2.St} {F H F' H' : Hp} {ρ : Ro} {as bs ts : List Addr}
theorem Nw.step (n : Nw F H F' H') : Stp F H as F' H' as := ⟨n.ext, fun a o e _ => n.exh a o e, fun a o e => by
  rcases n.new a o e with q | q
  · exact .inl q
  · exact .inr (.inl q), fun a m => .inr m⟩
theorem SR.new (s : SR T σ F H ρ as) (n : Nw F H F' H') : SR T σ F' H' ρ as := by
  have th := s.sl.there
  refine ⟨s.sl.frame n.ext fun a m => ?_, s.nd, fun a m => ?_, n.sb⟩
  · obtain ⟨o, e⟩ := th a m
    rw [e]; exact n.exh a o e
  · cases q : F' a with
    | none => rfl
    | some o =>
      rcases n.new a o q with ⟨u, z⟩ | z
      · rw [s.fr a m] at z; cases z
      · obtain ⟨o', e⟩ := th a m
        rw [e] at z; cases z
theorem RS.new {v : V} {c : C} (s : SR T σ F H ρ as) (n : Nw F H F' H') (cr : CR T F' H' v c ts) (nd : ts.Nodup) (fr : ∀ a ∈ ts, H a = none ∧ F' a = none) :
    RS T σ F' H' ρ as v (.val c) ts ∧ Stp F H as F' H' (ts ++ as) := by
  have s' := s.new n
  refine ⟨⟨s'.sl, cr, nodup_join nd s.nd fun a m z => ?_, fun a m => ?_, n.sb⟩, ⟨n.ext, fun a o e _ => n.exh a o e, fun a o e => ?_, fun a m => ?_⟩⟩
  · obtain ⟨o, e⟩ := s.sl.there a z
    rw [(fr a m).1] at e; cases e
  · rcases List.mem_append.mp m with m | m
    · exact (fr a m).2
    · exact s'.fr a m
  · rcases n.new a o e with q | q
    · exact .inl q
    · exact .inr (.inl q)
  · rcases List.mem_append.mp m with m | m
    · exact .inl (fr a m).1
    · exact .inr m
end

/-! ### operators: what they read, what they give -/
def Lift2 (T : Tx) (r : R2) (g : C → C → Option C) : Prop := ∀ (F H : Hp) (x y : V) (c1 c2 : C) (f1 f2 : List Addr) (c : C) (Q : VK), Ext F H → CR T F H x c1 f1 → CR T F H y c2 f2 → g c1 c2 = some c →
  (∀ v F' H' ts, Nw F H F' H' → CR T F' H' v c ts → ts.Nodup → (∀ a ∈ ts, H a = none ∧ F' a = none) → Q v H') → r x y H Q
def Lift1 (T : Tx) (r : V → Hp → VK → Prop) (g : C → Option C) : Prop := ∀ (F H : Hp) (x : V) (c1 : C) (f1 : List Addr) (c : C) (Q : VK), Ext F H → CR T F H x c1 f1 → g c1 = some c →
  (∀ v F' H' ts, Nw F H F' H' → CR T F' H' v c ts → ts.Nodup → (∀ a ∈ ts, H a = none ∧ F' a = none) → Q v H') → r x H Q
def sOp2 (g : C → C → Option C) (fa fb : S R) : S R := S.bind fa fun r1 => S.bind fb fun r2 => fun ρ => match res r1 ρ with
  | some c1 => (match res r2 ρ with
    | some c2 => (match g c1 c2 with
      | some c => some (.ok (.val c) ρ)
      | none => none)
    | none => none)
  | none => none
def sOp1 (g : C → Option C) (fa : S R) : S R := S.bind fa fun r1 => fun ρ => match res r1 ρ with
  | some c1 => (match g c1 with
    | some c => some (.ok (.val c) ρ)
    | none => none)
  | none => none
section
variable {T : Tx} {W : WX} {ta tb : TE} {fa fb : S R}
theorem sOp2_inv {g : C → C → Option C} {r1 r2 : R} {ρ : Ro} {o : O R} (e : (match res r1 ρ with
    | some c1 => (match res r2 ρ with
      | some c2 => (match g c1 c2 with
        | some c => some (O.ok (R.val c) ρ)
        | none => none)
      | none => none)
    | none => none) = some o) : ∃ c1 c2 c, res r1 ρ = some c1 ∧ res r2 ρ = some c2 ∧ g c1 c2 = some c ∧ o = .ok (.val c) ρ := by
  cases h1 : res r1 ρ with
  | none => rw [h1] at e; cases e
  | some c1 =>
    rw [h1] at e
    cases h2 : res r2 ρ with
    | none => rw [h2] at e; cases e
    | some c2 =>
      rw [h2] at e
      cases h3 : g c1 c2 with
      | none => simp [h3] at e
      | some c => simp [h3] at e; exact ⟨c1, c2, c, rfl, rfl, h3, e.symm⟩
theorem Ev.op {r : R2} {g : C → C → Option C} (l : Lift2 T r g) (ha : Ev T W ta fa) (hb : Ev T W tb fb) : Ev T W (tOp r ta tb) (sOp2 g fa fb) := by
  intro σ F H ρ as o Q s e x q
  refine Ev.bind2 (Q := fun x y H2 => r x y H2 Q) ha hb s e x fun r1 r2 ρ2 v1 v2 F2 H2 t1 t2 as2 e2 s2 rs x2 => ?_
  obtain ⟨c1, c2, c, h1, h2, h3, rfl⟩ := sOp2_inv e2
  obtain ⟨f1, k1, _⟩ := rs.vw.res rs.sl h1
  obtain ⟨f2, k2, _⟩ := rs.vw'.res rs.sl h2
  refine l F2 H2 v1 v2 c1 c2 f1 f2 c Q rs.sb k1 k2 h3 fun v F' H' ts n cr nd fr => ?_
  obtain ⟨w, st⟩ := RS.new (ρ := ρ2) (as := as2) rs.sr n cr nd fr
  exact q _ _ rfl v F' H' ts as2 (s2.trans (st.mono (fun a m => by simp [m]) fun a m => .inl m)) w
theorem Ev.un {r : V → Hp → VK → Prop} {g : C → Option C} (l : Lift1 T r g) (ha : Ev T W ta fa) : Ev T W (tUn r ta) (sOp1 g fa) := by
  intro σ F H ρ as o Q s e x q
  refine ha.bind s e x fun r1 ρ2 v1 F2 H2 t1 as2 e2 s2 rs x2 => ?_
  have inv : ∃ c1 c, res r1 ρ2 = some c1 ∧ g c1 = some c ∧ o = .ok (.val c) ρ2 := by
    cases h1 : res r1 ρ2 with
    | none => simp [h1] at e2
    | some c1 =>
      cases h3 : g c1 with
      | none => simp [h1, h3] at e2
      | some c => simp [h1, h3] at e2; exact ⟨c1, c, rfl, h3, e2.symm⟩
  obtain ⟨c1, c, h1, h3, rfl⟩ := inv
  obtain ⟨f1, k1, _⟩ := rs.vw.res rs.sl h1
  refine l F2 H2 v1 c1 f1 c Q rs.sb k1 h3 fun v F' H' ts n cr nd fr => ?_
  obtain ⟨w, st⟩ := RS.new (ρ := ρ2) (as := as2) rs.sr n cr nd fr
  exact q _ _ rfl v F' H' ts as2 (s2.trans (st.mono (fun a m => by simp [m]) fun a m => .inl m)) w
end

/-! ### names, constants -/
def sVar (i : Nat) : S R := fun ρ => match ρ[i]? with
  | some (some (.dat d)) => some (.ok (.val (.dat d)) ρ)
  | some (some (.own _)) => some (.ok (.slot i) ρ)
  | _ => none
def sC (d : D) : S R := fun ρ => some (.ok (.val (.dat d)) ρ)
section
variable {T : Tx} {W : WX}
theorem Ev.var (i : Nat) : Ev T W (tVar i) (sVar i) := by
  intro σ F H ρ as o Q s e x q
  have e' : (match ρ[i]? with
    | some (some (.dat d)) => some (O.ok (R.val (.dat d)) ρ)
    | some (some (.own _)) => some (.ok (.slot i) ρ)
    | _ => none) = some o := e
  cases h : ρ[i]? with
  | none => rw [h] at e'; cases e'
  | some oc =>
    cases oc with
    | none => rw [h] at e'; cases e'
    | some c =>
      obtain ⟨v, l, fp, r, ea, hv, cr, _⟩ := s.sl.get h
      cases c with
      | dat d =>
        rw [h] at e'
        cases e'
        cases cr with
        | dat dr => exact ⟨v, hv, q _ _ rfl v F H [] as Stp.refl ⟨s.sl, .dat dr, s.nd, s.fr, s.sb⟩⟩
      | own cs =>
        rw [h] at e'
        cases e'
        exact ⟨v, hv, q _ _ rfl v F H [] as Stp.refl ⟨s.sl, ⟨rfl, hv⟩, s.nd, s.fr, s.sb⟩⟩
theorem Ev.con {v : V} {d : D} (h : ∀ F, DR T F v d) : Ev T W (tC v) (sC d) := by
  intro σ F H ρ as o Q s e x q
  cases e
  exact q _ _ rfl v F H [] as Stp.refl ⟨s.sl, .dat (h F), s.nd, s.fr, s.sb⟩
end

/-! ### freezing -/
/-- what r tells, as data for ever -/
def sFrz : R → S D
  | .val c => fun ρ => some (.ok c.toD ρ)
  | .slot i => fun ρ => match ρ[i]? with
    | some (some c) => some (.ok c.toD (ρ.set i (some (.dat c.toD))))
    | _ => none
structure Frz1 (T : Tx) (σ : L2.St) (F H F' : Hp) (ρ' : Ro) (ts as as' us : List Addr) (v : V) (d : D) : Prop where
  ext : Ext F F'
  sb : Ext F' H
  new : ∀ a o, F' a = some o → (∃ u, F a = some u) ∨ a ∈ ts ++ as
  sl : SL T F' H σ ρ' as'
  sub : as'.Sublist as
  fr : ∀ a ∈ us ++ as', F' a = none
  dr : DR T F' v d
theorem frz1 {T : Tx} {σ : L2.St} {F H : Hp} {ρ ρ' : Ro} {as us ts : List Addr} {v : V} {r : R} {d : D} (sl : SL T F H σ ρ as) (vw : Vw T σ F H v r ts) (nd : (ts ++ (us ++ as)).Nodup) (fr : ∀ a ∈ ts ++ (us ++ as), F a = none) (sb : Ext F H)
    (e : sFrz r ρ = some (.ok d ρ')) : ∃ F' as', Frz1 T σ F H F' ρ' ts as as' us v d := by
  obtain ⟨n1, n2, n3⟩ := List.nodup_append.mp nd
  obtain ⟨n4, n5, n6⟩ := List.nodup_append.mp n2
  cases r with
  | val c =>
    cases e
    refine ⟨frz F H ts, as, ⟨frz_ext sb ts, frz_sub sb ts, fun a o h => ?_, sl.frame (frz_ext sb ts) fun _ _ => rfl, List.Sublist.refl _, fun a m => ?_, CR.toDR (frz_ext sb ts) vw fun a m => frz_in m⟩⟩
    · by_cases m : a ∈ ts
      · exact .inr (List.mem_append_left _ m)
      · rw [frz_out m] at h; exact .inl ⟨o, h⟩
    · rw [frz_out fun z => n3 a z a m rfl]
      exact fr a (List.mem_append_right _ m)
  | slot i =>
    obtain ⟨et, hv⟩ := vw
    subst et
    have e' : (match ρ[i]? with
      | some (some c) => some (O.ok c.toD (ρ.set i (some (.dat c.toD))))
      | _ => none) = some (.ok d ρ') := e
    cases h : ρ[i]? with
    | none => rw [h] at e'; cases e'
    | some oc =>
      cases oc with
      | none => rw [h] at e'; cases e'
      | some c =>
        rw [h] at e'
        cases e'
        obtain ⟨v', l, fp, r, ea, hv', cr, k1, k2⟩ := sl.get h
        rw [hv] at hv'
        cases hv'
        have ex := frz_ext sb (H := H) fp
        have dr : DR T (frz F H fp) v c.toD := cr.toDR ex fun a m => frz_in m
        have sl2 := k1 (H' := H) ex (fun a m => rfl) (CR.dat dr)
        have es : σ.set i (some v) = σ := by
          refine List.ext_getElem? fun j => ?_
          by_cases hj : i = j
          · subst hj
            have hl : i < σ.length := (List.getElem?_eq_some_iff.mp hv).1
            rw [List.getElem?_set_self hl, hv]
          · rw [List.getElem?_set_ne hj]
        rw [es] at sl2
        have n5' : (l ++ (fp ++ r)).Nodup := by rw [← ea]; exact n5
        refine ⟨frz F H fp, l ++ ([] ++ r), ⟨ex, frz_sub sb fp, fun a o h => ?_, sl2, ?_, fun a m => ?_, dr⟩⟩
        · by_cases m : a ∈ fp
          · exact .inr (by rw [ea]; simp [m])
          · rw [frz_out m] at h; exact .inl ⟨o, h⟩
        · rw [ea]
          exact (List.Sublist.refl l).append (List.sublist_append_right fp r)
        · have nm : a ∉ fp := fun z => by
            rcases List.mem_append.mp m with m | m
            · exact n6 a m a (by rw [ea]; simp [z]) rfl
            · obtain ⟨q1, q2, q3⟩ := List.nodup_append.mp n5'
              obtain ⟨q4, q5, q6⟩ := List.nodup_append.mp q2
              rcases List.mem_append.mp m with m | m
              · exact q3 a m a (List.mem_append_left _ z) rfl
              · exact q6 a z a (by simpa using m) rfl
          rw [frz_out nm]
          refine fr a (List.mem_append_right _ ?_)
          rcases List.mem_append.mp m with m | m
          · exact List.mem_append_left _ m
          · refine List.mem_append_right _ ?_
            rw [ea]
            rcases List.mem_append.mp m with m | m
            · simp [m]
            · simp at m; simp [m]
theorem Frz1.step {T : Tx} {σ : L2.St} {F H F' : Hp} {ρ' : Ro} {ts as as' us : List Addr} {v : V} {d : D} (f : Frz1 T σ F H F' ρ' ts as as' us v d) : Stp F H (ts ++ as) F' H as' :=
  ⟨f.ext, fun _ _ h _ => h, fun a o h => by
    rcases f.new a o h with q | q
    · exact .inl q
    · exact .inr (.inr q), fun a m => .inr (List.mem_append_right _ (f.sub.subset m))⟩
/-- a value frozen -/
theorem RS.frz {T : Tx} {σ : L2.St} {F H : Hp} {ρ ρ' : Ro} {as ts : List Addr} {v : V} {r : R} {d : D} (s : RS T σ F H ρ as v r ts) (e : sFrz r ρ = some (.ok d ρ')) :
    ∃ F' as', Stp F H (ts ++ as) F' H as' ∧ SR T σ F' H ρ' as' ∧ DR T F' v d := by
  obtain ⟨F', as', f⟩ := frz1 (us := []) s.sl s.vw s.nd s.fr s.sb e
  exact ⟨F', as', f.step, ⟨f.sl, (List.nodup_append.mp s.nd).2.1.sublist f.sub, fun a m => f.fr a (by simpa using m), f.sb⟩, f.dr⟩
theorem sFrz_ok {r : R} {ρ : Ro} {o : O D} (e : sFrz r ρ = some o) : ∃ d ρ', o = .ok d ρ' := by
  cases r with
  | val c => cases e; exact ⟨_, _, rfl⟩
  | slot i =>
    have e' : (match ρ[i]? with
      | some (some c) => some (O.ok c.toD (ρ.set i (some (.dat c.toD))))
      | _ => none) = some o := e
    cases h : ρ[i]? with
    | none => rw [h] at e'; cases e'
    | some oc =>
      cases oc with
      | none => rw [h] at e'; cases e'
      | some c => rw [h] at e'; cases e'; exact ⟨_, _, rfl⟩
end L3
/-! L3c: argument lists, displays, what built-ins read and give. -/
namespace L3
open PySem L2

/-! ### values in a row -/
inductive Vws (T : Tx) (σ : L2.St) (F H : Hp) : List V → List R → List Addr → Prop
  | nil : Vws T σ F H [] [] []
  | cons {v : V} {r : R} {ts : List Addr} {vs : List V} {rs : List R} {us : List Addr} : Vw T σ F H v r ts → Vws T σ F H vs rs us → Vws T σ F H (v :: vs) (r :: rs) (ts ++ us)
structure RSs (T : Tx) (σ : L2.St) (F H : Hp) (ρ : Ro) (as : List Addr) (vs : List V) (rs : List R) (ts : List Addr) : Prop where
  sl : SL T F H σ ρ as
  vw : Vws T σ F H vs rs ts
  nd : (ts ++ as).Nodup
  fr : ∀ a ∈ ts ++ as, F a = none
  sb : Ext F H
def EvA (T : Tx) (W : WX) (t : TA) (f : S (List R)) : Prop := ∀ (σ : L2.St) (F H : Hp) (ρ : Ro) (as : List Addr) (o : O (List R)) (Q : List V → Hp → Prop), SR T σ F H ρ as → f ρ = some o → XW T W σ F H as o →
  (∀ rs ρ', o = .ok rs ρ' → ∀ vs F' H' ts as', Stp F H as F' H' (ts ++ as') → RSs T σ F' H' ρ' as' vs rs ts → Q vs H') → t σ H Q
def sNil : S (List R) := S.ret []
def sCons (fa : S R) (fr : S (List R)) : S (List R) := S.bind fa fun r => S.bind fr fun rs => S.ret (r :: rs)
section
variable {T : Tx} {W : WX} {σ : L2.St} {F H : Hp} {ρ : Ro} {as : List Addr} {α : Type}
theorem RSs.sr {vs : List V} {rs : List R} {ts : List Addr} (h : RSs T σ F H ρ as vs rs ts) : SR T σ F H ρ as :=
  ⟨h.sl, (List.nodup_append.mp h.nd).2.1, fun a m => h.fr a (List.mem_append_right _ m), h.sb⟩
theorem EvA.bind {t : TA} {f : S (List R)} (h : EvA T W t f) {k : List R → S α} {o : O α} {Q : List V → Hp → Prop} (s : SR T σ F H ρ as) (e : S.bind f k ρ = some o) (x : XW T W σ F H as o)
    (q : ∀ rs ρ1 vs F1 H1 ts as1, k rs ρ1 = some o → Stp F H as F1 H1 (ts ++ as1) → RSs T σ F1 H1 ρ1 as1 vs rs ts → XW T W σ F1 H1 (ts ++ as1) o → Q vs H1) : t σ H Q := by
  cases hf : f ρ with
  | none => unfold S.bind at e; rw [hf] at e; cases e
  | some o1 =>
    cases o1 with
    | ok r ρ1 =>
      rw [S.bind_ok hf] at e
      refine h σ F H ρ as _ Q s hf trivial fun r' ρ' he v F' H' ts as' st rs => ?_
      cases he
      exact q _ _ v F' H' ts as' e st rs (x.step st)
    | ex y ρ1 =>
      rw [S.bind_ex hf] at e
      cases e
      exact h σ F H ρ as _ Q s hf x fun r' ρ' he => nomatch he
theorem EvA.nil : EvA T W tNil sNil := by
  intro σ F H ρ as o Q s e x q
  cases e
  exact q _ _ rfl [] F H [] as Stp.refl ⟨s.sl, .nil, s.nd, s.fr, s.sb⟩
theorem EvA.cons {ta : TE} {tr : TA} {fa : S R} {fr : S (List R)} (ha : Ev T W ta fa) (hr : EvA T W tr fr) : EvA T W (tCons ta tr) (sCons fa fr) := by
  intro σ F H ρ as o Q s e x q
  refine ha.bind s e x fun r1 ρ1 v1 F1 H1 t1 as1 e1 s1 rs1 x1 => ?_
  refine hr.bind rs1.sr e1 (x1.mono fun a m => List.mem_append_right _ m) fun r2 ρ2 v2 F2 H2 t2 as2 e2 s2 rs2 x2 => ?_
  cases e2
  obtain ⟨k1, k2, k3⟩ := aside rs1.nd (fun c m => rs1.fr c (List.mem_append_left _ m)) rs1.vw.there s2
  refine q _ _ rfl (v1 :: v2) F2 H2 (t1 ++ t2) as2 ?_ ⟨rs2.sl, .cons (rs1.vw.frame s2.ext k1) rs2.vw, ?_, fun c m => ?_, rs2.sb⟩
  · refine s1.trans ((s2.mono (cs := t1 ++ as1) (ds := t1 ++ t2 ++ as2) (fun c m => List.mem_append_right _ m) fun c m => ?_))
    simp only [List.mem_append] at m ⊢
    rcases m with (m | m) | m
    · exact .inr (.inl m)
    · exact .inl (.inl m)
    · exact .inl (.inr m)
  · rw [List.append_assoc]
    exact nodup_join (List.nodup_append.mp rs1.nd).1 rs2.nd k3
  · rw [List.append_assoc] at m
    rcases List.mem_append.mp m with m | m
    · exact k2 c m
    · exact rs2.fr c m
end

/-- all frozen -/
def sFrzs : List R → S (List D)
  | [] => S.ret []
  | r :: rs => S.bind (sFrz r) fun d => S.bind (sFrzs rs) fun ds => S.ret (d :: ds)
theorem Vws.frame {T : Tx} {σ : L2.St} {F H F' H' : Hp} (e : Ext F F') : ∀ {vs : List V} {rs : List R} {ts : List Addr}, Vws T σ F H vs rs ts → (∀ a ∈ ts, H' a = H a) → Vws T σ F' H' vs rs ts
  | _, _, _, .nil, _ => .nil
  | _, _, _, .cons h r, k => .cons (h.frame e fun a m => k a (List.mem_append_left _ m)) (Vws.frame e r fun a m => k a (List.mem_append_right _ m))
theorem Vws.there {T : Tx} {σ : L2.St} {F H : Hp} : ∀ {vs : List V} {rs : List R} {ts : List Addr}, Vws T σ F H vs rs ts → ∀ a ∈ ts, ∃ o, H a = some o
  | _, _, _, .nil, a, m => by cases m
  | _, _, _, .cons h r, a, m => by
    rcases List.mem_append.mp m with m | m
    · exact h.there a m
    · exact Vws.there r a m
theorem Vws.length {T : Tx} {σ : L2.St} {F H : Hp} : ∀ {vs : List V} {rs : List R} {ts : List Addr}, Vws T σ F H vs rs ts → vs.length = rs.length
  | _, _, _, .nil => rfl
  | _, _, _, .cons h r => congrArg Nat.succ r.length
theorem frzs1 {T : Tx} {σ : L2.St} : ∀ {vs : List V} {rs : List R} {ds : List D} {F H : Hp} {ρ ρ' : Ro} {as ts : List Addr}, SL T F H σ ρ as → Vws T σ F H vs rs ts → (ts ++ as).Nodup → (∀ a ∈ ts ++ as, F a = none) → Ext F H → sFrzs rs ρ = some (.ok ds ρ') →
    ∃ F' as', Stp F H (ts ++ as) F' H as' ∧ SR T σ F' H ρ' as' ∧ DRs T F' vs ds
  | _, [], ds, F, H, ρ, ρ', as, _, sl, .nil, nd, fr, sb, e => by
    cases e
    exact ⟨F, as, Stp.refl, ⟨sl, nd, fr, sb⟩, .nil⟩
  | _, r :: rs, ds, F, H, ρ, ρ', as, _, sl, .cons (v := v) (ts := t1) (us := us) h hr, nd, fr, sb, e => by
    have nd' : (t1 ++ (us ++ as)).Nodup := by rw [← List.append_assoc]; exact nd
    have fr' : ∀ a ∈ t1 ++ (us ++ as), F a = none := fun a m => fr a (by rw [List.append_assoc]; exact m)
    have e0 : S.bind (sFrz r) (fun d => S.bind (sFrzs rs) fun ds => S.ret (d :: ds)) ρ = some (.ok ds ρ') := e
    cases h1 : sFrz r ρ with
    | none => unfold S.bind at e0; rw [h1] at e0; cases e0
    | some o1 =>
      obtain ⟨d, ρ1, rfl⟩ := sFrz_ok h1
      rw [S.bind_ok h1] at e0
      obtain ⟨F1, as1, f⟩ := frz1 sl h nd' fr' sb h1
      obtain ⟨n1, n2, n3⟩ := List.nodup_append.mp nd'
      have nd1 : (us ++ as1).Nodup := n2.sublist ((List.Sublist.refl us).append f.sub)
      cases h2 : sFrzs rs ρ1 with
      | none => unfold S.bind at e0; rw [h2] at e0; cases e0
      | some o2 =>
        cases o2 with
        | ex y ρ2 => rw [S.bind_ex h2] at e0; cases e0
        | ok es ρ2 =>
          rw [S.bind_ok h2] at e0
          cases e0
          obtain ⟨F2, as2, st, sr, dr⟩ := frzs1 f.sl (hr.frame f.ext fun _ _ => rfl) nd1 f.fr f.sb h2
          refine ⟨F2, as2, ?_, sr, .cons (f.dr.ext st.ext) dr⟩
          refine Stp.trans (bs := us ++ as1) ?_ st
          refine ⟨f.ext, fun _ _ h _ => h, fun a o h => ?_, fun a m => .inr ?_⟩
          · rcases f.new a o h with q | q
            · exact .inl q
            · refine .inr (.inr ?_)
              simp only [List.mem_append] at q ⊢
              rcases q with q | q
              · exact .inl (.inl q)
              · exact .inr q
          · simp only [List.mem_append] at m ⊢
            rcases m with m | m
            · exact .inl (.inr m)
            · exact .inr (f.sub.subset m)
theorem sFrzs_ok : ∀ {rs : List R} {ρ : Ro} {o : O (List D)}, sFrzs rs ρ = some o → ∃ ds ρ', o = .ok ds ρ'
  | [], ρ, o, e => by cases e; exact ⟨_, _, rfl⟩
  | r :: rs, ρ, o, e => by
    have e0 : S.bind (sFrz r) (fun d => S.bind (sFrzs rs) fun ds => S.ret (d :: ds)) ρ = some o := e
    cases h1 : sFrz r ρ with
    | none => unfold S.bind at e0; rw [h1] at e0; cases e0
    | some o1 =>
      obtain ⟨d, ρ1, rfl⟩ := sFrz_ok h1
      rw [S.bind_ok h1] at e0
      cases h2 : sFrzs rs ρ1 with
      | none => unfold S.bind at e0; rw [h2] at e0; cases e0
      | some o2 =>
        obtain ⟨ds, ρ2, rfl⟩ := sFrzs_ok h2
        rw [S.bind_ok h2] at e0
        cases e0
        exact ⟨_, _, rfl⟩
/-- moved: one's own stays one's own, a slot's list is frozen -/
def sMov : R → S C
  | .val c => fun ρ => some (.ok c ρ)
  | .slot i => S.bind (sFrz (.slot i)) fun d => S.ret (.dat d)
def sMovs : List R → S (List C)
  | [] => S.ret []
  | r :: rs => S.bind (sMov r) fun c => S.bind (sMovs rs) fun cs => S.ret (c :: cs)
theorem sMov_ok {r : R} {ρ : Ro} {o : O C} (e : sMov r ρ = some o) : ∃ c ρ', o = .ok c ρ' := by
  cases r with
  | val c => cases e; exact ⟨_, _, rfl⟩
  | slot i =>
    have e0 : S.bind (sFrz (.slot i)) (fun d => S.ret (C.dat d)) ρ = some o := e
    cases h1 : sFrz (.slot i) ρ with
    | none => unfold S.bind at e0; rw [h1] at e0; cases e0
    | some o1 =>
      obtain ⟨d, ρ1, rfl⟩ := sFrz_ok h1
      rw [S.bind_ok h1] at e0
      cases e0
      exact ⟨_, _, rfl⟩
theorem sMovs_ok : ∀ {rs : List R} {ρ : Ro} {o : O (List C)}, sMovs rs ρ = some o → ∃ cs ρ', o = .ok cs ρ'
  | [], ρ, o, e => by cases e; exact ⟨_, _, rfl⟩
  | r :: rs, ρ, o, e => by
    have e0 : S.bind (sMov r) (fun c => S.bind (sMovs rs) fun cs => S.ret (c :: cs)) ρ = some o := e
    cases h1 : sMov r ρ with
    | none => unfold S.bind at e0; rw [h1] at e0; cases e0
    | some o1 =>
      obtain ⟨d, ρ1, rfl⟩ := sMov_ok h1
      rw [S.bind_ok h1] at e0
      cases h2 : sMovs rs ρ1 with
      | none => unfold S.bind at e0; rw [h2] at e0; cases e0
      | some o2 =>
        obtain ⟨ds, ρ2, rfl⟩ := sMovs_ok h2
        rw [S.bind_ok h2] at e0
        cases e0
        exact ⟨_, _, rfl⟩
/-- one value moved; others stand aside at us -/
theorem mov1 {T : Tx} {σ : L2.St} {F H : Hp} {ρ ρ' : Ro} {as us ts : List Addr} {v : V} {r : R} {c : C} (sl : SL T F H σ ρ as) (vw : Vw T σ F H v r ts) (nd : (ts ++ (us ++ as)).Nodup) (fr : ∀ a ∈ ts ++ (us ++ as), F a = none) (sb : Ext F H)
    (e : sMov r ρ = some (.ok c ρ')) : ∃ F' as', Ext F F' ∧ Ext F' H ∧ (∀ a o, F' a = some o → (∃ u, F a = some u) ∨ a ∈ as) ∧ SL T F' H σ ρ' as' ∧ as'.Sublist as ∧ (∀ a ∈ ts ++ (us ++ as'), F' a = none) ∧ CR T F' H v c ts := by
  cases r with
  | val c' =>
    cases e
    exact ⟨F, as, Ext.refl F, sb, fun a o h => .inl ⟨o, h⟩, sl, List.Sublist.refl _, fr, vw⟩
  | slot i =>
    have e0 : S.bind (sFrz (.slot i)) (fun d => S.ret (C.dat d)) ρ = some (.ok c ρ') := e
    cases h1 : sFrz (.slot i) ρ with
    | none => unfold S.bind at e0; rw [h1] at e0; cases e0
    | some o1 =>
      obtain ⟨d, ρ1, rfl⟩ := sFrz_ok h1
      rw [S.bind_ok h1] at e0
      cases e0
      have ht : ts = [] := vw.1
      subst ht
      obtain ⟨F1, as1, f⟩ := frz1 (us := us) sl vw nd fr sb h1
      exact ⟨F1, as1, f.ext, f.sb, f.new, f.sl, f.sub, f.fr, .dat f.dr⟩
theorem movs1 {T : Tx} {σ : L2.St} : ∀ {vs : List V} {rs : List R} {cs : List C} {F H : Hp} {ρ ρ' : Ro} {as ts us : List Addr}, SL T F H σ ρ as → Vws T σ F H vs rs ts → (ts ++ (us ++ as)).Nodup → (∀ a ∈ ts ++ (us ++ as), F a = none) → Ext F H → sMovs rs ρ = some (.ok cs ρ') →
    ∃ F' as', Ext F F' ∧ Ext F' H ∧ (∀ a o, F' a = some o → (∃ u, F a = some u) ∨ a ∈ as) ∧ SL T F' H σ ρ' as' ∧ as'.Sublist as ∧ (∀ a ∈ ts ++ (us ++ as'), F' a = none) ∧ CRs T F' H vs cs ts
  | _, [], cs, F, H, ρ, ρ', as, _, us, sl, .nil, nd, fr, sb, e => by
    cases e
    exact ⟨F, as, Ext.refl F, sb, fun a o h => .inl ⟨o, h⟩, sl, List.Sublist.refl _, fr, .nil⟩
  | _, r :: rs, cs, F, H, ρ, ρ', as, _, us, sl, .cons (v := v) (ts := t1) (us := t2) h hr, nd, fr, sb, e => by
    have nd' : (t1 ++ ((t2 ++ us) ++ as)).Nodup := by simpa [List.append_assoc] using nd
    have fr' : ∀ a ∈ t1 ++ ((t2 ++ us) ++ as), F a = none := fun a m => fr a (by simpa [List.append_assoc] using m)
    have e0 : S.bind (sMov r) (fun c => S.bind (sMovs rs) fun cs => S.ret (c :: cs)) ρ = some (.ok cs ρ') := e
    cases h1 : sMov r ρ with
    | none => unfold S.bind at e0; rw [h1] at e0; cases e0
    | some o1 =>
      obtain ⟨c, ρ1, rfl⟩ := sMov_ok h1
      rw [S.bind_ok h1] at e0
      obtain ⟨F1, as1, x1, b1, w1, l1, u1, r1, c1⟩ := mov1 sl h nd' fr' sb h1
      have nd1 : (t2 ++ ((us ++ t1) ++ as1)).Nodup := by
        have q : (t1 ++ ((t2 ++ us) ++ as1)).Nodup := nd'.sublist ((List.Sublist.refl _).append ((List.Sublist.refl _).append u1))
        have pm : (t1 ++ ((t2 ++ us) ++ as1)).Perm (t2 ++ ((us ++ t1) ++ as1)) := by
          have p1 : (t1 ++ (t2 ++ (us ++ as1))).Perm (t2 ++ (t1 ++ (us ++ as1))) := by
            have := (List.perm_append_comm (l₁ := t1) (l₂ := t2)).append_right (us ++ as1)
            simpa [List.append_assoc] using this
          have p2 : (t1 ++ (us ++ as1)).Perm (us ++ (t1 ++ as1)) := by
            have := (List.perm_append_comm (l₁ := t1) (l₂ := us)).append_right as1
            simpa [List.append_assoc] using this
          have p3 := p1.trans (p2.append_left t2)
          simpa [List.append_assoc] using p3
        exact pm.nodup_iff.mp q
      have fr1 : ∀ a ∈ t2 ++ ((us ++ t1) ++ as1), F1 a = none := fun a m => r1 a (by
        simp only [List.mem_append] at m ⊢
        rcases m with m | (m | m) | m
        · exact .inr (.inl (.inl m))
        · exact .inr (.inl (.inr m))
        · exact .inl m
        · exact .inr (.inr m))
      cases h2 : sMovs rs ρ1 with
      | none => unfold S.bind at e0; rw [h2] at e0; cases e0
      | some o2 =>
        obtain ⟨ds, ρ2, rfl⟩ := sMovs_ok h2
        rw [S.bind_ok h2] at e0
        cases e0
        obtain ⟨F2, as2, x2, b2, w2, l2, u2, r2, c2⟩ := movs1 (us := us ++ t1) l1 (hr.frame x1 fun _ _ => rfl) nd1 fr1 b1 h2
        refine ⟨F2, as2, x1.trans x2, b2, fun a o h => ?_, l2, u2.trans u1, fun a m => r2 a ?_, .cons (c1.frame x2 fun _ _ => rfl) c2⟩
        · rcases w2 a o h with ⟨u, q⟩ | q
          · exact w1 a u q
          · exact .inr (u1.subset q)
        · simp only [List.mem_append] at m ⊢
          rcases m with (m | m) | (m | m)
          · exact .inr (.inl (.inr m))
          · exact .inl m
          · exact .inr (.inl (.inl m))
          · exact .inr (.inr m)

/-! ### displays -/
def sTup (fa : S (List R)) : S R := S.bind fa fun rs => S.bind (sFrzs rs) fun ds => fun ρ => if ds.length ≤ sizeLine then some (.ok (.val (.dat (.tup ds))) ρ) else none
def sLst (fa : S (List R)) : S R := S.bind fa fun rs => S.bind (sMovs rs) fun cs => fun ρ => if cs.length ≤ sizeLine then some (.ok (.val (.own cs)) ρ) else none
section
variable {T : Tx} {W : WX} {ta : TA} {fa : S (List R)}
theorem Ev.tup (ha : EvA T W ta fa) : Ev T W (tTup ta) (sTup fa) := by
  intro σ F H ρ as o Q s e x q
  refine ha.bind s e x fun rs ρ1 vs F1 H1 ts as1 e1 s1 r1 x1 => ?_
  cases h1 : sFrzs rs ρ1 with
  | none => unfold S.bind at e1; rw [h1] at e1; cases e1
  | some o1 =>
    obtain ⟨ds, ρ2, rfl⟩ := sFrzs_ok h1
    rw [S.bind_ok h1] at e1
    obtain ⟨F2, as2, st, sr, dr⟩ := frzs1 r1.sl r1.vw r1.nd r1.fr r1.sb h1
    have e2 : (if ds.length ≤ sizeLine then some (O.ok (R.val (.dat (.tup ds))) ρ2) else none) = some o := e1
    by_cases hz : ds.length ≤ sizeLine
    · rw [if_pos hz] at e2
      cases e2
      refine ⟨by rw [dr.length]; exact hz, fun p hp => ?_⟩
      have n := Nw.frozen (o := .tup vs) sr.sb hp
      obtain ⟨w, st2⟩ := RS.new (ts := []) (c := .dat (.tup ds)) (v := .ref p) sr n (.dat (.tup (SqT.of upd_same) (dr.ext n.ext))) .nil (fun a m => nomatch m)
      exact q _ _ rfl _ _ _ [] as2 (s1.trans (st.trans st2)) w
    · rw [if_neg hz] at e2; cases e2
theorem Ev.lst (ha : EvA T W ta fa) : Ev T W (tLst ta) (sLst fa) := by
  intro σ F H ρ as o Q s e x q
  refine ha.bind s e x fun rs ρ1 vs F1 H1 ts as1 e1 s1 r1 x1 => ?_
  cases h1 : sMovs rs ρ1 with
  | none => unfold S.bind at e1; rw [h1] at e1; cases e1
  | some o1 =>
    obtain ⟨cs, ρ2, rfl⟩ := sMovs_ok h1
    rw [S.bind_ok h1] at e1
    obtain ⟨F2, as2, xt, sb2, nw, sl2, su, fr2, cr⟩ := movs1 (us := []) r1.sl r1.vw (by simpa using r1.nd) (fun a m => r1.fr a (by simpa using m)) r1.sb h1
    have e2 : (if cs.length ≤ sizeLine then some (O.ok (R.val (.own cs)) ρ2) else none) = some o := e1
    by_cases hz : cs.length ≤ sizeLine
    · rw [if_pos hz] at e2
      cases e2
      refine ⟨by rw [cr.length]; exact hz, fun p hp => ?_⟩
      have th := Vws.there r1.vw
      have pts : p ∉ ts := fun m => by
        obtain ⟨o, eo⟩ := th p m
        rw [hp] at eo; cases eo
      have pas : p ∉ as2 := fun m => by
        obtain ⟨o, eo⟩ := sl2.there p m
        rw [hp] at eo; cases eo
      have keep : ∀ a, a ≠ p → upd H1 p (.lst vs) a = H1 a := fun a h => upd_ne h
      refine q _ _ rfl (.ref p) F2 (upd H1 p (.lst vs)) (p :: ts) as2 ?_ ⟨sl2.frame (Ext.refl F2) fun a m => keep a fun z => pas (z ▸ m), .own upd_same (cr.frame (Ext.refl F2) fun a m => keep a fun z => pts (z ▸ m)), ?_, fun a m => ?_, sb2.trans (Ext.new hp)⟩
      · refine s1.trans ⟨xt, fun a o h _ => Ext.new hp a o h, fun a o h => ?_, fun a m => ?_⟩
        · rcases nw a o h with z | z
          · exact .inl z
          · exact .inr (.inr (List.mem_append_right _ z))
        · rcases List.mem_append.mp m with m | m
          · rcases List.mem_cons.mp m with m | m
            · subst m; exact .inl hp
            · exact .inr (List.mem_append_left _ m)
          · exact .inr (List.mem_append_right _ (su.subset m))
      · have := r1.nd.sublist ((List.Sublist.refl ts).append su)
        exact List.nodup_cons.mpr ⟨fun m => (List.mem_append.mp m).elim pts pas, this⟩
      · rcases List.mem_append.mp m with m | m
        · rcases List.mem_cons.mp m with m | m
          · subst m; exact sb2.none hp
          · exact fr2 a (List.mem_append_left _ m)
        · exact fr2 a (List.mem_append_right _ (by simpa using m))
    · rw [if_neg hz] at e2; cases e2
end

/-! ### calls of built-ins that only read -/
def ress : List R → Ro → Option (List C)
  | [], _ => some []
  | r :: rs, ρ => match res r ρ with
    | some c => (match ress rs ρ with
      | some cs => some (c :: cs)
      | none => none)
    | none => none
theorem Vws.res {T : Tx} {σ : L2.St} {F H : Hp} {ρ : Ro} {as : List Addr} (sl : SL T F H σ ρ as) : ∀ {vs : List V} {rs : List R} {ts : List Addr} {cs : List C}, Vws T σ F H vs rs ts → ress rs ρ = some cs → ∃ fp, CRs T F H vs cs fp
  | _, _, _, cs, .nil, e => by cases e; exact ⟨[], .nil⟩
  | _, _, _, cs, .cons (r := r) (rs := rs) h hr, e => by
    have e0 : (match L3.res r ρ with
      | some c => (match ress rs ρ with
        | some cs => some (c :: cs)
        | none => none)
      | none => none) = some cs := e
    cases h1 : L3.res r ρ with
    | none => rw [h1] at e0; cases e0
    | some c =>
      rw [h1] at e0
      cases h2 : ress rs ρ with
      | none => rw [h2] at e0; cases e0
      | some es =>
        rw [h2] at e0
        cases e0
        obtain ⟨f1, k1, _⟩ := h.res sl h1
        obtain ⟨f2, k2⟩ := Vws.res sl hr h2
        exact ⟨f1 ++ f2, .cons k1 k2⟩
def LiftC (T : Tx) (r : List V → Hp → VK → Prop) (g : List C → Option C) : Prop := ∀ (F H : Hp) (vs : List V) (cs : List C) (fp : List Addr) (c : C) (Q : VK), Ext F H → CRs T F H vs cs fp → g cs = some c →
  (∀ v F' H' ts, Nw F H F' H' → CR T F' H' v c ts → ts.Nodup → (∀ a ∈ ts, H a = none ∧ F' a = none) → Q v H') → r vs H Q
def sBlt (g : List C → Option C) (fa : S (List R)) : S R := S.bind fa fun rs => fun ρ => match ress rs ρ with
  | some cs => (match g cs with
    | some c => some (.ok (.val c) ρ)
    | none => none)
  | none => none
section
variable {T : Tx} {W : WX} {ta : TA} {fa : S (List R)}
theorem Ev.blt {r : List V → Hp → VK → Prop} {g : List C → Option C} (l : LiftC T r g) (ha : EvA T W ta fa) : Ev T W (tCB r ta) (sBlt g fa) := by
  intro σ F H ρ as o Q s e x q
  refine ha.bind s e x fun rs ρ2 v1 F2 H2 t1 as2 e2 s2 rs1 x2 => ?_
  have inv : ∃ c1 c, ress rs ρ2 = some c1 ∧ g c1 = some c ∧ o = .ok (.val c) ρ2 := by
    cases h1 : ress rs ρ2 with
    | none => simp [h1] at e2
    | some c1 =>
      cases h3 : g c1 with
      | none => simp [h1, h3] at e2
      | some c => simp [h1, h3] at e2; exact ⟨c1, c, rfl, h3, e2.symm⟩
  obtain ⟨c1, c, h1, h3, rfl⟩ := inv
  obtain ⟨f1, k1⟩ := rs1.vw.res rs1.sl h1
  refine l F2 H2 v1 c1 f1 c Q rs1.sb k1 h3 fun v F' H' ts n cr nd fr => ?_
  obtain ⟨w, st⟩ := RS.new (ρ := ρ2) (as := as2) rs1.sr n cr nd fr
  exact q _ _ rfl v F' H' ts as2 (s2.trans (st.mono (fun a m => by simp [m]) fun a m => .inl m)) w
end
/-- methods that only read -/
def LiftM (T : Tx) (r : V → List V → Hp → VK → Prop) (g : C → List C → Option C) : Prop := ∀ (F H : Hp) (x : V) (c0 : C) (f0 : List Addr) (vs : List V) (cs : List C) (fp : List Addr) (c : C) (Q : VK), Ext F H → CR T F H x c0 f0 → CRs T F H vs cs fp → g c0 cs = some c →
  (∀ v F' H' ts, Nw F H F' H' → CR T F' H' v c ts → ts.Nodup → (∀ a ∈ ts, H a = none ∧ F' a = none) → Q v H') → r x vs H Q
end L3
/-! L3d: what each operator and built-in gives. -/
namespace L3
open PySem L2

section
variable {T : Tx} {F H : Hp}
/-- the list that a cell is, all data -/
def lstOf : C → Option (List D)
  | .dat (.lst ds) => some ds
  | .own cs => undat cs
  | _ => none
theorem lstOf_rep {v : V} {c : C} {fp : List Addr} {ds : List D} (sb : Ext F H) (h : CR T F H v c fp) (e : lstOf c = some ds) : ∃ a vs, v = .ref a ∧ H a = some (.lst vs) ∧ DRs T F vs ds := by
  cases h with
  | dat h =>
    rename_i d
    cases d with
    | lst es =>
      cases e
      cases h with
      | lst ha r => exact ⟨_, _, rfl, sb _ _ ha, r⟩
    | _ => cases e
  | own ha r =>
    have e' := undat_eq e
    subst e'
    obtain ⟨_, q⟩ := CRs.dats r
    exact ⟨_, _, rfl, ha, q⟩
/-- a list, a tuple, a list that is only read -/
def seqOf : C → Option (List D)
  | .dat (.lst ds) => some ds
  | .dat (.tup ds) => some ds
  | .dat (.rol ds) => some ds
  | .own cs => undat cs
  | _ => none
theorem seqOf_rep {v : V} {c : C} {fp : List Addr} {ds : List D} (sb : Ext F H) (h : CR T F H v c fp) (e : seqOf c = some ds) : ∃ a vs, v = .ref a ∧ (SqL T.K H a vs ∨ SqT T.K H a vs) ∧ DRs T F vs ds := by
  cases h with
  | dat h =>
    rename_i d
    cases d with
    | lst es =>
      cases e
      cases h with
      | lst ha r => exact ⟨_, _, rfl, .inl (SqL.of (sb _ _ ha)), r⟩
    | tup es =>
      cases e
      cases h with
      | tup ha r => exact ⟨_, _, rfl, .inr (ext_st sb ha), r⟩
    | rol es =>
      cases e
      cases h with
      | rol ha r => exact ⟨_, _, rfl, .inl (ext_sl sb ha), r⟩
    | _ => cases e
  | own ha r =>
    have e' := undat_eq e
    subst e'
    obtain ⟨_, q⟩ := CRs.dats r
    exact ⟨_, _, rfl, .inl (SqL.of ha), q⟩
theorem inv_int {v : V} {i : Int} {fp : List Addr} (h : CR T F H v (.dat (.int i)) fp) : v = .int i := by
  cases h with
  | dat h => cases h; rfl
theorem inv_str {v : V} {x : Str} {fp : List Addr} (h : CR T F H v (.dat (.str x)) fp) : v = .str x := by
  cases h with
  | dat h => cases h; rfl
theorem inv_bl {v : V} {b : Bool} {fp : List Addr} (h : CR T F H v (.dat (.bl b)) fp) : v = .bl b := by
  cases h with
  | dat h => cases h; rfl
theorem inv_tup {v : V} {ds : List D} {fp : List Addr} (h : CR T F H v (.dat (.tup ds)) fp) : ∃ a vs, v = .ref a ∧ SqT T.K F a vs ∧ DRs T F vs ds := by
  cases h with
  | dat h =>
    cases h with
    | tup ha r => exact ⟨_, _, rfl, ha, r⟩
end

/-- what the continuation of a lift is -/
abbrev Fin2 (T : Tx) (F H : Hp) (c : C) (Q : VK) : Prop := ∀ v F' H' ts, Nw F H F' H' → CR T F' H' v c ts → ts.Nodup → (∀ a ∈ ts, H a = none ∧ F' a = none) → Q v H'
section
variable {T : Tx} {F H : Hp} {Q : VK}
theorem Fin2.dat {d : D} {v : V} (sb : Ext F H) (q : Fin2 T F H (.dat d) Q) (h : DR T F v d) : Q v H := q v F H [] (Nw.refl sb) (.dat h) .nil fun a m => nomatch m
theorem Fin2.tup {ds : List D} {vs : List V} {p : Addr} (sb : Ext F H) (q : Fin2 T F H (.dat (.tup ds)) Q) (h : DRs T F vs ds) (hp : H p = none) : Q (.ref p) (upd H p (.tup vs)) :=
  q _ (upd F p (.tup vs)) _ [] (Nw.frozen sb hp) (.dat (.tup (SqT.of upd_same) (h.ext (Ext.new (sb.none hp))))) .nil fun a m => nomatch m
theorem Fin2.lst {ds : List D} {vs : List V} {p : Addr} (sb : Ext F H) (q : Fin2 T F H (.own (dats ds)) Q) (h : DRs T F vs ds) (hp : H p = none) : Q (.ref p) (upd H p (.lst vs)) :=
  q _ F _ [p] (Nw.own sb hp) (.own upd_same h.cells) (by simp) fun a m => by
    rcases List.mem_cons.mp m with e | m
    · subst e; exact ⟨hp, sb.none hp⟩
    · cases m
end

/-! ### numbers -/
def gI2 (p : Int → Int → Option D) : C → C → Option C
  | .dat (.int i), .dat (.int j) => (match p i j with
    | some d => some (.dat d)
    | none => none)
  | _, _ => none
theorem gI2_inv {p : Int → Int → Option D} {a b c : C} (h : gI2 p a b = some c) : ∃ i j d, a = .dat (.int i) ∧ b = .dat (.int j) ∧ p i j = some d ∧ c = .dat d := by
  unfold gI2 at h
  split at h
  · rename_i i j
    cases e : p i j with
    | none => rw [e] at h; cases h
    | some d => rw [e] at h; cases h; exact ⟨i, j, d, rfl, rfl, e, rfl⟩
  · cases h
theorem lift_rI {T : Tx} {Cc : Int → Int → Prop} {g : Int → Int → V} {p : Int → Int → Option D} (h : ∀ i j d, p i j = some d → Cc i j ∧ ∀ F, DR T F (g i j) d) : Lift2 T (rI Cc g) (gI2 p) := by
  intro F H x y c1 c2 f1 f2 c Q sb h1 h2 e q
  obtain ⟨i, j, d, rfl, rfl, ep, rfl⟩ := gI2_inv e
  obtain rfl := inv_int h1
  obtain rfl := inv_int h2
  obtain ⟨hc, hd⟩ := h i j d ep
  exact ⟨i, j, rfl, rfl, hc, Fin2.dat sb q (hd F)⟩
theorem lift_rI0 {T : Tx} {g : Int → Int → V} {p : Int → Int → Option D} (h : ∀ i j d, p i j = some d → ∀ F, DR T F (g i j) d) : Lift2 T (rI0 g) (gI2 p) := by
  intro F H x y c1 c2 f1 f2 c Q sb h1 h2 e q
  obtain ⟨i, j, d, rfl, rfl, ep, rfl⟩ := gI2_inv e
  obtain rfl := inv_int h1
  obtain rfl := inv_int h2
  exact ⟨i, j, rfl, rfl, Fin2.dat sb q (h i j d ep F)⟩
def gSub : C → C → Option C := gI2 fun i j => some (.int (i - j))
def gMod : C → C → Option C := gI2 fun i j => if 0 < j then some (.int (i % j)) else none
def gDiv : C → C → Option C := gI2 fun i j => if 0 < j ∧ j.natAbs.log2 < 9000 then some (.int (i / j)) else none
def gPow : C → C → Option C := gI2 fun i j => if 0 ≤ j ∧ j ≤ 1000000 ∧ i.natAbs < 2 ^ 64 then some (.int (i ^ j.toNat)) else none
def gLtI : C → C → Option C := gI2 fun i j => some (.bl (decide (i < j)))
def gLe : C → C → Option C := gI2 fun i j => some (.bl (decide (i ≤ j)))
def gGt : C → C → Option C := gI2 fun i j => some (.bl (decide (j < i)))
def gGe : C → C → Option C := gI2 fun i j => some (.bl (decide (j ≤ i)))
theorem lift_sub {T : Tx} : Lift2 T (rI0 fun i j => .int (i - j)) gSub := lift_rI0 fun i j d e F => by cases e; exact .int _
theorem lift_mod {T : Tx} : Lift2 T (rI (fun _ j => 0 < j) fun i j => .int (i % j)) gMod := lift_rI fun i j d e => by
  by_cases h : 0 < j
  · rw [if_pos h] at e; cases e; exact ⟨h, fun F => .int _⟩
  · rw [if_neg h] at e; cases e
theorem lift_div {T : Tx} : Lift2 T (rI CDivW fun i j => .int (i / j)) gDiv := lift_rI fun i j d e => by
  by_cases h : 0 < j ∧ j.natAbs.log2 < 9000
  · rw [if_pos h] at e; cases e; exact ⟨h, fun F => .int _⟩
  · rw [if_neg h] at e; cases e
theorem lift_pow {T : Tx} : Lift2 T (rI CPow fun i j => .int (i ^ j.toNat)) gPow := lift_rI fun i j d e => by
  by_cases h : 0 ≤ j ∧ j ≤ 1000000 ∧ i.natAbs < 2 ^ 64
  · rw [if_pos h] at e; cases e; exact ⟨h, fun F => .int _⟩
  · rw [if_neg h] at e; cases e
theorem lift_ltI {T : Tx} : Lift2 T (rI0 fun i j => .bl (decide (i < j))) gLtI := lift_rI0 fun i j d e F => by cases e; exact .bl _
theorem lift_le {T : Tx} : Lift2 T (rI0 fun i j => .bl (decide (i ≤ j))) gLe := lift_rI0 fun i j d e F => by cases e; exact .bl _
theorem lift_gt {T : Tx} : Lift2 T (rI0 fun i j => .bl (decide (j < i))) gGt := lift_rI0 fun i j d e F => by cases e; exact .bl _
theorem lift_ge {T : Tx} : Lift2 T (rI0 fun i j => .bl (decide (j ≤ i))) gGe := lift_rI0 fun i j d e F => by cases e; exact .bl _
def gNeg : C → Option C
  | .dat (.int i) => some (.dat (.int (-i)))
  | _ => none
theorem lift_neg {T : Tx} : Lift1 T (rU fun i => .int (-i)) gNeg := by
  intro F H x c1 f1 c Q sb h1 e q
  unfold gNeg at e
  split at e
  · cases e
    obtain rfl := inv_int h1
    exact ⟨_, rfl, Fin2.dat sb q (.int _)⟩
  · cases e

/-! ### + -/
def gAdd : C → C → Option C
  | .dat (.int i), .dat (.int j) => some (.dat (.int (i + j)))
  | .dat (.str x), .dat (.str y) => if x.length + y.length ≤ sizeLine then some (.dat (.str (x ++ y))) else none
  | .dat (.tup xs), .dat (.tup ys) => if xs.length + ys.length ≤ sizeLine then some (.dat (.tup (xs ++ ys))) else none
  | a, b => match lstOf a, lstOf b with
    | some xs, some ys => if xs.length + ys.length ≤ sizeLine then some (.own (dats (xs ++ ys))) else none
    | _, _ => none
def rAddU (K : PySem.W.Frag) : R2 := fun x y H Q => rI0 (fun i j => .int (i + j)) x y H Q ∨ ((∃ i j, x = .str i ∧ y = .str j ∧ i.length + j.length ≤ sizeLine ∧ Q (.str (i ++ j)) H) ∨ (rCatA K x y H Q ∨ rCat x y H Q))
theorem op_addU {X : Cx} : OpR X (binaryOp .Add) (rAddU X.K) := op_add.or (op_add_str.or (op_catA.or op_cat))
theorem lift_add {T : Tx} : Lift2 T (rAddU T.K) gAdd := by
  intro F H x y c1 c2 f1 f2 c Q sb h1 h2 e q
  unfold gAdd at e
  split at e
  · cases e
    obtain rfl := inv_int h1
    obtain rfl := inv_int h2
    exact .inl ⟨_, _, rfl, rfl, Fin2.dat sb q (.int _)⟩
  · split at e
    · cases e
      obtain rfl := inv_str h1
      obtain rfl := inv_str h2
      exact .inr (.inl ⟨_, _, rfl, rfl, by assumption, Fin2.dat sb q (.str _)⟩)
    · cases e
  · split at e
    · rename_i xs ys hz
      cases e
      obtain ⟨a, vs, rfl, ha, r1⟩ := inv_tup h1
      obtain ⟨b, ws, rfl, hb, r2⟩ := inv_tup h2
      refine .inr (.inr (.inl ⟨a, b, vs, ws, rfl, rfl, ext_st sb ha, ext_st sb hb, by rw [r1.length, r2.length]; exact hz, fun e1 => ?_, fun e1 e2 => ?_, fun _ _ p hp => Fin2.tup sb q (r1.append r2) hp⟩))
      · subst e1
        cases r1
        exact Fin2.dat sb q (.tup hb r2)
      · subst e2
        cases r2
        refine Fin2.dat sb q (.tup ha ?_)
        rw [List.append_nil]; exact r1
    · cases e
  · split at e
    · rename_i xs ys e1 e2
      split at e
      · rename_i hz
        cases e
        obtain ⟨a, vs, rfl, ha, r1⟩ := lstOf_rep sb h1 e1
        obtain ⟨b, ws, rfl, hb, r2⟩ := lstOf_rep sb h2 e2
        exact .inr (.inr (.inr ⟨a, b, vs, ws, rfl, rfl, ha, hb, by rw [r1.length, r2.length]; exact hz, fun p hp => Fin2.lst sb q (r1.append r2) hp⟩))
      · cases e
    · cases e

/-! ### * -/
/-- a text so many times -/
def strRep (x : Str) (n : Nat) : Str := ⟨(List.replicate n x.cps.toList).flatten.toArray⟩
theorem strRep_fold (x : Str) : ∀ (n : Nat) (acc : Array Nat), (List.replicate n x.cps).foldl (· ++ ·) acc = acc ++ (List.replicate n x.cps.toList).flatten.toArray
  | 0, acc => by simp
  | n + 1, acc => by
    rw [List.replicate_succ, List.foldl_cons, strRep_fold x n (acc ++ x.cps), List.replicate_succ, List.flatten_cons]
    refine Array.toList_inj.mp ?_
    simp
theorem op_mulS {X : Cx} : OpR X (binaryOp .Mult) (fun x y H Q => ∃ z n, x = .str z ∧ y = .int n ∧ -1000000 ≤ n ∧ n ≤ 1000000 ∧ z.length * n.toNat ≤ sizeLine ∧ Q (.str (strRep z n.toNat)) H) := by
  intro pins s σ H x y v u Q I rx ry h
  obtain ⟨z, n, rfl, rfl, h1, h2, hz, q⟩ := h
  obtain ⟨t, rfl⟩ := rx
  obtain ⟨t', rfl⟩ := ry
  refine P.mul_str (by rw [decide_eq_false (by omega), decide_eq_false (by omega)]; rfl) (fun a b => ?_) (fun a b => ?_) ?_
  · have hn : 0 < n := by omega
    have e : ((z.length : Nat) : Int) * n ≤ sizeLine := by
      have : (z.length * n.toNat : Nat) ≤ sizeLine := hz
      have q : ((z.length * n.toNat : Nat) : Int) ≤ (sizeLine : Nat) := by exact_mod_cast this
      rw [Int.natCast_mul] at q
      rw [show ((n.toNat : Nat) : Int) = n by omega] at q
      exact q
    have hle : ((z.length : Nat) : Int) ≤ sizeLine := by
      have : (z.length : Int) * 1 ≤ (z.length : Int) * n := Int.mul_le_mul_of_nonneg_left (by omega) (by omega)
      omega
    have hq : (2 ^ 63 - 1 : Int) / 1000000 ≤ (2 ^ 63 - 1) / n := by
      refine (Int.le_ediv_iff_mul_le hn).mpr ?_
      have : (2 ^ 63 - 1 : Int) / 1000000 * n ≤ (2 ^ 63 - 1 : Int) / 1000000 * 1000000 := Int.mul_le_mul_of_nonneg_left h2 (by decide)
      have e2 : (2 ^ 63 - 1 : Int) / 1000000 * 1000000 ≤ 2 ^ 63 - 1 := by decide
      omega
    have s1 : ((sizeLine : Nat) : Int) ≤ (2 ^ 63 - 1 : Int) / 1000000 := by rw [sizeLine_eq]; decide
    omega
  · unfold Builtin.Str.tooLong
    exact decide_eq_false (by omega)
  · have e : (strRep z n.toNat) = ⟨(List.replicate n.toNat z.cps).foldl (· ++ ·) #[]⟩ := by
      rw [strRep_fold z n.toNat #[]]
      unfold strRep
      simp
    by_cases c1 : n < 1
    · rw [if_pos c1]
      have e0 : strRep z n.toNat = Str.empty := by
        have : n.toNat = 0 := by omega
        rw [this]; rfl
      rw [e0] at q
      exact ⟨by decide, ⟨.str Str.empty, H, I.tok _, ⟨_, rfl⟩, q⟩⟩
    · rw [if_neg c1]
      by_cases c2 : (n == 1 || z.length == 0) = true
      · rw [if_pos c2]
        have e1 : strRep z n.toNat = z := by
          rcases Bool.or_eq_true _ _ ▸ c2 with c | c
          · have : n.toNat = 1 := by have := eq_of_beq c; omega
            rw [this]; unfold strRep
            simp
          · have : z.cps.toList = [] := by
              have q : z.length = 0 := eq_of_beq c
              have q2 : z.cps.size = 0 := q
              simpa using q2
            unfold strRep
            rw [this]
            have z0 : z = ⟨#[]⟩ := by
              cases z with
              | mk c => simp at this; subst this; rfl
            rw [z0]
            simp
        rw [e1] at q
        exact ⟨.str z, H, I, ⟨t, rfl⟩, q⟩
      · rw [if_neg c2]
        rw [e] at q
        refine ⟨?_, ⟨.str _, H, I.tok _, ⟨_, rfl⟩, q⟩⟩
        rw [← e]
        unfold strRep
        show ((List.replicate n.toNat z.cps.toList).flatten.toArray).size ≤ _
        rw [List.size_toArray, PyProof.Rows.lm_len_rep_flat]
        have : z.cps.toList.length = z.length := by simp [Str.length]
        rw [this, Nat.mul_comm]; exact hz
end L3
/-! L3e: *, ==, in, repr, len and others. -/
namespace L3
open PySem L2

/-! ### * -/
def gMul : C → C → Option C
  | .dat (.int i), .dat (.int j) => if i.natAbs.log2 + j.natAbs.log2 < 1000000 then some (.dat (.int (i * j))) else none
  | .dat (.str x), .dat (.int n) => if -1000000 ≤ n ∧ n ≤ 1000000 ∧ x.length * n.toNat ≤ sizeLine then some (.dat (.str (strRep x n.toNat))) else none
  | .dat (.tup xs), .dat (.int n) => if xs ≠ [] ∧ 2 ≤ n ∧ n ≤ 1000 ∧ xs.length ≤ 1000 then some (.dat (.tup (List.replicate n.toNat xs).flatten)) else none
  | a, .dat (.int n) => match lstOf a with
    | some xs => if -(2 ^ 63) ≤ n ∧ n < 2 ^ 63 ∧ xs.length * n.toNat ≤ sizeLine then some (.own (dats (List.replicate n.toNat xs).flatten)) else none
    | none => none
  | _, _ => none
def rMulU (K : PySem.W.Frag) : R2 := fun x y H Q => rI CMulW (fun i j => .int (i * j)) x y H Q ∨ ((∃ z n, x = .str z ∧ y = .int n ∧ -1000000 ≤ n ∧ n ≤ 1000000 ∧ z.length * n.toNat ≤ sizeLine ∧ Q (.str (strRep z n.toNat)) H) ∨ (rRepT K x y H Q ∨ rRep x y H Q))
theorem op_mulU {X : Cx} : OpR X (binaryOp .Mult) (rMulU X.K) := op_mulW.or (op_mulS.or (op_repT.or op_rep))
theorem DRs.repF {T : Tx} {F : Hp} {vs : List V} {ds : List D} (h : DRs T F vs ds) : ∀ n, DRs T F (List.replicate n vs).flatten (List.replicate n ds).flatten
  | 0 => .nil
  | n + 1 => by
    rw [List.replicate_succ, List.replicate_succ, List.flatten_cons, List.flatten_cons]
    exact h.append (h.repF n)
theorem lift_mul {T : Tx} : Lift2 T (rMulU T.K) gMul := by
  intro F H x y c1 c2 f1 f2 c Q sb h1 h2 e q
  unfold gMul at e
  split at e
  · split at e
    · rename_i hz
      cases e
      obtain rfl := inv_int h1
      obtain rfl := inv_int h2
      exact .inl ⟨_, _, rfl, rfl, hz, Fin2.dat sb q (.int _)⟩
    · cases e
  · split at e
    · rename_i hz
      cases e
      obtain rfl := inv_str h1
      obtain rfl := inv_int h2
      exact .inr (.inl ⟨_, _, rfl, rfl, hz.1, hz.2.1, hz.2.2, Fin2.dat sb q (.str _)⟩)
    · cases e
  · split at e
    · rename_i hz
      cases e
      obtain ⟨a, vs, rfl, ha, r1⟩ := inv_tup h1
      obtain rfl := inv_int h2
      refine .inr (.inr (.inl ⟨a, _, vs, rfl, rfl, ext_st sb ha, fun z => hz.1 ?_, hz.2.1, hz.2.2.1, by rw [r1.length]; exact hz.2.2.2, fun p hp => Fin2.tup sb q (r1.repF _) hp⟩))
      subst z
      cases r1
      rfl
    · cases e
  · split at e
    · rename_i xs e1
      split at e
      · rename_i hz
        cases e
        obtain ⟨a, vs, rfl, ha, r1⟩ := lstOf_rep sb h1 e1
        obtain rfl := inv_int h2
        exact .inr (.inr (.inr ⟨a, _, vs, rfl, rfl, ha, hz.1, hz.2.1, by rw [r1.length]; exact hz.2.2, fun p hp => Fin2.lst sb q (r1.repF _) hp⟩))
      · cases e
    · cases e
  · cases e

/-! ### data that the model's == and repr read -/
mutual
def toPy : D → Option PyData
  | .non => some .none
  | .bl b => some (.bool b)
  | .int i => some (.int i)
  | .str x => some (.str x)
  | .tup ds => match toPys ds with
    | some ps => some (.tuple ps)
    | none => none
  | .lst ds => match toPys ds with
    | some ps => some (.list ps)
    | none => none
  | _ => none
def toPys : List D → Option (List PyData)
  | [] => some []
  | d :: ds => match toPy d with
    | some p => (match toPys ds with
      | some ps => some (p :: ps)
      | none => none)
    | none => none
end
mutual
theorem DR.toPy {T : Tx} {F : Hp} : ∀ {v : V} {d : D} {p : PyData}, DR T F v d → L3.toPy d = some p → Dp T.K F v p
  | _, _, p, .non, e => by cases e; exact .non
  | _, _, p, .bl b, e => by cases e; exact .bl b
  | _, _, p, .int i, e => by cases e; exact .int i
  | _, _, p, .str x, e => by cases e; exact .str x
  | _, _, p, .tup (ds := ds) h r, e => by
    have e' : (match toPys ds with
      | some ps => some (PyData.tuple ps)
      | none => none) = some p := e
    cases q : toPys ds with
    | none => rw [q] at e'; cases e'
    | some ps => rw [q] at e'; cases e'; exact .tup h (DRs.toPys r q)
  | _, _, p, .lst (ds := ds) h r, e => by
    have e' : (match toPys ds with
      | some ps => some (PyData.list ps)
      | none => none) = some p := e
    cases q : toPys ds with
    | none => rw [q] at e'; cases e'
    | some ps => rw [q] at e'; cases e'; exact .lst (SqL.of h) (DRs.toPys r q)
  | _, _, p, .rol h r, e => by cases e
  | _, _, p, .dk h l r, e => by cases e
  | _, _, p, .dt h l r, e => by cases e
  | _, _, p, .ins m h l r, e => by cases e
theorem DRs.toPys {T : Tx} {F : Hp} : ∀ {vs : List V} {ds : List D} {ps : List PyData}, DRs T F vs ds → L3.toPys ds = some ps → DpAll T.K F vs ps
  | _, _, ps, .nil, e => by cases e; exact .nil
  | _, _, ps, .cons (d := d) (ds := ds) h r, e => by
    have e' : (match L3.toPy d with
      | some p => (match L3.toPys ds with
        | some ps => some (p :: ps)
        | none => none)
      | none => none) = some ps := e
    cases q1 : L3.toPy d with
    | none => rw [q1] at e'; cases e'
    | some p =>
      rw [q1] at e'
      cases q2 : L3.toPys ds with
      | none => rw [q2] at e'; cases e'
      | some qs =>
        rw [q2] at e'
        cases e'
        exact .cons (DR.toPy h q1) (DRs.toPys r q2)
end

/-! ### ==, != -/
def eqD : D → D → Option Bool
  | .str x, .str y => some (decide (x = y))
  | .int i, .int j => some (decide (i = j))
  | a, b => match toPy a with
    | some p => (match toPy b with
      | some q => if SeqAt.shaped p = true ∧ SeqAt.shaped q = true then some (PyData.eqv p q) else none
      | none => none)
    | none => none
def gEq (a b : C) : Option C := match eqD a.toD b.toD with
  | some k => some (.dat (.bl k))
  | none => none
def gNe (a b : C) : Option C := match eqD a.toD b.toD with
  | some k => some (.dat (.bl (!k)))
  | none => none
def rEqU (K : PySem.W.Frag) : R2 := fun x y H Q => rEq x y H Q ∨ rEqD K x y H Q
def rNeU (K : PySem.W.Frag) : R2 := fun x y H Q => rNe x y H Q ∨ rNeD K x y H Q
theorem op_eqU {X : Cx} (hu : X.A.units + 64 < cLine) : OpR X (compareOp .Eq) (rEqU X.K) := op_eq.or (op_eqD hu)
theorem op_neU {X : Cx} (hu : X.A.units + 64 < cLine) : OpR X (compareOp .NotEq) (rNeU X.K) := op_ne.or (op_neD hu)
theorem eqD_inv {T : Tx} {H : Hp} {x y : V} {a b : D} {k : Bool} (h1 : DR T H x a) (h2 : DR T H y b) (e : eqD a b = some k) :
    (scal x y = true ∧ decide (x = y) = k) ∨ ∃ p q, Dp T.K H x p ∧ Dp T.K H y q ∧ SeqAt.shaped p = true ∧ SeqAt.shaped q = true ∧ PyData.eqv p q = k := by
  unfold eqD at e
  split at e
  · cases e
    cases h1
    cases h2
    refine .inl ⟨rfl, ?_⟩
    rw [Bool.eq_iff_iff]; simp
  · cases e
    cases h1
    cases h2
    refine .inl ⟨rfl, ?_⟩
    rw [Bool.eq_iff_iff]; simp
  · split at e
    · rename_i p ep
      split at e
      · rename_i q eq
        split at e
        · rename_i hs
          cases e
          exact .inr ⟨p, q, h1.toPy ep, h2.toPy eq, hs.1, hs.2, rfl⟩
        · cases e
      · cases e
    · cases e
theorem lift_eq {T : Tx} : Lift2 T (rEqU T.K) gEq := by
  intro F H x y c1 c2 f1 f2 c Q sb h1 h2 e q
  unfold gEq at e
  split at e
  · rename_i k ek
    cases e
    have fin : Q (.bl k) H := Fin2.dat sb q (.bl k)
    rcases eqD_inv (h1.look sb) (h2.look sb) ek with ⟨a, b⟩ | ⟨p, r, a1, a2, a3, a4, a5⟩
    · exact .inl ⟨a, by rw [b]; exact fin⟩
    · exact .inr ⟨p, r, a1, a2, a3, a4, by rw [a5]; exact fin⟩
  · cases e
theorem lift_ne {T : Tx} : Lift2 T (rNeU T.K) gNe := by
  intro F H x y c1 c2 f1 f2 c Q sb h1 h2 e q
  unfold gNe at e
  split at e
  · rename_i k ek
    cases e
    have fin : Q (.bl (!k)) H := Fin2.dat sb q (.bl (!k))
    rcases eqD_inv (h1.look sb) (h2.look sb) ek with ⟨a, b⟩ | ⟨p, r, a1, a2, a3, a4, a5⟩
    · exact .inl ⟨a, by rw [b]; exact fin⟩
    · exact .inr ⟨p, r, a1, a2, a3, a4, by rw [a5]; exact fin⟩
  · cases e

/-! ### is None -/
def isNon : D → Bool
  | .non => true
  | _ => false
def gIsN (a : C) : Option C := some (.dat (.bl (isNon a.toD)))
def gNotN (a : C) : Option C := some (.dat (.bl (!isNon a.toD)))
theorem isNon_eq {T : Tx} {H : Hp} {x : V} {a : D} (h : DR T H x a) : decide (x = .non) = isNon a := by
  cases h <;> simp [isNon]

/-! ### in, not in -/
def scalD : D → Bool
  | .non => true
  | .bl _ => true
  | .int _ => true
  | .str _ => true
  | _ => false
def eqF : D → D → Bool
  | .non, .non => true
  | .bl a, .bl b => a == b
  | .bl a, .int b => (if a then 1 else 0) == b
  | .int a, .bl b => a == (if b then 1 else 0)
  | .int a, .int b => a == b
  | .str a, .str b => a == b
  | _, _ => false
theorem flat_of {T : Tx} {H : Hp} {x : V} {a : D} (h : DR T H x a) (e : scalD a = true) : flatV x = true := by
  cases h <;> first | rfl | cases e
theorem eqF_eq {T : Tx} {H : Hp} {x y : V} {a b : D} (h : DR T H x a) (h' : DR T H y b) (e : scalD a = true) (e' : scalD b = true) : eqV x y = eqF a b := by
  cases h <;> first | (simp [scalD] at e; done) | (cases h' <;> first | (simp [scalD] at e'; done) | rfl)
theorem flats_of {T : Tx} {H : Hp} : ∀ {vs : List V} {ds : List D}, DRs T H vs ds → ds.all scalD = true → vs.all flatV = true
  | _, _, .nil, _ => rfl
  | _, _, .cons h r, e => by
    simp only [List.all_cons, Bool.and_eq_true] at e ⊢
    exact ⟨flat_of h e.1, flats_of r e.2⟩
theorem anyF_eq {T : Tx} {H : Hp} {x : V} {a : D} (h : DR T H x a) (e : scalD a = true) : ∀ {vs : List V} {ds : List D}, DRs T H vs ds → ds.all scalD = true → inV x vs = ds.any fun z => eqF z a
  | _, _, .nil, _ => rfl
  | _, _, .cons hy r, ea => by
    simp only [List.all_cons, Bool.and_eq_true] at ea
    have ih := anyF_eq h e r ea.2
    unfold inV at ih ⊢
    rw [List.any_cons, List.any_cons, ih, eqF_eq hy h ea.1 e]
/-- x in a row of data -/
def inD (a : D) (ds : List D) : Option Bool :=
  if scalD a = true ∧ ds.all scalD = true then some (ds.any fun z => eqF z a)
  else none
/-- x in a list of nested data -/
def inDeep (a : D) (ds : List D) : Option Bool := match toPy a with
  | some p => (match toPys ds with
    | some ps => if SeqAt.shaped p = true ∧ SeqAt.shaped (.list ps) = true then some (ps.any fun z => PyData.eqv z p) else none
    | none => none)
  | none => none
def gIn (a b : C) : Option C := match b with
  | .dat (.str y) => (match a with
    | .dat (.str x) => some (.dat (.bl (!(Builtin.Str.occurrences y x 0 y.length 1).isEmpty)))
    | _ => none)
  | _ => match seqOf b with
    | some ds => (match inD a.toD ds with
      | some k => some (.dat (.bl k))
      | none => (match lstOf b with
        | some es => (match inDeep a.toD es with
          | some k => some (.dat (.bl k))
          | none => none)
        | none => none))
    | none => none
def gNotIn (a b : C) : Option C := match gIn a b with
  | some (.dat (.bl k)) => some (.dat (.bl (!k)))
  | _ => none
def rInU (K : PySem.W.Frag) : R2 := fun x y H Q => (∃ i j, x = .str i ∧ y = .str j ∧ Q (.bl (!(Builtin.Str.occurrences j i 0 j.length 1).isEmpty)) H) ∨ (rIn K false x y H Q ∨ rInD K x y H Q)
def rNotInU (K : PySem.W.Frag) : R2 := fun x y H Q => (∃ i j, x = .str i ∧ y = .str j ∧ Q (.bl (!(!(Builtin.Str.occurrences j i 0 j.length 1).isEmpty))) H) ∨ (rIn K true x y H Q ∨ rNotInD K x y H Q)
theorem op_inU {X : Cx} (hu : X.A.units + 65 < cLine) : OpR X (compareOp .In) (rInU X.K) := op_in_str.or (op_in_seq.or (op_inD hu))
theorem op_notInU {X : Cx} (hu : X.A.units + 65 < cLine) : OpR X (compareOp .NotIn) (rNotInU X.K) := op_notin_str.or (op_notIn_seq.or (op_notInD hu))
theorem toPys_list {T : Tx} {H : Hp} {a : Addr} {vs : List V} {ds : List D} {ps : List PyData} (h : H a = some (.lst vs)) (r : DRs T H vs ds) (e : toPys ds = some ps) : Dp T.K H (.ref a) (.list ps) := .lst (SqL.of h) (r.toPys e)
theorem gIn_inv {T : Tx} {F H : Hp} {x y : V} {c1 c2 c : C} {f1 f2 : List Addr} (sb : Ext F H) (h1 : CR T F H x c1 f1) (h2 : CR T F H y c2 f2) (e : gIn c1 c2 = some c) : ∃ k, c = .dat (.bl k) ∧
    ((∃ i j, x = .str i ∧ y = .str j ∧ k = !(Builtin.Str.occurrences j i 0 j.length 1).isEmpty) ∨
     (∃ p vs, y = .ref p ∧ (SqL T.K H p vs ∨ SqT T.K H p vs) ∧ flatV x = true ∧ vs.all flatV = true ∧ k = inV x vs) ∨
     (∃ p ps, Dp T.K H x p ∧ Dp T.K H y (.list ps) ∧ SeqAt.shaped p = true ∧ SeqAt.shaped (.list ps) = true ∧ k = ps.any fun z => PyData.eqv z p)) := by
  unfold gIn at e
  split at e
  · split at e
    · cases e
      obtain rfl := inv_str h1
      obtain rfl := inv_str h2
      exact ⟨_, rfl, .inl ⟨_, _, rfl, rfl, rfl⟩⟩
    · cases e
  · split at e
    · rename_i ds es
      split at e
      · rename_i k ek
        cases e
        obtain ⟨p, vs, rfl, hp, r⟩ := seqOf_rep sb h2 es
        unfold inD at ek
        split at ek
        · rename_i hs
          cases ek
          have r' := r.ext sb
          exact ⟨_, rfl, .inr (.inl ⟨p, vs, rfl, hp, flat_of (h1.look sb) hs.1, flats_of r' hs.2, (anyF_eq (h1.look sb) hs.1 r' hs.2).symm⟩)⟩
        · cases ek
      · split at e
        · rename_i es2 el
          split at e
          · rename_i k ek
            cases e
            obtain ⟨p, vs, rfl, hp, r⟩ := lstOf_rep sb h2 el
            unfold inDeep at ek
            split at ek
            · rename_i q eq
              split at ek
              · rename_i ps eps
                split at ek
                · rename_i hs
                  cases ek
                  exact ⟨_, rfl, .inr (.inr ⟨q, ps, (h1.look sb).toPy eq, toPys_list hp (r.ext sb) eps, hs.1, hs.2, rfl⟩)⟩
                · cases ek
              · cases ek
            · cases ek
          · cases e
        · cases e
    · cases e
theorem lift_in {T : Tx} : Lift2 T (rInU T.K) gIn := by
  intro F H x y c1 c2 f1 f2 c Q sb h1 h2 e q
  obtain ⟨k, rfl, h⟩ := gIn_inv sb h1 h2 e
  have fin : Q (.bl k) H := Fin2.dat sb q (.bl k)
  rcases h with ⟨i, j, e1, e2, e3⟩ | ⟨p, vs, e1, e2, e3, e4, e5⟩ | ⟨p, ps, e1, e2, e3, e4, e5⟩
  · exact .inl ⟨i, j, e1, e2, e3 ▸ fin⟩
  · exact .inr (.inl ⟨p, vs, e1, e2, e3, e4, by rw [if_neg (by decide), ← e5]; exact fin⟩)
  · exact .inr (.inr ⟨p, ps, e1, e2, e3, e4, e5 ▸ fin⟩)
theorem lift_notIn {T : Tx} : Lift2 T (rNotInU T.K) gNotIn := by
  intro F H x y c1 c2 f1 f2 c Q sb h1 h2 e q
  unfold gNotIn at e
  split at e
  · rename_i k0 e0
    cases e
    obtain ⟨k, hk, h⟩ := gIn_inv sb h1 h2 e0
    cases hk
    have fin : Q (.bl (!k0)) H := Fin2.dat sb q (.bl (!k0))
    rcases h with ⟨i, j, e1, e2, e3⟩ | ⟨p, vs, e1, e2, e3, e4, e5⟩ | ⟨p, ps, e1, e2, e3, e4, e5⟩
    · exact .inl ⟨i, j, e1, e2, e3 ▸ fin⟩
    · exact .inr (.inl ⟨p, vs, e1, e2, e3, e4, by rw [if_pos rfl, ← e5]; exact fin⟩)
    · exact .inr (.inr ⟨p, ps, e1, e2, e3, e4, e5 ▸ fin⟩)
  · cases e

/-! ### built-in calls -/
section
variable {T : Tx}
theorem crs1 {F H : Hp} {vs : List V} {c : C} {fp : List Addr} (h : CRs T F H vs [c] fp) : ∃ v f, vs = [v] ∧ CR T F H v c f := by
  cases h with
  | cons h r => cases r; exact ⟨_, _, rfl, h⟩
theorem crs2 {F H : Hp} {vs : List V} {c d : C} {fp : List Addr} (h : CRs T F H vs [c, d] fp) : ∃ v w f g, vs = [v, w] ∧ CR T F H v c f ∧ CR T F H w d g := by
  cases h with
  | cons h r => cases r with
    | cons h' r => cases r; exact ⟨_, _, _, _, rfl, h, h'⟩
def gLen : List C → Option C
  | [.dat (.str x)] => if x.length ≤ sizeLine then some (.dat (.int x.length)) else none
  | [c] => match seqOf c with
    | some ds => some (.dat (.int ds.length))
    | none => (match c with
      | .own cs => some (.dat (.int cs.length))
      | _ => none)
  | _ => none
theorem lift_len : LiftC T (fun xs H Q => ∃ x n, xs = [x] ∧ LenV T.K x H n ∧ Q (.int n) H) gLen := by
  intro F H vs cs fp c Q sb h e q
  unfold gLen at e
  split at e
  · split at e
    · rename_i hz
      cases e
      obtain ⟨v, f, rfl, hv⟩ := crs1 h
      obtain rfl := inv_str hv
      exact ⟨_, _, rfl, ⟨hz, rfl⟩, Fin2.dat sb q (.int _)⟩
    · cases e
  · obtain ⟨v, f, rfl, hv⟩ := crs1 h
    split at e
    · rename_i ds es
      cases e
      obtain ⟨a, vs, rfl, ha, r⟩ := seqOf_rep sb hv es
      have fin := Fin2.dat (v := .int (ds.length : Int)) sb q (.int _)
      rcases ha with ha | ha
      · exact ⟨_, ds.length, rfl, .inl ⟨vs, ha, r.length.symm⟩, fin⟩
      · exact ⟨_, ds.length, rfl, .inr ⟨vs, ha, r.length.symm⟩, fin⟩
    · split at e
      · rename_i cs' _ _
        cases e
        cases hv with
        | own ha r =>
          exact ⟨_, cs'.length, rfl, .inl ⟨_, SqL.of ha, r.length.symm⟩, Fin2.dat sb q (.int _)⟩
      · cases e
  · cases e
def gAbs : List C → Option C
  | [.dat (.int i)] => some (.dat (.int (if i < 0 then -i else i)))
  | _ => none
theorem lift_abs : LiftC T (fun xs H Q => ∃ i, xs = [.int i] ∧ Q (.int (if i < 0 then -i else i)) H) gAbs := by
  intro F H vs cs fp c Q sb h e q
  unfold gAbs at e
  split at e
  · cases e
    obtain ⟨v, f, rfl, hv⟩ := crs1 h
    obtain rfl := inv_int hv
    exact ⟨_, rfl, Fin2.dat sb q (.int _)⟩
  · cases e
def gMax2 : List C → Option C
  | [.dat (.int i), .dat (.int j)] => some (.dat (.int (if j > i then j else i)))
  | _ => none
theorem lift_max2 : LiftC T (fun xs H Q => ∃ i j, xs = [.int i, .int j] ∧ Q (.int (if j > i then j else i)) H) gMax2 := by
  intro F H vs cs fp c Q sb h e q
  unfold gMax2 at e
  split at e
  · cases e
    obtain ⟨v, w, f, g, rfl, hv, hw⟩ := crs2 h
    obtain rfl := inv_int hv
    obtain rfl := inv_int hw
    exact ⟨_, _, rfl, Fin2.dat sb q (.int _)⟩
  · cases e
def gMin2 : List C → Option C
  | [.dat (.int i), .dat (.int j)] => some (.dat (.int (if j < i then j else i)))
  | _ => none
theorem lift_min2 : LiftC T (fun xs H Q => ∃ i j, xs = [.int i, .int j] ∧ Q (.int (if j < i then j else i)) H) gMin2 := by
  intro F H vs cs fp c Q sb h e q
  unfold gMin2 at e
  split at e
  · cases e
    obtain ⟨v, w, f, g, rfl, hv, hw⟩ := crs2 h
    obtain rfl := inv_int hv
    obtain rfl := inv_int hw
    exact ⟨_, _, rfl, Fin2.dat sb q (.int _)⟩
  · cases e
/-- int of a number or a truth -/
def gInt1 : List C → Option C
  | [.dat (.int i)] => some (.dat (.int i))
  | [.dat (.bl b)] => some (.dat (.int (if b then 1 else 0)))
  | _ => none
theorem lift_int1 : LiftC T (fun xs H Q => (∃ i, xs = [.int i] ∧ Q (.int i) H) ∨ ∃ k, xs = [.bl k] ∧ Q (.int (if k then 1 else 0)) H) gInt1 := by
  intro F H vs cs fp c Q sb h e q
  unfold gInt1 at e
  split at e
  · cases e
    obtain ⟨v, f, rfl, hv⟩ := crs1 h
    obtain rfl := inv_int hv
    exact .inl ⟨_, rfl, Fin2.dat sb q (.int _)⟩
  · cases e
    obtain ⟨v, f, rfl, hv⟩ := crs1 h
    obtain rfl := inv_bl hv
    exact .inr ⟨_, rfl, Fin2.dat sb q (.int _)⟩
  · cases e
def gStrI : List C → Option C
  | [.dat (.int i)] => if i.natAbs.log2 < 1920 then some (.dat (.str (toString i))) else none
  | _ => none
theorem lift_strI : LiftC T (fun xs H Q => ∃ i, xs = [.int i] ∧ i.natAbs.log2 < 1920 ∧ Q (.str (toString i)) H) gStrI := by
  intro F H vs cs fp c Q sb h e q
  unfold gStrI at e
  split at e
  · split at e
    · rename_i hz
      cases e
      obtain ⟨v, f, rfl, hv⟩ := crs1 h
      obtain rfl := inv_int hv
      exact ⟨_, rfl, hz, Fin2.dat sb q (.str _)⟩
    · cases e
  · cases e
def gList : List C → Option C
  | [c] => match seqOf c with
    | some ds => some (.own (dats ds))
    | none => none
  | _ => none
theorem lift_list : LiftC T (fun xs H Q => ∃ p ys, xs = [.ref p] ∧ (SqL T.K H p ys ∨ SqT T.K H p ys) ∧ ∀ l, H l = none → Q (.ref l) (upd H l (.lst ys))) gList := by
  intro F H vs cs fp c Q sb h e q
  unfold gList at e
  split at e
  · split at e
    · rename_i ds es
      cases e
      obtain ⟨v, f, rfl, hv⟩ := crs1 h
      obtain ⟨a, vs, rfl, ha, r⟩ := seqOf_rep sb hv es
      exact ⟨_, _, rfl, ha, fun p hp => Fin2.lst sb q r hp⟩
    · cases e
  · cases e
def gTuple : List C → Option C
  | [.dat (.tup ds)] => some (.dat (.tup ds))
  | [c] => match lstOf c with
    | some ds => some (.dat (.tup ds))
    | none => none
  | _ => none
theorem lift_tuple : LiftC T (fun xs H Q => ∃ p ys, xs = [.ref p] ∧ ((SqL T.K H p ys ∧ ∀ l, H l = none → Q (.ref l) (upd H l (.tup ys))) ∨ (SqT T.K H p ys ∧ Q (.ref p) H))) gTuple := by
  intro F H vs cs fp c Q sb h e q
  unfold gTuple at e
  split at e
  · cases e
    obtain ⟨v, f, rfl, hv⟩ := crs1 h
    obtain ⟨a, vs, rfl, ha, r⟩ := inv_tup hv
    exact ⟨_, _, rfl, .inr ⟨ext_st sb ha, Fin2.dat sb q (.tup ha r)⟩⟩
  · split at e
    · rename_i ds es
      cases e
      obtain ⟨v, f, rfl, hv⟩ := crs1 h
      obtain ⟨a, vs, rfl, ha, r⟩ := lstOf_rep sb hv es
      exact ⟨_, _, rfl, .inl ⟨SqL.of ha, fun p hp => Fin2.tup sb q r hp⟩⟩
    · cases e
  · cases e
def bools : List D → Option (List Bool)
  | [] => some []
  | .bl b :: ds => (match bools ds with
    | some bs => some (b :: bs)
    | none => none)
  | _ => none
theorem bools_rep {F : Hp} : ∀ {vs : List V} {ds : List D} {bs : List Bool}, DRs T F vs ds → bools ds = some bs → vs = bs.map V.bl
  | _, _, bs, .nil, e => by cases e; rfl
  | _, _, bs, .cons (d := d) (ds := ds) h r, e => by
    cases d with
    | bl b =>
      have e' : (match bools ds with
        | some bs => some (b :: bs)
        | none => none) = some bs := e
      cases q : bools ds with
      | none => rw [q] at e'; cases e'
      | some bs' =>
        rw [q] at e'
        cases e'
        cases h
        rw [bools_rep r q]
        rfl
    | _ => cases e
def gAll : List C → Option C
  | [c] => match lstOf c with
    | some ds => (match bools ds with
      | some bs => some (.dat (.bl (bs.all id)))
      | none => none)
    | none => none
  | _ => none
def gAny : List C → Option C
  | [c] => match lstOf c with
    | some ds => (match bools ds with
      | some bs => some (.dat (.bl (bs.any id)))
      | none => none)
    | none => none
  | _ => none
theorem lift_all : LiftC T (rAll T.K) gAll := by
  intro F H vs cs fp c Q sb h e q
  unfold gAll at e
  split at e
  · split at e
    · rename_i ds es
      split at e
      · rename_i bs eb
        cases e
        obtain ⟨v, f, rfl, hv⟩ := crs1 h
        obtain ⟨a, vs, rfl, ha, r⟩ := lstOf_rep sb hv es
        exact ⟨a, bs, rfl, by rw [← bools_rep r eb]; exact SqL.of ha, Fin2.dat sb q (.bl _)⟩
      · cases e
    · cases e
  · cases e
theorem lift_any : LiftC T (rAny T.K) gAny := by
  intro F H vs cs fp c Q sb h e q
  unfold gAny at e
  split at e
  · split at e
    · rename_i ds es
      split at e
      · rename_i bs eb
        cases e
        obtain ⟨v, f, rfl, hv⟩ := crs1 h
        obtain ⟨a, vs, rfl, ha, r⟩ := lstOf_rep sb hv es
        exact ⟨a, bs, rfl, by rw [← bools_rep r eb]; exact SqL.of ha, Fin2.dat sb q (.bl _)⟩
      · cases e
    · cases e
  · cases e
def nums : List D → Option (List Int)
  | [] => some []
  | .int b :: ds => (match nums ds with
    | some bs => some (b :: bs)
    | none => none)
  | _ => none
theorem nums_rep {F : Hp} : ∀ {vs : List V} {ds : List D} {bs : List Int}, DRs T F vs ds → nums ds = some bs → vs = bs.map V.int
  | _, _, bs, .nil, e => by cases e; rfl
  | _, _, bs, .cons (d := d) (ds := ds) h r, e => by
    cases d with
    | int b =>
      have e' : (match nums ds with
        | some bs => some (b :: bs)
        | none => none) = some bs := e
      cases q : nums ds with
      | none => rw [q] at e'; cases e'
      | some bs' =>
        rw [q] at e'
        cases e'
        cases h
        rw [nums_rep r q]
        rfl
    | _ => cases e
def txts : List D → Option (List Str)
  | [] => some []
  | .str b :: ds => (match txts ds with
    | some bs => some (b :: bs)
    | none => none)
  | _ => none
theorem txts_rep {F : Hp} : ∀ {vs : List V} {ds : List D} {bs : List Str}, DRs T F vs ds → txts ds = some bs → vs = bs.map V.str
  | _, _, bs, .nil, e => by cases e; rfl
  | _, _, bs, .cons (d := d) (ds := ds) h r, e => by
    cases d with
    | str b =>
      have e' : (match txts ds with
        | some bs => some (b :: bs)
        | none => none) = some bs := e
      cases q : txts ds with
      | none => rw [q] at e'; cases e'
      | some bs' =>
        rw [q] at e'
        cases e'
        cases h
        rw [txts_rep r q]
        rfl
    | _ => cases e
theorem DRs.strs {F : Hp} : ∀ ys : List Str, DRs T F (ys.map V.str) (ys.map D.str)
  | [] => .nil
  | y :: ys => .cons (.str y) (DRs.strs ys)
end

/-! ### methods of texts -/
section
variable {T : Tx}
def gSplit : C → List C → Option C
  | .dat (.str a), [.dat (.str b)] => if (b.length == 0) = false ∧ a.length + 2 ≤ sizeLine then some (.own (dats ((Txt.split a b).map D.str))) else none
  | _, _ => none
theorem lift_split : LiftM T (fun x xs H Q => ∃ a b, x = .str a ∧ xs = [.str b] ∧ (b.length == 0) = false ∧ a.length + 2 ≤ sizeLine ∧ rNewStrs (Txt.split a b) H Q) gSplit := by
  intro F H x c0 f0 vs cs fp c Q sb h0 h e q
  unfold gSplit at e
  split at e
  · split at e
    · rename_i hz
      cases e
      obtain rfl := inv_str h0
      obtain ⟨v, f, rfl, hv⟩ := crs1 h
      obtain rfl := inv_str hv
      exact ⟨_, _, rfl, rfl, hz.1, hz.2, fun p hp => Fin2.lst sb q (DRs.strs _) hp⟩
    · cases e
  · cases e
def gJoin : C → List C → Option C
  | .dat (.str a), [c] => match seqOf c with
    | some ds => (match txts ds with
      | some ys => if (ys.map (·.length)).sum + ys.length * a.length ≤ 16777216 then some (.dat (.str (Txt.join a ys))) else none
      | none => none)
    | none => none
  | _, _ => none
theorem lift_join : LiftM T (fun x xs H Q => ∃ a p, ∃ ys : List Str, x = .str a ∧ xs = [.ref p] ∧ (SqL T.K H p (ys.map V.str) ∨ SqT T.K H p (ys.map V.str)) ∧
    (ys.map (·.length)).sum + ys.length * a.length ≤ 16777216 ∧ Q (.str (Txt.join a ys)) H) gJoin := by
  intro F H x c0 f0 vs cs fp c Q sb h0 h e q
  unfold gJoin at e
  split at e
  · split at e
    · rename_i ds es
      split at e
      · rename_i ys ey
        split at e
        · rename_i hz
          cases e
          obtain rfl := inv_str h0
          obtain ⟨v, f, rfl, hv⟩ := crs1 h
          obtain ⟨a, vs, rfl, ha, r⟩ := seqOf_rep sb hv es
          rw [txts_rep r ey] at ha
          exact ⟨_, _, ys, rfl, rfl, ha, hz, Fin2.dat sb q (.str _)⟩
        · cases e
      · cases e
    · cases e
  · cases e
end
end L3
/-! L3f: tests, subscripts, slices, methods; the judgements of syntax. -/
namespace L3
open PySem L2

/-! ### tests -/
def sTruth (fa : S R) : S Bool := S.bind fa fun r => fun ρ => match res r ρ with
  | some (.dat (.bl b)) => some (.ok b ρ)
  | _ => none
def sNotT (f : S Bool) : S Bool := S.bind f fun b => S.ret (!b)
def sAndT (f g : S Bool) : S Bool := S.bind f fun b => if b = true then g else S.ret false
def sOrT (f g : S Bool) : S Bool := S.bind f fun b => if b = true then S.ret true else g
def sIf (f : S Bool) (fa fb : S R) : S R := S.bind f fun b => if b = true then fa else fb
def sBool (f : S Bool) : S R := S.bind f fun b => S.ret (.val (.dat (.bl b)))
section
variable {T : Tx} {W : WX} {ta tb : TE} {fa fb : S R} {t u : TT} {f g : S Bool}
theorem EvT.val (ha : Ev T W ta fa) : EvT T W (tTest ta) (sTruth fa) := by
  intro σ F H ρ as o Q s e x q
  refine ha.bind s e x fun r ρ1 v F1 H1 ts as1 e1 s1 rs x1 => ?_
  have inv : ∃ b, res r ρ1 = some (.dat (.bl b)) ∧ o = .ok b ρ1 := by
    cases h : res r ρ1 with
    | none => simp [h] at e1
    | some c =>
      rw [h] at e1
      split at e1
      · rename_i b hb
        cases hb
        cases e1
        exact ⟨_, rfl, rfl⟩
      · cases e1
  obtain ⟨b, hb, rfl⟩ := inv
  obtain ⟨fp, k, _⟩ := rs.vw.res rs.sl hb
  obtain rfl := inv_bl k
  exact ⟨b, rfl, q _ _ rfl F1 H1 as1 (s1.mono (fun a m => m) fun a m => .inl (List.mem_append_right _ m)) rs.sr⟩
theorem EvT.valB (ha : Ev T W ta fa) : EvT T W (tB ta) (sTruth fa) := EvT.val ha
theorem EvT.not (ht : EvT T W t f) : EvT T W (tNot t) (sNotT f) := by
  intro σ F H ρ as o Q s e x q
  refine ht.bind s e x fun b ρ1 F1 H1 as1 e1 s1 r1 x1 => ?_
  cases e1
  exact q _ _ rfl F1 H1 as1 s1 r1
theorem EvT.and (ht : EvT T W t f) (hu : EvT T W u g) : EvT T W (tAnd t u) (sAndT f g) := by
  intro σ F H ρ as o Q s e x q
  refine ht.bind (Q := fun c H1 => if c = true then u σ H1 Q else Q false H1) s e x fun b ρ1 F1 H1 as1 e1 s1 r1 x1 => ?_
  cases b with
  | true =>
    rw [if_pos rfl] at e1 ⊢
    exact hu σ F1 H1 ρ1 as1 o Q r1 e1 x1 fun b' ρ' ho F' H' as' st sr => q b' ρ' ho F' H' as' (s1.trans st) sr
  | false =>
    rw [if_neg Bool.false_ne_true] at e1 ⊢
    cases e1
    exact q _ _ rfl F1 H1 as1 s1 r1
theorem EvT.or (ht : EvT T W t f) (hu : EvT T W u g) : EvT T W (tOr t u) (sOrT f g) := by
  intro σ F H ρ as o Q s e x q
  refine ht.bind (Q := fun c H1 => if c = true then Q true H1 else u σ H1 Q) s e x fun b ρ1 F1 H1 as1 e1 s1 r1 x1 => ?_
  cases b with
  | false =>
    rw [if_neg Bool.false_ne_true] at e1 ⊢
    exact hu σ F1 H1 ρ1 as1 o Q r1 e1 x1 fun b' ρ' ho F' H' as' st sr => q b' ρ' ho F' H' as' (s1.trans st) sr
  | true =>
    rw [if_pos rfl] at e1 ⊢
    cases e1
    exact q _ _ rfl F1 H1 as1 s1 r1
theorem Ev.ifE (ht : EvT T W t f) (ha : Ev T W ta fa) (hb : Ev T W tb fb) : Ev T W (tIf t ta tb) (sIf f fa fb) := by
  intro σ F H ρ as o Q s e x q
  refine ht.bind (Q := fun c H1 => if c = true then ta σ H1 Q else tb σ H1 Q) s e x fun b ρ1 F1 H1 as1 e1 s1 r1 x1 => ?_
  cases b with
  | true =>
    rw [if_pos rfl] at e1 ⊢
    exact ha σ F1 H1 ρ1 as1 o Q r1 e1 x1 fun r ρ' ho v F' H' ts as' st rs => q r ρ' ho v F' H' ts as' (s1.trans st) rs
  | false =>
    rw [if_neg Bool.false_ne_true] at e1 ⊢
    exact hb σ F1 H1 ρ1 as1 o Q r1 e1 x1 fun r ρ' ho v F' H' ts as' st rs => q r ρ' ho v F' H' ts as' (s1.trans st) rs
theorem SR.rsB {T : Tx} {σ : L2.St} {F H : Hp} {ρ : Ro} {as : List Addr} (s : SR T σ F H ρ as) (b : Bool) : RS T σ F H ρ as (.bl b) (.val (.dat (.bl b))) [] := ⟨s.sl, .dat (.bl b), s.nd, s.fr, s.sb⟩
/-- and, or, not as values of truths -/
def sAndV (fa fb : S R) : S R := S.bind (sTruth fa) fun b => if b = true then fb else S.ret (.val (.dat (.bl false)))
def sOrV (fa fb : S R) : S R := S.bind (sTruth fa) fun b => if b = true then S.ret (.val (.dat (.bl true))) else fb
def sNotV (fa : S R) : S R := S.bind (sTruth fa) fun b => S.ret (.val (.dat (.bl (!b))))
theorem Ev.andV (ha : Ev T W ta fa) (hb : Ev T W tb fb) : Ev T W (tAndV ta tb) (sAndV fa fb) := by
  intro σ F H ρ as o Q s e x q
  refine (EvT.val ha).bind (Q := fun c H1 => if c = true then tb σ H1 Q else Q (.bl false) H1) s e x fun b ρ1 F1 H1 as1 e1 s1 r1 x1 => ?_
  cases b with
  | true =>
    rw [if_pos rfl] at e1 ⊢
    exact hb σ F1 H1 ρ1 as1 o Q r1 e1 x1 fun r ρ' ho v F' H' ts as' st rs => q r ρ' ho v F' H' ts as' (s1.trans st) rs
  | false =>
    rw [if_neg Bool.false_ne_true] at e1 ⊢
    cases e1
    exact q _ _ rfl _ F1 H1 [] as1 s1 (r1.rsB false)
theorem Ev.orV (ha : Ev T W ta fa) (hb : Ev T W tb fb) : Ev T W (tOrV ta tb) (sOrV fa fb) := by
  intro σ F H ρ as o Q s e x q
  refine (EvT.val ha).bind (Q := fun c H1 => if c = true then Q (.bl true) H1 else tb σ H1 Q) s e x fun b ρ1 F1 H1 as1 e1 s1 r1 x1 => ?_
  cases b with
  | false =>
    rw [if_neg Bool.false_ne_true] at e1 ⊢
    exact hb σ F1 H1 ρ1 as1 o Q r1 e1 x1 fun r ρ' ho v F' H' ts as' st rs => q r ρ' ho v F' H' ts as' (s1.trans st) rs
  | true =>
    rw [if_pos rfl] at e1 ⊢
    cases e1
    exact q _ _ rfl _ F1 H1 [] as1 s1 (r1.rsB true)
theorem Ev.notV (ha : Ev T W ta fa) : Ev T W (tNotV ta) (sNotV fa) := by
  intro σ F H ρ as o Q s e x q
  refine (EvT.val ha).bind (Q := fun c H1 => Q (.bl (!c)) H1) s e x fun b ρ1 F1 H1 as1 e1 s1 r1 x1 => ?_
  cases e1
  exact q _ _ rfl _ F1 H1 [] as1 s1 (r1.rsB (!b))
/-- a op b op' c -/
def sChain (g g' : C → C → Option C) (fa fb fc : S R) : S R := S.bind fa fun r1 => S.bind fb fun r2 => fun ρ => match res r1 ρ with
  | some c1 => (match res r2 ρ with
    | some c2 => (match g c1 c2 with
      | some (.dat (.bl true)) => S.bind fc (fun r3 => fun ρ' => match res r2 ρ' with
        | some c2' => (match res r3 ρ' with
          | some c3 => (match g' c2' c3 with
            | some c => some (.ok (.val c) ρ')
            | none => none)
          | none => none)
        | none => none) ρ
      | some (.dat (.bl false)) => some (.ok (.val (.dat (.bl false))) ρ)
      | _ => none)
    | none => none)
  | none => none
end

/-! ### subscripts -/
def gIx : C → C → Option C
  | .dat (.str z), .dat (.int i) => if z.length ≤ sizeLine then (match atI z.cps.toList i with
    | some c => some (.dat (.str ⟨#[c]⟩))
    | none => none) else none
  | a, .dat (.int i) => match seqOf a with
    | some ds => (match atI ds i with
      | some d => some (.dat d)
      | none => none)
    | none => none
  | _, _ => none
theorem DRs.atI {T : Tx} {F : Hp} {vs : List V} {ds : List D} {i : Int} {d : D} (r : DRs T F vs ds) (e : L2.atI ds i = some d) : ∃ v, L2.atI vs i = some v ∧ DR T F v d := by
  unfold L2.atI at e ⊢
  rw [r.length]
  cases q : ixN ds.length i with
  | none => rw [q] at e; cases e
  | some j =>
    rw [q] at e
    exact r.get (i := j) e
theorem lift_ix {T : Tx} : Lift2 T (rIx T.K) gIx := by
  intro F H x y c1 c2 f1 f2 c Q sb h1 h2 e q
  unfold gIx at e
  split at e
  · split at e
    · rename_i hz
      split at e
      · rename_i c0 ec
        cases e
        obtain rfl := inv_str h1
        obtain rfl := inv_int h2
        exact .inr (.inr ⟨_, _, _, rfl, rfl, hz, ec, Fin2.dat sb q (.str _)⟩)
      · cases e
    · cases e
  · split at e
    · rename_i ds es
      split at e
      · rename_i d ed
        cases e
        obtain ⟨a, vs, rfl, ha, r⟩ := seqOf_rep sb h1 es
        obtain rfl := inv_int h2
        obtain ⟨v, ev, dr⟩ := r.atI ed
        have fin : Q v H := Fin2.dat sb q dr
        rcases ha with ha | ha
        · exact .inl ⟨a, vs, _, v, rfl, rfl, ha, ev, fin⟩
        · exact .inr (.inl ⟨a, vs, _, v, rfl, rfl, ha, ev, fin⟩)
      · cases e
    · cases e
  · cases e
/-- a[b]; an own list on the way gives its item as one's own -/
def sIx (fa fb : S R) : S R := S.bind fa fun r1 => S.bind fb fun r2 => fun ρ => match r1 with
  | .val (.own cs) => (match res r2 ρ with
    | some (.dat (.int i)) => (match L2.atI cs i with
      | some c => some (.ok (.val c) ρ)
      | none => none)
    | _ => none)
  | _ => (match res r1 ρ with
    | some c1 => (match res r2 ρ with
      | some c2 => (match gIx c1 c2 with
        | some c => some (.ok (.val c) ρ)
        | none => none)
      | none => none)
    | none => none)
theorem CRs.at {T : Tx} {F H : Hp} : ∀ {vs : List V} {cs : List C} {fp : List Addr} {j : Nat} {c : C}, CRs T F H vs cs fp → cs[j]? = some c → ∃ v f, vs[j]? = some v ∧ CR T F H v c f ∧ f.Sublist fp
  | _, _, _, j, c, .nil, e => by simp at e
  | _, _, _, 0, c, .cons (as := as) (bs := bs) h r, e => by
    simp at e; subst e
    exact ⟨_, as, rfl, h, List.sublist_append_left _ _⟩
  | _, _, _, j + 1, c, .cons h r, e => by
    obtain ⟨v, f, e1, h1, s1⟩ := CRs.at (j := j) (c := c) r (by simpa using e)
    exact ⟨v, f, by simpa using e1, h1, s1.trans (List.sublist_append_right _ _)⟩
section
variable {T : Tx} {W : WX} {ta tb : TE} {fa fb : S R}
theorem Ev.ix (ha : Ev T W ta fa) (hb : Ev T W tb fb) : Ev T W (tOp (rIx T.K) ta tb) (sIx fa fb) := by
  intro σ F H ρ as o Q s e x q
  refine Ev.bind2 (Q := fun x y H2 => rIx T.K x y H2 Q) ha hb s e x fun r1 r2 ρ2 v1 v2 F2 H2 t1 t2 as2 e2 s2 rs x2 => ?_
  have plain : ∀ {c1 c2 c : C}, res r1 ρ2 = some c1 → res r2 ρ2 = some c2 → gIx c1 c2 = some c → o = .ok (.val c) ρ2 → rIx T.K v1 v2 H2 Q := fun {c1 c2 c} h1 h2 h3 ho => by
    subst ho
    obtain ⟨f1, k1, _⟩ := rs.vw.res rs.sl h1
    obtain ⟨f2, k2, _⟩ := rs.vw'.res rs.sl h2
    refine lift_ix F2 H2 v1 v2 c1 c2 f1 f2 c Q rs.sb k1 k2 h3 fun v F' H' ts n cr nd fr => ?_
    obtain ⟨w, st⟩ := RS.new (ρ := ρ2) (as := as2) rs.sr n cr nd fr
    exact q _ _ rfl v F' H' ts as2 (s2.trans (st.mono (fun a m => by simp [m]) fun a m => .inl m)) w
  have other : (match res r1 ρ2 with
    | some c1 => (match res r2 ρ2 with
      | some c2 => (match gIx c1 c2 with
        | some c => some (O.ok (R.val c) ρ2)
        | none => none)
      | none => none)
    | none => none) = some o → rIx T.K v1 v2 H2 Q := fun e3 => by
    obtain ⟨c1, c2, c, h1, h2, h3, ho⟩ := sOp2_inv e3
    exact plain h1 h2 h3 ho
  cases r1 with
  | slot i => exact other e2
  | val c0 =>
    cases c0 with
    | dat d => exact other e2
    | own cs =>
      have e3 : (match res r2 ρ2 with
        | some (.dat (.int i)) => (match L2.atI cs i with
          | some c => some (O.ok (R.val c) ρ2)
          | none => none)
        | _ => none) = some o := e2
      split at e3
      · rename_i i hi
        split at e3
        · rename_i c hc
          cases e3
          obtain ⟨f2, k2, _⟩ := rs.vw'.res rs.sl hi
          obtain rfl := inv_int k2
          have k1 : CR T F2 H2 v1 (.own cs) t1 := rs.vw
          cases k1 with
          | own hl r =>
            rename_i a vs fp
            have hj : ∃ j, ixN cs.length i = some j ∧ cs[j]? = some c := by
              unfold L2.atI at hc
              cases qj : ixN cs.length i with
              | none => rw [qj] at hc; cases hc
              | some j => rw [qj] at hc; exact ⟨j, rfl, hc⟩
            obtain ⟨j, hj1, hj2⟩ := hj
            obtain ⟨v, f, ev, cr, sub⟩ := CRs.at r hj2
            have ev' : L2.atI vs i = some v := by
              unfold L2.atI
              rw [r.length, hj1]; exact ev
            refine .inl ⟨a, vs, i, v, rfl, rfl, SqL.of hl, ev', ?_⟩
            have sub2 : (f ++ as2).Sublist ((a :: fp) ++ (t2 ++ as2)) := (sub.trans (List.sublist_cons_self _ _)).append (List.sublist_append_right _ _)
            refine q _ _ rfl v F2 H2 f as2 (s2.mono (fun a m => m) fun b m => .inl (sub2.subset m)) ⟨rs.sl, cr, rs.nd.sublist sub2, fun b m => rs.fr b (sub2.subset m), rs.sb⟩
        · cases e3
      · cases e3
end

/-! ### slices -/
def EvO (T : Tx) (W : WX) (t : TO) (f : S (Option Int)) : Prop := ∀ (σ : L2.St) (F H : Hp) (ρ : Ro) (as : List Addr) (o : O (Option Int)) (Q : Option Int → Hp → Prop), SR T σ F H ρ as → f ρ = some o → XW T W σ F H as o →
  (∀ b ρ', o = .ok b ρ' → ∀ F' H' as', Stp F H as F' H' as' → SR T σ F' H' ρ' as' → Q b H') → t σ H Q
def sNoPart : S (Option Int) := S.ret none
def sPart (fa : S R) : S (Option Int) := S.bind fa fun r => fun ρ => match res r ρ with
  | some (.dat (.int i)) => some (.ok (some i) ρ)
  | _ => none
def cutL {α : Type} (xs : List α) (lo hi : Option Int) : List α := (xs.drop (HT.sIx xs.length 0 lo)).take (HT.sIx xs.length xs.length hi - HT.sIx xs.length 0 lo)
def gSl (a : C) (lo hi : Option Int) : Option C := match a with
  | .dat (.str z) => if z.length ≤ sizeLine then some (.dat (.str (cutS z lo hi))) else none
  | .dat (.tup ds) => some (.dat (.tup (cutL ds lo hi)))
  | .dat (.rol ds) => some (.own (dats (cutL ds lo hi)))
  | _ => match lstOf a with
    | some ds => some (.own (dats (cutL ds lo hi)))
    | none => none
def sSl (fa : S R) (fl fh : S (Option Int)) : S R := S.bind fa fun r => S.bind fl fun lo => S.bind fh fun hi => fun ρ => match res r ρ with
  | some c => (match gSl c lo hi with
    | some c' => some (.ok (.val c') ρ)
    | none => none)
  | none => none
def rSlU (K : PySem.W.Frag) : V → Option Int → Option Int → Hp → VK → Prop := fun x lo hi H Q => rSlL K x lo hi H Q ∨ (rSlA K x lo hi H Q ∨ rSlS x lo hi H Q)
theorem sl_U {X : Cx} : SlR X (rSlU X.K) := sl_list.or (sl_tupA.or sl_str)
theorem DRs.cut {T : Tx} {F : Hp} {vs : List V} {ds : List D} (r : DRs T F vs ds) (lo hi : Option Int) : DRs T F (cutV vs lo hi) (cutL ds lo hi) := by
  unfold cutV cutL
  rw [r.length]
  exact (r.drop _).take _
theorem lift_sl {T : Tx} {F H : Hp} {x : V} {c1 c : C} {f1 : List Addr} {Q : VK} {lo hi : Option Int} (sb : Ext F H) (h1 : CR T F H x c1 f1) (e : gSl c1 lo hi = some c) (q : Fin2 T F H c Q) : rSlU T.K x lo hi H Q := by
  unfold gSl at e
  split at e
  · split at e
    · rename_i hz
      cases e
      obtain rfl := inv_str h1
      exact .inr (.inr ⟨_, rfl, hz, Fin2.dat sb q (.str _)⟩)
    · cases e
  · rename_i ds
    cases e
    obtain ⟨a, vs, rfl, ha, r⟩ := inv_tup h1
    refine .inr (.inl ⟨a, vs, rfl, ext_st sb ha, fun hw => ?_, fun hw p hp => Fin2.tup sb q (r.cut lo hi) hp⟩)
    have ec : cutL ds lo hi = ds := by
      unfold cutL
      rw [← r.length, hw.1, hw.2, List.drop_zero, Nat.sub_zero, r.length, List.take_length]
    rw [ec] at q
    exact Fin2.dat sb q (.tup ha r)
  · cases e
    cases h1 with
    | dat h1 =>
      cases h1 with
      | rol ha r => exact .inl ⟨_, _, rfl, ext_sl sb ha, fun p hp => Fin2.lst sb q (r.cut lo hi) hp⟩
  · split at e
    · rename_i ds es
      cases e
      obtain ⟨a, vs, rfl, ha, r⟩ := lstOf_rep sb h1 es
      exact .inl ⟨a, vs, rfl, SqL.of ha, fun p hp => Fin2.lst sb q (r.cut lo hi) hp⟩
    · cases e
section
variable {T : Tx} {W : WX} {ta : TE} {fa : S R} {tl th : TO} {fl fh : S (Option Int)}
theorem EvO.none : EvO T W tNoPart sNoPart := by
  intro σ F H ρ as o Q s e x q
  cases e
  exact q _ _ rfl F H as Stp.refl s
theorem EvO.some (ha : Ev T W ta fa) : EvO T W (tPart ta) (sPart fa) := by
  intro σ F H ρ as o Q s e x q
  refine ha.bind s e x fun r ρ1 v F1 H1 ts as1 e1 s1 rs x1 => ?_
  have inv : ∃ i, res r ρ1 = .some (.dat (.int i)) ∧ o = .ok (.some i) ρ1 := by
    split at e1
    · rename_i b hb
      cases e1
      exact ⟨_, hb, rfl⟩
    · cases e1
  obtain ⟨i, hi, rfl⟩ := inv
  obtain ⟨fp, k, _⟩ := rs.vw.res rs.sl hi
  obtain rfl := inv_int k
  exact ⟨i, rfl, q _ _ rfl F1 H1 as1 (s1.mono (fun a m => m) fun a m => .inl (List.mem_append_right _ m)) rs.sr⟩
theorem EvO.bind {α : Type} {σ : L2.St} {F H : Hp} {ρ : Ro} {as : List Addr} {t : TO} {f : S (Option Int)} (h : EvO T W t f) {k : Option Int → S α} {o : O α} {Q : Option Int → Hp → Prop} (s : SR T σ F H ρ as) (e : S.bind f k ρ = .some o) (x : XW T W σ F H as o)
    (q : ∀ b ρ1 F1 H1 as1, k b ρ1 = .some o → Stp F H as F1 H1 as1 → SR T σ F1 H1 ρ1 as1 → XW T W σ F1 H1 as1 o → Q b H1) : t σ H Q := by
  cases hf : f ρ with
  | none => unfold S.bind at e; rw [hf] at e; cases e
  | some o1 =>
    cases o1 with
    | ok r ρ1 =>
      rw [S.bind_ok hf] at e
      refine h σ F H ρ as _ Q s hf trivial fun r' ρ' he F' H' as' st rs => ?_
      cases he
      exact q _ _ F' H' as' e st rs (x.step st)
    | ex y ρ1 =>
      rw [S.bind_ex hf] at e
      cases e
      exact h σ F H ρ as _ Q s hf x fun r' ρ' he => nomatch he
/-- a state again, a value still aside -/
theorem RS.over {σ : L2.St} {F1 H1 F2 H2 : Hp} {ρ1 ρ2 : Ro} {as1 as2 ts : List Addr} {v : V} {r : R} (a : RS T σ F1 H1 ρ1 as1 v r ts) (s : Stp F1 H1 as1 F2 H2 as2) (b : SR T σ F2 H2 ρ2 as2) :
    RS T σ F2 H2 ρ2 as2 v r ts ∧ Stp F1 H1 (ts ++ as1) F2 H2 (ts ++ as2) := by
  obtain ⟨k1, k2, k3⟩ := aside a.nd (fun c m => a.fr c (List.mem_append_left _ m)) a.vw.there s
  refine ⟨⟨b.sl, a.vw.frame s.ext k1, nodup_join (List.nodup_append.mp a.nd).1 b.nd k3, fun c m => ?_, b.sb⟩, s.mono (fun c m => List.mem_append_right _ m) fun c m => ?_⟩
  · rcases List.mem_append.mp m with m | m
    · exact k2 c m
    · exact b.fr c m
  · rcases List.mem_append.mp m with m | m
    · exact .inr (List.mem_append_left _ m)
    · exact .inl m
theorem Ev.sl (ha : Ev T W ta fa) (hl : EvO T W tl fl) (hh : EvO T W th fh) : Ev T W (tSl (rSlU T.K) ta tl th) (sSl fa fl fh) := by
  intro σ F H ρ as o Q s e x q
  refine ha.bind s e x fun r ρ1 v F1 H1 ts as1 e1 s1 rs x1 => ?_
  refine hl.bind rs.sr e1 (x1.mono fun a m => List.mem_append_right _ m) fun lo ρ2 F2 H2 as2 e2 s2 r2 x2 => ?_
  obtain ⟨rs2, st2⟩ := rs.over s2 r2
  refine hh.bind r2 e2 x2 fun hi ρ3 F3 H3 as3 e3 s3 r3 x3 => ?_
  obtain ⟨rs3, st3⟩ := rs2.over s3 r3
  have inv : ∃ c c', res r ρ3 = .some c ∧ gSl c lo hi = .some c' ∧ o = .ok (.val c') ρ3 := by
    cases h1 : res r ρ3 with
    | none => simp [h1] at e3
    | some c =>
      cases h2 : gSl c lo hi with
      | none => simp [h1, h2] at e3
      | some c' => simp [h1, h2] at e3; exact ⟨c, c', rfl, h2, e3.symm⟩
  obtain ⟨c, c', h1, h2, rfl⟩ := inv
  obtain ⟨fp, k, _⟩ := rs3.vw.res rs3.sl h1
  refine lift_sl rs3.sb k h2 fun v' F' H' us n cr nd fr => ?_
  obtain ⟨w, st⟩ := RS.new (ρ := ρ3) (as := as3) rs3.sr n cr nd fr
  exact q _ _ rfl v' F' H' us as3 (((s1.trans st2).trans st3).trans (st.mono (fun a m => by simp [m]) fun a m => .inl m)) w
end

/-! ### methods that only read: a text's -/
def sM1 (g : C → List C → Option C) (fa fb : S R) : S R := S.bind fa fun r1 => match r1 with
  | .val (.dat (.str z)) => S.bind fb fun r2 => fun ρ => match res r2 ρ with
    | some c2 => (match g (.dat (.str z)) [c2] with
      | some c => some (.ok (.val c) ρ)
      | none => none)
    | none => none
  | _ => fun _ => none
section
variable {T : Tx} {W : WX} {ta tb : TE} {fa fb : S R}
/-- o.m(e) of a text -/
theorem Ev.m1 {r : V → List V → Hp → VK → Prop} {g : C → List C → Option C} (l : LiftM T r g) (ha : Ev T W ta fa) (hb : Ev T W tb fb) : Ev T W (tM1 r ta tb) (sM1 g fa fb) := by
  intro σ F H ρ as o Q s e x q
  refine ha.bind s e x fun r1 ρ1 v1 F1 H1 t1 as1 e1 s1 rs1 x1 => ?_
  split at e1
  · rename_i z
    have k1 : CR T F1 H1 v1 (.dat (.str z)) t1 := rs1.vw
    obtain rfl := inv_str k1
    refine ⟨⟨z, rfl⟩, ?_⟩
    refine hb.bind rs1.sr e1 (x1.mono fun a m => List.mem_append_right _ m) fun r2 ρ2 v2 F2 H2 t2 as2 e2 s2 rs2 x2 => ?_
    have inv : ∃ c2 c, res r2 ρ2 = some c2 ∧ g (.dat (.str z)) [c2] = some c ∧ o = .ok (.val c) ρ2 := by
      cases h1 : res r2 ρ2 with
      | none => simp [h1] at e2
      | some c2 =>
        cases h2 : g (.dat (.str z)) [c2] with
        | none => simp [h1, h2] at e2
        | some c => simp [h1, h2] at e2; exact ⟨c2, c, rfl, h2, e2.symm⟩
    obtain ⟨c2, c, h1, h2, rfl⟩ := inv
    obtain ⟨f2, k2, _⟩ := rs2.vw.res rs2.sl h1
    refine l F2 H2 (.str z) _ [] [v2] [c2] (f2 ++ []) c Q rs2.sb (.dat (.str z)) (.cons k2 .nil) h2 fun v F' H' us n cr nd fr => ?_
    obtain ⟨w, st⟩ := RS.new (ρ := ρ2) (as := as2) rs2.sr n cr nd fr
    refine q _ _ rfl v F' H' us as2 ((s1.trans (s2.mono (cs := t1 ++ as1) (ds := t2 ++ as2) (fun a m => List.mem_append_right _ m) fun a m => .inl m)).trans (st.mono (fun a m => by simp [m]) fun a m => .inl m)) w
  · cases e1
end
end L3
/-! L3g: targets, what is walked, statements, loops, comprehensions. -/
namespace L3
open PySem L2

/-! ### statements' semantics -/
inductive SO where
  | nx (ρ : Ro) | rt (c : C) (ρ : Ro) | bk (ρ : Ro) | ct (ρ : Ro) | ex (x : Exn) (ρ : Ro)
abbrev SS := Ro → Option SO
/-- only the slots S may have been stored to -/
structure Kp (Z : List Nat) (σ σ' : L2.St) : Prop where
  len : σ'.length = σ.length
  at_ : ∀ i, i ∉ Z → σ'[i]? = σ[i]?
theorem Kp.refl (Z : List Nat) (σ : L2.St) : Kp Z σ σ := ⟨rfl, fun _ _ => rfl⟩
theorem Kp.trans {Z : List Nat} {σ σ1 σ2 : L2.St} (a : Kp Z σ σ1) (b : Kp Z σ1 σ2) : Kp Z σ σ2 := ⟨b.len.trans a.len, fun i h => (b.at_ i h).trans (a.at_ i h)⟩
theorem Kp.mono {Z Z' : List Nat} {σ σ' : L2.St} (a : Kp Z σ σ') (h : ∀ i ∈ Z, i ∈ Z') : Kp Z' σ σ' := ⟨a.len, fun i n => a.at_ i fun m => n (h i m)⟩
theorem Kp.set {σ : L2.St} {i : Nat} {v : Option V} : Kp [i] σ (σ.set i v) := ⟨List.length_set, fun j h => List.getElem?_set_ne (fun e => h (by simp [e]))⟩
/-- what is wanted behind a statement that ends so -/
def Wn (T : Tx) (W : WX) (Z : List Nat) (σ : L2.St) (F H : Hp) (as : List Addr) (D : Ends) : SO → Prop
  | .nx ρ' => ∀ σ' F' H' as', Stp F H as F' H' as' → SR T σ' F' H' ρ' as' → Kp Z σ σ' → D.nx σ' H'
  | .bk ρ' => ∀ σ' F' H' as', Stp F H as F' H' as' → SR T σ' F' H' ρ' as' → Kp Z σ σ' → D.bk σ' H'
  | .ct ρ' => ∀ σ' F' H' as', Stp F H as F' H' as' → SR T σ' F' H' ρ' as' → Kp Z σ σ' → D.ct σ' H'
  | .rt c ρ' => ∀ v σ' F' H' ts as', Stp F H as F' H' (ts ++ as') → RS T σ' F' H' ρ' as' v (.val c) ts → Kp Z σ σ' → D.rt v H'
  | .ex x ρ' => ∀ cls d σ' F' H' as', Stp F H as F' H' as' → SR T σ' F' H' ρ' as' → Kp Z σ σ' → XR T F' H' cls d x → W cls d σ' H'
section
variable {T : Tx} {W : WX} {Z Z' : List Nat} {σ σ1 : L2.St} {F H F1 H1 : Hp} {as as1 : List Addr} {D : Ends} {o : SO}
theorem Wn.step (w : Wn T W Z σ F H as D o) (s : Stp F H as F1 H1 as1) (k : Kp Z σ σ1) : Wn T W Z σ1 F1 H1 as1 D o := by
  cases o with
  | nx ρ => exact fun σ' F' H' as' st sr kp => w σ' F' H' as' (s.trans st) sr (k.trans kp)
  | bk ρ => exact fun σ' F' H' as' st sr kp => w σ' F' H' as' (s.trans st) sr (k.trans kp)
  | ct ρ => exact fun σ' F' H' as' st sr kp => w σ' F' H' as' (s.trans st) sr (k.trans kp)
  | rt c ρ => exact fun v σ' F' H' ts as' st sr kp => w v σ' F' H' ts as' (s.trans st) sr (k.trans kp)
  | ex x ρ => exact fun cls d σ' F' H' as' st sr kp xr => w cls d σ' F' H' as' (s.trans st) sr (k.trans kp) xr
theorem Wn.mono (w : Wn T W Z σ F H as D o) (h : ∀ i ∈ Z', i ∈ Z) : Wn T W Z' σ F H as D o := by
  cases o with
  | nx ρ => exact fun σ' F' H' as' st sr kp => w σ' F' H' as' st sr (kp.mono h)
  | bk ρ => exact fun σ' F' H' as' st sr kp => w σ' F' H' as' st sr (kp.mono h)
  | ct ρ => exact fun σ' F' H' as' st sr kp => w σ' F' H' as' st sr (kp.mono h)
  | rt c ρ => exact fun v σ' F' H' ts as' st sr kp => w v σ' F' H' ts as' st sr (kp.mono h)
  | ex x ρ => exact fun cls d σ' F' H' as' st sr kp xr => w cls d σ' F' H' as' st sr (kp.mono h) xr
end
def EvS (T : Tx) (W : WX) (Z : List Nat) (t : TS) (g : SS) : Prop := ∀ (σ : L2.St) (F H : Hp) (ρ : Ro) (as : List Addr) (o : SO) (D : Ends), SR T σ F H ρ as → g ρ = some o → Wn T W Z σ F H as D o → t D σ H
/-- an expression's outcome, then a statement's -/
def S.thn {α : Type} (f : S α) (k : α → SS) : SS := fun ρ => match f ρ with
  | some (.ok a ρ') => k a ρ'
  | some (.ex x ρ') => some (.ex x ρ')
  | none => none
theorem S.thn_ok {α : Type} {m : S α} {k : α → SS} {ρ ρ' : Ro} {a : α} (h : m ρ = some (.ok a ρ')) : S.thn m k ρ = k a ρ' := by
  unfold S.thn; rw [h]
theorem S.thn_ex {α : Type} {m : S α} {k : α → SS} {ρ ρ' : Ro} {x : Exn} (h : m ρ = some (.ex x ρ')) : S.thn m k ρ = some (.ex x ρ') := by
  unfold S.thn; rw [h]
section
variable {T : Tx} {W : WX} {Z Z' : List Nat} {σ : L2.St} {F H : Hp} {ρ : Ro} {as : List Addr} {D : Ends} {o : SO}
theorem Ev.thn {t : TE} {f : S R} (h : Ev T W t f) {k : R → SS} {Q : VK} (s : SR T σ F H ρ as) (e : S.thn f k ρ = some o) (w : Wn T W Z σ F H as D o)
    (q : ∀ r ρ1 v F1 H1 ts as1, k r ρ1 = some o → Stp F H as F1 H1 (ts ++ as1) → RS T σ F1 H1 ρ1 as1 v r ts → Wn T W Z σ F1 H1 (ts ++ as1) D o → Q v H1) : t σ H Q := by
  cases hf : f ρ with
  | none => unfold S.thn at e; rw [hf] at e; cases e
  | some o1 =>
    cases o1 with
    | ok r ρ1 =>
      rw [S.thn_ok hf] at e
      refine h σ F H ρ as _ Q s hf trivial fun r' ρ' he v F' H' ts as' st rs => ?_
      cases he
      exact q _ _ v F' H' ts as' e st rs (w.step st (Kp.refl Z σ))
    | ex y ρ1 =>
      rw [S.thn_ex hf] at e
      cases e
      exact h σ F H ρ as _ Q s hf (fun cls d F' H' as' st sr xr => w cls d σ F' H' as' st sr (Kp.refl Z σ) xr) fun r' ρ' he => nomatch he
theorem EvT.thn {t : TT} {f : S Bool} (h : EvT T W t f) {k : Bool → SS} {Q : Bool → Hp → Prop} (s : SR T σ F H ρ as) (e : S.thn f k ρ = some o) (w : Wn T W Z σ F H as D o)
    (q : ∀ b ρ1 F1 H1 as1, k b ρ1 = some o → Stp F H as F1 H1 as1 → SR T σ F1 H1 ρ1 as1 → Wn T W Z σ F1 H1 as1 D o → Q b H1) : t σ H Q := by
  cases hf : f ρ with
  | none => unfold S.thn at e; rw [hf] at e; cases e
  | some o1 =>
    cases o1 with
    | ok r ρ1 =>
      rw [S.thn_ok hf] at e
      refine h σ F H ρ as _ Q s hf trivial fun r' ρ' he F' H' as' st rs => ?_
      cases he
      exact q _ _ F' H' as' e st rs (w.step st (Kp.refl Z σ))
    | ex y ρ1 =>
      rw [S.thn_ex hf] at e
      cases e
      exact h σ F H ρ as _ Q s hf (fun cls d F' H' as' st sr xr => w cls d σ F' H' as' st sr (Kp.refl Z σ) xr) fun r' ρ' he => nomatch he
theorem EvA.thn {t : TA} {f : S (List R)} (h : EvA T W t f) {k : List R → SS} {Q : List V → Hp → Prop} (s : SR T σ F H ρ as) (e : S.thn f k ρ = some o) (w : Wn T W Z σ F H as D o)
    (q : ∀ r ρ1 v F1 H1 ts as1, k r ρ1 = some o → Stp F H as F1 H1 (ts ++ as1) → RSs T σ F1 H1 ρ1 as1 v r ts → Wn T W Z σ F1 H1 (ts ++ as1) D o → Q v H1) : t σ H Q := by
  cases hf : f ρ with
  | none => unfold S.thn at e; rw [hf] at e; cases e
  | some o1 =>
    cases o1 with
    | ok r ρ1 =>
      rw [S.thn_ok hf] at e
      refine h σ F H ρ as _ Q s hf trivial fun r' ρ' he v F' H' ts as' st rs => ?_
      cases he
      exact q _ _ v F' H' ts as' e st rs (w.step st (Kp.refl Z σ))
    | ex y ρ1 =>
      rw [S.thn_ex hf] at e
      cases e
      exact h σ F H ρ as _ Q s hf (fun cls d F' H' as' st sr xr => w cls d σ F' H' as' st sr (Kp.refl Z σ) xr) fun r' ρ' he => nomatch he
end

/-! ### small statements -/
def sSkip : SS := fun ρ => some (.nx ρ)
def sSeq (f g : SS) : SS := fun ρ => match f ρ with
  | some (.nx ρ') => g ρ'
  | o => o
def sIfS (f : S Bool) (g h : SS) : SS := S.thn f fun b => if b = true then g else h
def sDrop (f : S R) : SS := S.thn f fun _ ρ => some (.nx ρ)
def sBrk : SS := fun ρ => some (.bk ρ)
def sCnt : SS := fun ρ => some (.ct ρ)
def sNever : SS := fun _ => none
/-- return e: a slot's list goes out with it -/
def sRet (f : S R) : SS := S.thn f fun r => match r with
  | .val c => fun ρ => some (.rt c ρ)
  | .slot i => fun ρ => match ρ[i]? with
    | some (some c) => some (.rt c (ρ.set i none))
    | _ => none
def sRetN : SS := fun ρ => some (.rt (.dat .non) ρ)
/-- name = e -/
def sSet (i : Nat) (f : S R) : SS := S.thn f fun r => S.thn (sMov r) fun c ρ => if i < ρ.length then some (.nx (ρ.set i (some c))) else none
section
variable {T : Tx} {W : WX} {Z Z' : List Nat} {t u : TS} {f g : SS} {te : TE} {fe : S R}
theorem EvS.skip : EvS T W [] tNext sSkip := by
  intro σ F H ρ as o D s e w
  cases e
  exact w σ F H as Stp.refl s (Kp.refl _ _)
theorem EvS.brk : EvS T W [] tBreak sBrk := by
  intro σ F H ρ as o D s e w
  cases e
  exact w σ F H as Stp.refl s (Kp.refl _ _)
theorem EvS.cnt : EvS T W [] tCont sCnt := by
  intro σ F H ρ as o D s e w
  cases e
  exact w σ F H as Stp.refl s (Kp.refl _ _)
theorem EvS.never : EvS T W [] tNever sNever := fun σ F H ρ as o D s e w => nomatch e
theorem EvS.seq (h1 : EvS T W Z t f) (h2 : EvS T W Z' u g) : EvS T W (Z ++ Z') (tSeq t u) (sSeq f g) := by
  intro σ F H ρ as o D s e w
  have wl : ∀ i ∈ Z, i ∈ Z ++ Z' := fun i m => List.mem_append_left _ m
  have wr : ∀ i ∈ Z', i ∈ Z ++ Z' := fun i m => List.mem_append_right _ m
  have e' : (match f ρ with
    | some (.nx ρ') => g ρ'
    | o => o) = some o := e
  cases hf : f ρ with
  | none => rw [hf] at e'; cases e'
  | some o1 =>
    rw [hf] at e'
    cases o1 with
    | nx ρ1 =>
      refine h1 σ F H ρ as _ { D with nx := u D } s hf fun σ' F' H' as' st sr kp => ?_
      exact h2 σ' F' H' ρ1 as' o D sr e' ((w.step st (kp.mono wl)).mono wr)
    | rt c ρ1 => cases e'; exact h1 σ F H ρ as _ { D with nx := u D } s hf fun v σ' F' H' ts as' st sr kp => w v σ' F' H' ts as' st sr (kp.mono wl)
    | bk ρ1 => cases e'; exact h1 σ F H ρ as _ { D with nx := u D } s hf fun σ' F' H' as' st sr kp => w σ' F' H' as' st sr (kp.mono wl)
    | ct ρ1 => cases e'; exact h1 σ F H ρ as _ { D with nx := u D } s hf fun σ' F' H' as' st sr kp => w σ' F' H' as' st sr (kp.mono wl)
    | ex x ρ1 => cases e'; exact h1 σ F H ρ as _ { D with nx := u D } s hf fun cls d σ' F' H' as' st sr kp xr => w cls d σ' F' H' as' st sr (kp.mono wl) xr
theorem EvS.ifS {c : TT} {fc : S Bool} (hc : EvT T W c fc) (h1 : EvS T W Z t f) (h2 : EvS T W Z' u g) : EvS T W (Z ++ Z') (tIfS c t u) (sIfS fc f g) := by
  intro σ F H ρ as o D s e w
  refine hc.thn (Q := fun b H1 => if b = true then t D σ H1 else u D σ H1) s e w fun b ρ1 F1 H1 as1 e1 s1 r1 w1 => ?_
  cases b with
  | true =>
    rw [if_pos rfl] at e1 ⊢
    exact h1 σ F1 H1 ρ1 as1 o D r1 e1 (w1.mono fun i m => List.mem_append_left _ m)
  | false =>
    rw [if_neg Bool.false_ne_true] at e1 ⊢
    exact h2 σ F1 H1 ρ1 as1 o D r1 e1 (w1.mono fun i m => List.mem_append_right _ m)
theorem EvS.drop (h : Ev T W te fe) : EvS T W [] (tDrop te) (sDrop fe) := by
  intro σ F H ρ as o D s e w
  refine h.thn s e w fun r ρ1 v F1 H1 ts as1 e1 s1 r1 w1 => ?_
  cases e1
  exact w σ F1 H1 as1 (s1.mono (fun a m => m) fun a m => .inl (List.mem_append_right _ m)) r1.sr (Kp.refl _ _)
theorem perm3 (l f r : List Addr) : (l ++ (f ++ r)).Perm (f ++ (l ++ r)) := by
  have := (List.perm_append_comm (l₁ := l) (l₂ := f)).append_right r
  simpa [List.append_assoc] using this
theorem EvS.ret (h : Ev T W te fe) : EvS T W [] (tRet te) (sRet fe) := by
  intro σ F H ρ as o D s e w
  refine h.thn s e w fun r ρ1 v F1 H1 ts as1 e1 s1 r1 w1 => ?_
  cases r with
  | val c =>
    cases e1
    exact w v σ F1 H1 ts as1 s1 r1 (Kp.refl _ _)
  | slot i =>
    have e2 : (match ρ1[i]? with
      | some (some c) => some (SO.rt c (ρ1.set i none))
      | _ => none) = some o := e1
    obtain ⟨et, hv⟩ := r1.vw
    subst et
    cases h1 : ρ1[i]? with
    | none => rw [h1] at e2; cases e2
    | some oc =>
      cases oc with
      | none => rw [h1] at e2; cases e2
      | some c =>
        rw [h1] at e2
        cases e2
        obtain ⟨v', l, fp, r, ea, hv', cr, k1, k2⟩ := r1.sl.get h1
        rw [hv] at hv'
        cases hv'
        have pm : as1.Perm (fp ++ (l ++ r)) := by rw [ea]; exact perm3 l fp r
        refine w v σ F1 H1 fp (l ++ r) (s1.mono (fun a m => m) fun a m => .inl ?_) ⟨k2 (Ext.refl F1) (fun a m => rfl), cr, ?_, fun a m => r1.fr a ?_, r1.sb⟩ (Kp.refl _ _)
        · exact pm.symm.subset m
        · exact pm.nodup_iff.mp (by simpa using r1.nd)
        · exact pm.symm.subset m
theorem EvS.retN : EvS T W [] tRetN sRetN := by
  intro σ F H ρ as o D s e w
  cases e
  exact w .non σ F H [] as Stp.refl ⟨s.sl, .dat .non, s.nd, s.fr, s.sb⟩ (Kp.refl _ _)
/-- a cell that stands aside is put into a slot -/
theorem SR.put {σ : L2.St} {F H : Hp} {ρ : Ro} {as ts : List Addr} {v : V} {c : C} {i : Nat} (sl : SL T F H σ ρ as) (cr : CR T F H v c ts) (nd : (ts ++ as).Nodup) (fr : ∀ a ∈ ts ++ as, F a = none) (sb : Ext F H) (hi : i < ρ.length) :
    ∃ as', (∀ a ∈ as', a ∈ ts ++ as) ∧ SR T (σ.set i (some v)) F H (ρ.set i (some c)) as' := by
  obtain ⟨l, r, ⟨m, em⟩, k⟩ := SL.put cr sl hi
  have pm := perm3 l ts r
  have sub : (ts ++ (l ++ r)).Sublist (ts ++ as) := (List.Sublist.refl ts).append (by rw [em]; exact (List.Sublist.refl l).append (List.sublist_append_right m r))
  refine ⟨l ++ (ts ++ r), fun a h => sub.subset (pm.subset h), k, pm.nodup_iff.mpr (nd.sublist sub), fun a h => fr a (sub.subset (pm.subset h)), sb⟩
theorem RS.mov {σ : L2.St} {F H : Hp} {ρ ρ' : Ro} {as ts : List Addr} {v : V} {r : R} {c : C} (s : RS T σ F H ρ as v r ts) (e : sMov r ρ = some (.ok c ρ')) :
    ∃ F' as', Stp F H (ts ++ as) F' H (ts ++ as') ∧ RS T σ F' H ρ' as' v (.val c) ts := by
  obtain ⟨F', as', xt, sb', nw, sl', su, fr', cr⟩ := mov1 (us := []) s.sl s.vw (by simpa using s.nd) (fun a m => s.fr a (by simpa using m)) s.sb e
  have sub : (ts ++ as').Sublist (ts ++ as) := (List.Sublist.refl ts).append su
  exact ⟨F', as', ⟨xt, fun _ _ h _ => h, fun a o h => by
    rcases nw a o h with q | q
    · exact .inl q
    · exact .inr (.inr (List.mem_append_right _ q)), fun a m => .inr (sub.subset m)⟩, ⟨sl', cr, s.nd.sublist sub, fun a m => fr' a (by simpa using m), sb'⟩⟩
theorem EvS.set {i : Nat} (h : Ev T W te fe) : EvS T W [i] (tAsg te (gName i)) (sSet i fe) := by
  intro σ F H ρ as o D s e w
  refine h.thn (Q := fun x H1 => gName i x σ H1 D.nx) s e w fun r ρ1 v F1 H1 ts as1 e1 s1 r1 w1 => ?_
  cases h1 : sMov r ρ1 with
  | none => unfold S.thn at e1; rw [h1] at e1; cases e1
  | some o1 =>
    obtain ⟨c, ρ2, rfl⟩ := sMov_ok h1
    rw [S.thn_ok h1] at e1
    have e2 : (if i < ρ2.length then some (SO.nx (ρ2.set i (some c))) else none) = some o := e1
    by_cases hi : i < ρ2.length
    · rw [if_pos hi] at e2
      cases e2
      obtain ⟨F2, as2, st, r2⟩ := r1.mov h1
      obtain ⟨as3, sub, sr⟩ := SR.put r2.sl r2.vw r2.nd r2.fr r2.sb hi
      exact w _ F2 H1 as3 (s1.trans (st.mono (fun a m => m) fun a m => .inl (sub a m))) sr Kp.set
    · rw [if_neg hi] at e2; cases e2
end

/-! ### targets -/
def EvG (T : Tx) (Z : List Nat) (g : TG) (fg : D → Ro → Option Ro) : Prop := ∀ (σ : L2.St) (F H : Hp) (ρ : Ro) (as : List Addr) (v : V) (d : D) (ρ' : Ro) (Q : L2.St → Hp → Prop), SR T σ F H ρ as → DR T F v d → fg d ρ = some ρ' →
  (∀ σ' F' H' as', Nw F H F' H' → SR T σ' F' H' ρ' as' → (∀ a ∈ as', a ∈ as) → Kp Z σ σ' → Q σ' H') → g v σ H Q
def EvGs (T : Tx) (Z : List Nat) (g : TGs) (fg : List D → Ro → Option Ro) : Prop := ∀ (σ : L2.St) (F H : Hp) (ρ : Ro) (as : List Addr) (vs : List V) (ds : List D) (ρ' : Ro) (Q : L2.St → Hp → Prop), SR T σ F H ρ as → DRs T F vs ds → fg ds ρ = some ρ' →
  (∀ σ' F' H' as', Nw F H F' H' → SR T σ' F' H' ρ' as' → (∀ a ∈ as', a ∈ as) → Kp Z σ σ' → Q σ' H') → g vs σ H Q
def fgName (i : Nat) : D → Ro → Option Ro := fun d ρ => if i < ρ.length then some (ρ.set i (some (.dat d))) else none
def fgNil : List D → Ro → Option Ro
  | [], ρ => some ρ
  | _, _ => none
def fgCons (f : D → Ro → Option Ro) (g : List D → Ro → Option Ro) : List D → Ro → Option Ro
  | d :: ds, ρ => (match f d ρ with
    | some ρ' => g ds ρ'
    | none => none)
  | _, _ => none
def fgTup (n : Nat) (g : List D → Ro → Option Ro) : D → Ro → Option Ro
  | .tup ds, ρ => if ds.length = n then g ds ρ else none
  | _, _ => none
section
variable {T : Tx} {Z Z' : List Nat}
theorem EvG.name (i : Nat) : EvG T [i] (gName i) (fgName i) := by
  intro σ F H ρ as v d ρ' Q s h e q
  unfold fgName at e
  by_cases hi : i < ρ.length
  · rw [if_pos hi] at e
    cases e
    obtain ⟨as', sub, sr⟩ := SR.put (ts := []) s.sl (.dat h) s.nd s.fr s.sb hi
    exact q _ F H as' (Nw.refl s.sb) sr sub Kp.set
  · rw [if_neg hi] at e; cases e
theorem EvGs.nil : EvGs T [] gNil fgNil := by
  intro σ F H ρ as vs ds ρ' Q s h e q
  cases h with
  | nil => cases e; exact ⟨rfl, q σ F H as (Nw.refl s.sb) s (fun _ m => m) (Kp.refl _ _)⟩
  | cons _ _ => cases e
theorem EvGs.cons {g : TG} {gs : TGs} {f : D → Ro → Option Ro} {fs : List D → Ro → Option Ro} (h1 : EvG T Z g f) (h2 : EvGs T Z' gs fs) : EvGs T (Z ++ Z') (gCons g gs) (fgCons f fs) := by
  intro σ F H ρ as vs ds ρ' Q s h e q
  cases h with
  | nil => cases e
  | cons hd hr =>
    rename_i v d vs ds
    have e' : (match f d ρ with
      | some ρ' => fs ds ρ'
      | none => none) = some ρ' := e
    cases q1 : f d ρ with
    | none => rw [q1] at e'; cases e'
    | some ρ1 =>
      rw [q1] at e'
      refine ⟨v, vs, rfl, h1 σ F H ρ as v d ρ1 _ s hd q1 fun σ1 F1 H1 as1 n1 s1 u1 k1 => ?_⟩
      refine h2 σ1 F1 H1 ρ1 as1 vs ds ρ' Q s1 (hr.ext n1.ext) e' fun σ2 F2 H2 as2 n2 s2 u2 k2 => ?_
      exact q σ2 F2 H2 as2 (n1.trans n2) s2 (fun a m => u1 a (u2 a m)) ((k1.mono fun i m => List.mem_append_left _ m).trans (k2.mono fun i m => List.mem_append_right _ m))
theorem EvG.tup {n : Nat} {gs : TGs} {fs : List D → Ro → Option Ro} (h : EvGs T Z gs fs) : EvG T Z (gTup T.K n gs) (fgTup n fs) := by
  intro σ F H ρ as v d ρ' Q s hd e q
  cases d with
  | tup ds =>
    have e' : (if ds.length = n then fs ds ρ else none) = some ρ' := e
    by_cases hn : ds.length = n
    · rw [if_pos hn] at e'
      cases hd with
      | tup ha r => exact ⟨_, _, rfl, ext_st s.sb ha, by rw [r.length]; exact hn, h σ F H ρ as _ ds ρ' Q s r e' q⟩
    · rw [if_neg hn] at e'; cases e'
  | _ => cases e
end
/-- target = e, the value frozen -/
def sAsg (f : S R) (fg : D → Ro → Option Ro) : SS := S.thn f fun r => S.thn (sFrz r) fun d ρ => match fg d ρ with
  | some ρ' => some (.nx ρ')
  | none => none
theorem EvS.asg {T : Tx} {W : WX} {Z : List Nat} {te : TE} {fe : S R} {g : TG} {fg : D → Ro → Option Ro} (h : Ev T W te fe) (hg : EvG T Z g fg) : EvS T W Z (tAsg te g) (sAsg fe fg) := by
  intro σ F H ρ as o D s e w
  refine h.thn (Q := fun x H1 => g x σ H1 D.nx) s e w fun r ρ1 v F1 H1 ts as1 e1 s1 r1 w1 => ?_
  cases h1 : sFrz r ρ1 with
  | none => unfold S.thn at e1; rw [h1] at e1; cases e1
  | some o1 =>
    obtain ⟨d, ρ2, rfl⟩ := sFrz_ok h1
    rw [S.thn_ok h1] at e1
    obtain ⟨F2, as2, st, sr, dr⟩ := r1.frz h1
    cases h2 : fg d ρ2 with
    | none => simp [h2] at e1
    | some ρ3 =>
      simp [h2] at e1
      subst e1
      refine hg σ F2 H1 ρ2 as2 v d ρ3 _ sr dr h2 fun σ' F3 H3 as3 n3 s3 sub kp => ?_
      exact w σ' F3 H3 as3 (s1.trans (st.trans ((n3.step (as := as2)).mono (fun a m => m) fun a m => .inl (sub a m)))) s3 kp
/-- i, j = e1, e2 (no tuple is made) -/
def sPar (i j : Nat) (fa : S (List R)) : SS := S.thn fa fun rs => S.thn (sMovs rs) fun cs ρ => match cs with
  | [c1, c2] => if i < ρ.length ∧ j < ρ.length then some (.nx ((ρ.set i (some c1)).set j (some c2))) else none
  | _ => none
theorem EvS.par {T : Tx} {W : WX} {i j : Nat} {ta : TA} {fa : S (List R)} (h : EvA T W ta fa) : EvS T W [i, j] (tPar i j ta) (sPar i j fa) := by
  intro σ F H ρ as o D s e w
  refine h.thn (Q := fun vs H1 => ∃ v w, vs = [v, w] ∧ D.nx ((σ.set i (some v)).set j (some w)) H1) s e w fun rs ρ1 vs F1 H1 ts as1 e1 s1 r1 w1 => ?_
  cases h1 : sMovs rs ρ1 with
  | none => unfold S.thn at e1; rw [h1] at e1; cases e1
  | some o1 =>
    obtain ⟨cs, ρ2, rfl⟩ := sMovs_ok h1
    rw [S.thn_ok h1] at e1
    obtain ⟨F2, as2, xt, sb2, nw, sl2, su, fr2, cr⟩ := movs1 (us := []) r1.sl r1.vw (by simpa using r1.nd) (fun a m => r1.fr a (by simpa using m)) r1.sb h1
    have st : Stp F1 H1 (ts ++ as1) F2 H1 (ts ++ as2) := ⟨xt, fun _ _ h _ => h, fun a o h => by
      rcases nw a o h with q | q
      · exact .inl q
      · exact .inr (.inr (List.mem_append_right _ q)), fun a m => .inr (by
        rcases List.mem_append.mp m with m | m
        · exact List.mem_append_left _ m
        · exact List.mem_append_right _ (su.subset m))⟩
    have nd2 : (ts ++ as2).Nodup := r1.nd.sublist ((List.Sublist.refl ts).append su)
    cases cr with
    | nil => cases e1
    | cons ca cr =>
      cases cr with
      | nil => cases e1
      | cons cb cr =>
        cases cr with
        | cons _ _ => cases e1
        | nil =>
          rename_i v c t1 w' c' t2
          have e2 : (if i < ρ2.length ∧ j < ρ2.length then some (SO.nx ((ρ2.set i (some c)).set j (some c'))) else none) = some o := e1
          by_cases hi : i < ρ2.length ∧ j < ρ2.length
          · rw [if_pos hi] at e2
            cases e2
            rw [List.append_nil] at fr2 nd2 st
            obtain ⟨n1, n2, n3⟩ := List.nodup_append.mp (by rw [List.append_assoc] at nd2; exact nd2)
            obtain ⟨as3, sub3, sr3⟩ := SR.put (i := i) sl2 ca (nd2.sublist ((List.sublist_append_left t1 t2).append (List.Sublist.refl as2))) (fun a m => fr2 a (by
              simp only [List.mem_append, List.nil_append] at m ⊢
              rcases m with m | m
              · exact .inl (.inl m)
              · exact .inr m)) sb2 hi.1
            have nd4 : (t2 ++ as3).Nodup := nodup_join (List.nodup_append.mp n2).1 sr3.nd fun a m z => by
              rcases List.mem_append.mp (sub3 a z) with z | z
              · exact n3 a z a (List.mem_append_left _ m) rfl
              · exact (List.nodup_append.mp n2).2.2 a m a z rfl
            obtain ⟨as4, sub4, sr4⟩ := SR.put (i := j) sr3.sl cb nd4 (fun a m => by
              rcases List.mem_append.mp m with m | m
              · exact fr2 a (by simp [m])
              · exact sr3.fr a m) sb2 (by rw [List.length_set]; exact hi.2)
            refine ⟨v, w', rfl, w _ F2 H1 as4 (s1.trans (st.mono (fun a m => by simpa using m) fun a m => .inl ?_)) sr4 ⟨by simp, fun k hk => ?_⟩⟩
            · rcases List.mem_append.mp (sub4 a m) with z | z
              · simp [z]
              · have := sub3 a z
                simp only [List.mem_append] at this ⊢
                rcases this with q | q
                · exact .inl (.inl q)
                · exact .inr q
            · have h1 : j ≠ k := fun e => hk (by simp [e])
              have h2 : i ≠ k := fun e => hk (by simp [e])
              rw [List.getElem?_set_ne h1, List.getElem?_set_ne h2]
          · rw [if_neg hi] at e2; cases e2
end L3
/-! L3h: what is walked, loops, comprehensions. -/
namespace L3
open PySem L2 RZ

/-! ### what is walked -/
structure Wk (T : Tx) (F : Hp) (J : It) (ds : List D) : Prop where
  go : ∀ i F' H, i < ds.length → Ext F F' → Ext F' H → J.go i H
  stop : ∀ F' H, Ext F F' → Ext F' H → J.stop ds.length H
  yld : ∀ i F' H x H', i < ds.length → Ext F F' → Ext F' H → J.yld i H x H' → ∃ F'' d, ds[i]? = some d ∧ Nw F' H F'' H' ∧ DR T F'' x d
def EvI (T : Tx) (W : WX) (wi : TI) (f : S (List D)) : Prop := ∀ (σ : L2.St) (F H : Hp) (ρ : Ro) (as : List Addr) (o : O (List D)) (R : It → Hp → Prop), SR T σ F H ρ as → f ρ = some o → XW T W σ F H as o →
  (∀ ds ρ', o = .ok ds ρ' → ∀ J F' H' as', Stp F H as F' H' as' → SR T σ F' H' ρ' as' → Wk T F' J ds → R J H') → wi σ H R
theorem get_lt {α : Type} {xs : List α} {i : Nat} (h : i < xs.length) : ∃ x, xs[i]? = some x := ⟨xs[i], by simp [h]⟩
section
variable {T : Tx} {F : Hp}
theorem Wk.list {a : Addr} {vs : List V} {ds : List D} (h : SqL T.K F a vs) (r : DRs T F vs ds) : Wk T F (Itl T.K a) ds := by
  refine ⟨fun i F' H hi e sb => ?_, fun F' H e sb => ⟨vs, ext_sl sb (ext_sl e h), by rw [r.length]; exact Nat.le_refl _⟩, fun i F' H x H' hi e sb y => ?_⟩
  · obtain ⟨x, ex⟩ := get_lt (xs := vs) (by rw [r.length]; exact hi)
    exact ⟨vs, x, ext_sl sb (ext_sl e h), ex⟩
  · obtain ⟨e1, e2⟩ := y
    obtain ⟨d, h1, h2⟩ := r.getV (e2 vs (ext_sl sb (ext_sl e h)))
    subst e1
    exact ⟨F', d, h1, Nw.refl sb, h2.ext e⟩
theorem Wk.tup {a : Addr} {vs : List V} {ds : List D} (h : SqT T.K F a vs) (r : DRs T F vs ds) : Wk T F (Itt T.K a) ds := by
  refine ⟨fun i F' H hi e sb => ?_, fun F' H e sb => ⟨vs, ext_st sb (ext_st e h), by rw [r.length]; exact Nat.le_refl _⟩, fun i F' H x H' hi e sb y => ?_⟩
  · obtain ⟨x, ex⟩ := get_lt (xs := vs) (by rw [r.length]; exact hi)
    exact ⟨vs, x, ext_st sb (ext_st e h), ex⟩
  · obtain ⟨e1, e2⟩ := y
    obtain ⟨d, h1, h2⟩ := r.getV (e2 vs (ext_st sb (ext_st e h)))
    subst e1
    exact ⟨F', d, h1, Nw.refl sb, h2.ext e⟩
/-- the signs of a text -/
def signs (z : Str) : List D := z.cps.toList.map fun c => .str ⟨#[c]⟩
theorem signs_length (z : Str) : (signs z).length = z.cps.size := by simp [signs]
theorem Wk.str (z : Str) : Wk T F (Its z) (signs z) := by
  refine ⟨fun i F' H hi e sb => ?_, fun F' H e sb => ?_, fun i F' H x H' hi e sb y => ?_⟩
  · rw [signs_length] at hi; exact hi
  · show z.cps.size ≤ _
    rw [signs_length]; exact Nat.le_refl _
  · obtain ⟨e1, c, e2, e3⟩ := y
    subst e1 e3
    refine ⟨F', .str ⟨#[c]⟩, ?_, Nw.refl sb, .str _⟩
    unfold signs
    rw [List.getElem?_map, Array.getElem?_toList, e2]
    rfl
/-- lo, lo + 1, .. -/
def intsD (lo : Int) (n : Nat) : List D := (List.range n).map fun i => .int (lo + (i : Nat))
theorem intsD_length (lo : Int) (n : Nat) : (intsD lo n).length = n := by simp [intsD]
theorem Wk.range (lo : Int) (n : Nat) : Wk T F (Itr lo n) (intsD lo n) := by
  refine ⟨fun i F' H hi e sb => ?_, fun F' H e sb => ?_, fun i F' H x H' hi e sb y => ?_⟩
  · rw [intsD_length] at hi; exact hi
  · show n ≤ _
    rw [intsD_length]; exact Nat.le_refl _
  · obtain ⟨e1, e2⟩ := y
    subst e1 e2
    rw [intsD_length] at hi
    exact ⟨F', .int (lo + (i : Nat)), by simp [intsD, hi], Nw.refl sb, .int _⟩
def pairsI (k : Nat) : List D → List D
  | [] => []
  | d :: ds => .tup [.int (k : Nat), d] :: pairsI (k + 1) ds
theorem pairsI_length : ∀ (k : Nat) (ds : List D), (pairsI k ds).length = ds.length
  | _, [] => rfl
  | k, _ :: ds => congrArg Nat.succ (pairsI_length (k + 1) ds)
theorem pairsI_get : ∀ (k : Nat) (ds : List D) (i : Nat) (d : D), ds[i]? = some d → (pairsI k ds)[i]? = some (.tup [.int ((k + i : Nat) : Int), d])
  | _, [], i, d, h => by simp at h
  | k, e :: ds, 0, d, h => by simp at h; subst h; simp [pairsI]
  | k, e :: ds, i + 1, d, h => by
    have := pairsI_get (k + 1) ds i d (by simpa using h)
    rw [show k + 1 + i = k + (i + 1) by omega] at this
    simpa [pairsI] using this
theorem Wk.enum {a : Addr} {vs : List V} {ds : List D} (h : SqL T.K F a vs) (r : DRs T F vs ds) : Wk T F (Ite T.K a) (pairsI 0 ds) := by
  refine ⟨fun i F' H hi e sb => ?_, fun F' H e sb => ⟨vs, ext_sl sb (ext_sl e h), by rw [r.length, pairsI_length]; exact Nat.le_refl _⟩, fun i F' H x H' hi e sb y => ?_⟩
  · obtain ⟨x, ex⟩ := get_lt (xs := vs) (i := i) (by rw [r.length]; rw [pairsI_length] at hi; exact hi)
    exact ⟨vs, x, ext_sl sb (ext_sl e h), ex⟩
  · obtain ⟨p, v, e1, hp, e2, e3⟩ := y
    obtain ⟨d, h1, h2⟩ := r.getV (e3 vs (ext_sl sb (ext_sl e h)))
    subst e1 e2
    refine ⟨upd F' p (.tup [.int (i : Nat), v]), .tup [.int (i : Nat), d], ?_, Nw.frozen sb hp, .tup (SqT.of upd_same) (.cons (.int _) (.cons ((h2.ext e).ext (Ext.new (sb.none hp))) .nil))⟩
    have := pairsI_get 0 ds i d h1
    rw [Nat.zero_add] at this
    exact this
def pairs2 : List D → List D → List D
  | d :: ds, e :: es => .tup [d, e] :: pairs2 ds es
  | _, _ => []
theorem pairs2_length : ∀ (ds es : List D), (pairs2 ds es).length = min ds.length es.length
  | [], _ => by simp [pairs2]
  | _ :: _, [] => by simp [pairs2]
  | d :: ds, e :: es => by simp [pairs2, pairs2_length ds es]
theorem pairs2_get : ∀ (ds es : List D) (i : Nat) (d e : D), ds[i]? = some d → es[i]? = some e → (pairs2 ds es)[i]? = some (.tup [d, e])
  | [], _, i, d, e, h, _ => by simp at h
  | _ :: _, [], i, d, e, _, h => by simp at h
  | a :: ds, b :: es, 0, d, e, h, h' => by simp at h h'; subst h; subst h'; simp [pairs2]
  | a :: ds, b :: es, i + 1, d, e, h, h' => by
    have := pairs2_get ds es i d e (by simpa using h) (by simpa using h')
    simpa [pairs2] using this
theorem Wk.zip {a b : Addr} {vs ws : List V} {ds es : List D} (h : SqL T.K F a vs) (r : DRs T F vs ds) (h' : SqL T.K F b ws) (r' : DRs T F ws es) : Wk T F (Itz T.K a b) (pairs2 ds es) := by
  refine ⟨fun i F' H hi e sb => ?_, fun F' H e sb => ⟨vs, ws, ext_sl sb (ext_sl e h), ext_sl sb (ext_sl e h'), ?_⟩, fun i F' H x H' hi e sb y => ?_⟩
  · rw [pairs2_length] at hi
    obtain ⟨x, ex⟩ := get_lt (xs := vs) (i := i) (by rw [r.length]; omega)
    obtain ⟨y, ey⟩ := get_lt (xs := ws) (i := i) (by rw [r'.length]; omega)
    exact ⟨vs, ws, x, y, ext_sl sb (ext_sl e h), ext_sl sb (ext_sl e h'), ex, ey⟩
  · rw [pairs2_length, r.length, r'.length]; omega
  · obtain ⟨p, v, w, e1, hp, e2, e3, e4⟩ := y
    obtain ⟨d, h1, h2⟩ := r.getV (e3 vs (ext_sl sb (ext_sl e h)))
    obtain ⟨d', h3, h4⟩ := r'.getV (e4 ws (ext_sl sb (ext_sl e h')))
    subst e1 e2
    have xn := Ext.new (o := .tup [v, w]) (sb.none hp)
    exact ⟨upd F' p (.tup [v, w]), .tup [d, d'], pairs2_get ds es i d d' h1 h3, Nw.frozen sb hp, .tup (SqT.of upd_same) (.cons ((h2.ext e).ext xn) (.cons ((h4.ext e).ext xn) .nil))⟩
theorem Wk.zipT {a b : Addr} {vs ws : List V} {ds es : List D} (h : SqT T.K F a vs) (r : DRs T F vs ds) (h' : SqT T.K F b ws) (r' : DRs T F ws es) : Wk T F (ItzT T.K a b) (pairs2 ds es) := by
  refine ⟨fun i F' H hi e sb => ?_, fun F' H e sb => ⟨vs, ws, ext_st sb (ext_st e h), ext_st sb (ext_st e h'), ?_⟩, fun i F' H x H' hi e sb y => ?_⟩
  · rw [pairs2_length] at hi
    obtain ⟨x, ex⟩ := get_lt (xs := vs) (i := i) (by rw [r.length]; omega)
    obtain ⟨y, ey⟩ := get_lt (xs := ws) (i := i) (by rw [r'.length]; omega)
    exact ⟨vs, ws, x, y, ext_st sb (ext_st e h), ext_st sb (ext_st e h'), ex, ey⟩
  · rw [pairs2_length, r.length, r'.length]; omega
  · obtain ⟨p, v, w, e1, hp, e2, e3, e4⟩ := y
    obtain ⟨d, h1, h2⟩ := r.getV (e3 vs (ext_st sb (ext_st e h)))
    obtain ⟨d', h3, h4⟩ := r'.getV (e4 ws (ext_st sb (ext_st e h')))
    subst e1 e2
    have xn := Ext.new (o := .tup [v, w]) (sb.none hp)
    exact ⟨upd F' p (.tup [v, w]), .tup [d, d'], pairs2_get ds es i d d' h1 h3, Nw.frozen sb hp, .tup (SqT.of upd_same) (.cons ((h2.ext e).ext xn) (.cons ((h4.ext e).ext xn) .nil))⟩
end

/-! ### their readings -/
/-- a list, a tuple, a text -/
def iU (K : PySem.W.Frag) (te : TE) : TI := fun σ H R => te σ H fun x H1 => (∃ a xs, x = .ref a ∧ SqL K H1 a xs ∧ R (Itl K a) H1) ∨ ((∃ a xs, x = .ref a ∧ SqT K H1 a xs ∧ R (Itt K a) H1) ∨ ∃ z, x = .str z ∧ R (Its z) H1)
theorem pi_U {X : Cx} {tg e : Expr} {te : TE} (he : PE X e te) : PI X tg e (iU X.K te) := by
  refine ⟨fun pins s σ H R I h => thn (he.run pins s σ H _ I h) fun v s1 ⟨y, H1, I1, r1, q1⟩ => ?_⟩
  rcases q1 with ⟨a, xs, rfl, hq, q⟩ | ⟨a, xs, rfl, hq, q⟩ | ⟨z, rfl, q⟩
  · obtain rfl : v = Value.ref a := r1
    obtain ⟨its, rv, p, hz⟩ := I1.list hq
    exact wpAny_pyIter_list p.isList (pi_one (tk := s1.toks) I1 _ (turn_list a _) ⟨_, Heap.get?_push_size _ rfl, rfl, rfl⟩ q)
  · obtain rfl : v = Value.ref a := r1
    obtain ⟨its, rv, p, hz⟩ := I1.tuple hq
    exact wpAny_pyIter_tuple (show s1.heap.IsTuple a its.toArray from p) (pi_one (tk := s1.toks) I1 _ (turn_tuple a _) ⟨_, Heap.get?_push_size _ rfl, rfl, rfl⟩ q)
  · obtain ⟨t, rfl⟩ := r1
    cases ha : z.cps.all (· < 128)
    · exact wpAny_pyIter_wide ha (pi_one (tk := s1.toks) I1 _ (turn_str _ z t "str_iterator" (.inr rfl)) ⟨_, Heap.get?_push_size _ rfl, rfl, rfl⟩ q)
    · exact wpAny_pyIter_ascii ha (pi_one (tk := s1.toks) I1 _ (turn_str _ z t "str_ascii_iterator" (.inl rfl)) ⟨_, Heap.get?_push_size _ rfl, rfl, rfl⟩ q)
def itemsOf : D → Option (List D)
  | .lst ds => some ds
  | .tup ds => some ds
  | .rol ds => some ds
  | .str z => some (signs z)
  | _ => none
def sWalk (fa : S R) : S (List D) := S.bind fa fun r => S.bind (sFrz r) fun d => fun ρ => match itemsOf d with
  | some ds => some (.ok ds ρ)
  | none => none
def sRng1 (fa : S (List R)) : S (List D) := S.bind fa fun rs => fun ρ => match ress rs ρ with
  | some [.dat (.int j)] => if -(2 ^ 62) ≤ j ∧ j < 2 ^ 62 then some (.ok (intsD 0 j.toNat) ρ) else none
  | _ => none
def sRng2 (fa : S (List R)) : S (List D) := S.bind fa fun rs => fun ρ => match ress rs ρ with
  | some [.dat (.int i), .dat (.int j)] => if -(2 ^ 62) ≤ i ∧ i < 2 ^ 62 ∧ -(2 ^ 62) ≤ j ∧ j < 2 ^ 62 then some (.ok (intsD i (j - i).toNat) ρ) else none
  | _ => none
/-- enumerate(list) -/
def sEnum (fa : S (List R)) : S (List D) := S.bind fa fun rs => S.bind (sFrzs rs) fun ds => fun ρ => match ds with
  | [.lst es] => some (.ok (pairsI 0 es) ρ)
  | [.rol es] => some (.ok (pairsI 0 es) ρ)
  | _ => none
/-- zip of two lists or of two tuples -/
def sZip (fa : S (List R)) : S (List D) := S.bind fa fun rs => S.bind (sFrzs rs) fun ds => fun ρ => match ds with
  | [.lst es, .lst fs] => some (.ok (pairs2 es fs) ρ)
  | [.tup es, .tup fs] => some (.ok (pairs2 es fs) ρ)
  | _ => none
section
variable {T : Tx} {W : WX}
theorem EvI.walk {te : TE} {fa : S R} (h : Ev T W te fa) : EvI T W (iU T.K te) (sWalk fa) := by
  intro σ F H ρ as o R s e x q
  refine h.bind s e x fun r ρ1 v F1 H1 ts as1 e1 s1 rs x1 => ?_
  cases h1 : sFrz r ρ1 with
  | none => unfold S.bind at e1; rw [h1] at e1; cases e1
  | some o1 =>
    obtain ⟨d, ρ2, rfl⟩ := sFrz_ok h1
    rw [S.bind_ok h1] at e1
    obtain ⟨F2, as2, st, sr, dr⟩ := rs.frz h1
    have e2 : (match itemsOf d with
      | some ds => some (O.ok ds ρ2)
      | none => none) = some o := e1
    cases d with
    | lst ds =>
      cases e2
      cases dr with
      | lst ha r => exact .inl ⟨_, _, rfl, ext_sl sr.sb (SqL.of ha), q _ _ rfl _ F2 H1 as2 (s1.trans st) sr (Wk.list (SqL.of ha) r)⟩
    | rol ds =>
      cases e2
      cases dr with
      | rol ha r => exact .inl ⟨_, _, rfl, ext_sl sr.sb ha, q _ _ rfl _ F2 H1 as2 (s1.trans st) sr (Wk.list ha r)⟩
    | tup ds =>
      cases e2
      cases dr with
      | tup ha r => exact .inr (.inl ⟨_, _, rfl, ext_st sr.sb ha, q _ _ rfl _ F2 H1 as2 (s1.trans st) sr (Wk.tup ha r)⟩)
    | str z =>
      cases e2
      cases dr
      exact .inr (.inr ⟨_, rfl, q _ _ rfl _ F2 H1 as2 (s1.trans st) sr (Wk.str z)⟩)
    | _ => cases e2
theorem EvI.rng1 {ta : TA} {fa : S (List R)} (h : EvA T W ta fa) : EvI T W (iRng1 ta) (sRng1 fa) := by
  intro σ F H ρ as o R s e x q
  refine h.bind s e x fun rs ρ1 vs F1 H1 ts as1 e1 s1 rs1 x1 => ?_
  cases h1 : ress rs ρ1 with
  | none => simp [h1] at e1
  | some cs =>
    rw [h1] at e1
    try dsimp only at e1
    split at e1
    · rename_i j hj
      cases hj
      split at e1
      · rename_i hh
        cases e1
        obtain ⟨fp, k⟩ := rs1.vw.res rs1.sl h1
        cases k with
        | cons k1 k2 =>
          cases k2
          obtain rfl := inv_int k1
          exact ⟨j, rfl, hh.1, hh.2, q _ _ rfl _ F1 H1 as1 (s1.mono (fun a m => m) fun a m => .inl (List.mem_append_right _ m)) rs1.sr (Wk.range 0 _)⟩
      · cases e1
    · cases e1
theorem EvI.rng2 {ta : TA} {fa : S (List R)} (h : EvA T W ta fa) : EvI T W (iRng2 ta) (sRng2 fa) := by
  intro σ F H ρ as o R s e x q
  refine h.bind s e x fun rs ρ1 vs F1 H1 ts as1 e1 s1 rs1 x1 => ?_
  cases h1 : ress rs ρ1 with
  | none => simp [h1] at e1
  | some cs =>
    rw [h1] at e1
    try dsimp only at e1
    split at e1
    · rename_i i j hj
      cases hj
      split at e1
      · rename_i hh
        cases e1
        obtain ⟨fp, k⟩ := rs1.vw.res rs1.sl h1
        cases k with
        | cons k1 k2 =>
          cases k2 with
          | cons k2 k3 =>
            cases k3
            obtain rfl := inv_int k1
            obtain rfl := inv_int k2
            exact ⟨i, j, rfl, hh, q _ _ rfl _ F1 H1 as1 (s1.mono (fun a m => m) fun a m => .inl (List.mem_append_right _ m)) rs1.sr (Wk.range i _)⟩
      · cases e1
    · cases e1
theorem EvI.enum {ta : TA} {fa : S (List R)} (h : EvA T W ta fa) : EvI T W (iEnum T.K ta) (sEnum fa) := by
  intro σ F H ρ as o R s e x q
  refine h.bind s e x fun rs ρ1 vs F1 H1 ts as1 e1 s1 rs1 x1 => ?_
  cases h1 : sFrzs rs ρ1 with
  | none => unfold S.bind at e1; rw [h1] at e1; cases e1
  | some o1 =>
    obtain ⟨ds, ρ2, rfl⟩ := sFrzs_ok h1
    rw [S.bind_ok h1] at e1
    obtain ⟨F2, as2, st, sr, dr⟩ := frzs1 rs1.sl rs1.vw rs1.nd rs1.fr rs1.sb h1
    try dsimp only at e1
    split at e1
    · cases e1
      cases dr with
      | cons dr dn =>
        cases dn
        cases dr with
        | lst ha r => exact ⟨_, _, rfl, ext_sl sr.sb (SqL.of ha), q _ _ rfl _ F2 H1 as2 (s1.trans st) sr (Wk.enum (SqL.of ha) r)⟩
    · cases e1
      cases dr with
      | cons dr dn =>
        cases dn
        cases dr with
        | rol ha r => exact ⟨_, _, rfl, ext_sl sr.sb ha, q _ _ rfl _ F2 H1 as2 (s1.trans st) sr (Wk.enum ha r)⟩
    · cases e1
theorem EvI.zip {ta : TA} {fa : S (List R)} (h : EvA T W ta fa) : EvI T W (iZipA T.K ta) (sZip fa) := by
  intro σ F H ρ as o R s e x q
  refine h.bind s e x fun rs ρ1 vs F1 H1 ts as1 e1 s1 rs1 x1 => ?_
  cases h1 : sFrzs rs ρ1 with
  | none => unfold S.bind at e1; rw [h1] at e1; cases e1
  | some o1 =>
    obtain ⟨ds, ρ2, rfl⟩ := sFrzs_ok h1
    rw [S.bind_ok h1] at e1
    obtain ⟨F2, as2, st, sr, dr⟩ := frzs1 rs1.sl rs1.vw rs1.nd rs1.fr rs1.sb h1
    try dsimp only at e1
    split at e1
    · cases e1
      cases dr with
      | cons d1 dr =>
        cases dr with
        | cons d2 dn =>
          cases dn
          cases d1 with
          | lst ha ra =>
            cases d2 with
            | lst hb rb => exact ⟨_, _, _, _, rfl, .inl ⟨ext_sl sr.sb (SqL.of ha), ext_sl sr.sb (SqL.of hb), q _ _ rfl _ F2 H1 as2 (s1.trans st) sr (Wk.zip (SqL.of ha) ra (SqL.of hb) rb)⟩⟩
    · cases e1
      cases dr with
      | cons d1 dr =>
        cases dr with
        | cons d2 dn =>
          cases dn
          cases d1 with
          | tup ha ra =>
            cases d2 with
            | tup hb rb => exact ⟨_, _, _, _, rfl, .inr ⟨ext_st sr.sb ha, ext_st sr.sb hb, q _ _ rfl _ F2 H1 as2 (s1.trans st) sr (Wk.zipT ha ra hb rb)⟩⟩
    · cases e1
end

/-! ### for -/
def loopS (fg : D → Ro → Option Ro) (fb : SS) : List D → SS
  | [], ρ => some (.nx ρ)
  | d :: ds, ρ => match fg d ρ with
    | none => none
    | some ρ1 => (match fb ρ1 with
      | some (.nx ρ2) => loopS fg fb ds ρ2
      | some (.ct ρ2) => loopS fg fb ds ρ2
      | some (.bk ρ2) => some (.nx ρ2)
      | o => o)
def sFor (fi : S (List D)) (fg : D → Ro → Option Ro) (fb : SS) : SS := S.thn fi fun ds => loopS fg fb ds
section
variable {T : Tx} {W : WX} {Z Z' : List Nat}
theorem EvI.thn {σ : L2.St} {F H : Hp} {ρ : Ro} {as : List Addr} {D : Ends} {o : SO} {wi : TI} {f : S (List L3.D)} (h : EvI T W wi f) {k : List L3.D → SS} {Q : It → Hp → Prop} (s : SR T σ F H ρ as) (e : S.thn f k ρ = some o) (w : Wn T W Z σ F H as D o)
    (q : ∀ ds ρ1 J F1 H1 as1, k ds ρ1 = some o → Stp F H as F1 H1 as1 → SR T σ F1 H1 ρ1 as1 → Wk T F1 J ds → Wn T W Z σ F1 H1 as1 D o → Q J H1) : wi σ H Q := by
  cases hf : f ρ with
  | none => unfold S.thn at e; rw [hf] at e; cases e
  | some o1 =>
    cases o1 with
    | ok r ρ1 =>
      rw [S.thn_ok hf] at e
      refine h σ F H ρ as _ Q s hf trivial fun r' ρ' he J F' H' as' st sr wk => ?_
      cases he
      exact q _ _ J F' H' as' e st sr wk (w.step st (Kp.refl Z σ))
    | ex y ρ1 =>
      rw [S.thn_ex hf] at e
      cases e
      exact h σ F H ρ as _ Q s hf (fun cls d F' H' as' st sr xr => w cls d σ F' H' as' st sr (Kp.refl Z σ) xr) fun r' ρ' he => nomatch he
theorem EvS.for_ {wi : TI} {fi : S (List D)} {g : TG} {fg : D → Ro → Option Ro} {tb : TS} {fb : SS} (hi : EvI T W wi fi) (hg : EvG T Z g fg) (hb : EvS T W Z' tb fb) : EvS T W (Z ++ Z') (tFor wi g tb) (sFor fi fg fb) := by
  intro σ0 F0 H0 ρ0 as0 o D s0 e0 w0
  refine hi.thn s0 e0 w0 fun ds ρ1 J F1 H1 as1 e1 s1 r1 wk w1 => ?_
  refine ⟨fun i m σ H => m = ds.length - i ∧ i ≤ ds.length ∧ ∃ F ρ as, Ext F1 F ∧ SR T σ F H ρ as ∧ loopS fg fb (ds.drop i) ρ = some o ∧ Wn T W (Z ++ Z') σ F H as D o, ⟨_, rfl, Nat.zero_le _, F1, ρ1, as1, Ext.refl F1, r1, e1, w1⟩, ?_⟩
  rintro i m σ H ⟨rfl, hi, F, ρ, as, xt, sr, e, w⟩
  by_cases hlt : i < ds.length
  · refine .inr ⟨wk.go i F H hlt xt sr.sb, fun σ' H' => ∃ F' ρ' as', Ext F1 F' ∧ SR T σ' F' H' ρ' as' ∧ loopS fg fb (ds.drop (i + 1)) ρ' = some o ∧ Wn T W (Z ++ Z') σ' F' H' as' D o, fun σ' H' p => ⟨ds.length - (i + 1), by omega, rfl, hlt, p⟩, fun x H' y => ?_⟩
    obtain ⟨F', d, hd, nw, dr⟩ := wk.yld i F H x H' hlt xt sr.sb y
    have ed : ds.drop i = d :: ds.drop (i + 1) := by
      obtain ⟨h1, h2⟩ := List.getElem?_eq_some_iff.mp hd
      rw [List.drop_eq_getElem_cons h1, h2]
    rw [ed] at e
    have e' : (match fg d ρ with
      | none => none
      | some ρ1 => (match fb ρ1 with
        | some (.nx ρ2) => loopS fg fb (ds.drop (i + 1)) ρ2
        | some (.ct ρ2) => loopS fg fb (ds.drop (i + 1)) ρ2
        | some (.bk ρ2) => some (.nx ρ2)
        | o => o)) = some o := e
    cases hg1 : fg d ρ with
    | none => rw [hg1] at e'; cases e'
    | some ρ2 =>
      rw [hg1] at e'
      dsimp only at e'
      refine hg σ F' H' ρ as x d ρ2 _ (sr.new nw) dr hg1 fun σ2 F2 H2 as2 n2 sr2 sub2 kp2 => ?_
      have zl : ∀ i ∈ Z, i ∈ Z ++ Z' := fun i m => List.mem_append_left _ m
      have zr : ∀ i ∈ Z', i ∈ Z ++ Z' := fun i m => List.mem_append_right _ m
      have st0 : Stp F H as F2 H2 as2 := ((nw.trans n2).step (as := as)).mono (fun a m => m) fun a m => .inl (sub2 a m)
      have w2 : Wn T W (Z ++ Z') σ2 F2 H2 as2 D o := w.step st0 (kp2.mono zl)
      have x2 : Ext F1 F2 := xt.trans (nw.trans n2).ext
      cases hb1 : fb ρ2 with
      | none => rw [hb1] at e'; cases e'
      | some o1 =>
        rw [hb1] at e'
        cases o1 with
        | nx ρ3 => exact hb σ2 F2 H2 ρ2 as2 _ _ sr2 hb1 fun σ' F'' H'' as' st sr' kp => ⟨F'', ρ3, as', x2.trans st.ext, sr', e', w2.step st (kp.mono zr)⟩
        | ct ρ3 => exact hb σ2 F2 H2 ρ2 as2 _ _ sr2 hb1 fun σ' F'' H'' as' st sr' kp => ⟨F'', ρ3, as', x2.trans st.ext, sr', e', w2.step st (kp.mono zr)⟩
        | bk ρ3 => cases e'; exact hb σ2 F2 H2 ρ2 as2 _ _ sr2 hb1 fun σ' F'' H'' as' st sr' kp => w2 σ' F'' H'' as' st sr' (kp.mono zr)
        | rt c ρ3 => cases e'; exact hb σ2 F2 H2 ρ2 as2 _ _ sr2 hb1 fun v σ' F'' H'' ts as' st sr' kp => w2 v σ' F'' H'' ts as' st sr' (kp.mono zr)
        | ex y ρ3 => cases e'; exact hb σ2 F2 H2 ρ2 as2 _ _ sr2 hb1 fun cls dd σ' F'' H'' as' st sr' kp xr => w2 cls dd σ' F'' H'' as' st sr' (kp.mono zr) xr
  · have ei : i = ds.length := by omega
    subst ei
    rw [List.drop_length] at e
    cases e
    exact .inl ⟨wk.stop F H xt sr.sb, w σ F H as Stp.refl sr (Kp.refl _ _)⟩
end
end L3
/-! L3i: comprehensions. -/
namespace L3
open PySem L2

/-! ### the slots wiped, given back -/
def wipeR (ρ : Ro) : List Nat → Ro
  | [] => ρ
  | v :: vs => (wipeR ρ vs).set v none
/-- what a slot is given back: data stays what it was -/
def keepD : Option C → Option C
  | some (.dat d) => some (.dat d)
  | _ => none
def backR : (Nat → Bool) → Ro → Ro → Ro
  | p, o :: ρ, o' :: ρ' => (if p 0 = true then keepD o else o') :: backR (fun i => p (i + 1)) ρ ρ'
  | _, _, _ => []
section
variable {T : Tx} {F H F' H' : Hp}
theorem SR.wipe {σ : L2.St} {ρ : Ro} {as : List Addr} (s : SR T σ F H ρ as) : ∀ vs : List Nat, ∃ as', as'.Sublist as ∧ SR T (wipe σ vs) F H (wipeR ρ vs) as'
  | [] => ⟨as, List.Sublist.refl _, s⟩
  | v :: vs => by
    obtain ⟨as1, sub, s1⟩ := SR.wipe s vs
    obtain ⟨as2, sub2, sl⟩ := SL.drop (x := none) v s1.sl
    exact ⟨as2, sub2.trans sub, sl, s1.nd.sublist sub2, fun a m => s1.fr a (sub2.subset m), s1.sb⟩
theorem SL.keep {σ : L2.St} {ρ : Ro} {as : List Addr} (e : Ext F F') (h : SL T F H σ ρ as) : ∀ {σ' : L2.St} {ρ' : Ro} {as' : List Addr} (p : Nat → Bool), SL T F' H' σ' ρ' as' → σ'.length = σ.length → (∀ i, p i = false → σ'[i]? = σ[i]?) → ∃ bs, bs.Sublist as' ∧ SL T F' H' σ (backR p ρ ρ') bs := by
  induction h with
  | nil =>
    intro σ' ρ' as' p h' l k
    have e0 : σ' = [] := List.eq_nil_of_length_eq_zero l
    subst e0
    cases h'
    exact ⟨[], List.Sublist.refl _, .nil⟩
  | @non x σ ρ as h ih =>
    intro σ' ρ' as' p h' l k
    cases h' with
    | nil => simp at l
    | @non x' σ' ρ' as' h' =>
      obtain ⟨bs, sub, q⟩ := ih (fun i => p (i + 1)) h' (by simpa using l) fun i hp => by simpa using k (i + 1) hp
      exact ⟨bs, sub, by
        show SL T F' H' (x :: σ) ((if p 0 = true then keepD none else none) :: backR _ ρ ρ') bs
        have : (if p 0 = true then keepD none else none) = (none : Option C) := by split <;> rfl
        rw [this]; exact .non q⟩
    | @som v c a1 σ' ρ' b1 cr h' =>
      obtain ⟨bs, sub, q⟩ := ih (fun i => p (i + 1)) h' (by simpa using l) fun i hp => by simpa using k (i + 1) hp
      by_cases hp : p 0 = true
      · refine ⟨bs, sub.trans (List.sublist_append_right _ _), ?_⟩
        show SL T F' H' (x :: σ) ((if p 0 = true then keepD none else some c) :: backR _ ρ ρ') bs
        rw [if_pos hp]; exact .non q
      · refine ⟨a1 ++ bs, (List.Sublist.refl _).append sub, ?_⟩
        show SL T F' H' (x :: σ) ((if p 0 = true then keepD none else some c) :: backR _ ρ ρ') (a1 ++ bs)
        rw [if_neg hp]
        have := k 0 (by simpa using hp)
        simp at this
        subst this
        exact .som cr q
  | @som v c a0 σ ρ b0 cr0 h ih =>
    intro σ' ρ' as' p h' l k
    cases h' with
    | nil => simp at l
    | @non x' σ' ρ' as' h' =>
      obtain ⟨bs, sub, q⟩ := ih (fun i => p (i + 1)) h' (by simpa using l) fun i hp => by simpa using k (i + 1) hp
      by_cases hp : p 0 = true
      · refine ⟨bs, sub, ?_⟩
        show SL T F' H' (some v :: σ) ((if p 0 = true then keepD (some c) else none) :: backR _ ρ ρ') bs
        rw [if_pos hp]
        cases c with
        | dat d =>
          cases cr0 with
          | dat dr => exact SL.som (as := []) (.dat (dr.ext e)) q
        | own cs => exact .non q
      · refine ⟨bs, sub, ?_⟩
        show SL T F' H' (some v :: σ) ((if p 0 = true then keepD (some c) else none) :: backR _ ρ ρ') bs
        rw [if_neg hp]; exact .non q
    | @som v' c' a1 σ' ρ' b1 cr h' =>
      obtain ⟨bs, sub, q⟩ := ih (fun i => p (i + 1)) h' (by simpa using l) fun i hp => by simpa using k (i + 1) hp
      by_cases hp : p 0 = true
      · refine ⟨bs, sub.trans (List.sublist_append_right _ _), ?_⟩
        show SL T F' H' (some v :: σ) ((if p 0 = true then keepD (some c) else some c') :: backR _ ρ ρ') bs
        rw [if_pos hp]
        cases c with
        | dat d =>
          cases cr0 with
          | dat dr => exact SL.som (as := []) (.dat (dr.ext e)) q
        | own cs => exact .non q
      · refine ⟨a1 ++ bs, (List.Sublist.refl _).append sub, ?_⟩
        show SL T F' H' (some v :: σ) ((if p 0 = true then keepD (some c) else some c') :: backR _ ρ ρ') (a1 ++ bs)
        rw [if_neg hp]
        have := k 0 (by simpa using hp)
        simp at this
        subst this
        exact .som cr q
theorem wipe_at (σ : L2.St) : ∀ {vs : List Nat} {i : Nat}, i ∉ vs → (wipe σ vs)[i]? = σ[i]?
  | [], i, _ => rfl
  | v :: vs, i, h => by
    unfold wipe
    rw [List.getElem?_set_ne (fun e => h (by simp [e]))]
    exact wipe_at σ fun m => h (List.mem_cons_of_mem _ m)
theorem wipe_get (σ : L2.St) : ∀ {vs : List Nat} {i : Nat}, i ∈ vs → (wipe σ vs)[i]? = if i < σ.length then some none else none
  | [], i, h => by cases h
  | v :: vs, i, h => by
    unfold L2.wipe
    by_cases e : v = i
    · subst e
      by_cases hl : v < σ.length
      · rw [if_pos hl, List.getElem?_set_self (by rw [wipe_length]; exact hl)]
      · rw [if_neg hl, List.getElem?_eq_none (by rw [List.length_set, wipe_length]; omega)]
    · rw [List.getElem?_set_ne e]
      exact wipe_get σ ((List.mem_cons.mp h).resolve_left fun q => e q.symm)
theorem wipe_same {σ σ' : L2.St} {vs : List Nat} (h : Kp vs σ σ') : L2.wipe σ' vs = L2.wipe σ vs := by
  refine List.ext_getElem? fun i => ?_
  by_cases m : i ∈ vs
  · rw [wipe_get σ' m, wipe_get σ m, h.len]
  · rw [wipe_at σ' m, wipe_at σ m, h.at_ i m]
theorem wipe_wipe (σ : L2.St) (vs : List Nat) : L2.wipe (L2.wipe σ vs) vs = L2.wipe σ vs := wipe_same ⟨wipe_length σ vs, fun i m => wipe_at σ m⟩
end

/-! ### list comprehensions -/
/-- the items; ρ is the block's -/
def lcLoop (fg : D → Ro → Option Ro) (ft : S Bool) (fe : S R) (vs : List Nat) : List D → Ro → Option (List D × Ro)
  | [], ρ => some ([], ρ)
  | d :: ds, ρ => match fg d ρ with
    | none => none
    | some ρ1 => (match ft ρ1 with
      | some (.ok true ρ2) => (match S.bind fe sFrz ρ2 with
        | some (.ok y ρ3) => (match lcLoop fg ft fe vs ds (wipeR ρ3 vs) with
          | some (ys, ρ') => some (y :: ys, ρ')
          | none => none)
        | _ => none)
      | some (.ok false ρ2) => lcLoop fg ft fe vs ds (wipeR ρ2 vs)
      | _ => none)
def sLc (fi : S (List D)) (fg : D → Ro → Option Ro) (ft : S Bool) (fe : S R) (vs : List Nat) : S R := S.bind fi fun ds => fun ρ =>
  if ds.length ≤ sizeLine then (match lcLoop fg ft fe vs ds (wipeR ρ vs) with
    | some (ys, ρ') => some (.ok (.val (.own (dats ys))) (backR (fun i => vs.contains i) ρ ρ'))
    | none => none) else none
def sYes : S Bool := S.ret true
theorem EvT.yes {T : Tx} {W : WX} : EvT T W tYes sYes := by
  intro σ F H ρ as o Q s e x q
  cases e
  exact q _ _ rfl F H as Stp.refl s
theorem EvI.bind {T : Tx} {W : WX} {α : Type} {σ : L2.St} {F H : Hp} {ρ : Ro} {as : List Addr} {wi : TI} {f : S (List D)} (h : EvI T W wi f) {k : List D → S α} {o : O α} {Q : It → Hp → Prop} (s : SR T σ F H ρ as) (e : S.bind f k ρ = some o) (x : XW T W σ F H as o)
    (q : ∀ ds ρ1 J F1 H1 as1, k ds ρ1 = some o → Stp F H as F1 H1 as1 → SR T σ F1 H1 ρ1 as1 → Wk T F1 J ds → XW T W σ F1 H1 as1 o → Q J H1) : wi σ H Q := by
  cases hf : f ρ with
  | none => unfold S.bind at e; rw [hf] at e; cases e
  | some o1 =>
    cases o1 with
    | ok r ρ1 =>
      rw [S.bind_ok hf] at e
      refine h σ F H ρ as _ Q s hf trivial fun r' ρ' he J F' H' as' st sr wk => ?_
      cases he
      exact q _ _ J F' H' as' e st sr wk (x.step st)
    | ex y ρ1 =>
      rw [S.bind_ex hf] at e
      cases e
      exact h σ F H ρ as _ Q s hf x fun r' ρ' he => nomatch he
/-- the state inside: the block's slots, the new list at D apart -/
structure LI (T : Tx) (σw : L2.St) (F1 : Hp) (H1 : Hp) (as1 : List Addr) (D : Addr) (F H : Hp) (ρ : Ro) (as : List Addr) (acc : List V) (ys : List L3.D) : Prop where
  st : Stp F1 H1 as1 F H (D :: as)
  sr : SR T σw F H ρ as
  nD : D ∉ as
  fD : F D = none
  at_ : H D = some (.lst acc)
  dr : DRs T F acc ys
theorem LI.step {T : Tx} {σw σ2 : L2.St} {F1 H1 : Hp} {as1 : List Addr} {D : Addr} {F H F2 H2 : Hp} {ρ ρ2 : Ro} {as as2 : List Addr} {acc : List V} {ys : List L3.D} (l : LI T σw F1 H1 as1 D F H ρ as acc ys) (s : Stp F H as F2 H2 as2) (r : SR T σ2 F2 H2 ρ2 as2) :
    LI T σ2 F1 H1 as1 D F2 H2 ρ2 as2 acc ys := by
  have hD : D ∉ as2 := fun m => by
    rcases s.newA D m with q | q
    · rw [l.at_] at q; cases q
    · exact l.nD q
  refine ⟨l.st.trans (s.mono (fun a m => List.mem_cons_of_mem _ m) fun a m => ?_), r, hD, ?_, s.frm D _ l.at_ l.nD, l.dr.ext s.ext⟩
  · rcases List.mem_cons.mp m with m | m
    · exact .inr (by simp [m])
    · exact .inl m
  · cases q : F2 D with
    | none => rfl
    | some o =>
      rcases s.newF D o q with ⟨u, z⟩ | z | z
      · rw [l.fD] at z; cases z
      · rw [l.at_] at z; cases z
      · exact absurd z l.nD
theorem LI.wipe {T : Tx} {σw : L2.St} {F1 H1 : Hp} {as1 : List Addr} {D : Addr} {F H : Hp} {ρ : Ro} {as : List Addr} {acc : List V} {ys : List L3.D} (l : LI T σw F1 H1 as1 D F H ρ as acc ys) (vs : List Nat) : ∃ as2, LI T (L2.wipe σw vs) F1 H1 as1 D F H (wipeR ρ vs) as2 acc ys := by
  obtain ⟨as2, sub, s2⟩ := l.sr.wipe vs
  refine ⟨as2, l.st.mono (fun a m => m) fun a m => .inl ?_, s2, fun m => l.nD (sub.subset m), l.fD, l.at_, l.dr⟩
  rcases List.mem_cons.mp m with m | m
  · simp [m]
  · exact List.mem_cons_of_mem _ (sub.subset m)
section
variable {T : Tx} {W : WX} {Z : List Nat}
theorem Ev.lc {wi : TI} {fi : S (List D)} {g : TG} {fg : D → Ro → Option Ro} {tt : TT} {ft : S Bool} {te : TE} {fe : S R} {vs : List Nat} {W' : WX} (hi : EvI T W wi fi) (hg : EvG T Z g fg) (hz : ∀ i ∈ Z, i ∈ vs) (ht : EvT T W' tt ft) (he : Ev T W' te fe) :
    Ev T W (tLc wi g tt te vs) (sLc fi fg ft fe vs) := by
  intro σ F0 H0 ρ0 as0 o Q s0 e0 x0 q
  refine hi.bind s0 e0 x0 fun ds ρ1 J F1 H1 as1 e1 s1 r1 wk x1 => ?_
  intro D hD
  by_cases hz1 : ds.length ≤ sizeLine
  case neg => rw [if_neg hz1] at e1; cases e1
  rw [if_pos hz1] at e1
  cases hl : lcLoop fg ft fe vs ds (wipeR ρ1 vs) with
  | none => rw [hl] at e1; cases e1
  | some p =>
    obtain ⟨zs, ρz⟩ := p
    rw [hl] at e1
    cases e1
    have pD : D ∉ as1 := fun m => by
      obtain ⟨o, eo⟩ := r1.sl.there D m
      rw [hD] at eo; cases eo
    have fD : F1 D = none := r1.sb.none hD
    have r1' : SR T σ F1 (upd H1 D (.lst [])) ρ1 as1 := ⟨r1.sl.frame (Ext.refl F1) fun a m => upd_ne fun z => pD (z ▸ m), r1.nd, r1.fr, r1.sb.trans (Ext.new hD)⟩
    have l0 : LI T σ F1 H1 as1 D F1 (upd H1 D (.lst [])) ρ1 as1 [] [] := ⟨⟨Ext.refl F1, fun a o h _ => Ext.new hD a o h, fun a o h => .inl ⟨o, h⟩, fun a m => by
      rcases List.mem_cons.mp m with m | m
      · subst m; exact .inl hD
      · exact .inr m⟩, r1', pD, fD, upd_same, .nil⟩
    obtain ⟨asw, l1⟩ := l0.wipe vs
    refine ⟨fun i m H => m = ds.length - i ∧ i ≤ ds.length ∧ ∃ F ρ as acc ys zs', LI T (L2.wipe σ vs) F1 H1 as1 D F H ρ as acc ys ∧ ys.length ≤ i ∧ lcLoop fg ft fe vs (ds.drop i) ρ = some (zs', ρz) ∧ zs = ys ++ zs', ⟨_, rfl, Nat.zero_le _, F1, wipeR ρ1 vs, asw, [], [], zs, l1, Nat.le_refl _, hl, rfl⟩, ?_⟩
    rintro i m H ⟨rfl, hi, F, ρ, as, acc, ys, zs', l, hn, e, ez⟩
    by_cases hlt : i < ds.length
    · refine .inr ⟨wk.go i F H hlt l.st.ext l.sr.sb, fun H' => ∃ F ρ as acc ys zs', LI T (L2.wipe σ vs) F1 H1 as1 D F H' ρ as acc ys ∧ ys.length ≤ i + 1 ∧ lcLoop fg ft fe vs (ds.drop (i + 1)) ρ = some (zs', ρz) ∧ zs = ys ++ zs', fun H' p => ⟨ds.length - (i + 1), by omega, rfl, hlt, p⟩, fun x H' y => ?_⟩
      obtain ⟨F', d, hd, nw, dr⟩ := wk.yld i F H x H' hlt l.st.ext l.sr.sb y
      have l2 := l.step nw.step (l.sr.new nw)
      have ed : ds.drop i = d :: ds.drop (i + 1) := by
        obtain ⟨h1, h2⟩ := List.getElem?_eq_some_iff.mp hd
        rw [List.drop_eq_getElem_cons h1, h2]
      rw [ed] at e
      unfold lcLoop at e
      cases hg1 : fg d ρ with
      | none => rw [hg1] at e; cases e
      | some ρ2 =>
        rw [hg1] at e
        dsimp only at e
        refine hg _ F' H' ρ as x d ρ2 _ l2.sr dr hg1 fun σ2 Fg Hg as2 n2 sr2 sub2 kp2 => ?_
        have l3 := l2.step ((n2.step (as := as)).mono (fun a m => m) fun a m => .inl (sub2 a m)) sr2
        have ew : L2.wipe σ2 vs = L2.wipe σ vs := (wipe_same (kp2.mono hz)).trans (wipe_wipe σ vs)
        refine ⟨ew, ?_⟩
        cases ht1 : ft ρ2 with
        | none => rw [ht1] at e; cases e
        | some o1 =>
          rw [ht1] at e
          cases o1 with
          | ex y ρ3 => cases e
          | ok b ρ3 =>
            refine ht σ2 Fg Hg ρ2 as2 _ _ sr2 ht1 trivial fun b' ρ' hb F3 H3 as3 s3 r3 => ?_
            cases hb
            have l4 := l3.step s3 r3
            cases b with
            | false =>
              rw [if_neg Bool.false_ne_true]
              dsimp only at e
              obtain ⟨as4, l5⟩ := l4.wipe vs
              rw [ew] at l5
              exact ⟨F3, _, as4, acc, ys, zs', l5, by omega, e, ez⟩
            | true =>
              rw [if_pos rfl]
              dsimp only at e
              cases he1 : S.bind fe sFrz ρ3 with
              | none => rw [he1] at e; cases e
              | some o2 =>
                rw [he1] at e
                cases o2 with
                | ex y ρ4 => cases e
                | ok z ρ4 =>
                  dsimp only at e
                  refine he.bind (o := .ok z ρ4) r3 he1 trivial fun r ρ5 v F5 H5 ts as5 e5 s5 rs5 x5 => ?_
                  obtain ⟨F6, as6, s6, r6, d6⟩ := rs5.frz e5
                  have l5 := l4.step (s5.trans s6) r6
                  obtain ⟨as7, l7⟩ := l5.wipe vs
                  rw [ew] at l7
                  have hacc : acc.length = ys.length := l7.dr.length
                  refine ⟨acc, l5.at_, by omega, ?_⟩
                  cases hr : lcLoop fg ft fe vs (ds.drop (i + 1)) (wipeR ρ4 vs) with
                  | none => rw [hr] at e; cases e
                  | some p =>
                    obtain ⟨zr, ρr⟩ := p
                    rw [hr] at e
                    cases e
                    refine ⟨F6, _, as7, acc ++ [v], ys ++ [z], zr, ⟨?_, ⟨l7.sr.sl.frame (Ext.refl _) fun a m => upd_ne fun q => l7.nD (q ▸ m), l7.sr.nd, l7.sr.fr, fun a o h => ?_⟩, l7.nD, l7.fD, upd_same, l7.dr.append (.cons d6 .nil)⟩, by simp; omega, hr, by rw [ez]; simp⟩
                    · refine ⟨l7.st.ext, fun a o h m => ?_, l7.st.newF, l7.st.newA⟩
                      have hne : a ≠ D := fun q => by subst q; rw [hD] at h; cases h
                      rw [upd_ne hne]; exact l7.st.frm a o h m
                    · have hne : a ≠ D := fun q => by subst q; rw [l7.fD] at h; cases h
                      rw [upd_ne hne]; exact l7.sr.sb a o h
    · have ei : i = ds.length := by omega
      subst ei
      rw [List.drop_length] at e
      cases e
      rw [List.append_nil] at ez
      subst ez
      refine .inl ⟨wk.stop F H l.st.ext l.sr.sb, ?_⟩
      obtain ⟨bs, sub, sl⟩ := SL.keep (F := F1) (H := H1) l.st.ext r1.sl (fun i => vs.contains i) l.sr.sl (wipe_length σ vs) fun i hp => wipe_at σ fun m => by
        have : vs.contains i = true := by simpa using m
        rw [this] at hp; cases hp
      have nd : (D :: bs).Nodup := List.nodup_cons.mpr ⟨fun m => l.nD (sub.subset m), l.sr.nd.sublist sub⟩
      refine q _ _ rfl (.ref D) F H [D] bs (s1.trans (l.st.mono (fun a m => m) fun a m => .inl ?_)) ⟨sl, .own l.at_ l.dr.cells, nd, fun a m => ?_, l.sr.sb⟩
      · rcases List.mem_cons.mp m with m | m
        · simp [m]
        · exact List.mem_cons_of_mem _ (sub.subset m)
      · rcases List.mem_cons.mp m with m | m
        · subst m; exact l.fD
        · exact l.sr.fr a (sub.subset m)
end
end L3
/-! L3j: lists that change; isinstance; while. -/
namespace L3
open PySem L2

/-! ### a slot's own list -/
def ownAt (ρ : Ro) (j : Nat) : Option (List D) := match ρ[j]? with
  | some (some (.own cs)) => undat cs
  | _ => none
section
variable {T : Tx} {W : WX} {σ : L2.St} {F H : Hp} {ρ : Ro} {as : List Addr}
theorem ownAt_eq {j : Nat} {ds : List D} (e : ownAt ρ j = some ds) : ρ[j]? = some (some (.own (dats ds))) := by
  unfold ownAt at e
  split at e
  · rename_i cs h
    rw [h, undat_eq e]
  · cases e
/-- the list itself, and what it may become -/
theorem SR.poke {j : Nat} {ds : List D} (s : SR T σ F H ρ as) (e : ownAt ρ j = some ds) : ∃ a vs, σ[j]? = some (some (.ref a)) ∧ H a = some (.lst vs) ∧ DRs T F vs ds ∧
    ∀ vs' ds', DRs T F vs' ds' → Stp F H as F (upd H a (.lst vs')) as ∧ SR T σ F (upd H a (.lst vs')) (ρ.set j (some (.own (dats ds')))) as := by
  have h := ownAt_eq e
  obtain ⟨v, l, fp, r, ea, hv, cr, k1, k2⟩ := s.sl.get h
  cases cr with
  | own ha cs =>
    rename_i a vs fp
    obtain ⟨e0, dr⟩ := CRs.dats cs
    subst e0
    refine ⟨a, vs, hv, ha, dr, fun vs' ds' dr' => ?_⟩
    have hin : a ∈ as := by rw [ea]; simp
    have nd := s.nd
    rw [ea] at nd
    obtain ⟨n1, n2, n3⟩ := List.nodup_append.mp nd
    obtain ⟨n4, n5, n6⟩ := List.nodup_append.mp n2
    have out : ∀ b ∈ l ++ r, upd H a (.lst vs') b = H b := fun b m => upd_ne fun z => by
      subst z
      rcases List.mem_append.mp m with m | m
      · exact n3 b m b (by simp) rfl
      · exact n6 b (by simp) b m rfl
    have sl2 := k1 (v' := .ref a) (c' := .own (dats ds')) (fp' := [a]) (Ext.refl F) out (.own upd_same dr'.cells)
    have es : σ.set j (some (.ref a)) = σ := by
      refine List.ext_getElem? fun i => ?_
      by_cases hj : j = i
      · subst hj
        have hl : j < σ.length := (List.getElem?_eq_some_iff.mp hv).1
        rw [List.getElem?_set_self hl, hv]
      · rw [List.getElem?_set_ne hj]
    rw [es] at sl2
    have ea' : l ++ ([a] ++ r) = as := ea.symm
    rw [ea'] at sl2
    refine ⟨⟨Ext.refl F, fun b o hb m => ?_, fun b o hb => .inl ⟨o, hb⟩, fun b m => .inr m⟩, ⟨sl2, s.nd, s.fr, fun b o hb => ?_⟩⟩
    · rw [upd_ne fun z => m (by subst z; exact hin)]; exact hb
    · have hne : b ≠ a := fun z => by subst z; rw [s.fr b hin] at hb; cases hb
      rw [upd_ne hne]; exact s.sb b o hb
end
theorem ixN_lt {n : Nat} {k : Int} {m : Nat} (h : ixN n k = some m) : m < n := by
  obtain ⟨h1, h2, h3, h4⟩ := ixN_seq h
  exact h2
/-- slot[i] = e, the value frozen -/
def sSetIx (j : Nat) (fi fe : S R) : SS := S.thn fe fun r => S.thn (sFrz r) fun d => fun ρ0 => if (ownAt ρ0 j).isSome = true then S.thn fi (fun ri => fun ρ => match res ri ρ, ownAt ρ j with
  | some (.dat (.int k)), some ds => (match ixN ds.length k with
    | some m => some (.nx (ρ.set j (some (.own (dats (ds.set m d))))))
    | none => none)
  | _, _ => none) ρ0 else none
section
variable {T : Tx} {W : WX} {te ti : TE} {fe fi : S R}
theorem EvS.setIx {j : Nat} (he : Ev T W te fe) (hi : Ev T W ti fi) : EvS T W [] (tAsg te (L2.gSub (tVar j) ti rSetL)) (sSetIx j fi fe) := by
  intro σ F H ρ as o D s e w
  refine he.thn (Q := fun x H1 => L2.gSub (tVar j) ti rSetL x σ H1 D.nx) s e w fun r ρ1 v F1 H1 ts as1 e1 s1 r1 w1 => ?_
  cases h1 : sFrz r ρ1 with
  | none => unfold S.thn at e1; rw [h1] at e1; cases e1
  | some o1 =>
    obtain ⟨d, ρ2, rfl⟩ := sFrz_ok h1
    rw [S.thn_ok h1] at e1
    obtain ⟨F2, as2, st, sr, dr⟩ := r1.frz h1
    have w2 : Wn T W [] σ F2 H1 as2 D o := w1.step st (Kp.refl _ _)
    cases h0 : ownAt ρ2 j with
    | none => simp [h0] at e1
    | some ds0 =>
      simp only [h0, Option.isSome_some, if_true] at e1
      obtain ⟨a0, _, hx, _⟩ := sr.poke h0
      refine ⟨.ref a0, hx, ?_⟩
      refine hi.thn (Q := fun i H2 => rSetL (.ref a0) i v H2 fun H3 => D.nx σ H3) sr e1 w2 fun ri ρ3 vi F3 H3 us as3 e3 s3 r3 w3 => ?_
      split at e3
      · rename_i k ds hk hd
        split at e3
        · rename_i m hm
          cases e3
          obtain ⟨f3, k3, _⟩ := r3.vw.res r3.sl hk
          obtain rfl := inv_int k3
          obtain ⟨a, vs, hv, ha, dv, poke⟩ := r3.sr.poke hd
          rw [hv] at hx
          cases hx
          obtain ⟨st4, sr4⟩ := poke (vs.set m v) (ds.set m d) (dv.set m (dr.ext s3.ext))
          refine ⟨a0, vs, k, m, rfl, rfl, ha, by rw [dv.length]; exact hm, ?_⟩
          exact w3 σ F3 _ as3 (st4.mono (fun b z => List.mem_append_right _ z) fun b z => .inl z) sr4 (Kp.refl _ _)
        · cases e3
      · cases e3
end
/-- slot[i] += e, numbers -/
def sAugIx (j : Nat) (fi fe : S R) : SS := fun ρ0 => if (ownAt ρ0 j).isSome = true then S.thn fi (fun ri => fun ρ1 => match res ri ρ1, ownAt ρ1 j with
  | some (.dat (.int k)), some ds => (match L2.atI ds k with
    | some (.int n) => S.thn fe (fun re => fun ρ2 => match res re ρ2, ownAt ρ2 j with
      | some (.dat (.int n')), some ds' => (match ixN ds'.length k with
        | some m => some (.nx (ρ2.set j (some (.own (dats (ds'.set m (.int (n + n'))))))))
        | none => none)
      | _, _ => none) ρ1
    | _ => none)
  | _, _ => none) ρ0 else none
theorem get_listP {X : Cx} : PGet X (rIxL X.K) := by
  intro pins s σ H o i ov iv Q I ro ri h
  obtain ⟨p, xs, k, z, rfl, rfl, hq, he, q⟩ := h
  obtain rfl : ov = Value.ref p := ro
  obtain ⟨t, rfl⟩ := ri
  obtain ⟨its, r, pl, hz⟩ := I.list hq
  obtain ⟨j, h1, h2, h3, h4, h5⟩ := atI_get he
  obtain ⟨w, ew, rw'⟩ := r.get h2
  have hl := r.length
  have hn := line63
  have fin : EP X pins σ Q w s := ⟨z, H, I, rw', q⟩
  by_cases h0 : 0 ≤ k
  · have hj : k.toNat = j := by
      rw [seqIndex_of h0 h5] at h1
      exact Option.some.inj h1
    exact wpAny_getItem_list pl.isList h0 (by omega) (by rw [hj]; simpa using ew) fin
  · have hj : (k + (its.toArray.size : Int)).toNat = j := by
      rw [seqIndex_neg (by omega) h4] at h1
      rw [List.size_toArray, ← hl]
      exact Option.some.inj h1
    exact wpAny_getItem_list_neg pl.isList (by omega) (by rw [List.size_toArray] <;> omega) (by omega) (by rw [hj]; simpa using ew) fin
section
variable {T : Tx} {W : WX} {te ti : TE} {fe fi : S R}
theorem EvS.augIx {j : Nat} (hi : Ev T W ti fi) (he : Ev T W te fe) : EvS T W [] (tAugS (tVar j) ti te (rIxL T.K) (ipI fun i j => i + j) rSetL) (sAugIx j fi fe) := by
  intro σ F H ρ as o D s e w
  unfold sAugIx at e
  cases h0 : ownAt ρ j with
  | none => simp [h0] at e
  | some ds0 =>
    simp only [h0, Option.isSome_some, if_true] at e
    obtain ⟨a0, _, hx, _⟩ := s.poke h0
    refine ⟨.ref a0, hx, ?_⟩
    refine hi.thn (Q := fun i H2 => rIxL T.K (.ref a0) i H2 fun x H3 => te σ H3 fun y H4 => ipI (fun i j => i + j) x y H4 fun z H5 => rSetL (.ref a0) i z H5 fun H6 => D.nx σ H6) s e w fun ri ρ1 vi F1 H1 us as1 e1 s1 r1 w1 => ?_
    split at e1
    · rename_i k ds hk hd
      split at e1
      · rename_i n hn
        obtain ⟨f3, k3, _⟩ := r1.vw.res r1.sl hk
        obtain rfl := inv_int k3
        obtain ⟨a, vs, hv, ha, dv, _⟩ := r1.sr.poke hd
        rw [hv] at hx
        cases hx
        obtain ⟨x, ex, dx⟩ := dv.atI hn
        cases dx
        refine ⟨a0, vs, k, _, rfl, rfl, SqL.of ha, ex, ?_⟩
        have w1' : Wn T W [] σ F1 H1 as1 D o := w1.step (Stp.refl.mono (fun b m => m) fun b m => .inr (List.mem_append_right _ m)) (Kp.refl _ _)
        refine he.thn (Q := fun y H4 => ipI (fun i j => i + j) (.int n) y H4 fun z H5 => rSetL (.ref a0) (.int k) z H5 fun H6 => D.nx σ H6) r1.sr e1 w1' fun re ρ2 ve F2 H2 us2 as2 e2 s2 r2 w2 => ?_
        split at e2
        · rename_i n' ds' hk2 hd2
          split at e2
          · rename_i m hm
            cases e2
            obtain ⟨f4, k4, _⟩ := r2.vw.res r2.sl hk2
            obtain rfl := inv_int k4
            obtain ⟨a2, vs2, hv2, ha2, dv2, poke⟩ := r2.sr.poke hd2
            rw [hv2] at hv
            cases hv
            obtain ⟨st4, sr4⟩ := poke (vs2.set m (.int (n + n'))) (ds'.set m (.int (n + n'))) (dv2.set m (.int _))
            refine ⟨n, n', rfl, rfl, a0, vs2, k, m, rfl, rfl, ha2, by rw [dv2.length]; exact hm, ?_⟩
            exact w2 σ F2 _ as2 (st4.mono (fun b z => List.mem_append_right _ z) fun b z => .inl z) sr4 (Kp.refl _ _)
          · cases e2
        · cases e2
      · cases e1
    · cases e1
end

/-! ### methods that change a list -/
def MutR (T : Tx) (r : V → List V → Hp → VK → Prop) (g : List D → List D → Option (List D × D)) : Prop := ∀ (F H : Hp) (a : Addr) (vs ws : List V) (ds es ds' : List D) (d : D) (Q : VK), Ext F H → H a = some (.lst vs) → DRs T F vs ds → DRs T F ws es → g ds es = some (ds', d) →
  (∀ v vs', DRs T F vs' ds' → DR T F v d → Q v (upd H a (.lst vs'))) → r (.ref a) ws H Q
def sMut (j : Nat) (g : List D → List D → Option (List D × D)) (fa : S (List R)) : S R := fun ρ0 => if (ownAt ρ0 j).isSome = true then S.bind fa (fun rs => S.bind (sFrzs rs) fun es => fun ρ => match ownAt ρ j with
  | some ds => (match g ds es with
    | some (ds', d) => some (.ok (.val (.dat d)) (ρ.set j (some (.own (dats ds')))))
    | none => none)
  | none => none) ρ0 else none
section
variable {T : Tx} {W : WX} {ta : TA} {fa : S (List R)}
theorem mut_go {r : V → List V → Hp → VK → Prop} {g : List D → List D → Option (List D × D)} {j : Nat} (m : MutR T r g) {σ : L2.St} {F H : Hp} {ρ : Ro} {as : List Addr} {a0 : Addr} {ws : List V} {es ds ds' : List D} {d : D} {Q : VK}
    (s : SR T σ F H ρ as) (hx : σ[j]? = some (some (.ref a0))) (h : ownAt ρ j = some ds) (dw : DRs T F ws es) (eg : g ds es = some (ds', d))
    (q : ∀ v H', Stp F H as F H' as → RS T σ F H' (ρ.set j (some (.own (dats ds')))) as v (.val (.dat d)) [] → Q v H') : tyV T.K "list" (.ref a0) H ∧ r (.ref a0) ws H Q := by
  obtain ⟨a, vs, hv, ha, dv, poke⟩ := s.poke h
  rw [hv] at hx
  cases hx
  refine ⟨.inl ⟨rfl, vs, SqL.of ha⟩, m F H a0 vs ws ds es ds' d Q s.sb ha dv dw eg fun v vs' dr' dd => ?_⟩
  obtain ⟨st, sr⟩ := poke vs' ds' dr'
  exact q v _ st ⟨sr.sl, .dat dd, sr.nd, sr.fr, sr.sb⟩
theorem Ev.mut {r : V → List V → Hp → VK → Prop} {g : List D → List D → Option (List D × D)} {j : Nat} (m : MutR T r g) (ha : EvA T W ta fa) : Ev T W (tBM T.K "list" r (tVar j) ta) (sMut j g fa) := by
  intro σ F H ρ as o Q s e x q
  unfold sMut at e
  cases h0 : ownAt ρ j with
  | none => simp [h0] at e
  | some ds0 =>
    simp only [h0, Option.isSome_some, if_true] at e
    obtain ⟨a0, vs0, hx, ha0, _, _⟩ := s.poke h0
    refine ⟨.ref a0, hx, .inl ⟨rfl, vs0, SqL.of ha0⟩, ?_⟩
    refine ha.bind s e x fun rs ρ1 vs F1 H1 ts as1 e1 s1 r1 x1 => ?_
    cases h1 : sFrzs rs ρ1 with
    | none => unfold S.bind at e1; rw [h1] at e1; cases e1
    | some o1 =>
      obtain ⟨es, ρ2, rfl⟩ := sFrzs_ok h1
      rw [S.bind_ok h1] at e1
      obtain ⟨F2, as2, st, sr, dr⟩ := frzs1 r1.sl r1.vw r1.nd r1.fr r1.sb h1
      try dsimp only at e1
      split at e1
      · rename_i ds hd
        split at e1
        · rename_i ds' d eg
          cases e1
          exact (mut_go m sr hx hd dr eg fun v H' st' rs' => q _ _ rfl v F2 H' [] as2 ((s1.trans st).trans st') rs').2
        · cases e1
      · cases e1
theorem Ev.mut0 {r : V → List V → Hp → VK → Prop} {g : List D → List D → Option (List D × D)} {j : Nat} (m : MutR T r g) : Ev T W (tBM0 T.K "list" r (tVar j)) (sMut j g sNil) := by
  intro σ F H ρ as o Q s e x q
  unfold sMut at e
  cases h0 : ownAt ρ j with
  | none => simp [h0] at e
  | some ds =>
    simp only [h0, Option.isSome_some, if_true] at e
    obtain ⟨a0, vs0, hx, ha0, _, _⟩ := s.poke h0
    have e1 : (match ownAt ρ j with
      | some ds => (match g ds [] with
        | some (ds', d) => some (O.ok (R.val (.dat d)) (ρ.set j (some (.own (dats ds')))))
        | none => none)
      | none => none) = some o := e
    rw [h0] at e1
    dsimp only at e1
    split at e1
    · rename_i ds' d eg
      cases e1
      exact ⟨.ref a0, hx, mut_go m s hx h0 .nil eg fun v H' st' rs' => q _ _ rfl v F H' [] as st' rs'⟩
    · cases e1
end
def mApp : List D → List D → Option (List D × D)
  | ds, [d] => if ds.length < sizeLine then some (ds ++ [d], .non) else none
  | _, _ => none
def mExt : List D → List D → Option (List D × D)
  | ds, [.lst es] => if ds.length + es.length ≤ sizeLine then some (ds ++ es, .non) else none
  | _, _ => none
def mPop : List D → List D → Option (List D × D)
  | ds, [] => (match ds[ds.length - 1]? with
    | some d => some (ds.dropLast, d)
    | none => none)
  | _, _ => none
def mPopAt : List D → List D → Option (List D × D)
  | ds, [.int i] => (match ixN ds.length i with
    | some k => (match ds[k]? with
      | some d => if ds.length ≤ sizeLine then some (ds.eraseIdx k, d) else none
      | none => none)
    | none => none)
  | _, _ => none
def mRev : List D → List D → Option (List D × D)
  | ds, [] => some (ds.reverse, .non)
  | _, _ => none
def mClr : List D → List D → Option (List D × D)
  | _, [] => some ([], .non)
  | _, _ => none
def mIns : List D → List D → Option (List D × D)
  | ds, [.int i, d] => if ds.length < sizeLine ∧ 0 ≤ i ∧ i < 2 ^ 63 then some (ds.take i.toNat ++ [d] ++ ds.drop i.toNat, .non) else none
  | _, _ => none
theorem DRs.one {T : Tx} {F : Hp} {ws : List V} {d : D} (h : DRs T F ws [d]) : ∃ w, ws = [w] ∧ DR T F w d := by
  cases h with
  | cons h r => cases r; exact ⟨_, rfl, h⟩
theorem DRs.two {T : Tx} {F : Hp} {ws : List V} {d e : D} (h : DRs T F ws [d, e]) : ∃ w x, ws = [w, x] ∧ DR T F w d ∧ DR T F x e := by
  cases h with
  | cons h r =>
    obtain ⟨x, rfl, h2⟩ := r.one
    exact ⟨_, _, rfl, h, h2⟩
theorem DRs.dropLast {T : Tx} {F : Hp} {vs : List V} {ds : List D} (h : DRs T F vs ds) : DRs T F vs.dropLast ds.dropLast := by
  rw [List.dropLast_eq_take, List.dropLast_eq_take, h.length]
  exact h.take _
theorem DRs.eraseIdx {T : Tx} {F : Hp} : ∀ {vs : List V} {ds : List D} (k : Nat), DRs T F vs ds → DRs T F (vs.eraseIdx k) (ds.eraseIdx k)
  | _, _, _, .nil => .nil
  | _, _, 0, .cons _ r => r
  | _, _, k + 1, .cons h r => .cons h (DRs.eraseIdx k r)
section
variable {T : Tx}
theorem mut_app : MutR T rAppend mApp := by
  intro F H a vs ws ds es ds' d Q sb ha hd he e q
  unfold mApp at e
  split at e
  · split at e
    · rename_i x hz
      cases e
      obtain ⟨w, rfl, hw⟩ := he.one
      exact ⟨a, vs, w, rfl, rfl, ha, by rw [hd.length]; exact hz, q _ _ (hd.append (.cons hw .nil)) .non⟩
    · cases e
  · cases e
theorem mut_ext : MutR T rExtend mExt := by
  intro F H a vs ws ds es ds' d Q sb ha hd he e q
  unfold mExt at e
  split at e
  · split at e
    · rename_i x hz
      cases e
      obtain ⟨w, rfl, hw⟩ := he.one
      cases hw with
      | lst hb hr => exact ⟨a, _, vs, _, rfl, rfl, ha, sb _ _ hb, by rw [hd.length, hr.length]; exact hz, q _ _ (hd.append hr) .non⟩
    · cases e
  · cases e
theorem mut_pop : MutR T rPop mPop := by
  intro F H a vs ws ds es ds' d Q sb ha hd he e q
  unfold mPop at e
  split at e
  · split at e
    · rename_i x hx
      cases e
      cases he
      obtain ⟨v, hv, dr⟩ := hd.get hx
      exact ⟨a, vs, v, rfl, rfl, ha, by rw [hd.length]; exact hv, q _ _ hd.dropLast dr⟩
    · cases e
  · cases e
theorem mut_popAt : MutR T rPopAt mPopAt := by
  intro F H a vs ws ds es ds' d Q sb ha hd he e q
  unfold mPopAt at e
  split at e
  · rename_i i
    split at e
    · rename_i k hk
      split at e
      · rename_i x hx
        split at e
        · rename_i hz
          cases e
          obtain ⟨w, rfl, hw⟩ := he.one
          cases hw
          obtain ⟨v, hv, dr⟩ := hd.get hx
          obtain ⟨h1, h2, h3, h4⟩ := ixN_seq hk
          have hn := line63
          exact ⟨a, vs, i, k, v, rfl, rfl, ha, by omega, by omega, by rw [hd.length]; exact h1, hv, q _ _ (hd.eraseIdx k) dr⟩
        · cases e
      · cases e
    · cases e
  · cases e
theorem mut_rev : MutR T rReverse mRev := by
  intro F H a vs ws ds es ds' d Q sb ha hd he e q
  unfold mRev at e
  split at e
  · cases e
    cases he
    exact ⟨a, vs, rfl, rfl, ha, q _ _ hd.reverse .non⟩
  · cases e
theorem mut_clr : MutR T rClear mClr := by
  intro F H a vs ws ds es ds' d Q sb ha hd he e q
  unfold mClr at e
  split at e
  · cases e
    cases he
    exact ⟨a, vs, rfl, rfl, ha, q _ _ .nil .non⟩
  · cases e
theorem mut_ins : MutR T (fun x vs H Q => ∃ (l : Addr) (xs : List V) (i : Int) (y : V), x = .ref l ∧ vs = [.int i, y] ∧ H l = some (.lst xs) ∧ xs.length < sizeLine ∧ 0 ≤ i ∧ i < 2 ^ 63 ∧
    Q .non (upd H l (.lst (xs.take i.toNat ++ [y] ++ xs.drop i.toNat)))) mIns := by
  intro F H a vs ws ds es ds' d Q sb ha hd he e q
  unfold mIns at e
  split at e
  · split at e
    · rename_i i x hz
      cases e
      obtain ⟨w, y, rfl, hw, hy⟩ := he.two
      cases hw
      exact ⟨a, vs, i, y, rfl, rfl, ha, by rw [hd.length]; exact hz.1, hz.2.1, hz.2.2, q _ _ (((hd.take _).append (.cons hy .nil)).append (hd.drop _)) .non⟩
    · cases e
  · cases e
end

/-! ### isinstance -/
def tyName : D → Option String
  | .non => some "NoneType"
  | .bl _ => some "bool"
  | .int _ => some "int"
  | .str _ => some "str"
  | .tup _ => some "tuple"
  | .lst _ => some "list"
  | .dk _ _ => some "dict"
  | .dt _ _ => some "dict"
  | _ => none
def isiB (a b : String) : Option Bool := if b = "int" ∨ b = "bool" ∨ b = "str" ∨ b = "tuple" ∨ b = "list" then some (a = b || (a = "bool" && b = "int")) else none
def gIsi : List C → Option C
  | [c, .dat (.ty n)] => (match tyName c.toD with
    | some a => (match isiB a n with
      | some b => some (.dat (.bl b))
      | none => none)
    | none => none)
  | _ => none
theorem isiB_ok : ∀ {a b : String} {r : Bool}, a = "NoneType" ∨ a = "bool" ∨ a = "int" ∨ a = "str" ∨ a = "tuple" ∨ a = "list" ∨ a = "dict" → isiB a b = some r → kitB a b = some r := by
  intro a b r ha h
  unfold isiB at h
  split at h
  · rename_i hb
    cases h
    rcases ha with rfl | rfl | rfl | rfl | rfl | rfl | rfl <;> rcases hb with rfl | rfl | rfl | rfl | rfl <;> decide +kernel
  · cases h
theorem tyName_in {d : D} {a : String} (h : tyName d = some a) : a = "NoneType" ∨ a = "bool" ∨ a = "int" ∨ a = "str" ∨ a = "tuple" ∨ a = "list" ∨ a = "dict" := by
  cases d <;> simp [tyName] at h <;> subst h <;> simp
theorem tyX_of {T : Tx} {H : Hp} {x : V} {d : D} {a : String} (h : DR T H x d) (e : tyName d = some a) : TyX T.K H x (.type a) := by
  cases h with
  | non => cases e; exact .base .non
  | bl b => cases e; exact .base (.bl b)
  | int i => cases e; exact .base (.int i)
  | str z => cases e; exact .base (.str z)
  | tup ha r =>
    cases e
    rcases ha with (ha | ⟨o, ha⟩) | ⟨o, its, n, hk, hc, _⟩
    · exact .base (.tup ha)
    · exact .fTuple ha
    · exact .kTuple hk hc
  | lst ha r => cases e; exact .base (.lst ha)
  | dk ha l r => cases e; exact .base (.dK ha)
  | dt ha l r => cases e; exact .base (.dT ha)
  | rol ha r => cases e
  | ins m ha l r => cases e
  | ty n => cases e
  | gl h => cases e
theorem lift_isi {T : Tx} : LiftC T (rIsi T.K) gIsi := by
  intro F H vs cs fp c Q sb h e q
  unfold gIsi at e
  split at e
  · rename_i c0 n
    obtain ⟨v, w, f, g, rfl, h1, h2⟩ := crs2 h
    split at e
    · rename_i a ea
      split at e
      · rename_i b eb
        cases e
        cases h2 with
        | dat h2 =>
          cases h2
          exact ⟨v, .ty n, .type a, .type n, b, rfl, .ty n, tyX_of (h1.look sb) ea, kit_ty (isiB_ok (tyName_in ea) eb), Fin2.dat sb q (.bl b)⟩
      · cases e
    · cases e
  · cases e
end L3
/-! L3k: targets with a star. -/
namespace L2
open PySem PySem.Spec PyProof.Rows
section
variable {prog : Program} {w : World} {A : Around} {E : Value → Shared → Prop}
theorem moved_eq {wr : List Addr} {s s' : Shared} (m : Moved wr (fun a b => b = a) s s') : s' = { s with heap := s'.heap, toks := s'.toks } := by
  obtain ⟨_, m2, m3, m4, _⟩ := m
  cases s
  cases s'
  dsimp only at m2 m3 m4
  subst m2 m3 m4
  rfl
/-- the first k of what an iterator yields -/
theorem draw_walk {I : Addr} {fp wr : List Addr} {n : Nat} {items : Array Value} {St : Nat → Heap → Prop} (W : Walks prog w A I fp wr n (fun i v => items[i]? = some v) St) : ∀ (k i : Nat) (s : Shared) (Q : List Value → Shared → Prop),
    St i s.heap → i + k ≤ n → n = items.size → (∀ h' tk, St (i + k) h' → (∀ b o, b ∉ wr → s.heap.get? b = some o → h'.get? b = some o) → Q ((items.toList.drop i).take k) { s with heap := h', toks := tk }) → wpAny (model prog w) A (draw (.ref I) k) Q E s
  | 0, i, s, Q, st, _, _, q => wpAny_pure (by simpa using q s.heap s.toks st fun _ _ _ e => e)
  | k + 1, i, s, Q, st, hk, hn, q => by
    show wpAny _ _ (pyNext (.ref I) >>= _) Q E s
    refine wpAny_bind (W.item i s _ _ (by omega) st fun v h1 tk1 hv st1 k1 => ?_)
    refine wpAny_bind (wpAny_holding (draw_walk W k (i + 1) _ _ st1 (by omega) hn fun h2 tk2 st2 k2 => wpAny_pure ?_))
    have hlt : i < items.size := by omega
    have hd : items.toList.drop i = v :: items.toList.drop (i + 1) := by
      have e : items[i] = v := by
        have := hv
        simp [hlt] at this
        exact this
      rw [← e]
      simp [List.drop_eq_getElem_cons, hlt]
    have := q h2 tk2 (by rw [show i + (k + 1) = i + 1 + k by omega]; exact st2) fun b o hb e => k2 b o hb (k1 b o hb e)
    rw [hd, List.take_succ_cons] at this
    exact this
theorem shiftW {I : Addr} {fp wr : List Addr} {n k : Nat} {items : Array Value} {St : Nat → Heap → Prop} (W : Walks prog w A I fp wr n (fun i v => items[i]? = some v) St) (hk : k ≤ n) : Walks prog w A I fp wr (n - k) (fun i v => items[k + i]? = some v) (fun i h => St (k + i) h) where
  sub := W.sub
  frame := fun i h h' st q => W.frame (k + i) h h' st q
  item := fun i s Q E hi st hQ => W.item (k + i) s Q E (by omega) st hQ
  done := fun s Q E st hQ => W.done s Q E (by rw [show k + (n - k) = n by omega] at st; exact st) hQ
  self := fun i s Q E st hQ => W.self (k + i) s Q E st hQ
theorem itemsOf_drop {items acc : Array Value} {k n : Nat} (hn : n = items.size) (hk : k ≤ n) (h : ItemsOf (fun i v => items[k + i]? = some v) acc (n - k)) : acc.toList = items.toList.drop k := by
  obtain ⟨h1, h2⟩ := h
  refine List.ext_getElem? fun i => ?_
  by_cases hi : i < acc.size
  · have := h2 i acc[i] (by simp [hi])
    simp [hi, this]
  · have e1 : acc.toList[i]? = none := by simp; omega
    have e2 : (items.toList.drop k)[i]? = none := by simp; omega
    rw [e1, e2]
end
/-- the values of a starred target: i ahead of it, n targets in all -/
def starV (i n : Nat) (xs : List V) (p : Addr) : List V := xs.take i ++ [.ref p] ++ (xs.drop i).drop (xs.length - i - (n - 1 - i))
def starMid (i n : Nat) (xs : List V) : List V := (xs.drop i).take (xs.length - i - (n - 1 - i))
section
variable {X : Cx} {pins : List (Addr × Obj)} {σ : St} {H : Hp} {s : Shared}
theorem Vals.dropN {xs : List V} {us : List Value} (h : Vals xs us) : ∀ k, Vals (xs.drop k) (us.drop k) := fun k => Vals.drop k h
theorem star_rest {a it : Addr} {T : String} {items : Array Value} {xs : List V} {i n : Nat} {St : Nat → Heap → Prop} {Q : List Value → Shared → Prop} {oi : Obj} (hT : T = "list_iterator" ∨ T = "tuple_iterator") (hit : it = s.heap.objs.size)
    (I : Inv X pins σ H s) (rv : Vals xs items.toList) (hz : items.size ≤ sizeLine) (hin : i < n) (hle : n - 1 ≤ items.size)
    (W1 : Walks X.prog X.w X.A it [it, a] [it] items.size (fun i v => items[i]? = some v) St) (W2 : Walks X.prog X.w X.A.in1 it [it, a] [it] items.size (fun i v => items[i]? = some v) St)
    (st : St 0 (s.heap.push oi)) (ty : ∀ (i : Nat) (s : Shared), St i s.heap → s.TypeIs (.ref it) T) (ha : ∃ o, s.heap.get? a = some o)
    (q' : ∀ p us s', H p = none → Inv X pins σ (upd H p (.lst (starMid i n xs))) s' → Vals (starV i n xs p) us → Q us s') :
    wpAny (model X.prog X.w) X.A (do
      let first ← holding [.ref it] (draw (.ref it) i)
      if first.length < i then
        rule "unpack.star.too-few-before"
        raiseError "ValueError" s!"not enough values to unpack (expected at least {n - 1}, got {first.length})"
      let rest ← holding first (collect (.ref it))
      let after := n - 1 - i
      if rest.length < after then
        rule "unpack.star.too-few"
        raiseError "ValueError" s!"not enough values to unpack (expected at least {n - 1}, got {i + rest.length})"
      let mid := rest.length - after
      return first ++ [← newList (rest.take mid)] ++ rest.drop mid) Q X.xe { s with heap := s.heap.push oi } := by
  have hl := rv.length
  have hsz : items.toList.length = items.size := by simp
  refine wpAny_bind (wpAny_holding (draw_walk W1 i 0 _ _ st (by omega) rfl fun h1 tk1 st1 k1 => ?_))
  rw [Nat.zero_add] at st1
  have hlen : ((items.toList.drop 0).take i).length = i := by simp; omega
  rw [if_neg (by rw [hlen]; omega)]
  refine wpAny_bind (wpAny_holding ?_)
  have hlt : it < h1.objs.size := by
    obtain ⟨o, ho, _⟩ := ty i { s with heap := h1, toks := tk1 } st1
    exact Heap.lt_size ho
  have hla : ∀ b ∈ [it, a], b < h1.objs.size := fun b hb => by
    rcases List.mem_cons.mp hb with e | hb
    · rw [e]; exact hlt
    · rw [List.mem_singleton.mp hb]
      obtain ⟨o, eo⟩ := ha
      exact Heap.lt_size (k1 a o (fun m => by rw [List.mem_singleton.mp m, hit] at eo; exact absurd (Heap.lt_size eo) (Nat.lt_irrefl _)) (Heap.get?_push_of_some _ eo))
  refine wpAny_collect_iter (T := T) (by rcases hT with e | e <;> simp [e]) (shiftW W2 (k := i) (by omega)).toS (fun j s' z => ty _ s' z) (by simpa using st1) hla (by simp) (fun s' acc mv hacc => ?_) (by omega)
  have eacc := itemsOf_drop rfl (by omega) hacc
  have es := moved_eq mv
  rw [eacc]
  have hlen2 : (items.toList.drop i).length = items.size - i := by simp
  rw [if_neg (by rw [hlen2]; omega), hlen2]
  have kk : ∀ b o, s.heap.get? b = some o → s'.heap.get? b = some o := fun b o e => by
    have hb : b ∉ [it] := fun m => by
      rw [List.mem_singleton.mp m, hit] at e
      exact absurd (Heap.lt_size e) (Nat.lt_irrefl _)
    exact mv.heap b o hb (k1 b o hb (Heap.get?_push_of_some _ e))
  have I1 : Inv X pins σ H s' := by
    rw [es]
    exact I.kept kk
  have rv2 : Vals (starMid i n xs) ((items.toList.drop i).take (items.size - i - (n - 1 - i))) := by
    unfold starMid
    rw [show xs.length = items.size by omega]
    exact (rv.drop i).take _
  refine wpAny_bind (wpAny_newList ?_)
  have hzz : (starMid i n xs).length ≤ sizeLine := by
    unfold starMid
    rw [List.length_take, List.length_drop]
    omega
  have I2 := I1.lnew (t' := s'.toks) rv2 hzz
  refine wpAny_pure (q' s'.heap.objs.size _ _ I1.fresh I2 ?_)
  unfold starV
  rw [show xs.length = items.size by omega, List.drop_zero]
  refine Vals.append (Vals.append (rv.take i) (.cons rfl .nil)) ((rv.drop i).drop _)
/-- a starred target over a list or a tuple: the middle is a new list -/
def gStar (K : PySem.W.Frag) (i n : Nat) (t : TGs) : TG := fun v σ H Q => ∃ a xs, v = .ref a ∧ (SqL K H a xs ∨ SqT K H a xs) ∧ n ≤ xs.length + 1 ∧ ∀ p, H p = none → t (starV i n xs p) σ (upd H p (.lst (starMid i n xs))) Q
theorem pgs_consS {e : Expr} {p : Pos} {es : List Expr} {t : TG} {u : TGs} (h1 : PG X e t) (h2 : PGs X es u)
    (hs : (assignEach (.Starred e p :: es) X.env).map (·.2) = assign e X.env :: (assignEach es X.env).map (·.2) := by rfl) : PGs X (.Starred e p :: es) (gCons t u) := by
  refine ⟨fun pins s σ H vs us Q I r h => ?_⟩
  obtain ⟨v, vr, rfl, h⟩ := h
  cases r with
  | cons r rr =>
    rw [hs]
    exact assignInOrder_cons (thn (h1.run pins s σ H _ _ _ I r h) fun _ s1 ⟨σ1, H1, I1, q1⟩ => h2.run pins s1 σ1 H1 _ _ Q I1 rr q1)
theorem pg_star {es : List Expr} {k : Nat} {pos : Pos} {t : TGs} {i n : Nat} (hc : X.calm = true) (h : PGs X es t) (hn : (assignEach es X.env).length = n := by rfl) (hst : (assignEach es X.env).findIdx? (·.1) = some i := by rfl) (hin : i < n := by decide) :
    PG X (.Tuple es k pos) (gStar X.K i n t) := by
  refine ⟨fun pins s σ H v u Q I r hw => ?_⟩
  obtain ⟨a, xs, rfl, hq, hle, hw⟩ := hw
  obtain rfl : u = Value.ref a := r
  rw [assign_Tuple]
  refine wpAny_bind (wpAny_standAt ?_)
  unfold unpack
  rw [hn, hst]
  refine wpAny_bind (wpAny_holding ?_)
  have fin : ∀ p us s', H p = none → Inv X pins σ (upd H p (.lst (starMid i n xs))) s' → Vals (starV i n xs p) us → wpAny (model X.prog X.w) X.A (assignInOrder ((assignEach es X.env).map (·.2)) us) (fun _ s' => ∃ σ' H', Inv X pins σ' H' s' ∧ Q σ' H') X.xe s' :=
    fun p us s' hp I' rv => h.run pins s' σ _ _ us Q I' rv (hw p hp)
  have hh := I.ok.hd hc
  rcases hq with hq | hq
  · obtain ⟨its, rv, pl, hz⟩ := I.list hq
    have hl := rv.length
    unfold unpackItems notIterableAtAll
    refine wpAny_bind (wpAny_bind (wpAny_specialOf pl.isList.typeIs slot_list_iter.lookup (wpAny_pure ?_)))
    simp only [Bool.false_eq_true, if_false]
    refine wpAny_bind (wpAny_holding (wpAny_pyIter_list pl.isList ?_))
    have ia : ∃ o, s.heap.get? a = some o := let ⟨o, ho, _⟩ := pl.isList; ⟨o, ho⟩
    have hne : a ≠ s.heap.objs.size := let ⟨o, ho⟩ := ia; Nat.ne_of_lt (Heap.lt_size ho)
    exact star_rest (items := its.toArray) (T := "list_iterator") (.inl rfl) rfl I (by simpa using rv) (by simp only [List.size_toArray]; omega) hin (by simp only [List.size_toArray]; omega)
      (Walks.list hh _ a hne its.toArray) (Walks.list (A := X.A.in1) hh _ a hne its.toArray) ⟨⟨_, Heap.get?_push_size _ rfl, rfl, rfl⟩, pl.isList.at fun o e => Heap.get?_push_of_some _ e⟩
      (fun i s st => let ⟨o, ho, hc, _⟩ := st.1; ⟨o, ho, hc⟩) ia fin
  · obtain ⟨its, rv, pl, hz⟩ := I.tuple hq
    have hl := rv.length
    have pl' : s.heap.IsTuple a its.toArray := pl
    unfold unpackItems notIterableAtAll
    refine wpAny_bind (wpAny_bind (wpAny_specialOf pl'.typeIs slot_tuple_iter.lookup (wpAny_pure ?_)))
    simp only [Bool.false_eq_true, if_false]
    refine wpAny_bind (wpAny_holding (wpAny_pyIter_tuple pl' ?_))
    have ia : ∃ o, s.heap.get? a = some o := let ⟨o, ho, _⟩ := pl'; ⟨o, ho⟩
    have hne : a ≠ s.heap.objs.size := let ⟨o, ho⟩ := ia; Nat.ne_of_lt (Heap.lt_size ho)
    exact star_rest (items := its.toArray) (T := "tuple_iterator") (.inr rfl) rfl I (by simpa using rv) (by simp only [List.size_toArray]; omega) hin (by simp only [List.size_toArray]; omega)
      (Walks.tuple hh _ a hne its.toArray) (Walks.tuple (A := X.A.in1) hh _ a hne its.toArray) ⟨⟨_, Heap.get?_push_size _ rfl, rfl, rfl⟩, pl'.at fun o e => Heap.get?_push_of_some _ e⟩
      (fun i s st => let ⟨o, ho, hc, _⟩ := st.1; ⟨o, ho, hc⟩) ia fin
end
end L2
namespace L3
open PySem L2
/-- a starred target: the middle is a new list, frozen -/
def fgStar (i n : Nat) (g : List D → Ro → Option Ro) : D → Ro → Option Ro := fun d ρ => match (match d with
  | .lst ds => some ds
  | .tup ds => some ds
  | .rol ds => some ds
  | _ => none) with
  | some ds => if n ≤ ds.length + 1 then g (ds.take i ++ [.lst ((ds.drop i).take (ds.length - i - (n - 1 - i)))] ++ (ds.drop i).drop (ds.length - i - (n - 1 - i))) ρ else none
  | none => none
theorem EvG.star {T : Tx} {Z : List Nat} {i n : Nat} {gs : TGs} {fs : List D → Ro → Option Ro} (h : EvGs T Z gs fs) : EvG T Z (L2.gStar T.K i n gs) (fgStar i n fs) := by
  intro σ F H ρ as v d ρ' Q s hd e q
  have inv : ∃ a vs ds, v = .ref a ∧ (SqL T.K F a vs ∨ SqT T.K F a vs) ∧ DRs T F vs ds ∧ n ≤ ds.length + 1 ∧ fs (ds.take i ++ [.lst ((ds.drop i).take (ds.length - i - (n - 1 - i)))] ++ (ds.drop i).drop (ds.length - i - (n - 1 - i))) ρ = some ρ' := by
    unfold fgStar at e
    cases d with
    | lst ds =>
      dsimp only at e
      by_cases hn : n ≤ ds.length + 1
      · rw [if_pos hn] at e
        cases hd with
        | lst ha r => exact ⟨_, _, ds, rfl, .inl (SqL.of ha), r, hn, e⟩
      · rw [if_neg hn] at e; cases e
    | tup ds =>
      dsimp only at e
      by_cases hn : n ≤ ds.length + 1
      · rw [if_pos hn] at e
        cases hd with
        | tup ha r => exact ⟨_, _, ds, rfl, .inr ha, r, hn, e⟩
      · rw [if_neg hn] at e; cases e
    | rol ds =>
      dsimp only at e
      by_cases hn : n ≤ ds.length + 1
      · rw [if_pos hn] at e
        cases hd with
        | rol ha r => exact ⟨_, _, ds, rfl, .inl ha, r, hn, e⟩
      · rw [if_neg hn] at e; cases e
    | _ => cases e
  obtain ⟨a, vs, ds, rfl, hq, r, hn, e1⟩ := inv
  refine ⟨a, vs, rfl, ?_, by rw [r.length]; exact hn, fun p hp => ?_⟩
  · rcases hq with hq | hq
    · exact .inl (ext_sl s.sb hq)
    · exact .inr (ext_st s.sb hq)
  have dm : DRs T F (L2.starMid i n vs) ((ds.drop i).take (ds.length - i - (n - 1 - i))) := by
    unfold L2.starMid
    rw [r.length]
    exact (r.drop i).take _
  have nw := Nw.frozen (F := F) (o := .lst (L2.starMid i n vs)) s.sb hp
  have r' := r.ext nw.ext
  have dr : DRs T (upd F p (.lst (L2.starMid i n vs))) (L2.starV i n vs p) (ds.take i ++ [.lst ((ds.drop i).take (ds.length - i - (n - 1 - i)))] ++ (ds.drop i).drop (ds.length - i - (n - 1 - i))) := by
    unfold L2.starV
    rw [r.length]
    refine ((r'.take i).append (.cons (.lst upd_same (dm.ext nw.ext)) .nil)).append ((r'.drop i).drop _)
  exact h σ _ _ ρ as _ _ ρ' Q (s.new nw) dr e1 fun σ' F' H' as' n' s' sub kp => q σ' F' H' as' (nw.trans n') s' sub kp
end L3
/-! L3m: sets of numbers by comprehension, their lengths. -/
namespace L2
open PySem PySem.Spec PyProof.Rows
section
variable {X : Cx}
/-- {elt for target in iter if ..} of keys, then what the set at D is used for -/
def tScK (P : Program) (w : World) (wi : TI) (g : TG) (tt : TT) (te : TE) (vs : List Nat) : TE := fun σ H Q => wi σ H fun J H1 => ∀ D, H1 D = none → ∃ W : Nat → Nat → Hp → Prop, (∃ m, W 0 m (upd H1 D (SetK P w D (fun _ => false) 0))) ∧ ∀ i m H, W i m H →
  (J.stop i H ∧ Q (.ref D) H) ∨ (J.go i H ∧ ∃ Nx : Hp → Prop, (∀ H', Nx H' → ∃ m', m' < m ∧ W (i + 1) m' H') ∧ ∀ x H', J.yld i H x H' → g x (wipe σ vs) H' fun σ2 H2 => wipe σ2 vs = wipe σ vs ∧ tt σ2 H2 fun b H3 =>
    if b = true then te σ2 H3 fun y H4 => rSAddK P w (.ref D) [y] H4 fun _ H5 => Nx H5 else Nx H3)
theorem setK_fresh {P : Program} {w : World} {h : Heap} {led : Bool} : (h.push { cls := .type "set", dict := none, data := .set #[] 0 (.fresh 0 0 led) }).SetOf (mixKind P w) h.objs.size (fun _ => false) 0 :=
  ⟨_, #[], 0, _, Heap.get?_push_size _ rfl, ⟨rfl, rfl, rfl⟩, rfl, (fun e he => by simp at he), (fun k => by simp), (by decide), (by rfl), rfl⟩
theorem pe_scK {elt tg iter : Expr} {ifs : List Expr} {scope : Scope} {own : List (Str × Nat)} {pos : Pos} {wi : TI} {g : TG} {tt : TT} {te : TE} (hc : X.calm = true) (hN : X.N.Nodup) (hi : PI X tg iter wi) (ok : BlkOk X.N X.env.scope scope own)
    (hg : ∀ (s : Shared) (H : Hp) (C : Addr) (cl : List (Str × Addr)) (fp : List Addr), PG (X.blk s H scope (compEnvC scope cl C X.env) fp) tg g) (ht : ∀ (s : Shared) (H : Hp) (C : Addr) (cl : List (Str × Addr)) (fp : List Addr), PTs (X.blk s H scope (compEnvC scope cl C X.env) fp) ifs tt)
    (he : ∀ (s : Shared) (H : Hp) (C : Addr) (cl : List (Str × Addr)) (fp : List Addr), PE (X.blk s H scope (compEnvC scope cl C X.env) fp) elt te) (hs : ∀ x, foldedSetIterable iter X.env x = pure x := by intro _; rfl) :
    PE X (.SetComp elt [⟨tg, iter, ifs, 0⟩] scope pos) (tScK X.prog X.w wi g tt te (own.map (·.2))) := by
  refine ⟨fun pins s0 σ H0 Q I0 h => ?_⟩
  rw [PpSet.eval_SetComp]
  have cells : ∀ y ∈ scope.names, y.2 = .free → ∃ c, X.env.cells.lookup y.1 = some c := fun y hy e => I0.ok.has _ (ok.free y hy e)
  refine wpAny_comprehension_free (use := none) rfl hs (closure_ok cells) ok.kind (fun y hy e => by rw [ok.uniq y hy, e]) (thn (hi.run pins s0 σ H0 _ I0 h) fun xv sx hx => thn hx fun itv sa ha => ?_)
  obtain ⟨it, fp, tn, J, Ha, rfl, Ia, T, sta, fa, q⟩ := ha
  refine PpSet.newSet_ok (newEnv_comp ?_)
  generalize eD : sa.heap.objs.size = D
  obtain ⟨W, ⟨m0, w0⟩, turn⟩ := q D (Ia.hok.fresh (Nat.le_of_eq eD))
  generalize es : ({ sa with heap := sa.heap.push { cls := .type "set", dict := none, data := .set #[] 0 (.fresh 0 0 (!X.w.params.followText "set-order")) } } : Shared) = sb
  have hb : sb.heap = sa.heap.push { cls := .type "set", dict := none, data := .set #[] 0 (.fresh 0 0 (!X.w.params.followText "set-order")) } := by rw [← es]
  have Ib : Inv X pins σ (upd Ha D (SetK X.prog X.w D (fun _ => false) 0)) sb := by
    rw [← es, ← eD]
    exact Ia.laid (t' := sa.toks) (fun b o e => Heap.get?_push_of_some _ e) (Nat.le_refl _) (setK_new setK_fresh)
  have keepB : ∀ b o, sa.heap.get? b = some o → sb.heap.get? b = some o := fun b o e => by rw [hb]; exact Heap.get?_push_of_some _ e
  have fb : ∀ b ∈ fp, FpOk X pins (upd Ha D (SetK X.prog X.w D (fun _ => false) 0)) b ∧ b < sb.heap.objs.size := fun b hm => by
    obtain ⟨o, e, _⟩ := T.obj _ _ sta b hm
    have lt := Heap.lt_size e
    refine ⟨⟨?_, (fa b hm).2⟩, Heap.lt_size (keepB b o e)⟩
    rw [upd_ne (by rw [← eD]; exact Nat.ne_of_lt lt)]
    exact (fa b hm).1
  have stb : tn 0 sb.heap := T.keep _ _ _ sta fun b _ o e => keepB b o e
  have Ic := block_start Ib ok hN fb
  have pg := hg sb (upd Ha D (SetK X.prog X.w D (fun _ => false) 0)) sb.heap.objs.size (cellsFrom (sb.heap.objs.size + 1) scope.names (cloFrom X.env.cells scope.names [])) fp
  have pt := ht sb (upd Ha D (SetK X.prog X.w D (fun _ => false) 0)) sb.heap.objs.size (cellsFrom (sb.heap.objs.size + 1) scope.names (cloFrom X.env.cells scope.names [])) fp
  have pe := he sb (upd Ha D (SetK X.prog X.w D (fun _ => false) 0)) sb.heap.objs.size (cellsFrom (sb.heap.objs.size + 1) scope.names (cloFrom X.env.cells scope.names [])) fp
  show codeAny _ _ (.compStart (.SetComp elt [⟨tg, iter, ifs, 0⟩] scope pos) 0 (.ref it) (.ref D) (compEnvC scope (cellsFrom (sb.heap.objs.size + 1) scope.names (cloFrom X.env.cells scope.names [])) sb.heap.objs.size X.env)) (compPost (model X.prog X.w) X.A X.xe none (EP X pins σ Q) (.ref D) sb.heap.objs.size) { sb with heap := pushCells (sb.heap.push { cls := .type "dict", data := .dict #[] }) scope.names }
  generalize hce : compEnvC scope (cellsFrom (sb.heap.objs.size + 1) scope.names (cloFrom X.env.cells scope.names [])) sb.heap.objs.size X.env = ce at Ic pg pt pe ⊢
  have cL : ce.locals = sb.heap.objs.size := by subst hce; rfl
  generalize hHb : upd Ha D (SetK X.prog X.w D (fun _ => false) 0) = Hb at Ib Ic pg pt pe w0 fb
  generalize hsc : ({ sb with heap := pushCells (sb.heap.push { cls := .type "dict", data := .dict #[] }) scope.names } : Shared) = sc at Ic ⊢
  have stc : tn 0 sc.heap := T.keep _ _ _ stb fun b _ o e => by rw [← hsc]; exact pushCells_keeps _ _ _ _ (Heap.get?_push_of_some _ e)
  have here : ∀ {σ' : St} {H' : Hp} {s' : Shared}, Inv (X.blk sb Hb scope ce fp) [] σ' H' s' → (∀ b ∈ fp, H' b = none) → ∀ b ∈ fp, FpOk (X.blk sb Hb scope ce fp) [] H' b := fun {σ' H' s'} I' hn b hm =>
    ⟨hn b hm, (I'.ok.exf b hm).1, I'.ok.exfs b hm, .inl hm, fun x c e => (I'.ok.exf b hm).2 x c e, fun p hp => absurd (show p ∈ ([] : List (Addr × Obj)) ++ [] from hp) (by simp)⟩
  have loop : codeAny (model X.prog X.w) X.A (.compLoop (.SetComp elt [⟨tg, iter, ifs, 0⟩] scope pos) 0 (.ref it) (.ref D) ce) (compPost (model X.prog X.w) X.A X.xe none (EP X pins σ Q) (.ref D) sb.heap.objs.size) sc := by
    refine PpSet.compLoopS_any (fun n s' => ∃ i H', Inv (X.blk sb Hb scope ce fp) [] (wipe σ (own.map (·.2))) H' s' ∧ tn i s'.heap ∧ (∀ b ∈ fp, H' b = none) ∧ W i n H') ?_ m0 ⟨0, Hb, Ic, stc, fun b hm => (fb b hm).1.1, w0⟩
    rintro n s5 ⟨i, H5, I5, st5, n5, w5⟩
    rcases turn i n H5 w5 with ⟨stop, qq⟩ | ⟨go, Nx, hNx, step⟩
    · refine thnF (T.done (X.blk sb Hb scope ce fp) rfl rfl rfl hc i [] s5 _ H5 (fun _ _ => False) I5 (here I5 n5) st5 stop) fun r s6 ⟨hr, I6⟩ => ?_
      subst hr
      have I7 : Inv X pins σ H5 s6 := Ib.call' (ch := fp) I6.os I6.base I6.hok I6.bare fun b hm => ⟨(fb b hm).1.2.2.2.1, (fb b hm).1.2.1, (fb b hm).1.2.2.2.2.1, (fb b hm).1.2.2.2.2.2⟩
      have nC : H5 sb.heap.objs.size = none := by
        have z : H5 ce.locals = none := I6.free
        rw [cL] at z
        exact z
      obtain ⟨m, hn, _⟩ := I6.loc
      have hn : s6.heap.Ns ce.locals m := hn
      rw [cL] at hn
      obtain ⟨f0, f1, f2, f3, f4, f5⟩ := Ib.fpOk (Nat.le_refl _) nC
      exact ⟨m, hn, fun h'' sbt => ⟨.ref D, H5, I7.turned (t' := s6.toks) (fun b o hm e => (sbt.2 b hm).trans e) f0 f1 f3 f4 f5, rfl, qq⟩⟩
    · refine thnF (T.item (X.blk sb Hb scope ce fp) rfl rfl rfl hc i [] s5 _ H5 (fun _ _ => False) I5 (here I5 n5) st5 go) fun r s6 ⟨u, hr, h6⟩ => ?_
      subst hr
      refine thnF h6 fun _ s7 ⟨x, H7, I7, r7, y7, st7, n7⟩ => ?_
      refine thnF (pg.run _ s7 _ H7 x u _ (I7.pinned (here I7 n7) (T.obj _ _ st7)) r7 (step x H7 y7)) fun _ s8 ⟨σ8, H8, I8, hw8, q8⟩ => ?_
      refine thnF (pt.run _ s8 σ8 H8 _ I8 q8) fun b s9 ⟨H9, I9, q9⟩ => ?_
      have fin : ∀ {s' : Shared} {H' : Hp}, Inv (X.blk sb Hb scope ce fp) ([] ++ pinsAt fp s7.heap) σ8 H' s' → Nx H' → ∃ m, m < n ∧ ∃ i H', Inv (X.blk sb Hb scope ce fp) [] (wipe σ (own.map (·.2))) H' s' ∧ tn i s'.heap ∧ (∀ b ∈ fp, H' b = none) ∧ W i m H' := fun {s' H'} I' nx => by
        obtain ⟨m', hm', w'⟩ := hNx H' nx
        have pinned : ∀ b ∈ fp, ∀ o, s7.heap.get? b = some o → s'.heap.get? b = some o ∧ H' b = none := fun b hm o e => by
          have z := I'.pin (b, o) (List.mem_append_right _ (List.mem_append_right _ (mem_pinsAt hm e)))
          exact ⟨z.1, z.2.1⟩
        refine ⟨m', hm', i + 1, H', (I'.unpinned (pins := [])).weak (by rw [← hw8, wipe_length]) (fun j v e => ?_), T.keep _ _ _ st7 fun b hm o e => (pinned b hm o e).1, fun b hm => ?_, w'⟩
        · rw [← hw8] at e
          exact (wipe_some e).1
        · obtain ⟨o, e, _⟩ := T.obj _ _ st7 b hm
          exact (pinned b hm o e).2
      cases b with
      | false => exact fin I9 q9
      | true => exact thnF (pe.run _ s9 σ8 H9 _ I9 q9) fun z s10 ⟨y, H10, I10, r10, ad⟩ => thnF (mt_saddK (X := { X.blk sb Hb scope ce fp with xe := fun _ _ => False }) _ s10 σ8 H10 (.ref D) [y] (.ref D) [z] _ I10 rfl (.cons r10 .nil) ad) fun _ s11 ⟨_, H11, I11, _, nx⟩ => fin I11 nx
  exact PpSet.codeAny_compStart_set loop (T.self X.A 0 _ _ _ stc loop)
def rLenSK (P : Program) (w : World) : List V → Hp → VK → Prop := fun xs H Q => ∃ a S n, xs = [.ref a] ∧ H a = some (SetK P w a S n) ∧ n < 4096 ∧ Q (.int (n : Nat)) H
theorem call_lenSK : CallR X (.builtin "len") (rLenSK X.prog X.w) := by
  intro pins s σ H xs us Q I r h
  obtain ⟨a, S, n, rfl, ha, hn, q⟩ := h
  obtain ⟨u, rfl, ru⟩ := vals1 r
  obtain rfl : u = Value.ref a := ru
  obtain ⟨o, es, ep, t, ho, hex, hd, _, _, _, hf, hz⟩ := setK_get I ha
  exact call_len_set ho hex hd hf (by rw [hz]; omega) ⟨.int n, H, I.tok _, ⟨_, by rw [hz]⟩, q⟩
end
end L2
/-! L3n: the length of a set comprehension of numbers; while. -/
namespace L3
open PySem L2
def addK (seen : List Int) (k : Int) : List Int := if k ∈ seen then seen else k :: seen
def sLenSc (fi : S (List D)) (fg : D → Ro → Option Ro) (ft : S Bool) (fe : S R) (vs : List Nat) : S R := S.bind fi fun ds => fun ρ =>
  if ds.length < 4000 then (match lcLoop fg ft fe vs ds (wipeR ρ vs) with
    | some (ys, ρ') => (match nums ys with
      | some ns => some (.ok (.val (.dat (.int ((ns.foldl addK []).length : Nat)))) (backR (fun i => vs.contains i) ρ ρ'))
      | none => none)
    | none => none) else none
def inSeen (seen : List Int) : L2.Key → Bool
  | .inl i => decide (i ∈ seen)
  | .inr _ => false
structure LJ (T : Tx) (σw : L2.St) (F1 : Hp) (H1 : Hp) (as1 : List Addr) (D : Addr) (F H : Hp) (ρ : Ro) (as : List Addr) (u : HO) : Prop where
  st : Stp F1 H1 as1 F H (D :: as)
  sr : SR T σw F H ρ as
  nD : D ∉ as
  fD : F D = none
  at_ : H D = some u
section
variable {T : Tx} {W : WX} {σw σ2 : L2.St} {F1 H1 F H F2 H2 : Hp} {as1 as as2 : List Addr} {D : Addr} {ρ ρ2 : Ro} {u u' : HO}
theorem LJ.step (l : LJ T σw F1 H1 as1 D F H ρ as u) (s : Stp F H as F2 H2 as2) (r : SR T σ2 F2 H2 ρ2 as2) : LJ T σ2 F1 H1 as1 D F2 H2 ρ2 as2 u := by
  refine ⟨l.st.trans (s.mono (fun a m => List.mem_cons_of_mem _ m) fun a m => ?_), r, fun m => ?_, ?_, s.frm D _ l.at_ l.nD⟩
  · rcases List.mem_cons.mp m with m | m
    · exact .inr (by simp [m])
    · exact .inl m
  · rcases s.newA D m with q | q
    · rw [l.at_] at q; cases q
    · exact l.nD q
  · cases q : F2 D with
    | none => rfl
    | some o =>
      rcases s.newF D o q with ⟨u, z⟩ | z | z
      · rw [l.fD] at z; cases z
      · rw [l.at_] at z; cases z
      · exact absurd z l.nD
theorem LJ.wipe (l : LJ T σw F1 H1 as1 D F H ρ as u) (vs : List Nat) : ∃ as2, LJ T (L2.wipe σw vs) F1 H1 as1 D F H (wipeR ρ vs) as2 u := by
  obtain ⟨as2, sub, s2⟩ := l.sr.wipe vs
  refine ⟨as2, l.st.mono (fun a m => m) fun a m => .inl ?_, s2, fun m => l.nD (sub.subset m), l.fD, l.at_⟩
  rcases List.mem_cons.mp m with m | m
  · simp [m]
  · exact List.mem_cons_of_mem _ (sub.subset m)
/-- the object at D becomes another -/
theorem LJ.put (l : LJ T σw F1 H1 as1 D F H ρ as u) (hD : H1 D = none) : LJ T σw F1 H1 as1 D F (upd H D u') ρ as u' := by
  have ne : ∀ a o, F a = some o → a ≠ D := fun a o e z => by subst z; rw [l.fD] at e; cases e
  refine ⟨⟨l.st.ext, fun a o h m => ?_, l.st.newF, l.st.newA⟩, ⟨l.sr.sl.frame (Ext.refl _) fun a m => upd_ne fun q => l.nD (q ▸ m), l.sr.nd, l.sr.fr, fun a o h => ?_⟩, l.nD, l.fD, upd_same⟩
  · rw [upd_ne fun q => by subst q; rw [hD] at h; cases h]
    exact l.st.frm a o h m
  · rw [upd_ne (ne a o h)]; exact l.sr.sb a o h
theorem LJ.new {σ : L2.St} (r1 : SR T σ F1 H1 ρ as1) (hD : H1 D = none) : LJ T σ F1 H1 as1 D F1 (upd H1 D u) ρ as1 u := by
  have pD : D ∉ as1 := fun m => by
    obtain ⟨o, eo⟩ := r1.sl.there D m
    rw [hD] at eo; cases eo
  exact ⟨⟨Ext.refl F1, fun a o h _ => Ext.new hD a o h, fun a o h => .inl ⟨o, h⟩, fun a m => by
    rcases List.mem_cons.mp m with m | m
    · subst m; exact .inl hD
    · exact .inr m⟩, ⟨r1.sl.frame (Ext.refl F1) fun a m => upd_ne fun z => pD (z ▸ m), r1.nd, r1.fr, r1.sb.trans (Ext.new hD)⟩, pD, r1.sb.none hD, upd_same⟩
theorem addK_len (seen : List Int) (k : Int) : (addK seen k).length ≤ seen.length + 1 := by
  unfold addK
  split
  · omega
  · simp
theorem set_step (seen : List Int) (k : Int) : (fun j : L2.Key => inSeen seen j || decide (j = Sum.inl k)) = inSeen (addK seen k) := by
  funext j
  rw [Bool.eq_iff_iff, Bool.or_eq_true, decide_eq_true_eq]
  cases j with
  | inl i =>
    show decide (i ∈ seen) = true ∨ _ ↔ decide (i ∈ addK seen k) = true
    rw [decide_eq_true_eq, decide_eq_true_eq]
    unfold addK
    split
    · rename_i h
      constructor
      · rintro (h' | e)
        · exact h'
        · cases e; exact h
      · exact .inl
    · simp only [List.mem_cons]
      constructor
      · rintro (h' | e)
        · exact .inr h'
        · cases e; exact .inl rfl
      · rintro (rfl | h')
        · exact .inr rfl
        · exact .inl h'
  | inr x =>
    show false = true ∨ _ ↔ false = true
    constructor
    · rintro (h | h)
      · exact h
      · cases h
    · exact .inl
theorem num_step (seen : List Int) (k : Int) : (if inSeen seen (Sum.inl k) = true then seen.length else seen.length + 1) = (addK seen k).length := by
  have e : inSeen seen (Sum.inl k) = decide (k ∈ seen) := rfl
  rw [e]
  unfold addK
  by_cases h : k ∈ seen
  · rw [if_pos h, if_pos (decide_eq_true h)]
  · rw [if_neg h, if_neg (by rw [decide_eq_true_eq]; exact h)]
    rfl
theorem Ev.lenSc (P : Program) (w : World) {Z : List Nat} {wi : TI} {fi : S (List L3.D)} {g : TG} {fg : L3.D → Ro → Option Ro} {tt : TT} {ft : S Bool} {te : TE} {fe : S R} {vs : List Nat} {W' : WX} (hi : EvI T W wi fi) (hg : EvG T Z g fg) (hz : ∀ i ∈ Z, i ∈ vs) (ht : EvT T W' tt ft) (he : Ev T W' te fe) :
    Ev T W (tCB (rLenSK P w) (tCons (tScK P w wi g tt te vs) tNil)) (sLenSc fi fg ft fe vs) := by
  intro σ F0 H0 ρ0 as0 o Q s0 e0 x0 q
  refine hi.bind s0 e0 x0 fun ds ρ1 J F1 H1 as1 e1 s1 r1 wk x1 => ?_
  intro D hD
  by_cases hz1 : ds.length < 4000
  case neg => rw [if_neg hz1] at e1; cases e1
  rw [if_pos hz1] at e1
  cases hl : lcLoop fg ft fe vs ds (wipeR ρ1 vs) with
  | none => rw [hl] at e1; cases e1
  | some p =>
    obtain ⟨zs, ρz⟩ := p
    rw [hl] at e1
    dsimp only at e1
    cases hn : nums zs with
    | none => rw [hn] at e1; cases e1
    | some ns =>
      rw [hn] at e1
      cases e1
      have l0 : LJ T σ F1 H1 as1 D F1 (upd H1 D (SetK P w D (fun _ => false) 0)) ρ1 as1 (SetK P w D (fun _ => false) 0) := LJ.new r1 hD
      obtain ⟨asw, l1⟩ := l0.wipe vs
      have e0 : (fun _ : L2.Key => false) = inSeen [] := by funext j; cases j <;> simp [inSeen]
      refine ⟨fun i m H => m = ds.length - i ∧ i ≤ ds.length ∧ ∃ F ρ as seen zs' ns', LJ T (L2.wipe σ vs) F1 H1 as1 D F H ρ as (SetK P w D (inSeen seen) seen.length) ∧ seen.length ≤ i ∧ lcLoop fg ft fe vs (ds.drop i) ρ = some (zs', ρz) ∧ nums zs' = some ns' ∧ ns.foldl addK [] = ns'.foldl addK seen, ⟨_, rfl, Nat.zero_le _, F1, wipeR ρ1 vs, asw, [], zs, ns, by rw [← e0]; exact l1, Nat.le_refl _, hl, hn, rfl⟩, ?_⟩
      rintro i m H ⟨rfl, hi, F, ρ, as, seen, zs', ns', l, hsl, e, en, ef⟩
      by_cases hlt : i < ds.length
      · refine .inr ⟨wk.go i F H hlt l.st.ext l.sr.sb, fun H' => ∃ F ρ as seen zs' ns', LJ T (L2.wipe σ vs) F1 H1 as1 D F H' ρ as (SetK P w D (inSeen seen) seen.length) ∧ seen.length ≤ i + 1 ∧ lcLoop fg ft fe vs (ds.drop (i + 1)) ρ = some (zs', ρz) ∧ nums zs' = some ns' ∧ ns.foldl addK [] = ns'.foldl addK seen, fun H' p => ⟨ds.length - (i + 1), by omega, rfl, hlt, p⟩, fun x H' y => ?_⟩
        obtain ⟨F', d, hd, nw, dr⟩ := wk.yld i F H x H' hlt l.st.ext l.sr.sb y
        have l2 := l.step nw.step (l.sr.new nw)
        have ed : ds.drop i = d :: ds.drop (i + 1) := by
          obtain ⟨h1, h2⟩ := List.getElem?_eq_some_iff.mp hd
          rw [List.drop_eq_getElem_cons h1, h2]
        rw [ed] at e
        unfold lcLoop at e
        cases hg1 : fg d ρ with
        | none => rw [hg1] at e; cases e
        | some ρ2 =>
          rw [hg1] at e
          dsimp only at e
          refine hg _ F' H' ρ as x d ρ2 _ l2.sr dr hg1 fun σ2 Fg Hg as2 n2 sr2 sub2 kp2 => ?_
          have l3 := l2.step ((n2.step (as := as)).mono (fun a m => m) fun a m => .inl (sub2 a m)) sr2
          have ew : L2.wipe σ2 vs = L2.wipe σ vs := (wipe_same (kp2.mono hz)).trans (wipe_wipe σ vs)
          refine ⟨ew, ?_⟩
          cases ht1 : ft ρ2 with
          | none => rw [ht1] at e; cases e
          | some o1 =>
            rw [ht1] at e
            cases o1 with
            | ex y ρ3 => cases e
            | ok b ρ3 =>
              refine ht σ2 Fg Hg ρ2 as2 _ _ sr2 ht1 trivial fun b' ρ' hb F3 H3 as3 s3 r3 => ?_
              cases hb
              have l4 := l3.step s3 r3
              cases b with
              | false =>
                rw [if_neg Bool.false_ne_true]
                dsimp only at e
                obtain ⟨as4, l5⟩ := l4.wipe vs
                rw [ew] at l5
                exact ⟨F3, _, as4, seen, zs', ns', l5, by omega, e, en, ef⟩
              | true =>
                rw [if_pos rfl]
                dsimp only at e
                cases he1 : S.bind fe sFrz ρ3 with
                | none => rw [he1] at e; cases e
                | some o2 =>
                  rw [he1] at e
                  cases o2 with
                  | ex y ρ4 => cases e
                  | ok z ρ4 =>
                    dsimp only at e
                    cases hr : lcLoop fg ft fe vs (ds.drop (i + 1)) (wipeR ρ4 vs) with
                    | none => rw [hr] at e; cases e
                    | some p =>
                      obtain ⟨zr, ρr⟩ := p
                      rw [hr] at e
                      cases e
                      have inv : ∃ k nr, z = L3.D.int k ∧ nums zr = some nr ∧ ns' = k :: nr := by
                        unfold nums at en
                        split at en
                        · rename_i hh; cases hh
                        · rename_i b ds' hh
                          cases hh
                          cases qn : nums zr with
                          | none => rw [qn] at en; cases en
                          | some nr => rw [qn] at en; cases en; exact ⟨b, nr, rfl, rfl, rfl⟩
                        · cases en
                      obtain ⟨k, nr, rfl, enr, rfl⟩ := inv
                      refine he.bind (o := O.ok (L3.D.int k) ρ4) r3 he1 trivial fun r ρ5 v F5 H5 ts as5 e5 s5 rs5 x5 => ?_
                      obtain ⟨F6, as6, s6, r6, d6⟩ := rs5.frz e5
                      cases d6
                      have l5 := l4.step (s5.trans s6) r6
                      obtain ⟨as7, l7⟩ := l5.wipe vs
                      rw [ew] at l7
                      have hsb : PySem.scanBound = 4096 := rfl
                      refine ⟨D, .inl k, _, seen.length, rfl, rfl, l5.at_, by omega, ?_⟩
                      rw [set_step, num_step]
                      have al := addK_len seen k
                      exact ⟨F6, _, as7, addK seen k, zr, nr, l7.put hD, by omega, hr, enr, ef⟩
      · have ei : i = ds.length := by omega
        subst ei
        rw [List.drop_length] at e
        cases e
        cases en
        refine .inl ⟨wk.stop F H l.st.ext l.sr.sb, ?_⟩
        obtain ⟨bs, sub, sl⟩ := SL.keep (F := F1) (H := H1) l.st.ext r1.sl (fun i => vs.contains i) l.sr.sl (wipe_length σ vs) fun i hp => wipe_at σ fun m => by
          have : vs.contains i = true := by simpa using m
          rw [this] at hp; cases hp
        refine ⟨D, _, seen.length, rfl, l.at_, by omega, ?_⟩
        have ef' : (ns.foldl addK []).length = seen.length := by rw [ef]; rfl
        rw [← ef']
        refine q _ _ rfl _ F H [] bs (s1.trans (l.st.mono (fun a m => m) fun a m => .inl (List.mem_cons_of_mem _ (sub.subset m)))) ⟨sl, .dat (.int _), l.sr.nd.sublist sub, fun a m => l.sr.fr a (sub.subset m), l.sr.sb⟩
end
end L3
/-! L3o: defs that are called where no repr is under way; repr; the law's end for such a def. -/
namespace L2
open PySem PySem.Spec PyProof.Rows
/-- a def's promise where the place's guards are empty -/
structure FnG (P : Program) (w : World) (K : PySem.W.Frag) (mg : Str → Option Value) (base : Heap) (CX : CXT) (k : Nat) (f : Addr) (fd : FuncData) (ps : List Str) (sp : Sp) : Prop where
  len : ∀ vs H Q E, sp vs H Q E → vs.length = ps.length
  run : ∀ (A : Around) (outer : List Env) (s : Shared) (H : Hp) (args : Args) (us : List Value) (vs : List V) (Q : VK) (E : XK), A.guards = some [] → Room k A → Env0 P w K mg base A outer s H → BindsTo s fd args (ps.zip us) → Vals vs us → sp vs H Q E →
    codeAny (model P w) A (.call (.ref f) args) (CR CX outer P w H s Q E) s
section
variable {P : Program} {w : World} {K : PySem.W.Frag} {mg : Str → Option Value} {base : Heap} {CX : CXT} {j k : Nat} {f : Addr} {fd : FuncData} {ps : List Str} {sp : Sp}
theorem FnG.mono (F : FnG P w K mg base CX j f fd ps sp) (h : j ≤ k) : FnG P w K mg base CX k f fd ps sp := ⟨F.len, fun A outer s H args us vs Q E g hr => F.run A outer s H args us vs Q E g (hr.mono h)⟩
theorem FnOk.toG (F : FnOk P w K mg base CX k f fd ps sp) : FnG P w K mg base CX k f fd ps sp := ⟨F.len, fun A outer s H args us vs Q E _ => F.run A outer s H args us vs Q E⟩
/-- such a def by its body -/
theorem FunD.okG {x qual : Str} {params : Arguments} {body : List Stmt} {scope : Scope} {dvs : List V} {kws : List (Str × V)} {N : List Str} (F : FunD K x qual params body scope dvs kws f fd) (S : FnScope N ps scope) (len : ∀ vs H Q E, sp vs H Q E → vs.length = ps.length)
    (hbody : ∀ (cdv : Value) (A : Around) (outer : List Env) (s : Shared) (H : Hp) (vs : List V) (Q : VK) (E : XK), A.guards = some [] → Room k (A.deeper (envOfC qual scope s.heap.objs.size f cdv)) → sp vs H Q E →
      ∃ t, PSs (cxOf CX P w K mg base N qual scope f cdv A outer s H E) body t ∧ t { nx := fun _ H' => Q .non H', rt := Q } (start N vs) H) : FnG P w K mg base CX (k + 1) f fd ps sp := by
  obtain ⟨oc, od, dV, kV, doc, pm, an, cdv, ct, osl, rfl, lk, hcd, _, _⟩ := F.ex
  refine ⟨len, fun A outer s H args us vs Q E hG hr e0 hb r hsp => ?_⟩
  have KX : K.In s.heap := e0.mod.kin.keeps fun b o e => (e0.bs b o e).1
  have bound : ∀ y ∈ ps.zip us, scope.names.lookup y.1 = some .local ∨ (scope.names.lookup y.1 = some .cell ∧ ((cellsFrom (s.heap.objs.size + 1) scope.names []).lookup y.1).isSome = true) := fun y hy => by
    obtain ⟨n, v⟩ := y
    exact (S.par n (List.of_mem_zip hy).1).imp id fun q => ⟨q, PySem.W.cellsFrom_some _ _ _ (.inl q)⟩
  refine codeAny_call_function hr.depth (KX _ _ lk) rfl S.co S.gen rfl (PySem.W.codeRec_of KX hcd) (hb _ _ _ _ (wpAny_newFunctionEnv_cells S.kind bound fun env he s1 x => ?_))
  subst he
  refine ⟨(e0.mod.nolimit.keeps fun b o e => (e0.bs b o e).1).keeps x.toInCall.keep, codeAny_func ?_⟩
  obtain ⟨t, ht, hq⟩ := hbody cdv A outer s H vs Q E hG (hr.deeper _) hsp
  refine wpAny_mono (ht.run [] s1 (start N vs) H _ (inv_start S hr.hd e0 (len _ _ _ _ hsp) r x) hq) (fun fl s' hs => ?_) fun e s' hs => hs
  cases fl with
  | ret u =>
    obtain ⟨v, σ', H', J, rv, q⟩ := hs
    exact ⟨v, H', J.os, J.bare, J.base, J.hok, rv, q⟩
  | next =>
    obtain ⟨σ', H', J, q⟩ := hs
    exact ⟨V.non, H', J.os, J.bare, J.base, J.hok, rfl, q⟩
  | brk => exact False.elim hs.choose_spec.choose_spec.2
  | cont => exact False.elim hs.choose_spec.choose_spec.2
end
section
variable {X : Cx} {CX : CXT} {k : Nat} {f : Addr} {fd : FuncData} {ps : List Str} {sp : Sp} {E : St → XK} {x : Str} {p pos : Pos} {e : Expr} {es : List Expr} {t : TA}
theorem run_fnG {pins : List (Addr × Obj)} {σ : St} {H : Hp} {s : Shared} {Q : VK} {us : List Value} {vs : List V} (hG : X.A.guards = some []) (F : FnG X.prog X.w X.K X.mg X.base CX k f fd ps sp) (hr : Room k X.A) (hb : Binds X.K fd ps []) (hx : PassesAt CX X σ (E σ))
    (I : Inv X pins σ H s) (r : Vals vs us) (h : sp vs H Q (E σ)) : wpAny (model X.prog X.w) X.A (call (.ref f) us) (EP X pins σ Q) X.xe s := by
  have b := hb s us I.kIn (by rw [List.append_nil, ← r.length]; exact F.len _ _ _ _ h)
  rw [List.append_nil] at b
  refine wpAny_call (codeAny_mono (F.run X.A X.stack s H ⟨us, []⟩ us vs Q (E σ) hG hr I.env0 b r h) fun r s' hq => ?_)
  cases r with
  | error e => exact hx pins H s e s' I hq
  | ok fl => cases fl with
    | ret u => exact I.after hq
    | next => exact False.elim hq
    | brk => exact False.elim hq
    | cont => exact False.elim hq
theorem pe_callG (hG : X.A.guards = some []) (F : FnG X.prog X.w X.K X.mg X.base CX k f fd ps sp) (hr : Room k X.A) (hg : Gl X x) (hm : X.mg x = some (.ref f)) (hk : PySem.W.keepIn X.K (.ref f) = true) (hb : Binds X.K fd ps []) (hx : ∀ σ, PassesAt CX X σ (E σ))
    (ha : PA X (e :: es) t) (hdb : (x == ("__debug__" : Str)) = false := by decide) (he : starEach (e :: es) X.env = (false, eval e X.env) :: starEach es X.env := by rfl) (hpl : (backTo pos (starEach es X.env)).any (·.1) = false := by rfl) :
    PE X (.Call (.Name x p) (e :: es) [] pos) (tCallS sp E t) :=
  ⟨fun pins s σ H Q I h => wpAny_Call_Name_kw (ld_glob I hg hm (PySem.W.callWith_K (h₀ := X.base) I.ok.mod.kin hk (thn (ha.run pos pins s σ H _ I h) fun us s1 ⟨vs, H1, I1, r, q⟩ => ⟨I1.kIn, run_fnG hG F hr hb (hx σ) I1 r q⟩) he hpl) hdb)⟩
/-- repr of data at any depth -/
def rRepr (K : PySem.W.Frag) : List V → Hp → VK → Prop := fun xs H Q => ∃ (x : V) (d : PyData), xs = [x] ∧ Dp K H x d ∧ d.showable = true ∧ d.hasDict = false ∧ d.depth ≤ 60 ∧ d.shown.length ≤ sizeLine ∧ Q (.str d.shown) H
theorem call_reprG (hG : X.A.guards = some []) (hu : X.A.units + 64 < cLine) : CallR X (.builtin "repr") (rRepr X.K) := by
  intro pins s σ H xs us Q I r h
  obtain ⟨x, d, rfl, hd, hs, hdic, hdep, hz, q⟩ := h
  obtain ⟨u, rfl, ru⟩ := vals1 r
  obtain ⟨as, rd⟩ := Dp.reads I d x u hd ru
  have heap : ∀ a, u = Value.ref a → wpAny (model X.prog X.w) X.A (call (.builtin "repr") [u]) (EP X pins σ Q) X.xe s := fun a ea => by
    subst ea
    exact repr_of_reads' rd hs (fun z => by rw [hdic] at z; cases z) hG (by omega) (fun b o e => e) (fun h' t tk hk => ⟨.str d.shown, H, I.kept hk, ⟨t, rfl⟩, q⟩) hz
  cases hd with
  | non =>
    obtain rfl : u = Value.none := ru
    exact PySem.P.repr_of_none ⟨.str _, H, I.tok _, ⟨_, rfl⟩, q⟩
  | bl b =>
    obtain rfl : u = Value.bool b := ru
    exact PySem.P.repr_of_bool ⟨.str _, H, I.tok _, ⟨_, rfl⟩, q⟩
  | int i =>
    obtain ⟨t, rfl⟩ := ru
    refine PySem.P.repr_of_int ?_ ⟨.str _, H, I.tok _, ⟨_, rfl⟩, q⟩
    simpa [PyData.showable] using hs
  | str z =>
    obtain ⟨t, rfl⟩ := ru
    exact PySem.P.repr_of_str ⟨.str _, H, I.tok _, ⟨_, rfl⟩, q⟩ hz
  | lst ha _ => exact heap _ ru
  | tup ha _ => exact heap _ ru
end
/-- the law's call at the heap behind the top -/
theorem law_callG {P : Program} {w : World} {K : PySem.W.Frag} {mg mb : Str → Option Value} {CX : CXT} {k : Nat} {fa a : Addr} {fd : FuncData} {x : Str} {sp : Sp} {s₁ : Shared} {vs : List Value} {ns : List Int}
    (KX : K.In s₁.heap) (hns : s₁.heap.Ns mainGlobals mg) (hb : s₁.heap.Ns builtinsNs mb) (hbb : ∀ x : Str, x ≠ "__name__" → mb x = bootBuiltins x) (hlim : s₁.heap.NoLimit) (hg : s₁.gens = #[])
    (ha : s₁.heap.get? a = some { cls := .type "list", data := .seq vs.toArray }) (hi : IntsAre vs ns) (hl : ns.length ≤ sizeLine) (hr : Room k callerA)
    (F : ∀ base : Heap, K.In base → base.Ns mainGlobals mg → FnG P w K mg base CX k fa fd [x] sp) (hbind : ∀ (s : Shared) (u : Value), BindsTo s fd ⟨[u], []⟩ [(x, u)])
    (hsp : ∀ H : Hp, Only H → SqL K H a (ns.map V.int) → sp [.ref a] H (fun v _ => v = .bl true) fun _ _ _ => False)
    (hCX : ∀ H e s', CX [] H s₁ (fun _ _ _ => False) e s' → False) :
    codeAny (model P w) callerA (.call (.ref fa) ⟨[.ref a], []⟩) (fun r s' => r = .ok (.ret (.bool true)) ∧ OldK s₁.heap s'.heap ∧ s'.os = s₁.os ∧ AllBare s'.gens) s₁ := by
  have rv := vals_ints hi
  have main : ∀ H : Hp, Only H → SqL K H a (ns.map V.int) → HOk P w H s₁.heap → (∀ b u, H b = some u → b = a ∧ K.lookup a = none) →
      codeAny (model P w) callerA (.call (.ref fa) ⟨[.ref a], []⟩) (fun r s' => r = .ok (.ret (.bool true)) ∧ OldK s₁.heap s'.heap ∧ s'.os = s₁.os ∧ AllBare s'.gens) s₁ := by
    intro H hO hS hok only
    have free : ∀ b, (∀ u, H b ≠ some u) → H b = none := fun b h => by
      cases q : H b with
      | none => rfl
      | some u => exact absurd q (h u)
    have ns_ : ∀ {b : Addr} {m : Str → Option Value}, s₁.heap.Ns b m → (hidT s₁.heap H).Ns b m := fun {b m} ⟨o, es, ep, e, d, r⟩ => by
      refine ⟨o, es, ep, hidT_get e (free b fun u q => ?_), d, r⟩
      obtain ⟨rfl, _⟩ := only b u q
      rw [ha] at e
      cases e
      cases d
    have kin : K.In (hidT s₁.heap H) := fun b o e => hidT_get (KX b o e) (free b fun u q => by
      obtain ⟨rfl, z⟩ := only b u q
      rw [z] at e; cases e)
    obtain ⟨mc, lim1, lim2⟩ := hlim
    have md : Mod K mg (hidT s₁.heap H) := ⟨kin, ns_ hns, ⟨mb, ns_ hb, hbb⟩, ⟨mc, ns_ lim1, lim2⟩⟩
    have e0 : Env0 P w K mg (hidT s₁.heap H) callerA [] s₁ H := ⟨rfl, md, fun b o e => of_hidT e, Nat.le_of_eq (hidT_size _ _), trivial, (fun b hb => nomatch (show b ∈ ([] : List Addr) from hb)), hok, .of_eq hg⟩
    refine codeAny_mono ((F _ kin (ns_ hns)).run callerA [] s₁ H ⟨[.ref a], []⟩ [.ref a] [.ref a] _ _ rfl hr e0 (hbind s₁ (.ref a)) (.cons rfl .nil) (hsp H hO hS)) fun r s' h => ?_
    cases r with
    | error e => exact (hCX H e s' h).elim
    | ok fl => cases fl with
      | next => exact False.elim h
      | brk => exact False.elim h
      | cont => exact False.elim h
      | ret u =>
        obtain ⟨v, H', os, bare, un, hok', r', q⟩ := h
        cases (show v = .bl true from q)
        obtain rfl : u = Value.bool true := r'
        refine ⟨rfl, OldK.of_keep fun b o e => ?_, os, bare⟩
        rcases hO b with z | ⟨ob, xs, z⟩
        · exact un.keep b o e z (fun m => nomatch (show b ∈ ([] : List Addr) from m)) fun m => nomatch m
        · obtain ⟨e1, _⟩ := hok b _ z
          obtain ⟨e2, _⟩ := hok' b _ (un.frzs b ob _ z)
          rw [e] at e1
          cases e1
          exact e2
  cases hk : K.lookup a with
  | some o =>
    have e := KX a o hk
    rw [ha] at e
    cases e
    exact main (fun _ => none) (fun _ => .inl rfl) (.inr ⟨_, vs.toArray, _, hk, rfl, rfl, rfl, by rw [List.size_toArray, hi.length]; exact hl, by simpa using rv⟩) (fun b u z => nomatch z) fun b u z => nomatch z
  | none =>
    let H : Hp := fun b => if b = a then some (.frz { cls := .type "list", data := .seq vs.toArray } (.lst (ns.map V.int))) else none
    have at_ : ∀ b u, H b = some u → b = a ∧ u = .frz { cls := .type "list", data := .seq vs.toArray } (.lst (ns.map V.int)) := fun b u z => by
      by_cases hb : b = a
      · have z' : some _ = some u := (if_pos hb).symm.trans z
        cases z'
        exact ⟨hb, rfl⟩
      · have z' : none = some u := (if_neg hb).symm.trans z
        cases z'
    refine main H (fun b => ?_) (.inl (.inr ⟨_, if_pos rfl⟩)) (fun b u z => ?_) fun b u z => ⟨(at_ b u z).1, hk⟩
    · cases q : H b with
      | none => exact .inl rfl
      | some u =>
        obtain ⟨_, rfl⟩ := at_ b u q
        exact .inr ⟨_, _, rfl⟩
    · obtain ⟨rfl, rfl⟩ := at_ b u z
      exact ⟨ha, by rw [List.length_map]; exact hl, vs, _, rv, ha⟩
theorem walk_ofG {l : PySem.W.OpenLaw} {n k : Nat} {q : Program} {loose : List Str} {XP : (Str → Option Value) → Heap → Prop} {YP : World → Heap → Prop} {d : DefRec} {CX : World → CXT} {x : Str}
    (hn : l.most = some n) (hn2 : n ≤ sizeLine) (hdf : d.params.defaults = []) (hr : Room k callerA)
    (F : ∀ (w : World) (mg : Str → Option Value) (fa : Addr) (h : Heap), YP w h → h.Ns mainGlobals mg → mg d.name = some (.ref fa) →
      ∃ (K : PySem.W.Frag) (fd : FuncData) (sp : Sp), K.In h ∧ (∀ (s : Shared) (u : Value), BindsTo s fd ⟨[u], []⟩ [(x, u)]) ∧
        (∀ (H : Hp) (a : Addr) (ns : List Int), ns.length ≤ n → Only H → SqL K H a (ns.map V.int) → sp [.ref a] H (fun v _ => v = .bl true) fun _ _ _ => False) ∧
        ∀ base : Heap, K.In base → base.Ns mainGlobals mg → FnG l.prog w K mg base (CX w) k fa fd [x] sp)
    (hCX : ∀ (w : World) (H : Hp) (s : Shared) (e : Value) (s' : Shared), CX w [] H s (fun _ _ _ => False) e s' → False) :
    PySem.W.WalkO q loose XP YP l.row.toRowW d [] (fun f vs => PySem.call f vs) := by
  refine Att.attach_call hn hdf fun w s₀ s₁ mg mb fa o pm cd doc a vs ns G Y ho hd hcd hmg hobj hints hlen hg => ?_
  obtain ⟨K, fd, sp, KX, hb, hsp, hF⟩ := F w mg fa _ Y G.T.g hmg
  exact law_callG KX G.T.g G.T.b G.T.builtins G.T.nolimit hg hobj hints (Nat.le_trans hlen hn2) hr hF hb (fun H hO hS => hsp H a ns hlen hO hS) fun H e s' => hCX w H s₁ e s'
end L2
/-! L3p: what a def promises; its call. -/
namespace L3
open PySem L2

/-- a slot given back what it holds -/
theorem SL.fill {T : Tx} {F H : Hp} {v : V} {c : C} {fp : List Addr} (q : CR T F H v c fp) : ∀ {σ : L2.St} {ρ : Ro} {as : List Addr} {i : Nat}, SL T F H σ ρ as → ρ[i]? = some none → σ[i]? = some (some v) → ∃ as', as'.Perm (fp ++ as) ∧ SL T F H σ (ρ.set i (some c)) as'
  | _, _, _, i, .nil, e, _ => by simp at e
  | _, _, _, 0, .non (as := as) r, _, e => by
    simp at e
    subst e
    exact ⟨fp ++ as, List.Perm.refl _, .som q r⟩
  | _, _, _, i + 1, .non r, e1, e2 => by
    obtain ⟨as', p, k⟩ := SL.fill q (i := i) r (by simpa using e1) (by simpa using e2)
    exact ⟨as', p, .non k⟩
  | _, _, _, 0, .som h r, e, _ => by simp at e
  | _, _, _, i + 1, .som (as := a0) (bs := b0) h r, e1, e2 => by
    obtain ⟨as', p, k⟩ := SL.fill q (i := i) r (by simpa using e1) (by simpa using e2)
    refine ⟨a0 ++ as', ?_, .som h k⟩
    have p1 := p.append_left a0
    exact p1.trans (perm3 a0 fp b0)
/-- the arguments taken: a slot's list leaves its slot -/
def takes : List R → Ro → Option (List C × Ro)
  | [], ρ => some ([], ρ)
  | .val c :: rs, ρ => (match takes rs ρ with
    | some (cs, ρ') => some (c :: cs, ρ')
    | none => none)
  | .slot i :: rs, ρ => (match ρ[i]? with
    | some (some c) => (match takes rs (ρ.set i none) with
      | some (cs, ρ') => some (c :: cs, ρ')
      | none => none)
    | _ => none)
def freeAt (ρ : Ro) (i : Nat) : Bool := match ρ[i]? with
  | some none => true
  | _ => false
theorem freeAt_eq {ρ : Ro} {i : Nat} (h : freeAt ρ i = true) : ρ[i]? = some none := by
  unfold freeAt at h
  split at h
  · assumption
  · cases h
/-- .. and given back -/
def puts : List R → List (Option C) → Ro → Ro
  | .slot i :: rs, some c :: ks, ρ => puts rs ks (if freeAt ρ i = true then ρ.set i (some c) else ρ)
  | _ :: rs, _ :: ks, ρ => puts rs ks ρ
  | _, _, ρ => ρ
section
variable {T : Tx} {σ : L2.St}
theorem takes_ok : ∀ {vs : List V} {rs : List R} {F H : Hp} {ρ ρ1 : Ro} {as ts : List Addr} {cs : List C}, SL T F H σ ρ as → Vws T σ F H vs rs ts → takes rs ρ = some (cs, ρ1) →
    ∃ us as1, SL T F H σ ρ1 as1 ∧ CRs T F H vs cs us ∧ (us ++ as1).Perm (ts ++ as)
  | _, [], F, H, ρ, ρ1, as, _, cs, sl, .nil, e => by
    cases e
    exact ⟨[], as, sl, .nil, List.Perm.refl _⟩
  | _, .val c :: rs, F, H, ρ, ρ1, as, _, cs, sl, .cons (ts := t1) (us := t2) h hr, e => by
    unfold takes at e
    split at e
    · rename_i cs' ρ' h1
      cases e
      obtain ⟨us, as1, s1, c1, p⟩ := takes_ok sl hr h1
      refine ⟨t1 ++ us, as1, s1, .cons h c1, ?_⟩
      rw [List.append_assoc, List.append_assoc]
      exact p.append_left t1
    · cases e
  | _, .slot i :: rs, F, H, ρ, ρ1, as, _, cs, sl, .cons (ts := t1) (us := t2) h hr, e => by
    unfold takes at e
    split at e
    · rename_i c hc
      split at e
      · rename_i cs' ρ' h1
        cases e
        obtain ⟨et, hv⟩ := h
        subst et
        obtain ⟨v', l, fp, r, ea, hv', cr, k1, k2⟩ := sl.get hc
        rw [hv] at hv'
        cases hv'
        obtain ⟨us, as1, s1, c1, p⟩ := takes_ok (k2 (Ext.refl F) fun _ _ => rfl) hr h1
        refine ⟨fp ++ us, as1, s1, .cons cr c1, ?_⟩
        rw [List.append_assoc, List.nil_append, ea]
        refine (p.append_left fp).trans ?_
        refine (perm3 fp t2 (l ++ r)).trans ?_
        exact List.Perm.append_left t2 (perm3 fp l r)
      · cases e
    · cases e
/-- what callers find in their slots again: ks over the values τ -/
theorem puts_ok {F H : Hp} {τ : L2.St} {ks : List (Option C)} {bs : List Addr} (hk : SL T F H τ ks bs) : ∀ {rs : List R} {ρ : Ro} {as : List Addr}, SL T F H σ ρ as → (∀ (j i : Nat) (v : V), rs[j]? = some (R.slot i) → τ[j]? = some (some v) → σ[i]? = some (some v)) →
    ∃ as', (∃ ms, (ms ++ as').Perm (bs ++ as)) ∧ SL T F H σ (puts rs ks ρ) as' := by
  induction hk with
  | nil =>
    intro rs ρ as sl hv
    refine ⟨as, ⟨[], List.Perm.refl _⟩, ?_⟩
    cases rs with
    | nil => exact sl
    | cons r rs => cases r <;> exact sl
  | @non x τ ks bs hk ih =>
    intro rs ρ as sl hv
    cases rs with
    | nil => exact ⟨as, ⟨bs, List.Perm.refl _⟩, sl⟩
    | cons r rs =>
      obtain ⟨as', ⟨ms, p⟩, k⟩ := ih (rs := rs) sl fun j i w h1 h2 => hv (j + 1) i w (by simpa using h1) (by simpa using h2)
      refine ⟨as', ⟨ms, p⟩, ?_⟩
      cases r <;> exact k
  | @som v c a0 τ ks b0 h hk ih =>
    intro rs ρ as sl hv
    cases rs with
    | nil => exact ⟨as, ⟨a0 ++ b0, List.Perm.refl _⟩, sl⟩
    | cons r rs =>
      have hv' : ∀ (j i : Nat) (w : V), rs[j]? = some (R.slot i) → τ[j]? = some (some w) → σ[i]? = some (some w) := fun j i w h1 h2 => hv (j + 1) i w (by simpa using h1) (by simpa using h2)
      have skip : ∃ as', (∃ ms, (ms ++ as').Perm (a0 ++ b0 ++ as)) ∧ SL T F H σ (puts rs ks ρ) as' := by
        obtain ⟨as', ⟨ms, p⟩, k⟩ := ih (rs := rs) sl hv'
        refine ⟨as', ⟨a0 ++ ms, ?_⟩, k⟩
        rw [List.append_assoc, List.append_assoc]
        exact p.append_left a0
      cases r with
      | val c' => exact skip
      | slot i =>
        show ∃ as', _ ∧ SL T F H σ (puts rs ks (if freeAt ρ i = true then ρ.set i (some c) else ρ)) as'
        by_cases hi : freeAt ρ i = true
        · rw [if_pos hi]
          obtain ⟨as1, p1, s1⟩ := SL.fill h sl (freeAt_eq hi) (hv 0 i v rfl rfl)
          obtain ⟨as', ⟨ms, p⟩, k⟩ := ih (rs := rs) s1 hv'
          refine ⟨as', ⟨ms, p.trans ?_⟩, k⟩
          refine (p1.append_left b0).trans ?_
          have := perm3 b0 a0 as
          simpa [List.append_assoc] using this
        · rw [if_neg hi]; exact skip
theorem Vws.slot {F H : Hp} : ∀ {vs : List V} {rs : List R} {ts : List Addr}, Vws T σ F H vs rs ts → ∀ (j i : Nat) (v : V), rs[j]? = some (R.slot i) → (vs.map some)[j]? = some (some v) → σ[i]? = some (some v)
  | _, _, _, .nil, j, i, v, h, _ => by simp at h
  | _, _, _, .cons h r, 0, i, v, h1, h2 => by
    simp at h1 h2
    subst h1 h2
    exact h.2
  | _, _, _, .cons h r, j + 1, i, v, h1, h2 => Vws.slot r j i v (by simpa using h1) (by simpa using h2)
end

/-! ### the promise -/
abbrev FS := List C → Option (O C)
/-- fs: from the arguments to the result and what the parameters hold behind -/
def spOf (T : Tx) (fs : FS) : Sp := fun vs H Q E => ∃ F cs as o, Ext F H ∧ CRs T F H vs cs as ∧ as.Nodup ∧ (∀ a ∈ as, F a = none) ∧ fs cs = some o ∧
  (match o with
  | .ok c ks => ∀ v F' H' ts bs, Stp F H as F' H' (ts ++ bs) → SL T F' H' (vs.map some) ks bs → CR T F' H' v c ts → (ts ++ bs).Nodup → (∀ a ∈ ts ++ bs, F' a = none) → Ext F' H' → Q v H'
  | .ex x ks => ∀ cls d F' H' bs, Stp F H as F' H' bs → SL T F' H' (vs.map some) ks bs → bs.Nodup → (∀ a ∈ bs, F' a = none) → Ext F' H' → XR T F' H' cls d x → E cls d H')
def sCall (fs : FS) (fa : S (List R)) : S R := S.bind fa fun rs => fun ρ => match takes rs ρ with
  | some (cs, ρ1) => (match fs cs with
    | some (.ok c ks) => some (.ok (.val c) (puts rs ks ρ1))
    | some (.ex x ks) => some (.ex x (puts rs ks ρ1))
    | none => none)
  | none => none
section
variable {T : Tx} {W : WX} {ta : TA} {fa : S (List R)} {fs : FS}
theorem CRs.thereL {F H : Hp} {vs : List V} {cs : List C} {as : List Addr} (h : CRs T F H vs cs as) : ∀ a ∈ as, ∃ o, H a = some o := CRs.there h
/-- behind the callee: the caller's rest as1 and what came back -/
theorem call_back {F H F' H' : Hp} {σ : L2.St} {ρ1 : Ro} {us as1 ts bs : List Addr} {vs : List V} {rs : List R} {ks : List (Option C)} (nd : (us ++ as1).Nodup) (fr : ∀ a ∈ us ++ as1, F a = none) (sl : SL T F H σ ρ1 as1) (hv : ∀ (j i : Nat) (v : V), rs[j]? = some (R.slot i) → (vs.map some)[j]? = some (some v) → σ[i]? = some (some v))
    (st : Stp F H us F' H' (ts ++ bs)) (kl : SL T F' H' (vs.map some) ks bs) (nd' : (ts ++ bs).Nodup) (fr' : ∀ a ∈ ts ++ bs, F' a = none) (sb : Ext F' H') :
    ∃ as', SL T F' H' σ (puts rs ks ρ1) as' ∧ (ts ++ as').Nodup ∧ (∀ a ∈ ts ++ as', F' a = none) ∧ Stp F H (us ++ as1) F' H' (ts ++ as') := by
  obtain ⟨k1, k2, k3⟩ := aside (ts := as1) (as := us) (by exact (List.perm_append_comm.nodup_iff).mp nd) (fun a m => fr a (List.mem_append_right _ m)) sl.there st
  have sl2 : SL T F' H' σ ρ1 as1 := sl.frame st.ext k1
  obtain ⟨as', ⟨ms, p⟩, k⟩ := puts_ok kl (rs := rs) sl2 hv
  have all : (ts ++ (bs ++ as1)).Nodup := by
    rw [← List.append_assoc]
    refine nodup_join nd' (List.nodup_append.mp nd).2.1 fun a m z => ?_
    exact k3 a z m
  have sub : ∀ a ∈ as', a ∈ bs ++ as1 := fun a m => p.subset (List.mem_append_right _ m)
  have nd2 : (ts ++ (ms ++ as')).Nodup := ((p.append_left ts).nodup_iff).mpr all
  refine ⟨as', k, nd2.sublist ((List.Sublist.refl ts).append (List.sublist_append_right ms as')), fun a m => ?_, st.mono (fun a m => List.mem_append_left _ m) fun a m => ?_⟩
  · rcases List.mem_append.mp m with m | m
    · exact fr' a (List.mem_append_left _ m)
    · rcases List.mem_append.mp (sub a m) with m | m
      · exact fr' a (List.mem_append_right _ m)
      · exact k2 a m
  · rcases List.mem_append.mp m with m | m
    · exact .inl (List.mem_append_left _ m)
    · rcases List.mem_append.mp (sub a m) with m | m
      · exact .inl (List.mem_append_right _ m)
      · exact .inr (List.mem_append_right _ m)
theorem Ev.call (ha : EvA T W ta fa) : Ev T W (tCallS (spOf T fs) (WE W) ta) (sCall fs fa) := by
  intro σ F H ρ as o Q s e x q
  refine ha.bind s e x fun rs ρ1 vs F1 H1 ts as1 e1 s1 r1 x1 => ?_
  split at e1
  · rename_i cs ρ2 ht
    obtain ⟨us, as2, sl2, cr2, p2⟩ := takes_ok r1.sl r1.vw ht
    have nd : (us ++ as2).Nodup := (p2.nodup_iff).mpr r1.nd
    have fr : ∀ a ∈ us ++ as2, F1 a = none := fun a m => r1.fr a (p2.subset m)
    have s2 : Stp F H as F1 H1 (us ++ as2) := s1.mono (fun a m => m) fun a m => .inl (p2.subset m)
    have hv := r1.vw.slot
    split at e1
    · rename_i c ks hf
      cases e1
      refine ⟨F1, cs, us, .ok c ks, r1.sb, cr2, (List.nodup_append.mp nd).1, fun a m => fr a (List.mem_append_left _ m), hf, fun v F' H' ts' bs st kl cr nd' fr' sb => ?_⟩
      obtain ⟨as', k1, k2, k3, k4⟩ := call_back nd fr sl2 hv st kl nd' fr' sb
      exact q _ _ rfl v F' H' ts' as' (s2.trans k4) ⟨k1, cr, k2, k3, sb⟩
    · rename_i y ks hf
      cases e1
      refine ⟨F1, cs, us, .ex y ks, r1.sb, cr2, (List.nodup_append.mp nd).1, fun a m => fr a (List.mem_append_left _ m), hf, fun cls d F' H' bs st kl nd' fr' sb xr => ?_⟩
      obtain ⟨as', k1, k2, k3, k4⟩ := call_back (ts := []) nd fr sl2 hv st kl nd' fr' sb
      exact x cls d F' H' as' (s2.trans k4) ⟨k1, k2, k3, sb⟩ xr
    · cases e1
  · cases e1
end

/-! ### a def from its body's meaning -/
/-- N slots, n of them parameters, Z the slots that the body stores to -/
def fnSem (N n : Nat) (Z : List Nat) (g : SS) : FS := fun cs => if cs.length = n ∧ n ≤ N then (match g (cs.map some ++ List.replicate (N - n) none) with
  | some (.rt c ρ) => some (.ok c ((backR (fun i => Z.contains i) (List.replicate N none) ρ).take n))
  | some (.nx ρ) => some (.ok (.dat .non) ((backR (fun i => Z.contains i) (List.replicate N none) ρ).take n))
  | some (.ex x ρ) => some (.ex x ((backR (fun i => Z.contains i) (List.replicate N none) ρ).take n))
  | _ => none) else none
theorem SL.nones {T : Tx} {F H : Hp} : ∀ (σ : L2.St), SL T F H σ (List.replicate σ.length none) []
  | [] => .nil
  | _ :: σ => .non (SL.nones σ)
theorem SL.args {T : Tx} {F H : Hp} {τ : L2.St} {ρ : Ro} : ∀ {vs : List V} {cs : List C} {as : List Addr}, CRs T F H vs cs as → SL T F H τ ρ [] → SL T F H (vs.map some ++ τ) (cs.map some ++ ρ) as
  | _, _, _, .nil, h => h
  | _, _, _, .cons h r, k => .som h (SL.args r k)
theorem SL.first {T : Tx} {F H : Hp} : ∀ {σ τ : L2.St} {ρ : Ro} {as : List Addr}, SL T F H (σ ++ τ) ρ as → ∃ bs, bs.Sublist as ∧ SL T F H σ (ρ.take σ.length) bs
  | [], τ, ρ, as, _ => ⟨[], List.nil_sublist _, by simpa using SL.nil⟩
  | x :: σ, τ, _, _, .non r => by
    obtain ⟨bs, sub, k⟩ := SL.first (σ := σ) (τ := τ) r
    exact ⟨bs, sub, .non k⟩
  | _ :: σ, τ, _, _, .som (as := a0) h r => by
    obtain ⟨bs, sub, k⟩ := SL.first (σ := σ) (τ := τ) r
    exact ⟨a0 ++ bs, (List.Sublist.refl _).append sub, .som h k⟩
section
variable {T : Tx} {N n : Nat} {Z : List Nat} {g : SS}
theorem fnSem_len {cs : List C} {o : O C} (h : fnSem N n Z g cs = some o) : cs.length = n := by
  unfold fnSem at h
  split at h
  · rename_i hh; exact hh.1
  · cases h
theorem spOf_len {ps : List Str} (hp : ps.length = n) : ∀ vs H Q E, spOf T (fnSem N n Z g) vs H Q E → vs.length = ps.length := fun vs H Q E h => by
  obtain ⟨F, cs, as, o, _, cr, _, _, hf, _⟩ := h
  rw [cr.length, fnSem_len hf, hp]
/-- the slots of the parameters behind the body -/
theorem back_args {F' H' : Hp} {vs : List V} {σ' : L2.St} {ρ' : Ro} {as' : List Addr} {names : List Str} (hN : names.length = N) (hn : vs.length = n) (hle : n ≤ N) (sl : SL T F' H' σ' ρ' as') (kp : Kp Z (L2.start names vs) σ') :
    ∃ bs, bs.Sublist as' ∧ SL T F' H' (vs.map some) ((backR (fun i => Z.contains i) (List.replicate N none) ρ').take n) bs := by
  have hs : (L2.start names vs).length = N := by unfold L2.start; simp; omega
  have h0 : SL T F' H' (L2.start names vs) (List.replicate N none) [] := by
    rw [← hs]; exact SL.nones _
  obtain ⟨bs, sub, k⟩ := SL.keep (F := F') (H := H') (Ext.refl F') h0 (fun i => Z.contains i) sl kp.len fun i hp => kp.at_ i fun m => by
    have : Z.contains i = true := by simpa using m
    rw [this] at hp; cases hp
  obtain ⟨cs, sub2, k2⟩ := SL.first (σ := vs.map some) (τ := List.replicate (names.length - vs.length) none) k
  refine ⟨cs, sub2.trans sub, ?_⟩
  have e : (vs.map some).length = n := by simp [hn]
  rw [e] at k2
  exact k2
theorem body_of {W : WX} {t : TS} {names : List Str} {vs : List V} {H : Hp} {Q : VK} {E : XK} (hb : EvS T W Z t g) (hW : ∀ cls d σ H, E cls d H → W cls d σ H) (hN : names.length = N) (h : spOf T (fnSem N n Z g) vs H Q E) :
    t { nx := fun _ H' => Q .non H', rt := Q } (L2.start names vs) H := by
  obtain ⟨F, cs, as, o, sb, cr, nd, fr, hf, fin⟩ := h
  have hf0 := hf
  unfold fnSem at hf
  split at hf
  case isFalse => cases hf
  rename_i hh
  have hlen : vs.length = n := by rw [cr.length]; exact hh.1
  have sl0 : SL T F H (L2.start names vs) (cs.map some ++ List.replicate (N - n) none) as := by
    unfold L2.start
    rw [hN, hlen]
    refine SL.args cr ?_
    have := SL.nones (T := T) (F := F) (H := H) (List.replicate (N - n) none : L2.St)
    rw [List.length_replicate] at this
    exact this
  have sr0 : SR T (L2.start names vs) F H (cs.map some ++ List.replicate (N - n) none) as := ⟨sl0, nd, fr, sb⟩
  cases hg : g (cs.map some ++ List.replicate (N - n) none) with
  | none => rw [hg] at hf; cases hf
  | some so =>
    rw [hg] at hf
    refine hb (L2.start names vs) F H _ as so _ sr0 hg ?_
    cases so with
    | rt c ρ =>
      cases hf
      intro v σ' F' H' ts as' st rs kp
      obtain ⟨bs, sub, k⟩ := back_args hN hlen hh.2 rs.sl kp
      have sub2 : (ts ++ bs).Sublist (ts ++ as') := (List.Sublist.refl ts).append sub
      exact fin v F' H' ts bs (st.mono (fun a m => m) fun a m => .inl (sub2.subset m)) k rs.vw (rs.nd.sublist sub2) (fun a m => rs.fr a (sub2.subset m)) rs.sb
    | nx ρ =>
      cases hf
      intro σ' F' H' as' st sr kp
      obtain ⟨bs, sub, k⟩ := back_args hN hlen hh.2 sr.sl kp
      exact fin .non F' H' [] bs (st.mono (fun a m => m) fun a m => .inl (sub.subset m)) k (.dat .non) (sr.nd.sublist sub) (fun a m => sr.fr a (sub.subset m)) sr.sb
    | ex x ρ =>
      cases hf
      intro cls d σ' F' H' as' st sr kp xr
      obtain ⟨bs, sub, k⟩ := back_args hN hlen hh.2 sr.sl kp
      exact hW _ _ _ _ (fin cls d F' H' bs (st.mono (fun a m => m) fun a m => .inl (sub.subset m)) k (sr.nd.sublist sub) (fun a m => sr.fr a (sub.subset m)) sr.sb xr)
    | bk ρ => cases hf
    | ct ρ => cases hf
end
end L3
/-! L3q: syntax with its meaning, by families of contexts. -/
namespace L3
open PySem L2

/-- a family of contexts that share all but the run's own parts -/
structure Fam {ι : Type} (φ : ι → Cx) (P : Program) (w : World) (T : Tx) (base : Heap) (N : List Str) (sc : Scope) (fc : Str → Bool) (k : Nat) (W : WX) : Prop where
  eP : ∀ i, (φ i).prog = P
  ew : ∀ i, (φ i).w = w
  eK : ∀ i, (φ i).K = T.K
  emg : ∀ i, (φ i).mg = T.mg
  eb : ∀ i, (φ i).base = base
  eN : ∀ i, (φ i).N = N
  esc : ∀ i, (φ i).env.scope = sc
  calm : ∀ i, (φ i).calm = true
  room : ∀ i, Room k (φ i).A
  tk : ∀ i, Takes (φ i) W
  nd : N.Nodup
  fn : ∀ i x, fc x = true → (φ i).fn x = true
  po : ∀ i, PassesOwn (model (φ i).prog (φ i).w) (φ i).A (φ i).env (φ i).xe
abbrev ixBlk (ι : Type) : Type := ι × (Shared × Hp × Addr × List (Str × Addr) × List Addr)
def blkF {ι : Type} (φ : ι → Cx) (scope : Scope) : ixBlk ι → Cx := fun j => (φ j.1).blk j.2.1 j.2.2.1 scope (compEnvC scope j.2.2.2.2.1 j.2.2.2.1 (φ j.1).env) j.2.2.2.2.2
def W0 : WX := fun _ _ _ _ => False
def visB (sc : Scope) (x : Str) : Bool := match sc.names.lookup x with
  | some .local => true
  | some .cell => true
  | some .free => true
  | _ => false
theorem visB_ok {sc : Scope} {x : Str} (h : visB sc x = true) : Vis sc x := by
  unfold visB at h
  split at h
  · rename_i e; exact .inl e
  · rename_i e; exact .inr (.inl e)
  · rename_i e; exact .inr (.inr e)
  · cases h
/-- a name that is stored to: local, or a cell of a def -/
def locB (sc : Scope) (fc : Str → Bool) (x : Str) : Bool := match sc.names.lookup x with
  | some .local => true
  | some .cell => fc x
  | _ => false
theorem locB_ok {sc : Scope} {fc : Str → Bool} {x : Str} (h : locB sc fc x = true) : Loc sc x ∧ (fc x = true ∨ sc.names.lookup x = some .local) := by
  unfold locB at h
  split at h
  · rename_i e; exact ⟨.inl e, .inr e⟩
  · rename_i e; exact ⟨.inr e, .inl h⟩
  · cases h
def glB (sc : Scope) (x : Str) : Bool := match sc.names.lookup x with
  | some .globalImplicit => true
  | _ => false
theorem glB_ok {sc : Scope} {x : Str} (h : glB sc x = true) : sc.names.lookup x = some .globalImplicit := by
  unfold glB at h
  split at h
  · assumption
  · cases h
section
variable {ι : Type} {φ : ι → Cx} {P : Program} {w : World} {T : Tx} {base : Heap} {N : List Str} {sc : Scope} {fc : Str → Bool} {k : Nat} {W : WX}
theorem Fam.units (h : Fam φ P w T base N sc fc k W) (i : ι) : (φ i).A.units + 65 < cLine := by have := (h.room i).un; omega
theorem Fam.blk (h : Fam φ P w T base N sc fc k W) (scope : Scope) : Fam (blkF φ scope) P w T base N (relS scope sc) (fun x => scope.names.lookup x == some .cell) k W0 where
  eP := fun j => h.eP j.1
  ew := fun j => h.ew j.1
  eK := fun j => h.eK j.1
  emg := fun j => h.emg j.1
  eb := fun j => h.eb j.1
  eN := fun j => h.eN j.1
  esc := fun j => by
    show relabel scope (φ j.1).env = relS scope sc
    unfold relabel relS Env.kindOf
    rw [h.esc j.1]
  calm := fun j => h.calm j.1
  room := fun j => h.room j.1
  tk := fun j u s' ⟨_, _, _, _, _, _, _, _, _, _, _, _, _, _, _, _, z⟩ => z.elim
  nd := h.nd
  fn := fun j x e => e
  po := fun j => PassesOwn.never
theorem Fam.gl (h : Fam φ P w T base N sc fc k W) {x : Str} (e : glB sc x = true) (i : ι) : Gl (φ i) x := by
  show (φ i).env.scope.names.lookup x = _
  rw [h.esc i]; exact glB_ok e

/-! ### the judgements -/
def DE (φ : ι → Cx) (T : Tx) (W : WX) (e : Expr) (f : S R) : Prop := ∃ t, (∀ i, PE (φ i) e t) ∧ Ev T W t f
def DT (φ : ι → Cx) (T : Tx) (W : WX) (e : Expr) (f : S Bool) : Prop := ∃ t, (∀ i, PT (φ i) e t) ∧ EvT T W t f
def DW (φ : ι → Cx) (T : Tx) (W : WX) (e : Expr) (f : S Bool) : Prop := ∃ t, (∀ i, PW (φ i) e t) ∧ EvT T W t f
def DA (φ : ι → Cx) (T : Tx) (W : WX) (es : List Expr) (f : S (List R)) : Prop := ∃ t, (∀ i, PA (φ i) es t) ∧ EvA T W t f
def DO (φ : ι → Cx) (T : Tx) (W : WX) (e : Option Expr) (f : S (Option Int)) : Prop := ∃ t, (∀ i, PO (φ i) e t) ∧ EvO T W t f
def DI (φ : ι → Cx) (T : Tx) (W : WX) (tg e : Expr) (f : S (List D)) : Prop := ∃ t, (∀ i, PI (φ i) tg e t) ∧ EvI T W t f
def DG (φ : ι → Cx) (T : Tx) (Z : List Nat) (e : Expr) (f : D → Ro → Option Ro) : Prop := ∃ t, (∀ i, PG (φ i) e t) ∧ EvG T Z t f
def DGs (φ : ι → Cx) (T : Tx) (Z : List Nat) (es : List Expr) (f : List D → Ro → Option Ro) : Prop := ∃ t, (∀ i, PGs (φ i) es t) ∧ EvGs T Z t f
def DS (φ : ι → Cx) (T : Tx) (W : WX) (Z : List Nat) (st : Stmt) (f : SS) : Prop := ∃ t, (∀ i, PS (φ i) st t) ∧ EvS T W Z t f
def DSs (φ : ι → Cx) (T : Tx) (W : WX) (Z : List Nat) (sts : List Stmt) (f : SS) : Prop := ∃ t, (∀ i, PSs (φ i) sts t) ∧ EvS T W Z t f

/-! ### expressions -/
variable {x : Str} {p pos apos : Pos} {a b c e : Expr} {es : List Expr} {fa fb fe : S R} {f g : S Bool} {fs : S (List R)} {j : Nat}
theorem DE.var (h : Fam φ P w T base N sc fc k W) (j : Nat) (hN : N[j]? = some x := by rfl) (hv : visB sc x = true := by rfl) (hd : (x == ("__debug__" : Str)) = false := by decide) (hcd : (x == ("__classdict__" : Str)) = false := by decide) : DE φ T W (.Name x p) (sVar j) :=
  ⟨_, fun i => pe_var (i := j) (by rw [h.eN i]; exact hN) (by rw [h.esc i]; exact visB_ok hv) hd hcd, Ev.var j⟩
theorem DE.int {n : Int} {m : Nat} : DE φ T W (.Constant (.int n) m pos) (sC (.int n)) := ⟨_, fun i => pe_int, Ev.con fun F => .int n⟩
theorem DE.str {z : Str} {m : Nat} : DE φ T W (.Constant (.str z) m pos) (sC (.str z)) := ⟨_, fun i => pe_str, Ev.con fun F => .str z⟩
theorem DE.bl {z : Bool} {m : Nat} : DE φ T W (.Constant (.bool z) m pos) (sC (.bl z)) := ⟨_, fun i => pe_bl, Ev.con fun F => .bl z⟩
theorem DE.non {m : Nat} : DE φ T W (.Constant .none m pos) (sC .non) := ⟨_, fun i => pe_non, Ev.con fun F => .non⟩
/-- a module's name: a number, a text, a tuple, .. -/
theorem DE.glob (h : Fam φ P w T base N sc fc k W) {v : V} {u : Value} {d : D} (hm : T.mg x = some u) (r : RelV v u) (dr : ∀ F, DR T F v d) (hg : glB sc x = true := by rfl) (hd : (x == ("__debug__" : Str)) = false := by decide) : DE φ T W (.Name x p) (sC d) :=
  ⟨_, fun i => pe_glob (h.gl hg i) (by rw [h.emg i]; exact hm) r hd, Ev.con dr⟩
/-- a built-in type as a value -/
theorem DE.ty (h : Fam φ P w T base N sc fc k W) {n : String} (hm : T.mg x = none) (hv : bootBuiltins x = some (.type n)) (hg : glB sc x = true := by rfl) (hn : x ≠ "__name__" := by decide) (hd : (x == ("__debug__" : Str)) = false := by decide) : DE φ T W (.Name x p) (sC (.ty n)) :=
  ⟨_, fun i => pe_bltn (v := .ty n) (h.gl hg i) (by rw [h.emg i]; exact hm) hv rfl hn hd, Ev.con fun F => .ty n⟩
theorem DE.op {op : Operator} {r : R2} {gg : C → C → Option C} (ho : ∀ i, OpR (φ i) (binaryOp op) r) (l : Lift2 T r gg) (ha : DE φ T W a fa) (hb : DE φ T W b fb) : DE φ T W (.BinOp a op b pos) (sOp2 gg fa fb) := by
  obtain ⟨ta, pa, ea⟩ := ha
  obtain ⟨tb, pb, eb⟩ := hb
  exact ⟨_, fun i => pe_op (ho i) (pa i) (pb i), Ev.op l ea eb⟩
theorem DE.cmp {op : CmpOp} {r : R2} {gg : C → C → Option C} (ho : ∀ i, OpR (φ i) (compareOp op) r) (l : Lift2 T r gg) (ha : DE φ T W a fa) (hb : DE φ T W b fb) (hm : behindInMarks op b = false := by rfl) : DE φ T W (.Compare a [op] [b] pos) (sOp2 gg fa fb) := by
  obtain ⟨ta, pa, ea⟩ := ha
  obtain ⟨tb, pb, eb⟩ := hb
  exact ⟨_, fun i => pe_cmpR (ho i) (pa i) (pb i) hm, Ev.op l ea eb⟩
theorem DE.neg (ha : DE φ T W a fa) : DE φ T W (.UnaryOp .USub a pos) (sOp1 gNeg fa) := by
  obtain ⟨ta, pa, ea⟩ := ha
  exact ⟨_, fun i => pe_un un_neg (pa i), Ev.un lift_neg ea⟩
theorem DE.add (h : Fam φ P w T base N sc fc k W) (ha : DE φ T W a fa) (hb : DE φ T W b fb) : DE φ T W (.BinOp a .Add b pos) (sOp2 gAdd fa fb) := DE.op (fun i => by rw [← h.eK i]; exact op_addU) lift_add ha hb
theorem DE.sub (ha : DE φ T W a fa) (hb : DE φ T W b fb) : DE φ T W (.BinOp a .Sub b pos) (sOp2 L3.gSub fa fb) := DE.op (fun i => op_sub) lift_sub ha hb
theorem DE.mul (h : Fam φ P w T base N sc fc k W) (ha : DE φ T W a fa) (hb : DE φ T W b fb) : DE φ T W (.BinOp a .Mult b pos) (sOp2 gMul fa fb) := DE.op (fun i => by rw [← h.eK i]; exact op_mulU) lift_mul ha hb
theorem DE.mod (ha : DE φ T W a fa) (hb : DE φ T W b fb) : DE φ T W (.BinOp a .Mod b pos) (sOp2 gMod fa fb) := DE.op (fun i => op_mod) lift_mod ha hb
theorem DE.div (ha : DE φ T W a fa) (hb : DE φ T W b fb) : DE φ T W (.BinOp a .FloorDiv b pos) (sOp2 gDiv fa fb) := DE.op (fun i => op_fdivW) lift_div ha hb
theorem DE.pow (ha : DE φ T W a fa) (hb : DE φ T W b fb) : DE φ T W (.BinOp a .Pow b pos) (sOp2 gPow fa fb) := DE.op (fun i => op_pow) lift_pow ha hb
theorem DE.lt (ha : DE φ T W a fa) (hb : DE φ T W b fb) : DE φ T W (.Compare a [.Lt] [b] pos) (sOp2 gLtI fa fb) := DE.cmp (fun i => op_lt) lift_ltI ha hb (nobehind _ (by decide) (by decide))
theorem DE.le (ha : DE φ T W a fa) (hb : DE φ T W b fb) : DE φ T W (.Compare a [.LtE] [b] pos) (sOp2 gLe fa fb) := DE.cmp (fun i => op_le) lift_le ha hb (nobehind _ (by decide) (by decide))
theorem DE.gt (ha : DE φ T W a fa) (hb : DE φ T W b fb) : DE φ T W (.Compare a [.Gt] [b] pos) (sOp2 gGt fa fb) := DE.cmp (fun i => op_gt) lift_gt ha hb (nobehind _ (by decide) (by decide))
theorem DE.ge (ha : DE φ T W a fa) (hb : DE φ T W b fb) : DE φ T W (.Compare a [.GtE] [b] pos) (sOp2 gGe fa fb) := DE.cmp (fun i => op_ge) lift_ge ha hb (nobehind _ (by decide) (by decide))
theorem DE.eq (h : Fam φ P w T base N sc fc k W) (ha : DE φ T W a fa) (hb : DE φ T W b fb) : DE φ T W (.Compare a [.Eq] [b] pos) (sOp2 gEq fa fb) := DE.cmp (fun i => by rw [← h.eK i]; exact op_eqU (by have := h.units i; omega)) lift_eq ha hb (nobehind _ (by decide) (by decide))
theorem DE.ne (h : Fam φ P w T base N sc fc k W) (ha : DE φ T W a fa) (hb : DE φ T W b fb) : DE φ T W (.Compare a [.NotEq] [b] pos) (sOp2 gNe fa fb) := DE.cmp (fun i => by rw [← h.eK i]; exact op_neU (by have := h.units i; omega)) lift_ne ha hb (nobehind _ (by decide) (by decide))
theorem DE.in_ (h : Fam φ P w T base N sc fc k W) (ha : DE φ T W a fa) (hb : DE φ T W b fb) (hm : behindInMarks .In b = false := by rfl) : DE φ T W (.Compare a [.In] [b] pos) (sOp2 gIn fa fb) := DE.cmp (fun i => by rw [← h.eK i]; exact op_inU (h.units i)) lift_in ha hb hm
theorem DE.notIn (h : Fam φ P w T base N sc fc k W) (ha : DE φ T W a fa) (hb : DE φ T W b fb) (hm : behindInMarks .NotIn b = false := by rfl) : DE φ T W (.Compare a [.NotIn] [b] pos) (sOp2 gNotIn fa fb) := DE.cmp (fun i => by rw [← h.eK i]; exact op_notInU (h.units i)) lift_notIn ha hb hm
/-- is None -/
theorem DE.isN {m : Nat} (ha : DE φ T W a fa) : DE φ T W (.Compare a [.Is] [.Constant .none m p] pos) (sOp1 gIsN fa) := by
  obtain ⟨ta, pa, ea⟩ := ha
  refine ⟨_, fun i => pe_cmpR op_isN (pa i) pe_non (nobehind _ (by decide) (by decide)), ?_⟩
  refine Ev.un (r := fun x H Q => V.non = V.non ∧ Q (.bl (decide (x = .non))) H) ?_ ea
  intro F H x c1 f1 c Q sb h1 e q
  cases e
  exact ⟨rfl, by rw [isNon_eq (h1.look sb)]; exact Fin2.dat sb q (.bl _)⟩
theorem DE.notN {m : Nat} (ha : DE φ T W a fa) : DE φ T W (.Compare a [.IsNot] [.Constant .none m p] pos) (sOp1 gNotN fa) := by
  obtain ⟨ta, pa, ea⟩ := ha
  refine ⟨_, fun i => pe_cmpR op_notN (pa i) pe_non (nobehind _ (by decide) (by decide)), ?_⟩
  refine Ev.un (r := fun x H Q => V.non = V.non ∧ Q (.bl (!decide (x = .non))) H) ?_ ea
  intro F H x c1 f1 c Q sb h1 e q
  cases e
  exact ⟨rfl, by rw [isNon_eq (h1.look sb)]; exact Fin2.dat sb q (.bl _)⟩
theorem DE.ix (h : Fam φ P w T base N sc fc k W) (ha : DE φ T W a fa) (hb : DE φ T W b fb) (hs : PlainIx b := by intro _ _; rfl) : DE φ T W (.Subscript a b pos) (sIx fa fb) := by
  obtain ⟨ta, pa, ea⟩ := ha
  obtain ⟨tb, pb, eb⟩ := hb
  exact ⟨_, fun i => by rw [← h.eK i]; exact pe_ix ix_seq (pa i) (pb i) hs, Ev.ix ea eb⟩
theorem DO.none : DO φ T W none sNoPart := ⟨_, fun i => po_none, EvO.none⟩
theorem DO.some (ha : DE φ T W a fa) : DO φ T W (some a) (sPart fa) := by
  obtain ⟨ta, pa, ea⟩ := ha
  exact ⟨_, fun i => po_some (pa i), EvO.some ea⟩
theorem DE.sl (h : Fam φ P w T base N sc fc k W) {lo hi : Option Expr} {p2 : Pos} {fl fh : S (Option Int)} (ha : DE φ T W a fa) (hl : DO φ T W lo fl) (hh : DO φ T W hi fh) : DE φ T W (.Subscript a (.Slice lo hi none p2) pos) (sSl fa fl fh) := by
  obtain ⟨ta, pa, ea⟩ := ha
  obtain ⟨tl, pl, el⟩ := hl
  obtain ⟨th, ph, eh⟩ := hh
  exact ⟨_, fun i => by rw [← h.eK i]; exact pe_slice sl_U (pa i) (pl i) (ph i), Ev.sl ea el eh⟩
theorem DA.nil : DA φ T W [] sNil := ⟨_, fun i => pa_nil, EvA.nil⟩
theorem DA.cons (ha : DE φ T W a fa) (hr : DA φ T W es fs) (hs : ∀ i, starEach (a :: es) (φ i).env = (false, eval a (φ i).env) :: starEach es (φ i).env := by intro _; rfl) : DA φ T W (a :: es) (sCons fa fs) := by
  obtain ⟨ta, pa, ea⟩ := ha
  obtain ⟨tr, pr, er⟩ := hr
  exact ⟨_, fun i => pa_cons (pa i) (pr i) (hs i), EvA.cons ea er⟩
theorem DE.tup {m : Nat} (ha : DA φ T W es fs) : DE φ T W (.Tuple es m pos) (sTup fs) := by
  obtain ⟨ta, pa, ea⟩ := ha
  exact ⟨_, fun i => pe_tup (pa i), Ev.tup ea⟩
theorem DE.lst (ha : DA φ T W es fs) : DE φ T W (.List es pos) (sLst fs) := by
  obtain ⟨ta, pa, ea⟩ := ha
  exact ⟨_, fun i => pe_lst (pa i), Ev.lst ea⟩
/-- a call of a built-in function, of a built-in type -/
theorem DE.blt (h : Fam φ P w T base N sc fc k W) {id : String} {r : List V → Hp → VK → Prop} {gg : List C → Option C} (hc : ∀ i, CallR (φ i) (.builtin id) r) (l : LiftC T r gg) (hm : T.mg x = none) (hv : bootBuiltins x = some (.builtin id)) (ha : DA φ T W (a :: es) fs) (hg : glB sc x = true := by rfl)
    (hn : x ≠ "__name__" := by decide) (hdb : (x == ("__debug__" : Str)) = false := by decide) (he : ∀ i, starEach (a :: es) (φ i).env = (false, eval a (φ i).env) :: starEach es (φ i).env := by intro _; rfl) (hpl : ∀ i, (backTo pos (starEach es (φ i).env)).any (·.1) = false := by intro _; rfl) :
    DE φ T W (.Call (.Name x p) (a :: es) [] pos) (sBlt gg fs) := by
  obtain ⟨ta, pa, ea⟩ := ha
  exact ⟨_, fun i => pe_callB (hc i) (h.gl hg i) (by rw [h.emg i]; exact hm) hv (pa i) hn hdb (he i) (hpl i), Ev.blt l ea⟩
theorem DE.bty (h : Fam φ P w T base N sc fc k W) {id : String} {r : List V → Hp → VK → Prop} {gg : List C → Option C} (hc : ∀ i, CallR (φ i) (.type id) r) (l : LiftC T r gg) (hm : T.mg x = none) (hv : bootBuiltins x = some (.type id)) (ha : DA φ T W (a :: es) fs) (hg : glB sc x = true := by rfl)
    (hn : x ≠ "__name__" := by decide) (hdb : (x == ("__debug__" : Str)) = false := by decide) (he : ∀ i, starEach (a :: es) (φ i).env = (false, eval a (φ i).env) :: starEach es (φ i).env := by intro _; rfl) (hpl : ∀ i, (backTo pos (starEach es (φ i).env)).any (·.1) = false := by intro _; rfl) :
    DE φ T W (.Call (.Name x p) (a :: es) [] pos) (sBlt gg fs) := by
  obtain ⟨ta, pa, ea⟩ := ha
  exact ⟨_, fun i => pe_callTy (hc i) (h.gl hg i) (by rw [h.emg i]; exact hm) hv (pa i) hn hdb (he i) (hpl i), Ev.blt l ea⟩
theorem DE.m1 {id : String} {name : Str} {r : V → List V → Hp → VK → Prop} {gg : C → List C → Option C} (slot : Slot "str" name id) (ty : typeOf (.builtin id) = pure (.type "method_descriptor")) (rule : ∀ i, MtR (φ i) id r) (l : LiftM T r gg) (ha : DE φ T W a fa) (hb : DE φ T W b fb)
    (hs : ∀ i, starEach [b] (φ i).env = [(false, eval b (φ i).env)] := by intro _; rfl) (hbase : ∀ i, attributeBase a name (φ i).env (eval a (φ i).env) = eval a (φ i).env := by intro _; rfl) (hline : (apos.endLine == pos.line) = true := by rfl) :
    DE φ T W (.Call (.Attribute a name apos) [b] [] pos) (sM1 gg fa fb) := by
  obtain ⟨ta, pa, ea⟩ := ha
  obtain ⟨tb, pb, eb⟩ := hb
  exact ⟨_, fun i => pe_m1 slot ty (rule i) (pa i) (pb i) (hs i) (hbase i) hline, Ev.m1 l ea eb⟩
/-- a method that changes the list in a slot -/
theorem DE.mut (h : Fam φ P w T base N sc fc k W) {id : String} {name : Str} {r : V → List V → Hp → VK → Prop} {gg : List D → List D → Option (List D × D)} (slot : Slot "list" name id) (hty : typeOf (.builtin id) = pure (.type "method_descriptor")) (hm : ∀ i, MtR (φ i) id r) (m : MutR T r gg) (ha : DA φ T W (a :: es) fs) (j : Nat)
    (hN : N[j]? = some x := by rfl) (hv : visB sc x = true := by rfl) (hd : (x == ("__debug__" : Str)) = false := by decide) (hcd : (x == ("__classdict__" : Str)) = false := by decide)
    (hbase : ∀ i, attributeBase (.Name x p) name (φ i).env (eval (.Name x p) (φ i).env) = eval (.Name x p) (φ i).env := by intro _; rfl)
    (hfew : ∀ i, ((backTo pos (starEach (a :: es) (φ i).env)).all (fun x => !x.1) && (backToKw pos (keywordEach [] (φ i).env)).all (fun x => x.1.isSome) && decide ((a :: es).length + ([] : List Keyword).length + (if ([] : List Keyword).isEmpty then 0 else 1) < 30)) = true := by intro _; rfl)
    (hline : (apos.endLine == pos.line) = true := by rfl) (hs : ∀ i, starEach (a :: es) (φ i).env = (false, eval a (φ i).env) :: starEach es (φ i).env := by intro _; rfl) (hplain : ∀ i, (backTo pos (starEach es (φ i).env)).any (·.1) = false := by intro _; rfl) :
    DE φ T W (.Call (.Attribute (.Name x p) name apos) (a :: es) [] pos) (sMut j gg fs) := by
  obtain ⟨ta, pa, ea⟩ := ha
  refine ⟨_, fun i => ?_, Ev.mut m ea⟩
  have q := pe_bm F.plainAttrs_list slot hty (hm i) (pe_var (X := φ i) (i := j) (by rw [h.eN i]; exact hN) (by rw [h.esc i]; exact visB_ok hv) hd hcd) (pa i) (hbase i) (hfew i) hline (hs i) (hplain i)
  rw [h.eK i] at q
  exact q
theorem DE.mut0 (h : Fam φ P w T base N sc fc k W) {id : String} {name : Str} {r : V → List V → Hp → VK → Prop} {gg : List D → List D → Option (List D × D)} (slot : Slot "list" name id) (hty : typeOf (.builtin id) = pure (.type "method_descriptor")) (hm : ∀ i, MtR (φ i) id r) (m : MutR T r gg) (j : Nat)
    (hN : N[j]? = some x := by rfl) (hv : visB sc x = true := by rfl) (hd : (x == ("__debug__" : Str)) = false := by decide) (hcd : (x == ("__classdict__" : Str)) = false := by decide)
    (hbase : ∀ i, attributeBase (.Name x p) name (φ i).env (eval (.Name x p) (φ i).env) = eval (.Name x p) (φ i).env := by intro _; rfl) (hline : (apos.endLine == pos.line) = true := by rfl) :
    DE φ T W (.Call (.Attribute (.Name x p) name apos) [] [] pos) (sMut j gg sNil) := by
  refine ⟨_, fun i => ?_, Ev.mut0 (j := j) m⟩
  have q := pe_bm0 F.plainAttrs_list slot hty (hm i) (pe_var (X := φ i) (i := j) (by rw [h.eN i]; exact hN) (by rw [h.esc i]; exact visB_ok hv) hd hcd) (hbase i) hline
  rw [h.eK i] at q
  exact q
/-- a call of an own def -/
theorem DE.call (h : Fam φ P w T base N sc fc k W) {k' : Nat} {fl : Addr} {fd : FuncData} {ps : List Str} {sem : FS} (F : FnOk P w T.K T.mg base (L2.CX P w) k' fl fd ps (spOf T sem)) (hk : k' ≤ k) (hm : T.mg x = some (.ref fl)) (kp : PySem.W.keepIn T.K (.ref fl) = true) (hb : Binds T.K fd ps []) (ha : DA φ T W (a :: es) fs) (hg : glB sc x = true := by rfl)
    (hdb : (x == ("__debug__" : Str)) = false := by decide) (he : ∀ i, starEach (a :: es) (φ i).env = (false, eval a (φ i).env) :: starEach es (φ i).env := by intro _; rfl) (hpl : ∀ i, (backTo pos (starEach es (φ i).env)).any (·.1) = false := by intro _; rfl) :
    DE φ T W (.Call (.Name x p) (a :: es) [] pos) (sCall sem fs) := by
  obtain ⟨ta, pa, ea⟩ := ha
  refine ⟨_, fun i => ?_, Ev.call ea⟩
  refine pe_callS (CX := L2.CX (φ i).prog (φ i).w) (k := k') (f := fl) (fd := fd) (ps := ps) ?_ ((h.room i).mono hk) (h.gl hg i) (by rw [h.emg i]; exact hm) (by rw [h.eK i]; exact kp) (by rw [h.eK i]; exact hb) (passAt (h.tk i)) (pa i) hdb (he i) (hpl i)
  rw [h.eP i, h.ew i, h.eK i, h.emg i, h.eb i]
  exact F
/-- .. where the guards are empty -/
theorem DE.callG (h : Fam φ P w T base N sc fc k W) (hG : ∀ i, (φ i).A.guards = some []) {k' : Nat} {fl : Addr} {fd : FuncData} {ps : List Str} {sem : FS} (F : FnG P w T.K T.mg base (L2.CX P w) k' fl fd ps (spOf T sem)) (hk : k' ≤ k) (hm : T.mg x = some (.ref fl)) (kp : PySem.W.keepIn T.K (.ref fl) = true) (hb : Binds T.K fd ps []) (ha : DA φ T W (a :: es) fs) (hg : glB sc x = true := by rfl)
    (hdb : (x == ("__debug__" : Str)) = false := by decide) (he : ∀ i, starEach (a :: es) (φ i).env = (false, eval a (φ i).env) :: starEach es (φ i).env := by intro _; rfl) (hpl : ∀ i, (backTo pos (starEach es (φ i).env)).any (·.1) = false := by intro _; rfl) :
    DE φ T W (.Call (.Name x p) (a :: es) [] pos) (sCall sem fs) := by
  obtain ⟨ta, pa, ea⟩ := ha
  refine ⟨_, fun i => ?_, Ev.call ea⟩
  refine pe_callG (CX := L2.CX (φ i).prog (φ i).w) (k := k') (f := fl) (fd := fd) (ps := ps) (hG i) ?_ ((h.room i).mono hk) (h.gl hg i) (by rw [h.emg i]; exact hm) (by rw [h.eK i]; exact kp) (by rw [h.eK i]; exact hb) (passAt (h.tk i)) (pa i) hdb (he i) (hpl i)
  rw [h.eP i, h.ew i, h.eK i, h.emg i, h.eb i]
  exact F
end
end L3
/-! L3r: tests, loops, comprehensions, statements, defs. -/
namespace L3
open PySem L2
section
variable {ι : Type} {φ : ι → Cx} {P : Program} {w : World} {T : Tx} {base : Heap} {N : List Str} {sc : Scope} {fc : Str → Bool} {k : Nat} {W : WX}
variable {x y : Str} {p pos apos spos : Pos} {a b c e : Expr} {es rest : List Expr} {fa fb fe : S R} {f g : S Bool} {fs : S (List R)} {j : Nat}
/-! ### tests -/
theorem DT.val (ha : DE φ T W a fa) (he : ∀ i, ∀ whole, isTrue a (φ i).env whole = (do let v ← whole; standAt a.pos; holding [v] (truthy v)) := by intro _ _; rfl) : DT φ T W a (sTruth fa) := by
  obtain ⟨ta, pa, ea⟩ := ha
  exact ⟨_, fun i => pt_val (pa i) (he i), EvT.valB ea⟩
theorem DT.cmp {op : CmpOp} {r : R2} {gg : C → C → Option C} (ho : ∀ i, OpR (φ i) (compareOp op) r) (l : Lift2 T r gg) (ha : DE φ T W a fa) (hb : DE φ T W b fb) (hm : behindInMarks op b = false := by rfl) : DT φ T W (.Compare a [op] [b] pos) (sTruth (sOp2 gg fa fb)) := by
  obtain ⟨ta, pa, ea⟩ := ha
  obtain ⟨tb, pb, eb⟩ := hb
  exact ⟨_, fun i => pt_cmpR (ho i) (pa i) (pb i) hm, EvT.val (Ev.op l ea eb)⟩
theorem DT.lt (ha : DE φ T W a fa) (hb : DE φ T W b fb) : DT φ T W (.Compare a [.Lt] [b] pos) (sTruth (sOp2 gLtI fa fb)) := DT.cmp (fun i => op_lt) lift_ltI ha hb (nobehind _ (by decide) (by decide))
theorem DT.le (ha : DE φ T W a fa) (hb : DE φ T W b fb) : DT φ T W (.Compare a [.LtE] [b] pos) (sTruth (sOp2 gLe fa fb)) := DT.cmp (fun i => op_le) lift_le ha hb (nobehind _ (by decide) (by decide))
theorem DT.gt (ha : DE φ T W a fa) (hb : DE φ T W b fb) : DT φ T W (.Compare a [.Gt] [b] pos) (sTruth (sOp2 gGt fa fb)) := DT.cmp (fun i => op_gt) lift_gt ha hb (nobehind _ (by decide) (by decide))
theorem DT.ge (ha : DE φ T W a fa) (hb : DE φ T W b fb) : DT φ T W (.Compare a [.GtE] [b] pos) (sTruth (sOp2 gGe fa fb)) := DT.cmp (fun i => op_ge) lift_ge ha hb (nobehind _ (by decide) (by decide))
theorem DT.eq (h : Fam φ P w T base N sc fc k W) (ha : DE φ T W a fa) (hb : DE φ T W b fb) : DT φ T W (.Compare a [.Eq] [b] pos) (sTruth (sOp2 gEq fa fb)) := DT.cmp (fun i => by rw [← h.eK i]; exact op_eqU (by have := h.units i; omega)) lift_eq ha hb (nobehind _ (by decide) (by decide))
theorem DT.ne (h : Fam φ P w T base N sc fc k W) (ha : DE φ T W a fa) (hb : DE φ T W b fb) : DT φ T W (.Compare a [.NotEq] [b] pos) (sTruth (sOp2 gNe fa fb)) := DT.cmp (fun i => by rw [← h.eK i]; exact op_neU (by have := h.units i; omega)) lift_ne ha hb (nobehind _ (by decide) (by decide))
theorem DT.in_ (h : Fam φ P w T base N sc fc k W) (ha : DE φ T W a fa) (hb : DE φ T W b fb) (hm : behindInMarks .In b = false := by rfl) : DT φ T W (.Compare a [.In] [b] pos) (sTruth (sOp2 gIn fa fb)) := DT.cmp (fun i => by rw [← h.eK i]; exact op_inU (h.units i)) lift_in ha hb hm
theorem DT.notIn (h : Fam φ P w T base N sc fc k W) (ha : DE φ T W a fa) (hb : DE φ T W b fb) (hm : behindInMarks .NotIn b = false := by rfl) : DT φ T W (.Compare a [.NotIn] [b] pos) (sTruth (sOp2 gNotIn fa fb)) := DT.cmp (fun i => by rw [← h.eK i]; exact op_notInU (h.units i)) lift_notIn ha hb hm
theorem DT.isN {m : Nat} (ha : DE φ T W a fa) : DT φ T W (.Compare a [.Is] [.Constant .none m p] pos) (sTruth (sOp1 gIsN fa)) := by
  obtain ⟨ta, pa, ea⟩ := ha
  refine ⟨_, fun i => pt_cmpR op_isN (pa i) pe_non (nobehind _ (by decide) (by decide)), EvT.val ?_⟩
  refine Ev.un (r := fun x H Q => V.non = V.non ∧ Q (.bl (decide (x = .non))) H) ?_ ea
  intro F H x c1 f1 c Q sb h1 e q
  cases e
  exact ⟨rfl, by rw [isNon_eq (h1.look sb)]; exact Fin2.dat sb q (.bl _)⟩
theorem DT.notN {m : Nat} (ha : DE φ T W a fa) : DT φ T W (.Compare a [.IsNot] [.Constant .none m p] pos) (sTruth (sOp1 gNotN fa)) := by
  obtain ⟨ta, pa, ea⟩ := ha
  refine ⟨_, fun i => pt_cmpR op_notN (pa i) pe_non (nobehind _ (by decide) (by decide)), EvT.val ?_⟩
  refine Ev.un (r := fun x H Q => V.non = V.non ∧ Q (.bl (!decide (x = .non))) H) ?_ ea
  intro F H x c1 f1 c Q sb h1 e q
  cases e
  exact ⟨rfl, by rw [isNon_eq (h1.look sb)]; exact Fin2.dat sb q (.bl _)⟩
theorem DT.not (ha : DT φ T W a f) : DT φ T W (.UnaryOp .Not a pos) (sNotT f) := by
  obtain ⟨ta, pa, ea⟩ := ha
  exact ⟨_, fun i => pt_not (pa i), EvT.not ea⟩
theorem DW.and1 (ha : DT φ T W a f) : DW φ T W (.BoolOp .And [a] pos) f := by
  obtain ⟨ta, pa, ea⟩ := ha
  exact ⟨_, fun i => pw_and1 (pa i), ea⟩
theorem DW.or1 (ha : DT φ T W a f) : DW φ T W (.BoolOp .Or [a] pos) f := by
  obtain ⟨ta, pa, ea⟩ := ha
  exact ⟨_, fun i => pw_or1 (pa i), ea⟩
theorem DW.and (ha : DT φ T W a f) (hb : DW φ T W (.BoolOp .And (b :: rest) pos) g) : DW φ T W (.BoolOp .And (a :: b :: rest) pos) (sAndT f g) := by
  obtain ⟨ta, pa, ea⟩ := ha
  obtain ⟨tb, pb, eb⟩ := hb
  exact ⟨_, fun i => pw_and (pa i) (pb i), EvT.and ea eb⟩
theorem DW.or (ha : DT φ T W a f) (hb : DW φ T W (.BoolOp .Or (b :: rest) pos) g) : DW φ T W (.BoolOp .Or (a :: b :: rest) pos) (sOrT f g) := by
  obtain ⟨ta, pa, ea⟩ := ha
  obtain ⟨tb, pb, eb⟩ := hb
  exact ⟨_, fun i => pw_or (pa i) (pb i), EvT.or ea eb⟩
theorem DT.whole (ha : DW φ T W a f) : DT φ T W a f := by
  obtain ⟨ta, pa, ea⟩ := ha
  exact ⟨_, fun i => (pa i).pt, ea⟩
/-! ### and, or, not as values; a if t else b; chains -/
theorem DE.one {op : BoolOp} (ha : DE φ T W a fa) : DE φ T W (.BoolOp op [a] pos) fa := by
  obtain ⟨ta, pa, ea⟩ := ha
  exact ⟨_, fun i => pe_one (pa i), ea⟩
theorem DE.and (ha : DE φ T W a fa) (hb : DE φ T W (.BoolOp .And (b :: rest) pos) fb) : DE φ T W (.BoolOp .And (a :: b :: rest) pos) (sAndV fa fb) := by
  obtain ⟨ta, pa, ea⟩ := ha
  obtain ⟨tb, pb, eb⟩ := hb
  exact ⟨_, fun i => pe_and (pa i) (pb i), Ev.andV ea eb⟩
theorem DE.or (ha : DE φ T W a fa) (hb : DE φ T W (.BoolOp .Or (b :: rest) pos) fb) : DE φ T W (.BoolOp .Or (a :: b :: rest) pos) (sOrV fa fb) := by
  obtain ⟨ta, pa, ea⟩ := ha
  obtain ⟨tb, pb, eb⟩ := hb
  exact ⟨_, fun i => pe_or (pa i) (pb i), Ev.orV ea eb⟩
theorem DE.not (ha : DE φ T W a fa) : DE φ T W (.UnaryOp .Not a pos) (sNotV fa) := by
  obtain ⟨ta, pa, ea⟩ := ha
  exact ⟨_, fun i => pe_not (pa i), Ev.notV ea⟩
theorem DE.ifE (hc : DT φ T W c f) (ha : DE φ T W a fa) (hb : DE φ T W b fb) : DE φ T W (.IfExp c a b pos) (sIf f fa fb) := by
  obtain ⟨tc, pc, ec⟩ := hc
  obtain ⟨ta, pa, ea⟩ := ha
  obtain ⟨tb, pb, eb⟩ := hb
  exact ⟨_, fun i => pe_ifExp (pc i) (pa i) (pb i), Ev.ifE ec ea eb⟩
theorem Ev.chain {W : WX} {ta tb tc : TE} {fa fb fc : S R} {r r' : R2} {g g' : C → C → Option C} (l : Lift2 T r g) (l' : Lift2 T r' g') (ha : Ev T W ta fa) (hb : Ev T W tb fb) (hc : Ev T W tc fc) : Ev T W (tChain r r' ta tb tc) (sChain g g' fa fb fc) := by
  intro σ F H ρ as o Q s e x q
  refine Ev.bind2 (Q := fun x y H2 => r x y H2 fun z H3 => ∃ k, z = .bl k ∧ if k = true then tc σ H3 fun z' H4 => r' y z' H4 Q else Q (.bl false) H3) ha hb s e x fun r1 r2 ρ2 v1 v2 F2 H2 t1 t2 as2 e2 s2 rs x2 => ?_
  split at e2
  · rename_i c1 h1
    split at e2
    · rename_i c2 h2
      obtain ⟨f1, k1, _⟩ := rs.vw.res rs.sl h1
      obtain ⟨f2, k2, _⟩ := rs.vw'.res rs.sl h2
      cases h3 : g c1 c2 with
      | none => rw [h3] at e2; cases e2
      | some cc =>
        rw [h3] at e2
        refine l F2 H2 v1 v2 c1 c2 f1 f2 cc _ rs.sb k1 k2 h3 fun v F' H' ts n cr nd fr => ?_
        split at e2
        · rename_i hb'
          cases hb'
          obtain rfl := inv_bl cr
          refine ⟨true, rfl, ?_⟩
          rw [if_pos rfl]
          have sr2 : SR T σ F' H' ρ2 (t2 ++ as2) → True := fun _ => trivial
          have rs2 : RS T σ F2 H2 ρ2 as2 v2 r2 t2 := ⟨rs.sl, rs.vw', (List.nodup_append.mp rs.nd).2.1, fun a m => rs.fr a (List.mem_append_right _ m), rs.sb⟩
          have sr3 : SR T σ F' H' ρ2 as2 := rs2.sr.new n
          obtain ⟨rs3, st3⟩ := rs2.over (n.step (as := as2)) sr3
          have st4 : Stp F H as F' H' (t2 ++ as2) := s2.trans ((n.step (as := t1 ++ (t2 ++ as2))).mono (fun a m => m) fun a m => .inl (List.mem_append_right _ m))
          refine hc.bind rs3.sr e2 (x.step (st4.mono (fun a m => m) fun a m => .inl (List.mem_append_right _ m))) fun r3 ρ3 v3 F4 H4 t3 as3 e3 s4 rs4 x4 => ?_
          obtain ⟨w, st5⟩ := rs3.then_ s4 rs4
          split at e3
          · rename_i c2' h2'
            split at e3
            · rename_i c3 h3'
              split at e3
              · rename_i cz hz
                cases e3
                obtain ⟨f5, k5, _⟩ := w.vw.res w.sl h2'
                obtain ⟨f6, k6, _⟩ := w.vw'.res w.sl h3'
                refine l' F4 H4 v2 v3 c2' c3 f5 f6 cz Q w.sb k5 k6 hz fun v' F5 H5 us n5 cr5 nd5 fr5 => ?_
                obtain ⟨w5, st6⟩ := RS.new (ρ := ρ3) (as := as3) w.sr n5 cr5 nd5 fr5
                exact q _ _ rfl v' F5 H5 us as3 ((st4.trans st5).trans (st6.mono (fun a m => by simp [m]) fun a m => .inl m)) w5
              · cases e3
            · cases e3
          · cases e3
        · rename_i hb'
          cases hb'
          obtain rfl := inv_bl cr
          cases e2
          refine ⟨false, rfl, ?_⟩
          rw [if_neg Bool.false_ne_true]
          have sr3 : SR T σ F' H' ρ2 as2 := rs.sr.new n
          exact q _ _ rfl _ F' H' [] as2 (s2.trans ((n.step (as := t1 ++ (t2 ++ as2))).mono (fun a m => m) fun a m => .inl (List.mem_append_right _ (List.mem_append_right _ m)))) (sr3.rsB false)
        · cases e2
    · cases e2
  · cases e2
theorem DE.chain {op op' : CmpOp} {r r' : R2} {gg gg' : C → C → Option C} {fc' : S R} (ho : ∀ i, OpR (φ i) (compareOp op) r) (l : Lift2 T r gg) (ho' : ∀ i, OpR (φ i) (compareOp op') r') (l' : Lift2 T r' gg') (ha : DE φ T W a fa) (hb : DE φ T W b fb) (hc : DE φ T W c fc') (hm : lastMarks [op, op'] [b, c] = false := by with_unfolding_all rfl) :
    DE φ T W (.Compare a [op, op'] [b, c] pos) (sChain gg gg' fa fb fc') := by
  obtain ⟨ta, pa, ea⟩ := ha
  obtain ⟨tb, pb, eb⟩ := hb
  obtain ⟨tc, pc, ec⟩ := hc
  exact ⟨_, fun i => pe_chain (ho i) (ho' i) (pa i) (pb i) (pc i) hm, Ev.chain l l' ea eb ec⟩
theorem DT.chain {op op' : CmpOp} {r r' : R2} {gg gg' : C → C → Option C} {fc' : S R} (ho : ∀ i, OpR (φ i) (compareOp op) r) (l : Lift2 T r gg) (ho' : ∀ i, OpR (φ i) (compareOp op') r') (l' : Lift2 T r' gg') (ha : DE φ T W a fa) (hb : DE φ T W b fb) (hc : DE φ T W c fc') (hm : lastMarks [op, op'] [b, c] = false := by with_unfolding_all rfl) :
    DT φ T W (.Compare a [op, op'] [b, c] pos) (sTruth (sChain gg gg' fa fb fc')) := by
  obtain ⟨ta, pa, ea⟩ := ha
  obtain ⟨tb, pb, eb⟩ := hb
  obtain ⟨tc, pc, ec⟩ := hc
  exact ⟨_, fun i => pt_chain (ho i) (ho' i) (pa i) (pb i) (pc i) hm, EvT.val (Ev.chain l l' ea eb ec)⟩
/-! ### what is walked -/
variable {tg it : Expr} {fi : S (List D)} {fg : D → Ro → Option Ro} {fgs : List D → Ro → Option Ro} {Z Z' : List Nat} {fb' : SS} {sts : List Stmt} {st : Stmt} {gs hs : SS}
theorem DI.walk (h : Fam φ P w T base N sc fc k W) (ha : DE φ T W a fa) : DI φ T W tg a (sWalk fa) := by
  obtain ⟨ta, pa, ea⟩ := ha
  exact ⟨_, fun i => by rw [← h.eK i]; exact pi_U (pa i), EvI.walk ea⟩
theorem DI.rng1 (h : Fam φ P w T base N sc fc k W) (hm : T.mg "range" = none) (ha : DA φ T W [a] fs) (hg : glB sc "range" = true := by rfl) (hs : ∀ i, starEach [a] (φ i).env = [(false, eval a (φ i).env)] := by intro _; rfl) : DI φ T W tg (.Call (.Name "range" p) [a] [] pos) (sRng1 fs) := by
  obtain ⟨ta, pa, ea⟩ := ha
  exact ⟨_, fun i => pi_range1 (h.gl hg i) (by rw [h.emg i]; exact hm) (pa i) (hs i), EvI.rng1 ea⟩
theorem DI.rng2 (h : Fam φ P w T base N sc fc k W) (hm : T.mg "range" = none) (ha : DA φ T W [a, b] fs) (hg : glB sc "range" = true := by rfl) (hs : ∀ i, starEach [a, b] (φ i).env = [(false, eval a (φ i).env), (false, eval b (φ i).env)] := by intro _; rfl) (hs2 : ∀ i, starEach [b] (φ i).env = [(false, eval b (φ i).env)] := by intro _; rfl) :
    DI φ T W tg (.Call (.Name "range" p) [a, b] [] pos) (sRng2 fs) := by
  obtain ⟨ta, pa, ea⟩ := ha
  exact ⟨_, fun i => pi_range2 (h.gl hg i) (by rw [h.emg i]; exact hm) (pa i) (hs i) (hs2 i), EvI.rng2 ea⟩
theorem DI.enum (h : Fam φ P w T base N sc fc k W) {elts : List Expr} {kk : Nat} {tpos : Pos} (hm : T.mg "enumerate" = none) (ha : DA φ T W [a] fs) (hg : glB sc "enumerate" = true := by rfl) (hs : ∀ i, starEach [a] (φ i).env = [(false, eval a (φ i).env)] := by intro _; rfl) : DI φ T W (.Tuple elts kk tpos) (.Call (.Name "enumerate" p) [a] [] pos) (sEnum fs) := by
  obtain ⟨ta, pa, ea⟩ := ha
  exact ⟨_, fun i => by rw [← h.eK i]; exact pi_enum (h.gl hg i) (by rw [h.emg i]; exact hm) (pa i) (hs i), EvI.enum ea⟩
theorem DI.zip (h : Fam φ P w T base N sc fc k W) {elts : List Expr} {kk : Nat} {tpos : Pos} (hm : T.mg "zip" = none) (ha : DA φ T W [a, b] fs) (hg : glB sc "zip" = true := by rfl) (hs : ∀ i, starEach [a, b] (φ i).env = (false, eval a (φ i).env) :: starEach [b] (φ i).env := by intro _; rfl) (hpl : ∀ i, (backTo pos (starEach [b] (φ i).env)).any (·.1) = false := by intro _; rfl) :
    DI φ T W (.Tuple elts kk tpos) (.Call (.Name "zip" p) [a, b] [] pos) (sZip fs) := by
  obtain ⟨ta, pa, ea⟩ := ha
  exact ⟨_, fun i => by rw [← h.eK i]; exact RZ.pi_zipA (h.gl hg i) (by rw [h.emg i]; exact hm) (pa i) (hs i) (hpl i), EvI.zip ea⟩
/-! ### targets -/
theorem DG.name (h : Fam φ P w T base N sc fc k W) (j : Nat) (hN : N[j]? = some x := by rfl) (hl : locB sc fc x = true := by rfl) : DG φ T [j] (.Name x p) (fgName j) :=
  ⟨_, fun i => pg_name (i := j) (by rw [h.eN i]; exact h.nd) (by rw [h.eN i]; exact hN) (by rw [h.esc i]; exact (locB_ok hl).1) (by rw [h.esc i]; exact (locB_ok hl).2.imp (h.fn i x) id), EvG.name j⟩
theorem DGs.nil : DGs φ T [] [] fgNil := ⟨_, fun i => pgs_nil, EvGs.nil⟩
theorem DGs.cons (h1 : DG φ T Z a fg) (h2 : DGs φ T Z' es fgs) (hs : ∀ i, (assignEach (a :: es) (φ i).env).map (·.2) = assign a (φ i).env :: (assignEach es (φ i).env).map (·.2) := by intro _; rfl) : DGs φ T (Z ++ Z') (a :: es) (fgCons fg fgs) := by
  obtain ⟨t, pt, et⟩ := h1
  obtain ⟨u, pu, eu⟩ := h2
  exact ⟨_, fun i => pgs_cons (pt i) (pu i) (hs i), EvGs.cons et eu⟩
theorem DGs.consS (h1 : DG φ T Z a fg) (h2 : DGs φ T Z' es fgs) (hs : ∀ i, (assignEach (.Starred a p :: es) (φ i).env).map (·.2) = assign a (φ i).env :: (assignEach es (φ i).env).map (·.2) := by intro _; rfl) : DGs φ T (Z ++ Z') (.Starred a p :: es) (fgCons fg fgs) := by
  obtain ⟨t, pt, et⟩ := h1
  obtain ⟨u, pu, eu⟩ := h2
  exact ⟨_, fun i => pgs_consS (pt i) (pu i) (hs i), EvGs.cons et eu⟩
theorem DG.tup (h : Fam φ P w T base N sc fc k W) {m : Nat} (n : Nat) (h1 : DGs φ T Z es fgs) (hn : ∀ i, (assignEach es (φ i).env).length = n := by intro _; rfl) (hst : ∀ i, (assignEach es (φ i).env).findIdx? (·.1) = none := by intro _; rfl) : DG φ T Z (.Tuple es m pos) (fgTup n fgs) := by
  obtain ⟨t, pt, et⟩ := h1
  exact ⟨_, fun i => by rw [← h.eK i]; exact pg_tup (h.calm i) (pt i) (hn i) (hst i), EvG.tup et⟩
theorem DG.star (h : Fam φ P w T base N sc fc k W) {m : Nat} (l n : Nat) (h1 : DGs φ T Z es fgs) (hn : ∀ i, (assignEach es (φ i).env).length = n := by intro _; rfl) (hst : ∀ i, (assignEach es (φ i).env).findIdx? (·.1) = some l := by intro _; rfl) (hin : l < n := by decide) : DG φ T Z (.Tuple es m pos) (fgStar l n fgs) := by
  obtain ⟨t, pt, et⟩ := h1
  exact ⟨_, fun i => by rw [← h.eK i]; exact pg_star (h.calm i) (pt i) (hn i) (hst i) hin, EvG.star et⟩
/-! ### comprehensions -/
variable {elt : Expr} {ifs : List Expr} {scope : Scope} {own : List (Str × Nat)}
def DTs (φ : ι → Cx) (T : Tx) (W : WX) (es : List Expr) (f : S Bool) : Prop := ∃ t, (∀ i, PTs (φ i) es t) ∧ EvT T W t f
theorem DTs.nil : DTs φ T W [] sYes := ⟨_, fun i => pts_nil, EvT.yes⟩
theorem DTs.one (ha : DT φ T W a f) : DTs φ T W [a] f := by
  obtain ⟨ta, pa, ea⟩ := ha
  exact ⟨_, fun i => pts_one (pa i), ea⟩
theorem DE.lc (h : Fam φ P w T base N sc fc k W) (own : List (Str × Nat)) (hi : DI φ T W tg it fi) (hg : DG (blkF φ scope) T Z tg fg) (hz : ∀ i ∈ Z, i ∈ own.map (·.2)) (ht : DTs (blkF φ scope) T W0 ifs f) (he : DE (blkF φ scope) T W0 elt fe) (ok : blkC N sc scope own = true := by decide +kernel)
    (hs : ∀ i, ∀ x, foldedSetIterable it (φ i).env x = pure x := by intro _ _; rfl) : DE φ T W (.ListComp elt [⟨tg, it, ifs, 0⟩] scope pos) (sLc fi fg f fe (own.map (·.2))) := by
  obtain ⟨ti, pi, ei⟩ := hi
  obtain ⟨tg', pg, eg⟩ := hg
  obtain ⟨tt, pt, et⟩ := ht
  obtain ⟨te, pe, ee⟩ := he
  refine ⟨_, fun i => ?_, Ev.lc ei eg hz et ee⟩
  exact pe_lc (h.calm i) (by rw [h.eN i]; exact h.nd) (pi i) (by rw [h.eN i, h.esc i]; exact blkOk_by ok) (fun s H C cl fp => pg (i, s, H, C, cl, fp)) (fun s H C cl fp => pt (i, s, H, C, cl, fp)) (fun s H C cl fp => pe (i, s, H, C, cl, fp)) (hs i)
/-- len({..}) -/
theorem DE.lenSc (h : Fam φ P w T base N sc fc k W) (own : List (Str × Nat)) (hm : T.mg "len" = none) (hi : DI φ T W tg it fi) (hg : DG (blkF φ scope) T Z tg fg) (hz : ∀ i ∈ Z, i ∈ own.map (·.2)) (ht : DTs (blkF φ scope) T W0 ifs f) (he : DE (blkF φ scope) T W0 elt fe) (ok : blkC N sc scope own = true := by decide +kernel) (hgl : glB sc "len" = true := by rfl)
    (hs : ∀ i, ∀ x, foldedSetIterable it (φ i).env x = pure x := by intro _ _; rfl) (hst : ∀ i, starEach [Expr.SetComp elt [⟨tg, it, ifs, 0⟩] scope p] (φ i).env = (false, eval (.SetComp elt [⟨tg, it, ifs, 0⟩] scope p) (φ i).env) :: starEach [] (φ i).env := by intro _; rfl) (hpl : ∀ i, (backTo pos (starEach [] (φ i).env)).any (·.1) = false := by intro _; rfl) :
    DE φ T W (.Call (.Name "len" apos) [.SetComp elt [⟨tg, it, ifs, 0⟩] scope p] [] pos) (sLenSc fi fg f fe (own.map (·.2))) := by
  obtain ⟨ti, pi, ei⟩ := hi
  obtain ⟨tg', pg, eg⟩ := hg
  obtain ⟨tt, pt, et⟩ := ht
  obtain ⟨te, pe, ee⟩ := he
  refine ⟨_, fun i => ?_, Ev.lenSc P w ei eg hz et ee⟩
  have q := pe_scK (pos := p) (h.calm i) (by rw [h.eN i]; exact h.nd) (pi i) (by rw [h.eN i, h.esc i]; exact blkOk_by ok) (fun s H C cl fp => pg (i, s, H, C, cl, fp)) (fun s H C cl fp => pt (i, s, H, C, cl, fp)) (fun s H C cl fp => pe (i, s, H, C, cl, fp)) (hs i)
  rw [h.eP i, h.ew i] at q
  have r : CallR (φ i) (.builtin "len") (rLenSK P w) := by
    have := call_lenSK (X := φ i)
    rw [h.eP i, h.ew i] at this
    exact this
  exact pe_callB r (h.gl hgl i) (by rw [h.emg i]; exact hm) boot_len (pa_cons q pa_nil (hst i)) (by decide) (by decide) (hst i) (hpl i)
/-! ### repr -/
def gRepr : List C → Option C
  | [c] => (match toPy c.toD with
    | some p => if p.showable = true ∧ p.hasDict = false ∧ p.depth ≤ 60 ∧ p.shown.length ≤ sizeLine then some (.dat (.str p.shown)) else none
    | none => none)
  | _ => none
theorem lift_repr : LiftC T (rRepr T.K) gRepr := by
  intro F H vs cs fp c Q sb h e q
  unfold gRepr at e
  split at e
  · obtain ⟨v, f, rfl, h1⟩ := crs1 h
    split at e
    · rename_i p ep
      split at e
      · rename_i hh
        cases e
        exact ⟨v, p, rfl, (h1.look sb).toPy ep, hh.1, hh.2.1, hh.2.2.1, hh.2.2.2, Fin2.dat sb q (.str _)⟩
      · cases e
    · cases e
  · cases e
/-! ### statements -/
theorem DSs.nil : DSs φ T W [] [] sSkip := ⟨_, fun i => pss_nil, EvS.skip⟩
theorem DSs.one (h1 : DS φ T W Z st gs) : DSs φ T W Z [st] gs := by
  obtain ⟨t, pt, et⟩ := h1
  exact ⟨_, fun i => pss_one (pt i), et⟩
theorem DSs.cons (h1 : DS φ T W Z st gs) (h2 : DSs φ T W Z' sts hs) : DSs φ T W (Z ++ Z') (st :: sts) (sSeq gs hs) := by
  obtain ⟨t, pt, et⟩ := h1
  obtain ⟨u, pu, eu⟩ := h2
  exact ⟨_, fun i => pss_cons (pt i) (pu i), EvS.seq et eu⟩
theorem DSs.never : DSs φ T W [] sts sNever := ⟨_, fun i => pss_never, EvS.never⟩
theorem DS.never : DS φ T W [] st sNever := ⟨_, fun i => ps_never, EvS.never⟩
theorem DS.pass : DS φ T W [] (.Pass pos) sSkip := ⟨_, fun i => ps_pass, EvS.skip⟩
theorem DS.brk : DS φ T W [] (.Break pos) sBrk := ⟨_, fun i => ps_break, EvS.brk⟩
theorem DS.cnt : DS φ T W [] (.Continue pos) sCnt := ⟨_, fun i => ps_continue, EvS.cnt⟩
theorem DS.retN : DS φ T W [] (.Return none pos) sRetN := ⟨_, fun i => ps_retN, EvS.retN⟩
theorem DS.ret (ha : DE φ T W a fa) : DS φ T W [] (.Return (some a) pos) (sRet fa) := by
  obtain ⟨ta, pa, ea⟩ := ha
  exact ⟨_, fun i => ps_ret (pa i), EvS.ret ea⟩
theorem DS.expr (ha : DE φ T W a fa) (hs : ∀ i, swapsWith a none pos.line (φ i).env = pure false := by intro _; rfl) : DS φ T W [] (.Expr a pos) (sDrop fa) := by
  obtain ⟨ta, pa, ea⟩ := ha
  exact ⟨_, fun i => ps_expr (pa i) (hs i), EvS.drop ea⟩
theorem DS.ifS {q : List Stmt} (hc : DT φ T W c f) (h1 : DSs φ T W Z sts gs) (h2 : DSs φ T W Z' q hs) : DS φ T W (Z ++ Z') (.If c sts q pos) (sIfS f gs hs) := by
  obtain ⟨tc, pc, ec⟩ := hc
  obtain ⟨t, pt, et⟩ := h1
  obtain ⟨u, pu, eu⟩ := h2
  exact ⟨_, fun i => ps_if (pc i) (pt i) (pu i), EvS.ifS ec et eu⟩
theorem DS.set (h : Fam φ P w T base N sc fc k W) (j : Nat) (ha : DE φ T W a fa) (hN : N[j]? = some x := by rfl) (hl : locB sc fc x = true := by rfl) (hs : ∀ i, swapsWith a (some (.Name x p)) pos.line (φ i).env = pure false := by intro _; rfl) : DS φ T W [j] (.Assign [.Name x p] a pos) (sSet j fa) := by
  obtain ⟨ta, pa, ea⟩ := ha
  exact ⟨_, fun i => ps_set (i := j) (by rw [h.eN i]; exact h.nd) (by rw [h.eN i]; exact hN) (by rw [h.esc i]; exact (locB_ok hl).1) (pa i) (hs i) (by rw [h.esc i]; exact (locB_ok hl).2.imp (h.fn i x) id), EvS.set ea⟩
/-- name = [..], the name a local of the def -/
theorem DS.setLc (h : Fam φ P w T base N sc fc k W) (j : Nat) (own : List (Str × Nat)) (hi : DI φ T W tg it fi) (hg : DG (blkF φ scope) T Z tg fg) (hz : ∀ i ∈ Z, i ∈ own.map (·.2)) (ht : DTs (blkF φ scope) T W0 ifs f) (he : DE (blkF φ scope) T W0 elt fe) (hy : N[j]? = some x := by rfl) (hyl : sc.names.lookup x = some .local := by rfl)
    (hsw : ∀ i, swapsWith (.ListComp elt [⟨tg, it, ifs, 0⟩] scope pos) (some (.Name x p)) spos.line (φ i).env = pure true) (ok : blkC N sc scope own = true := by decide +kernel) (hs : ∀ i, ∀ x, foldedSetIterable it (φ i).env x = pure x := by intro _ _; rfl) :
    DS φ T W [j] (.Assign [.Name x p] (.ListComp elt [⟨tg, it, ifs, 0⟩] scope pos) spos) (sSet j (sLc fi fg f fe (own.map (·.2)))) := by
  obtain ⟨ti, pi, ei⟩ := hi
  obtain ⟨tg', pg, eg⟩ := hg
  obtain ⟨tt, pt, et⟩ := ht
  obtain ⟨te, pe, ee⟩ := he
  refine ⟨_, fun i => ?_, EvS.set (Ev.lc ei eg hz et ee)⟩
  exact ps_setLc (i := j) (h.calm i) (by rw [h.eN i]; exact h.nd) (by rw [h.eN i]; exact hy) (by rw [h.esc i]; exact hyl) (hsw i) (pi i) (by rw [h.eN i, h.esc i]; exact blkOk_by ok) (fun s H C cl fp => pg (i, s, H, C, cl, fp)) (fun s H C cl fp => pt (i, s, H, C, cl, fp)) (fun s H C cl fp => pe (i, s, H, C, cl, fp)) (hs i)
theorem DS.asg (ha : DE φ T W a fa) (hg : DG φ T Z tg fg) (hs : ∀ i, swapsWithSole [tg] a pos.line (φ i).env = pure false := by intro _; rfl) (hw : ∀ i, swappedStores [tg] a (φ i).env = pure none := by intro _; rfl) (h1 : ∀ i, (assignEach [tg] (φ i).env).map (·.2) = [assign tg (φ i).env] := by intro _; rfl) : DS φ T W Z (.Assign [tg] a pos) (sAsg fa fg) := by
  obtain ⟨ta, pa, ea⟩ := ha
  obtain ⟨t, pt, et⟩ := hg
  exact ⟨_, fun i => ps_asg (pa i) (pt i) (hs i) (hw i) (h1 i), EvS.asg ea et⟩
/-- slot[i] = e -/
theorem DS.setIx (h : Fam φ P w T base N sc fc k W) {tpos : Pos} (j : Nat) (ha : DE φ T W a fa) (hb : DE φ T W b fb) (hN : N[j]? = some x := by rfl) (hv : visB sc x = true := by rfl) (hd : (x == ("__debug__" : Str)) = false := by decide) (hcd : (x == ("__classdict__" : Str)) = false := by decide)
    (hs : ∀ i, swapsWithSole [.Subscript (.Name x p) b tpos] a pos.line (φ i).env = pure false := by intro _; rfl) (hw : ∀ i, swappedStores [.Subscript (.Name x p) b tpos] a (φ i).env = pure none := by intro _; rfl) (h1 : ∀ i, (assignEach [.Subscript (.Name x p) b tpos] (φ i).env).map (·.2) = [assign (.Subscript (.Name x p) b tpos) (φ i).env] := by intro _; rfl)
    (hasg : ∀ i, ∀ v, assign (.Subscript (.Name x p) b tpos) (φ i).env v = (do
      let ov ← holding [v] (eval (.Name x p) (φ i).env)
      let iv ← holding [v, ov] (eval b (φ i).env)
      standAt tpos
      holding [v, ov, iv] (setItem ov iv v)
      release [v, ov, iv] []) := by intro _ _; rfl) : DS φ T W [] (.Assign [.Subscript (.Name x p) b tpos] a pos) (sSetIx j fb fa) := by
  obtain ⟨ta, pa, ea⟩ := ha
  obtain ⟨tb, pb, eb⟩ := hb
  exact ⟨_, fun i => ps_asg (pa i) (pg_sub (pe_var (X := φ i) (i := j) (by rw [h.eN i]; exact hN) (by rw [h.esc i]; exact visB_ok hv) hd hcd) (pb i) set_list (hasg i)) (hs i) (hw i) (h1 i), EvS.setIx ea eb⟩
/-- slot[i] += e -/
theorem DS.augIx (h : Fam φ P w T base N sc fc k W) {tpos : Pos} (j : Nat) (ha : DE φ T W a fa) (hb : DE φ T W b fb) (hN : N[j]? = some x := by rfl) (hv : visB sc x = true := by rfl) (hd : (x == ("__debug__" : Str)) = false := by decide) (hcd : (x == ("__classdict__" : Str)) = false := by decide)
    (hau : ∀ ov iv new, augStore b ov iv new = (do holding [new, ov, iv] (setItem ov iv new); release [new, ov, iv] []; pure .next) := by intros; rfl) : DS φ T W [] (.AugAssign (.Subscript (.Name x p) b tpos) .Add a pos) (sAugIx j fb fa) := by
  obtain ⟨ta, pa, ea⟩ := ha
  obtain ⟨tb, pb, eb⟩ := hb
  refine ⟨_, fun i => ?_, EvS.augIx eb ea⟩
  have q := ps_augS (pos := pos) (tpos := tpos) (pe_var (pos := p) (X := φ i) (i := j) (by rw [h.eN i]; exact hN) (by rw [h.esc i]; exact visB_ok hv) hd hcd) (pb i) get_listP (pa i) ip_add set_list hau
  rw [h.eK i] at q
  exact q
/-- i, j = e1, e2 -/
theorem DS.par (h : Fam φ P w T base N sc fc k W) {px py pt : Pos} {kt k2 : Nat} {pt2 : Pos} (l m : Nat) (ha : DA φ T W [a, b] fs) (hi : N[l]? = some x := by rfl) (hj : N[m]? = some y := by rfl) (hij : l ≠ m := by decide) (hx : sc.names.lookup x = some .local := by rfl) (hy : sc.names.lookup y = some .local := by rfl)
    (hw : ∀ i, swappedStores [.Tuple [.Name x px, .Name y py] kt pt] (.Tuple [a, b] k2 pt2) (φ i).env = pure (some [x, y]) := by intro _; rfl)
    (hs : ∀ i, swapsWithSole [.Tuple [.Name x px, .Name y py] kt pt] (.Tuple [a, b] k2 pt2) pos.line (φ i).env = pure false := by intro _; rfl) :
    DS φ T W [l, m] (.Assign [.Tuple [.Name x px, .Name y py] kt pt] (.Tuple [a, b] k2 pt2) pos) (sPar l m fs) := by
  obtain ⟨ta, pa, ea⟩ := ha
  exact ⟨_, fun i => ps_par (i := l) (j := m) (h.calm i) (by rw [h.eN i]; exact h.nd) (by rw [h.eN i]; exact hi) (by rw [h.eN i]; exact hj) hij (by rw [h.esc i]; exact hx) (by rw [h.esc i]; exact hy) (pa i) (hw i) (hs i), EvS.par ea⟩
theorem DS.for_ (h : Fam φ P w T base N sc fc k W) (hi : DI φ T W tg it fi) (hg : DG φ T Z tg fg) (hb : DSs φ T W Z' sts gs) (hs : ∀ i, ∀ x, foldedSetIterable it (φ i).env x = pure x := by intro _ _; rfl) : DS φ T W (Z ++ Z') (.For tg it sts [] pos) (sFor fi fg gs) := by
  obtain ⟨ti, pi, ei⟩ := hi
  obtain ⟨tg', pg, eg⟩ := hg
  obtain ⟨tb, pb, eb⟩ := hb
  exact ⟨_, fun i => ps_for (h.po i) (h.calm i) (pi i) (pg i) (pb i) (hs i), EvS.for_ ei eg eb⟩
end
end L3
/-! L3s: a def's rule. -/
namespace L3
open PySem L2 PyProof.Rows
/-- the run's own parts at a def's entry -/
structure DIx (k : Nat) (qual : Str) (scope : Scope) (f : Addr) where
  cdv : Value
  A : Around
  outer : List Env
  s : Shared
  H : Hp
  hr : Room k (A.deeper (envOfC qual scope s.heap.objs.size f cdv))
structure GIx (k : Nat) (qual : Str) (scope : Scope) (f : Addr) where
  cdv : Value
  A : Around
  outer : List Env
  s : Shared
  H : Hp
  hr : Room k (A.deeper (envOfC qual scope s.heap.objs.size f cdv))
  hG : A.guards = some []
abbrev WD (E : XK) : WX := fun cls d _ H => E cls d H
section
variable {P : Program} {w : World} {T : Tx} {base : Heap} {k : Nat} {f : Addr} {x qual : Str} {params : Arguments} {body : List Stmt} {scope : Scope} {fd : FuncData} {names ps : List Str} {dvs : List V} {kws : List (Str × V)}
def defF (P : Program) (w : World) (T : Tx) (base : Heap) (names : List Str) (E : XK) (i : DIx k qual scope f) : Cx := cxOf (L2.CX P w) P w T.K T.mg base names qual scope f i.cdv i.A i.outer i.s i.H E
def defG (P : Program) (w : World) (T : Tx) (base : Heap) (names : List Str) (E : XK) (i : GIx k qual scope f) : Cx := cxOf (L2.CX P w) P w T.K T.mg base names qual scope f i.cdv i.A i.outer i.s i.H E
theorem famD (E : XK) (nd : names.Nodup) : Fam (defF (k := k) (qual := qual) (scope := scope) (f := f) P w T base names E) P w T base names scope (fun _ => true) k (WD E) where
  eP := fun i => rfl
  ew := fun i => rfl
  eK := fun i => rfl
  emg := fun i => rfl
  eb := fun i => rfl
  eN := fun i => rfl
  esc := fun i => rfl
  calm := fun i => rfl
  room := fun i => i.hr
  tk := fun i => takes_of (E := E) rfl rfl rfl rfl
  nd := nd
  fn := fun i x e => rfl
  po := fun i => passes_of rfl
theorem famG (E : XK) (nd : names.Nodup) : Fam (defG (k := k) (qual := qual) (scope := scope) (f := f) P w T base names E) P w T base names scope (fun _ => true) k (WD E) where
  eP := fun i => rfl
  ew := fun i => rfl
  eK := fun i => rfl
  emg := fun i => rfl
  eb := fun i => rfl
  eN := fun i => rfl
  esc := fun i => rfl
  calm := fun i => rfl
  room := fun i => i.hr
  tk := fun i => takes_of (E := E) rfl rfl rfl rfl
  nd := nd
  fn := fun i x e => rfl
  po := fun i => passes_of rfl
theorem guardsG (E : XK) (i : GIx k qual scope f) : (defG P w T base names E i).A.guards = some [] := i.hG
theorem guardsB {ι : Type} {φ : ι → Cx} (h : ∀ i, (φ i).A.guards = some []) (sc2 : Scope) : ∀ j, (blkF φ sc2 j).A.guards = some [] := fun j => h j.1
theorem DSs.mono {ι : Type} {φ : ι → Cx} {W : WX} {Z Z' : List Nat} {sts : List Stmt} {g : SS} (h : DSs φ T W Z sts g) (hz : ∀ i ∈ Z, i ∈ Z') : DSs φ T W Z' sts g := by
  obtain ⟨t, pt, et⟩ := h
  exact ⟨t, pt, fun σ F H ρ as o D s e w => et σ F H ρ as o D s e (w.mono hz)⟩
variable {n : Nat} {Z : List Nat} {g : SS}
/-- a def keeps its promise -/
theorem def_ok (F : FunD T.K x qual params body scope dvs kws f fd) (S : FnScope names ps scope) (hn : ps.length = n) (hb : ∀ E, DSs (defF (k := k) (qual := qual) (scope := scope) (f := f) P w T base names E) T (WD E) Z body g) : FnOk P w T.K T.mg base (L2.CX P w) (k + 1) f fd ps (spOf T (fnSem names.length n Z g)) := by
  refine F.ok S (spOf_len hn) fun cdv A outer s H vs Q E hr h => ?_
  obtain ⟨t, pt, et⟩ := hb E
  exact ⟨t, pt ⟨cdv, A, outer, s, H, hr⟩, body_of et (fun cls d σ H z => z) rfl h⟩
theorem def_okG (F : FunD T.K x qual params body scope dvs kws f fd) (S : FnScope names ps scope) (hn : ps.length = n) (hb : ∀ E, DSs (defG (k := k) (qual := qual) (scope := scope) (f := f) P w T base names E) T (WD E) Z body g) : FnG P w T.K T.mg base (L2.CX P w) (k + 1) f fd ps (spOf T (fnSem names.length n Z g)) := by
  refine F.okG S (spOf_len hn) fun cdv A outer s H vs Q E hG hr h => ?_
  obtain ⟨t, pt, et⟩ := hb E
  exact ⟨t, pt ⟨cdv, A, outer, s, H, hr, hG⟩, body_of et (fun cls d σ H z => z) rfl h⟩
/-- the law's promise from its meaning -/
theorem law_sp {fs : FS} {H : Hp} {a : Addr} {ns : List Int} (hO : Only H) (hS : SqL T.K H a (ns.map V.int)) (h : ∃ ks, fs [.dat (.rol (ns.map D.int))] = some (.ok (.dat (.bl true)) ks)) : spOf T fs [.ref a] H (fun v _ => v = .bl true) fun _ _ _ => False := by
  obtain ⟨ks, h⟩ := h
  have dr : ∀ ns : List Int, DRs T H (ns.map V.int) (ns.map D.int) := fun ns => by
    induction ns with
    | nil => exact .nil
    | cons n ns ih => exact .cons (.int n) ih
  refine ⟨H, _, [] ++ [], _, Ext.refl H, .cons (as := []) (bs := []) (.dat (.rol hS (dr ns))) .nil, List.nodup_nil, (fun a m => nomatch m), h, fun v F' H' ts bs st kl cr nd fr sb => ?_⟩
  cases cr with
  | dat z => cases z; rfl
theorem cx_false {P : Program} {w : World} {H : Hp} {s : Shared} {e : Value} {s' : Shared} (h : L2.CX P w [] H s (fun _ _ _ => False) e s') : False := by
  obtain ⟨_, _, _, _, _, _, _, _, _, _, _, _, z⟩ := h
  exact z
end
end L3
/-! L3t: a list of one's own walked where it stands. -/
namespace L3
open PySem L2
def sLenScO (jj : Nat) (fg : D → Ro → Option Ro) (ft : S Bool) (fe : S R) (vs : List Nat) : S R := fun ρ => match ownAt ρ jj with
  | some ds => if ds.length < 4000 then (match lcLoop fg ft fe vs ds (wipeR (ρ.set jj none) vs) with
    | some (ys, ρ') => (match nums ys with
      | some ns => if freeAt (backR (fun i => vs.contains i) (ρ.set jj none) ρ') jj = true then some (.ok (.val (.dat (.int ((ns.foldl addK []).length : Nat)))) ((backR (fun i => vs.contains i) (ρ.set jj none) ρ').set jj (some (.own (dats ds))))) else none
      | none => none)
    | none => none) else none
  | none => none
/-- a list aside -/
structure Asd (a : Addr) (vs : List V) (as : List Addr) (F H : Hp) : Prop where
  at_ : H a = some (.lst vs)
  na : a ∉ as
  fa : F a = none
section
variable {T : Tx} {W : WX} {σw : L2.St} {F1 H1 F H F2 H2 : Hp} {as1 as as2 : List Addr} {D a : Addr} {ρ : Ro} {u : HO} {vs : List V}
theorem Asd.step (h : Asd a vs as F H) (s : Stp F H as F2 H2 as2) : Asd a vs as2 F2 H2 := by
  refine ⟨s.frm a _ h.at_ h.na, fun m => ?_, ?_⟩
  · rcases s.newA a m with q | q
    · rw [h.at_] at q; cases q
    · exact h.na q
  · cases q : F2 a with
    | none => rfl
    | some o =>
      rcases s.newF a o q with ⟨u, z⟩ | z | z
      · rw [h.fa] at z; cases z
      · rw [h.at_] at z; cases z
      · exact absurd z h.na
theorem Asd.sub (h : Asd a vs as F H) (s : as2.Sublist as) : Asd a vs as2 F H := ⟨h.at_, fun m => h.na (s.subset m), h.fa⟩
theorem Asd.upd (h : Asd a vs as F H) (n : a ≠ D) : Asd a vs as F (upd H D u) := ⟨by rw [upd_ne n]; exact h.at_, h.na, h.fa⟩
theorem LJ.wipeS (l : LJ T σw F1 H1 as1 D F H ρ as u) (vs : List Nat) : ∃ as2, as2.Sublist as ∧ LJ T (L2.wipe σw vs) F1 H1 as1 D F H (wipeR ρ vs) as2 u := by
  obtain ⟨as2, sub, s2⟩ := l.sr.wipe vs
  refine ⟨as2, sub, l.st.mono (fun a m => m) fun a m => .inl ?_, s2, fun m => l.nD (sub.subset m), l.fD, l.at_⟩
  rcases List.mem_cons.mp m with m | m
  · simp [m]
  · exact List.mem_cons_of_mem _ (sub.subset m)
theorem Wk.goA {F0 : Hp} {ds : List L3.D} {i : Nat} (h : Asd a vs as F H) (r : DRs T F0 vs ds) (hi : i < ds.length) : (Itl T.K a).go i H := by
  obtain ⟨x, ex⟩ := get_lt (xs := vs) (by rw [r.length]; exact hi)
  exact ⟨vs, x, SqL.of h.at_, ex⟩
end
section
variable {T : Tx} {W : WX}
theorem Ev.lenScO (P : Program) (w : World) {jj : Nat} {Z : List Nat} {g : TG} {fg : L3.D → Ro → Option Ro} {tt : TT} {ft : S Bool} {te : TE} {fe : S R} {vs : List Nat} {W' : WX} (hg : EvG T Z g fg) (hz : ∀ i ∈ Z, i ∈ vs) (ht : EvT T W' tt ft) (he : Ev T W' te fe) :
    Ev T W (tCB (rLenSK P w) (tCons (tScK P w (iU T.K (tVar jj)) g tt te vs) tNil)) (sLenScO jj fg ft fe vs) := by
  intro σ F0 H0 ρ0 as0 o Q s0 e0 x0 q
  unfold sLenScO at e0
  cases hown : ownAt ρ0 jj with
  | none => rw [hown] at e0; cases e0
  | some ds =>
  rw [hown] at e0
  dsimp only at e0
  obtain ⟨v0, l0, fp0, r0, ea0, hv0, cr0, k10, k20⟩ := s0.sl.get (ownAt_eq hown)
  cases cr0 with
  | own ha0 cs0 =>
  rename_i a0 vs0 fp0
  obtain ⟨en, dv0⟩ := CRs.dats cs0
  subst en
  have pm0 : as0.Perm ([a0] ++ (l0 ++ r0)) := by rw [ea0]; exact perm3 l0 [a0] r0
  have nd0 : ([a0] ++ (l0 ++ r0)).Nodup := (pm0.nodup_iff).mp s0.nd
  have r1 : SR T σ F0 H0 (ρ0.set jj none) (l0 ++ r0) := ⟨k20 (Ext.refl F0) fun _ _ => rfl, (List.nodup_append.mp nd0).2.1, fun a m => s0.fr a (pm0.symm.subset (List.mem_append_right _ m)), s0.sb⟩
  have hA : Asd a0 vs0 (l0 ++ r0) F0 H0 := ⟨ha0, fun m => (List.nodup_cons.mp nd0).1 m, s0.fr a0 (pm0.symm.subset (by simp))⟩
  refine ⟨_, hv0, .inl ⟨a0, vs0, rfl, SqL.of ha0, ?_⟩⟩
  intro D hD
  have aD : a0 ≠ D := fun z => by subst z; rw [hD] at ha0; cases ha0
  by_cases hz1 : ds.length < 4000
  case neg => rw [if_neg hz1] at e0; cases e0
  rw [if_pos hz1] at e0
  cases hl : lcLoop fg ft fe vs ds (wipeR (ρ0.set jj none) vs) with
  | none => rw [hl] at e0; cases e0
  | some p =>
    obtain ⟨zs, ρz⟩ := p
    rw [hl] at e0
    dsimp only at e0
    cases hn : nums zs with
    | none => rw [hn] at e0; cases e0
    | some ns =>
      rw [hn] at e0
      dsimp only at e0
      by_cases hfree : freeAt (backR (fun i => vs.contains i) (ρ0.set jj none) ρz) jj = true
      case neg => rw [if_neg hfree] at e0; cases e0
      rw [if_pos hfree] at e0
      cases e0
      have lj0 : LJ T σ F0 H0 (l0 ++ r0) D F0 (upd H0 D (SetK P w D (fun _ => false) 0)) (ρ0.set jj none) (l0 ++ r0) (SetK P w D (fun _ => false) 0) := LJ.new r1 hD
      have hA0 : Asd a0 vs0 (l0 ++ r0) F0 (upd H0 D (SetK P w D (fun _ => false) 0)) := ⟨by rw [upd_ne aD]; exact ha0, hA.na, hA.fa⟩
      obtain ⟨asw, subw, l1⟩ := lj0.wipeS vs
      have e00 : (fun _ : L2.Key => false) = inSeen [] := by funext j; cases j <;> simp [inSeen]
      refine ⟨fun i m H => m = ds.length - i ∧ i ≤ ds.length ∧ ∃ F ρ as seen zs' ns', LJ T (L2.wipe σ vs) F0 H0 (l0 ++ r0) D F H ρ as (SetK P w D (inSeen seen) seen.length) ∧ seen.length ≤ i ∧ lcLoop fg ft fe vs (ds.drop i) ρ = some (zs', ρz) ∧ nums zs' = some ns' ∧ ns.foldl addK [] = ns'.foldl addK seen ∧ Asd a0 vs0 as F H, ⟨_, rfl, Nat.zero_le _, F0, wipeR (ρ0.set jj none) vs, asw, [], zs, ns, by rw [← e00]; exact l1, Nat.le_refl _, hl, hn, rfl, hA0.sub subw⟩, ?_⟩
      rintro i m H ⟨rfl, hi, F, ρ, as, seen, zs', ns', l, hsl, e, en, ef, ha⟩
      by_cases hlt : i < ds.length
      · refine .inr ⟨(Wk.goA ha dv0 hlt), fun H' => ∃ F ρ as seen zs' ns', LJ T (L2.wipe σ vs) F0 H0 (l0 ++ r0) D F H' ρ as (SetK P w D (inSeen seen) seen.length) ∧ seen.length ≤ i + 1 ∧ lcLoop fg ft fe vs (ds.drop (i + 1)) ρ = some (zs', ρz) ∧ nums zs' = some ns' ∧ ns.foldl addK [] = ns'.foldl addK seen ∧ Asd a0 vs0 as F H', fun H' p => ⟨ds.length - (i + 1), by omega, rfl, hlt, p⟩, fun x H' y => ?_⟩
        obtain ⟨eH, ey⟩ := y
        subst eH
        obtain ⟨d, hd, dr0⟩ := dv0.getV (ey vs0 (SqL.of ha.at_))
        have dr := dr0.ext l.st.ext
        have l2 := l
        have ed : ds.drop i = d :: ds.drop (i + 1) := by
          obtain ⟨h1, h2⟩ := List.getElem?_eq_some_iff.mp hd
          rw [List.drop_eq_getElem_cons h1, h2]
        rw [ed] at e
        unfold lcLoop at e
        cases hg1 : fg d ρ with
        | none => rw [hg1] at e; cases e
        | some ρ2 =>
          rw [hg1] at e
          dsimp only at e
          refine hg _ F _ ρ as x d ρ2 _ l2.sr dr hg1 fun σ2 Fg Hg as2 n2 sr2 sub2 kp2 => ?_
          have st3 := (n2.step (as := as)).mono (cs := as) (ds := as2) (fun a m => m) fun a m => .inl (sub2 a m)
          have l3 := l2.step st3 sr2
          have ha3 := ha.step st3
          have ew : L2.wipe σ2 vs = L2.wipe σ vs := (wipe_same (kp2.mono hz)).trans (wipe_wipe σ vs)
          refine ⟨ew, ?_⟩
          cases ht1 : ft ρ2 with
          | none => rw [ht1] at e; cases e
          | some o1 =>
            rw [ht1] at e
            cases o1 with
            | ex y ρ3 => cases e
            | ok b ρ3 =>
              refine ht σ2 Fg Hg ρ2 as2 _ _ sr2 ht1 trivial fun b' ρ' hb F3 H3 as3 s3 r3 => ?_
              cases hb
              have l4 := l3.step s3 r3
              have ha4 := ha3.step s3
              cases b with
              | false =>
                rw [if_neg Bool.false_ne_true]
                dsimp only at e
                obtain ⟨as4, sub4, l5⟩ := l4.wipeS vs
                rw [ew] at l5
                exact ⟨F3, _, as4, seen, zs', ns', l5, by omega, e, en, ef, ha4.sub sub4⟩
              | true =>
                rw [if_pos rfl]
                dsimp only at e
                cases he1 : S.bind fe sFrz ρ3 with
                | none => rw [he1] at e; cases e
                | some o2 =>
                  rw [he1] at e
                  cases o2 with
                  | ex y ρ4 => cases e
                  | ok z ρ4 =>
                    dsimp only at e
                    cases hr : lcLoop fg ft fe vs (ds.drop (i + 1)) (wipeR ρ4 vs) with
                    | none => rw [hr] at e; cases e
                    | some p =>
                      obtain ⟨zr, ρr⟩ := p
                      rw [hr] at e
                      cases e
                      have inv : ∃ k nr, z = L3.D.int k ∧ nums zr = some nr ∧ ns' = k :: nr := by
                        unfold nums at en
                        split at en
                        · rename_i hh; cases hh
                        · rename_i b ds' hh
                          cases hh
                          cases qn : nums zr with
                          | none => rw [qn] at en; cases en
                          | some nr => rw [qn] at en; cases en; exact ⟨b, nr, rfl, rfl, rfl⟩
                        · cases en
                      obtain ⟨k, nr, rfl, enr, rfl⟩ := inv
                      refine he.bind (o := O.ok (L3.D.int k) ρ4) r3 he1 trivial fun r ρ5 v F5 H5 ts as5 e5 s5 rs5 x5 => ?_
                      obtain ⟨F6, as6, s6, r6, d6⟩ := rs5.frz e5
                      cases d6
                      have l5 := l4.step (s5.trans s6) r6
                      have ha5 := ha4.step (s5.trans s6)
                      obtain ⟨as7, sub7, l7⟩ := l5.wipeS vs
                      rw [ew] at l7
                      have hsb : PySem.scanBound = 4096 := rfl
                      refine ⟨D, .inl k, _, seen.length, rfl, rfl, l5.at_, by omega, ?_⟩
                      rw [set_step, num_step]
                      have al := addK_len seen k
                      exact ⟨F6, _, as7, addK seen k, zr, nr, l7.put hD, by omega, hr, enr, ef, (ha5.sub sub7).upd aD⟩
      · have ei : i = ds.length := by omega
        subst ei
        rw [List.drop_length] at e
        cases e
        cases en
        refine .inl ⟨⟨vs0, SqL.of ha.at_, by rw [dv0.length]; exact Nat.le_refl _⟩, ?_⟩
        obtain ⟨bs, sub, sl⟩ := SL.keep (F := F0) (H := H0) l.st.ext r1.sl (fun i => vs.contains i) l.sr.sl (wipe_length σ vs) fun i hp => wipe_at σ fun m => by
          have : vs.contains i = true := by simpa using m
          rw [this] at hp; cases hp
        refine ⟨D, _, seen.length, rfl, l.at_, by omega, ?_⟩
        have ef' : (ns.foldl addK []).length = seen.length := by rw [ef]; rfl
        rw [← ef']
        have cr' : CR T F H (.ref a0) (.own (dats ds)) [a0] := .own ha.at_ (dv0.ext l.st.ext).cells
        obtain ⟨cs, pmc, slc⟩ := SL.fill cr' sl (freeAt_eq hfree) hv0
        have nda : ([a0] ++ bs).Nodup := List.nodup_cons.mpr ⟨fun m => ha.na (sub.subset m), l.sr.nd.sublist sub⟩
        have inA : ∀ b ∈ cs, b = a0 ∨ b ∈ as := fun b m => by
          rcases List.mem_append.mp (pmc.subset m) with m | m
          · exact .inl (by simpa using m)
          · exact .inr (sub.subset m)
        refine q _ _ rfl _ F H [] cs (Stp.mono (l.st.mono (cs := as0) (ds := D :: as) (fun b m => pm0.symm.subset (List.mem_append_right _ m)) fun b m => .inl m) (fun b m => m) fun b m => ?_) ⟨slc, .dat (.int _), (pmc.nodup_iff).mpr nda, fun b m => ?_, l.sr.sb⟩
        · rcases inA b m with rfl | m
          · exact .inr (pm0.symm.subset (by simp))
          · exact .inl (List.mem_cons_of_mem _ m)
        · rcases inA b m with rfl | m
          · exact ha.fa
          · exact l.sr.fr b m
end
/-- a list of frozen items -/
def sLstF (fa : S (List R)) : S R := S.bind fa fun rs => S.bind (sFrzs rs) fun ds => fun ρ => if ds.length ≤ sizeLine then some (.ok (.val (.own (dats ds))) ρ) else none
section
variable {ι : Type} {φ : ι → Cx} {P : Program} {w : World} {T : Tx} {base : Heap} {N : List Str} {sc : Scope} {fc : Str → Bool} {k : Nat} {W : WX}
theorem Ev.lstF {ta : TA} {fa : S (List R)} (ha : EvA T W ta fa) : Ev T W (tLst ta) (sLstF fa) := by
  intro σ F H ρ as o Q s e x q
  refine ha.bind s e x fun rs ρ1 vs F1 H1 ts as1 e1 s1 r1 x1 => ?_
  cases h1 : sFrzs rs ρ1 with
  | none => unfold S.bind at e1; rw [h1] at e1; cases e1
  | some o1 =>
    obtain ⟨ds, ρ2, rfl⟩ := sFrzs_ok h1
    rw [S.bind_ok h1] at e1
    obtain ⟨F2, as2, st, sr, dr⟩ := frzs1 r1.sl r1.vw r1.nd r1.fr r1.sb h1
    have e2 : (if ds.length ≤ sizeLine then some (O.ok (R.val (.own (dats ds))) ρ2) else none) = some o := e1
    by_cases hz : ds.length ≤ sizeLine
    · rw [if_pos hz] at e2
      cases e2
      refine ⟨by rw [dr.length]; exact hz, fun p hp => ?_⟩
      obtain ⟨w, st2⟩ := RS.new (ts := [p]) (c := .own (dats ds)) (v := .ref p) sr (Nw.own (o := .lst vs) sr.sb hp) (.own upd_same dr.cells) (by simp) (fun a m => by
        rcases List.mem_cons.mp m with e | m
        · subst e; exact ⟨hp, sr.sb.none hp⟩
        · cases m)
      exact q _ _ rfl _ _ _ [p] as2 (s1.trans (st.trans st2)) w
    · rw [if_neg hz] at e2; cases e2
variable {x : Str} {p pos apos : Pos} {es : List Expr} {fe : S R} {f : S Bool} {fs : S (List R)} {tg : Expr} {fg : D → Ro → Option Ro} {Z : List Nat} {elt : Expr} {ifs : List Expr} {scope : Scope}
theorem DE.lstF (ha : DA φ T W es fs) : DE φ T W (.List es pos) (sLstF fs) := by
  obtain ⟨ta, pa, ea⟩ := ha
  exact ⟨_, fun i => pe_lst (pa i), Ev.lstF ea⟩
/-- len({.. for .. in slot ..}), the slot's list as it stands -/
theorem DE.lenScO {pv : Pos} (h : Fam φ P w T base N sc fc k W) (own : List (Str × Nat)) (jj : Nat) (hm : T.mg "len" = none) (hg : DG (blkF φ scope) T Z tg fg) (hz : ∀ i ∈ Z, i ∈ own.map (·.2)) (ht : DTs (blkF φ scope) T W0 ifs f) (he : DE (blkF φ scope) T W0 elt fe) (ok : blkC N sc scope own = true := by decide +kernel) (hgl : glB sc "len" = true := by rfl)
    (hN : N[jj]? = some x := by rfl) (hv : visB sc x = true := by rfl) (hd : (x == ("__debug__" : Str)) = false := by decide) (hcd : (x == ("__classdict__" : Str)) = false := by decide)
    (hs : ∀ i, ∀ y, foldedSetIterable (.Name x pv) (φ i).env y = pure y := by intro _ _; rfl) (hst : ∀ i, starEach [Expr.SetComp elt [⟨tg, .Name x pv, ifs, 0⟩] scope p] (φ i).env = (false, eval (.SetComp elt [⟨tg, .Name x pv, ifs, 0⟩] scope p) (φ i).env) :: starEach [] (φ i).env := by intro _; rfl) (hpl : ∀ i, (backTo pos (starEach [] (φ i).env)).any (·.1) = false := by intro _; rfl) :
    DE φ T W (.Call (.Name "len" apos) [.SetComp elt [⟨tg, .Name x pv, ifs, 0⟩] scope p] [] pos) (sLenScO jj fg f fe (own.map (·.2))) := by
  obtain ⟨tg', pg, eg⟩ := hg
  obtain ⟨tt, pt, et⟩ := ht
  obtain ⟨te, pe, ee⟩ := he
  refine ⟨_, fun i => ?_, Ev.lenScO P w eg hz et ee⟩
  have pi : PI (φ i) tg (.Name x pv) (iU T.K (tVar jj)) := by
    rw [← h.eK i]
    exact pi_U (pe_var (i := jj) (by rw [h.eN i]; exact hN) (by rw [h.esc i]; exact visB_ok hv) hd hcd)
  have q := pe_scK (pos := p) (h.calm i) (by rw [h.eN i]; exact h.nd) pi (by rw [h.eN i, h.esc i]; exact blkOk_by ok) (fun s H C cl fp => pg (i, s, H, C, cl, fp)) (fun s H C cl fp => pt (i, s, H, C, cl, fp)) (fun s H C cl fp => pe (i, s, H, C, cl, fp)) (hs i)
  rw [h.eP i, h.ew i] at q
  have r : CallR (φ i) (.builtin "len") (rLenSK P w) := by
    have := call_lenSK (X := φ i)
    rw [h.eP i, h.ew i] at this
    exact this
  exact pe_callB r (h.gl hgl i) (by rw [h.emg i]; exact hm) boot_len (pa_cons q pa_nil (hst i)) (by decide) (by decide) (hst i) (hpl i)
/-- a module's text, number -/
theorem DE.gstr {z : Str} (h : Fam φ P w T base N sc fc k W) (hm : ∃ t, T.mg x = some (.str z t)) (hg : glB sc x = true := by rfl) (hd : (x == ("__debug__" : Str)) = false := by decide) : DE φ T W (.Name x p) (sC (.str z)) := by
  obtain ⟨t, hm⟩ := hm
  exact DE.glob h (v := .str z) hm ⟨t, rfl⟩ (fun F => .str z) hg hd
theorem DE.gint {z : Int} (h : Fam φ P w T base N sc fc k W) (hm : ∃ t, T.mg x = some (.int z t)) (hg : glB sc x = true := by rfl) (hd : (x == ("__debug__" : Str)) = false := by decide) : DE φ T W (.Name x p) (sC (.int z)) := by
  obtain ⟨t, hm⟩ := hm
  exact DE.glob h (v := .int z) hm ⟨t, rfl⟩ (fun F => .int z) hg hd
/-- what a module's name holds, at any heap -/
def GD (T : Tx) (x : Str) (d : D) : Prop := ∃ a, T.mg x = some (.ref a) ∧ ∀ F, DR T F (.ref a) d
theorem DE.gref {d : D} (h : Fam φ P w T base N sc fc k W) (hm : GD T x d) (hg : glB sc x = true := by rfl) (hd : (x == ("__debug__" : Str)) = false := by decide) : DE φ T W (.Name x p) (sC d) := by
  obtain ⟨a, hm, dr⟩ := hm
  exact DE.glob h (v := .ref a) hm rfl dr hg hd
/-- a def of the module, its promise -/
def Df (T : Tx) (x : Str) (params : Arguments) (body : List Stmt) (scope : Scope) : Prop := ∃ fl fd, T.mg x = some (.ref fl) ∧ FunD T.K x x params body scope [] [] fl fd
def Ok (P : Program) (w : World) (T : Tx) (base : Heap) (k : Nat) (x : Str) (fs : FS) : Prop := ∃ fl fd ps, T.mg x = some (.ref fl) ∧ PySem.W.keepIn T.K (.ref fl) = true ∧ Binds T.K fd ps [] ∧ FnOk P w T.K T.mg base (L2.CX P w) k fl fd ps (spOf T fs)
def OkG (P : Program) (w : World) (T : Tx) (base : Heap) (k : Nat) (x : Str) (fs : FS) : Prop := ∃ fl fd ps, T.mg x = some (.ref fl) ∧ PySem.W.keepIn T.K (.ref fl) = true ∧ Binds T.K fd ps [] ∧ FnG P w T.K T.mg base (L2.CX P w) k fl fd ps (spOf T fs)
theorem Ok.ofDf {params : Arguments} {body : List Stmt} {names ps : List Str} {n : Nat} {g : SS} (d : Df T x params body scope) (S : FnScope names ps scope) (hn : ps.length = n)
    (hbind : ∀ (kV doc pm : Value) (an : Option Addr) (cdv ct : Value) (us : List Value), us.length = ps.length → bindArgs (PySem.W.fnOf x x params body scope .none kV doc pm an cdv ct) ⟨us, []⟩ = pure (ps.zip us))
    (hb : ∀ (f : Addr) (E : XK), DSs (defF (k := k) (qual := x) (scope := scope) (f := f) P w T base names E) T (WD E) Z body g) : Ok P w T base (k + 1) x (fnSem names.length n Z g) := by
  obtain ⟨fl, fd, m, F⟩ := d
  exact ⟨fl, fd, ps, m, F.kp, F.bindsN hbind, def_ok F S hn (hb fl)⟩
theorem OkG.ofDf {params : Arguments} {body : List Stmt} {names ps : List Str} {n : Nat} {g : SS} (d : Df T x params body scope) (S : FnScope names ps scope) (hn : ps.length = n)
    (hbind : ∀ (kV doc pm : Value) (an : Option Addr) (cdv ct : Value) (us : List Value), us.length = ps.length → bindArgs (PySem.W.fnOf x x params body scope .none kV doc pm an cdv ct) ⟨us, []⟩ = pure (ps.zip us))
    (hb : ∀ (f : Addr) (E : XK), DSs (defG (k := k) (qual := x) (scope := scope) (f := f) P w T base names E) T (WD E) Z body g) : OkG P w T base (k + 1) x (fnSem names.length n Z g) := by
  obtain ⟨fl, fd, m, F⟩ := d
  exact ⟨fl, fd, ps, m, F.kp, F.bindsN hbind, def_okG F S hn (hb fl)⟩
variable {a : Expr} {k' : Nat} {sem : FS}
theorem DE.own (h : Fam φ P w T base N sc fc k W) (F : Ok P w T base k' x sem) (ha : DA φ T W (a :: es) fs) (hk : k' ≤ k := by decide) (hg : glB sc x = true := by rfl)
    (hdb : (x == ("__debug__" : Str)) = false := by decide) (he : ∀ i, starEach (a :: es) (φ i).env = (false, eval a (φ i).env) :: starEach es (φ i).env := by intro _; rfl) (hpl : ∀ i, (backTo pos (starEach es (φ i).env)).any (·.1) = false := by intro _; rfl) :
    DE φ T W (.Call (.Name x p) (a :: es) [] pos) (sCall sem fs) := by
  obtain ⟨fl, fd, ps, m, kp, b, f⟩ := F
  exact DE.call h f hk m kp b ha hg hdb he hpl
theorem DE.ownG (h : Fam φ P w T base N sc fc k W) (hG : ∀ i, (φ i).A.guards = some []) (F : OkG P w T base k' x sem) (ha : DA φ T W (a :: es) fs) (hk : k' ≤ k := by decide) (hg : glB sc x = true := by rfl)
    (hdb : (x == ("__debug__" : Str)) = false := by decide) (he : ∀ i, starEach (a :: es) (φ i).env = (false, eval a (φ i).env) :: starEach es (φ i).env := by intro _; rfl) (hpl : ∀ i, (backTo pos (starEach es (φ i).env)).any (·.1) = false := by intro _; rfl) :
    DE φ T W (.Call (.Name x p) (a :: es) [] pos) (sCall sem fs) := by
  obtain ⟨fl, fd, ps, m, kp, b, f⟩ := F
  exact DE.callG h hG f hk m kp b ha hg hdb he hpl
/-- built-ins by name -/
theorem DE.len (h : Fam φ P w T base N sc fc k W) (hm : T.mg "len" = none) (ha : DA φ T W [a] fs) (hg : glB sc "len" = true := by rfl) (he : ∀ i, starEach [a] (φ i).env = (false, eval a (φ i).env) :: starEach [] (φ i).env := by intro _; rfl) (hpl : ∀ i, (backTo pos (starEach [] (φ i).env)).any (·.1) = false := by intro _; rfl) : DE φ T W (.Call (.Name "len" p) [a] [] pos) (sBlt gLen fs) :=
  DE.blt h (fun i => by rw [← h.eK i]; exact call_len) lift_len hm boot_len ha hg (by decide) (by decide) he hpl
theorem DE.abs (h : Fam φ P w T base N sc fc k W) (hm : T.mg "abs" = none) (ha : DA φ T W [a] fs) (hg : glB sc "abs" = true := by rfl) (he : ∀ i, starEach [a] (φ i).env = (false, eval a (φ i).env) :: starEach [] (φ i).env := by intro _; rfl) (hpl : ∀ i, (backTo pos (starEach [] (φ i).env)).any (·.1) = false := by intro _; rfl) : DE φ T W (.Call (.Name "abs" p) [a] [] pos) (sBlt gAbs fs) :=
  DE.blt h (fun i => call_abs) lift_abs hm PyProof.Rows.boot_abs ha hg (by decide) (by decide) he hpl
theorem DE.isi {b : Expr} (h : Fam φ P w T base N sc fc k W) (hm : T.mg "isinstance" = none) (ha : DA φ T W [a, b] fs) (hg : glB sc "isinstance" = true := by rfl) (he : ∀ i, starEach [a, b] (φ i).env = (false, eval a (φ i).env) :: starEach [b] (φ i).env := by intro _; rfl) (hpl : ∀ i, (backTo pos (starEach [b] (φ i).env)).any (·.1) = false := by intro _; rfl) : DE φ T W (.Call (.Name "isinstance" p) [a, b] [] pos) (sBlt gIsi fs) :=
  DE.blt h (fun i => by rw [← h.eK i]; exact call_isi) lift_isi hm PyProof.Rows.boot_isinstance ha hg (by decide) (by decide) he hpl
theorem DE.all_ (h : Fam φ P w T base N sc fc k W) (hm : T.mg "all" = none) (ha : DA φ T W [a] fs) (hg : glB sc "all" = true := by rfl) (he : ∀ i, starEach [a] (φ i).env = (false, eval a (φ i).env) :: starEach [] (φ i).env := by intro _; rfl) (hpl : ∀ i, (backTo pos (starEach [] (φ i).env)).any (·.1) = false := by intro _; rfl) : DE φ T W (.Call (.Name "all" p) [a] [] pos) (sBlt gAll fs) :=
  DE.blt h (fun i => by rw [← h.eK i]; exact cr_all (h.calm i)) lift_all hm (by decide +kernel) ha hg (by decide) (by decide) he hpl
theorem DE.any_ (h : Fam φ P w T base N sc fc k W) (hm : T.mg "any" = none) (ha : DA φ T W [a] fs) (hg : glB sc "any" = true := by rfl) (he : ∀ i, starEach [a] (φ i).env = (false, eval a (φ i).env) :: starEach [] (φ i).env := by intro _; rfl) (hpl : ∀ i, (backTo pos (starEach [] (φ i).env)).any (·.1) = false := by intro _; rfl) : DE φ T W (.Call (.Name "any" p) [a] [] pos) (sBlt gAny fs) :=
  DE.blt h (fun i => by rw [← h.eK i]; exact cr_any (h.calm i)) lift_any hm (by decide +kernel) ha hg (by decide) (by decide) he hpl
theorem DE.repr_ (h : Fam φ P w T base N sc fc k W) (hG : ∀ i, (φ i).A.guards = some []) (hm : T.mg "repr" = none) (ha : DA φ T W [a] fs) (hg : glB sc "repr" = true := by rfl) (he : ∀ i, starEach [a] (φ i).env = (false, eval a (φ i).env) :: starEach [] (φ i).env := by intro _; rfl) (hpl : ∀ i, (backTo pos (starEach [] (φ i).env)).any (·.1) = false := by intro _; rfl) : DE φ T W (.Call (.Name "repr" p) [a] [] pos) (sBlt gRepr fs) :=
  DE.blt h (fun i => by rw [← h.eK i]; exact call_reprG (hG i) (by have := h.units i; omega)) lift_repr hm (by decide +kernel) ha hg (by decide) (by decide) he hpl
theorem DE.int1 (h : Fam φ P w T base N sc fc k W) (hm : T.mg "int" = none) (ha : DA φ T W [a] fs) (hg : glB sc "int" = true := by rfl) (he : ∀ i, starEach [a] (φ i).env = (false, eval a (φ i).env) :: starEach [] (φ i).env := by intro _; rfl) (hpl : ∀ i, (backTo pos (starEach [] (φ i).env)).any (·.1) = false := by intro _; rfl) : DE φ T W (.Call (.Name "int" p) [a] [] pos) (sBlt gInt1 fs) :=
  DE.bty h (fun i => call_int1) lift_int1 hm (by decide +kernel) ha hg (by decide) (by decide) he hpl
theorem DE.list_ (h : Fam φ P w T base N sc fc k W) (hm : T.mg "list" = none) (ha : DA φ T W [a] fs) (hg : glB sc "list" = true := by rfl) (he : ∀ i, starEach [a] (φ i).env = (false, eval a (φ i).env) :: starEach [] (φ i).env := by intro _; rfl) (hpl : ∀ i, (backTo pos (starEach [] (φ i).env)).any (·.1) = false := by intro _; rfl) : DE φ T W (.Call (.Name "list" p) [a] [] pos) (sBlt gList fs) :=
  DE.bty h (fun i => by rw [← h.eK i]; exact call_list_of) lift_list hm (by decide +kernel) ha hg (by decide) (by decide) he hpl
theorem DE.tuple_ (h : Fam φ P w T base N sc fc k W) (hm : T.mg "tuple" = none) (ha : DA φ T W [a] fs) (hg : glB sc "tuple" = true := by rfl) (he : ∀ i, starEach [a] (φ i).env = (false, eval a (φ i).env) :: starEach [] (φ i).env := by intro _; rfl) (hpl : ∀ i, (backTo pos (starEach [] (φ i).env)).any (·.1) = false := by intro _; rfl) : DE φ T W (.Call (.Name "tuple" p) [a] [] pos) (sBlt gTuple fs) :=
  DE.bty h (fun i => by rw [← h.eK i]; exact call_tuple_of) lift_tuple hm (by decide +kernel) ha hg (by decide) (by decide) he hpl
variable {b : Expr} {fa fb : S R}
theorem DE.split (ha : DE φ T W a fa) (hb : DE φ T W b fb) (hs : ∀ i, starEach [b] (φ i).env = [(false, eval b (φ i).env)] := by intro _; rfl) (hbase : ∀ i, attributeBase a "split" (φ i).env (eval a (φ i).env) = eval a (φ i).env := by intro _; rfl) (hline : (apos.endLine == pos.line) = true := by rfl) : DE φ T W (.Call (.Attribute a "split" apos) [b] [] pos) (sM1 gSplit fa fb) :=
  DE.m1 F.slot_str_split F.type_str_split (fun i => mt_split) lift_split ha hb hs hbase hline
theorem DE.join (h : Fam φ P w T base N sc fc k W) (ha : DE φ T W a fa) (hb : DE φ T W b fb) (hs : ∀ i, starEach [b] (φ i).env = [(false, eval b (φ i).env)] := by intro _; rfl) (hbase : ∀ i, attributeBase a "join" (φ i).env (eval a (φ i).env) = eval a (φ i).env := by intro _; rfl) (hline : (apos.endLine == pos.line) = true := by rfl) : DE φ T W (.Call (.Attribute a "join" apos) [b] [] pos) (sM1 gJoin fa fb) :=
  DE.m1 F.slot_str_join F.type_str_join (fun i => by rw [← h.eK i]; exact mt_join) lift_join ha hb hs hbase hline
end
end L3
namespace K91
open PySem L2 L3
/-! ### the text -/
def top (i : Nat) : Stmt := PySem.Challenge.pw_slowmirror_k91_texts_of_rows.main.body.getD i (.Pass ⟨0, 0, 0, 0⟩)
abbrev st_is_name : Stmt := top 7
abbrev st_is_way : Stmt := top 8
abbrev st_is_deed : Stmt := top 9
abbrev st_need_text : Stmt := top 13
abbrev st_show_deed : Stmt := top 14
abbrev st_read_deed : Stmt := top 15
abbrev st_show_stroke : Stmt := top 16
abbrev st_read_stroke : Stmt := top 17
abbrev st_lines_of : Stmt := top 18
abbrev st_show_row : Stmt := top 19
abbrev st_read_row : Stmt := top 20
abbrev st__law_bag : Stmt := top 22
abbrev st__law_take : Stmt := top 23
abbrev st__law_name : Stmt := top 24
abbrev st__law_deed : Stmt := top 25
abbrev st__law_row : Stmt := top 26
abbrev st__law_deed_text : Stmt := top 27
abbrev st__law_text : Stmt := top 28
abbrev st__law_right : Stmt := top 29
abbrev st_law : Stmt := top 30
structure Facts (T : Tx) : Prop where
  n_abs : T.mg "abs" = none
  n_all : T.mg "all" = none
  n_int : T.mg "int" = none
  n_isinstance : T.mg "isinstance" = none
  n_len : T.mg "len" = none
  n_range : T.mg "range" = none
  n_repr : T.mg "repr" = none
  n_str : T.mg "str" = none
  n_tuple : T.mg "tuple" = none
  g_BETWEEN : ∃ t, T.mg "BETWEEN" = some (.str " / " t)
  g_LETTERS : ∃ t, T.mg "LETTERS" = some (.str "abcdefghijklmnopqrstuvwxyz" t)
  g_LONGEST : ∃ t, T.mg "LONGEST" = some (.int 8 t)
  g_MOST_HALLS : ∃ t, T.mg "MOST_HALLS" = some (.int 4 t)
  g_WAYS : GD T "WAYS" (.tup [.str "n", .str "e", .str "s", .str "w"])
  d_is_name : Df T "is_name" (defArgs st_is_name) (defBody st_is_name) (defScope st_is_name)
  d_is_way : Df T "is_way" (defArgs st_is_way) (defBody st_is_way) (defScope st_is_way)
  d_is_deed : Df T "is_deed" (defArgs st_is_deed) (defBody st_is_deed) (defScope st_is_deed)
  d_need_text : Df T "need_text" (defArgs st_need_text) (defBody st_need_text) (defScope st_need_text)
  d_show_deed : Df T "show_deed" (defArgs st_show_deed) (defBody st_show_deed) (defScope st_show_deed)
  d_read_deed : Df T "read_deed" (defArgs st_read_deed) (defBody st_read_deed) (defScope st_read_deed)
  d_show_stroke : Df T "show_stroke" (defArgs st_show_stroke) (defBody st_show_stroke) (defScope st_show_stroke)
  d_read_stroke : Df T "read_stroke" (defArgs st_read_stroke) (defBody st_read_stroke) (defScope st_read_stroke)
  d_lines_of : Df T "lines_of" (defArgs st_lines_of) (defBody st_lines_of) (defScope st_lines_of)
  d_show_row : Df T "show_row" (defArgs st_show_row) (defBody st_show_row) (defScope st_show_row)
  d_read_row : Df T "read_row" (defArgs st_read_row) (defBody st_read_row) (defScope st_read_row)
  d__law_bag : Df T "_law_bag" (defArgs st__law_bag) (defBody st__law_bag) (defScope st__law_bag)
  d__law_take : Df T "_law_take" (defArgs st__law_take) (defBody st__law_take) (defScope st__law_take)
  d__law_name : Df T "_law_name" (defArgs st__law_name) (defBody st__law_name) (defScope st__law_name)
  d__law_deed : Df T "_law_deed" (defArgs st__law_deed) (defBody st__law_deed) (defScope st__law_deed)
  d__law_row : Df T "_law_row" (defArgs st__law_row) (defBody st__law_row) (defScope st__law_row)
  d__law_deed_text : Df T "_law_deed_text" (defArgs st__law_deed_text) (defBody st__law_deed_text) (defScope st__law_deed_text)
  d__law_text : Df T "_law_text" (defArgs st__law_text) (defBody st__law_text) (defScope st__law_text)
  d__law_right : Df T "_law_right" (defArgs st__law_right) (defBody st__law_right) (defScope st__law_right)
  d_law : Df T "law" (defArgs st_law) (defBody st_law) (defScope st_law)
/-! ### meanings -/
/- slots of is_name: 0 thing, 1 sign -/
def b_is_name : SS :=
  (sSeq (sIfS (sOrT (sNotT (sTruth (sBlt gIsi (sCons (sVar 0) (sCons (sC (.ty "str")) sNil))))) (sNotT (sTruth (sChain gLe gLe (sC (.int 1)) (sBlt gLen (sCons (sVar 0) sNil)) (sC (.int 8))))))
  (sRet (sC (.bl false)))
  sSkip)
  (sRet (sBlt gAll (sCons (sLc (sWalk (sVar 0)) (fgName 1) sYes (sOp2 gIn (sVar 1) (sC (.str "abcdefghijklmnopqrstuvwxyz"))) [1]) sNil))))
def F_is_name : FS := fnSem 2 1 [] b_is_name
/- slots of is_way: 0 thing -/
def b_is_way : SS :=
  (sRet (sAndV (sBlt gIsi (sCons (sVar 0) (sCons (sC (.ty "str")) sNil))) (sOp2 gIn (sVar 0) (sC (.tup [.str "n", .str "e", .str "s", .str "w"])))))
def F_is_way : FS := fnSem 1 1 [] b_is_way
/- slots of is_deed: 0 thing -/
def b_is_deed : SS :=
  (sSeq (sIfS (sOrT (sNotT (sTruth (sBlt gIsi (sCons (sVar 0) (sCons (sC (.ty "tuple")) sNil))))) (sOrT (sTruth (sOp2 gEq (sVar 0) (sTup sNil))) (sNotT (sTruth (sBlt gIsi (sCons (sIx (sVar 0) (sC (.int 0))) (sCons (sC (.ty "str")) sNil)))))))
  (sRet (sC (.bl false)))
  sSkip)
  (sSeq (sIfS (sTruth (sOp2 gEq (sIx (sVar 0) (sC (.int 0))) (sC (.str "push"))))
  (sRet (sAndV (sOp2 gEq (sBlt gLen (sCons (sVar 0) sNil)) (sC (.int 3))) (sAndV (sCall F_is_name (sCons (sIx (sVar 0) (sC (.int 1))) sNil)) (sCall F_is_way (sCons (sIx (sVar 0) (sC (.int 2))) sNil)))))
  sSkip)
  (sSeq (sIfS (sTruth (sOp2 gEq (sIx (sVar 0) (sC (.int 0))) (sC (.str "turn"))))
  (sRet (sAndV (sOp2 gEq (sBlt gLen (sCons (sVar 0) sNil)) (sC (.int 2))) (sCall F_is_name (sCons (sIx (sVar 0) (sC (.int 1))) sNil))))
  sSkip)
  (sRet (sOp2 gEq (sVar 0) (sTup (sCons (sC (.str "hold")) sNil)))))))
def F_is_deed : FS := fnSem 1 1 [] b_is_deed
/- slots of need_text: 0 thing -/
def b_need_text : SS :=
  (sIfS (sNotT (sTruth (sBlt gIsi (sCons (sVar 0) (sCons (sC (.ty "str")) sNil)))))
  sNever
  sSkip)
def F_need_text : FS := fnSem 1 1 [] b_need_text
/- slots of show_deed: 0 deed -/
def b_show_deed : SS :=
  (sSeq (sIfS (sTruth (sOp1 gIsN (sVar 0)))
  (sRet (sC (.str "-")))
  sSkip)
  (sRet (sM1 gJoin (sC (.str " ")) (sVar 0))))
def F_show_deed : FS := fnSem 1 1 [] b_show_deed
/- slots of read_deed: 0 text, 1 deed -/
def b_read_deed : SS :=
  (sSeq (sDrop (sCall F_need_text (sCons (sVar 0) sNil)))
  (sSeq (sIfS (sTruth (sOp2 gEq (sVar 0) (sC (.str "-"))))
  (sRet (sC .non))
  sSkip)
  (sSeq (sSet 1 (sBlt gTuple (sCons (sM1 gSplit (sVar 0) (sC (.str " "))) sNil)))
  (sSeq (sIfS (sNotT (sTruth (sCall F_is_deed (sCons (sVar 1) sNil))))
  sNever
  sSkip)
  (sRet (sVar 1))))))
def F_read_deed : FS := fnSem 2 1 [1] b_read_deed
/- slots of show_stroke: 0 stroke, 1 deed -/
def b_show_stroke : SS :=
  (sRet (sM1 gJoin (sC (.str " / ")) (sLc (sWalk (sVar 0)) (fgName 1) sYes (sCall F_show_deed (sCons (sVar 1) sNil)) [1])))
def F_show_stroke : FS := fnSem 2 1 [] b_show_stroke
/- slots of read_stroke: 0 text, 1 stroke, 2 part -/
def b_read_stroke : SS :=
  (sSeq (sDrop (sCall F_need_text (sCons (sVar 0) sNil)))
  (sSeq (sSet 1 (sBlt gTuple (sCons (sLc (sWalk (sM1 gSplit (sVar 0) (sC (.str " / ")))) (fgName 2) sYes (sCall F_read_deed (sCons (sVar 2) sNil)) [2]) sNil)))
  (sSeq (sIfS (sTruth (sOp2 gGt (sBlt gLen (sCons (sVar 1) sNil)) (sC (.int 4))))
  sNever
  sSkip)
  (sRet (sVar 1)))))
def F_read_stroke : FS := fnSem 3 1 [1] b_read_stroke
/- slots of lines_of: 0 text, 1 lines, 2 last -/
def b_lines_of : SS :=
  (sSeq (sDrop (sCall F_need_text (sCons (sVar 0) sNil)))
  (sSeq (sAsg (sM1 gSplit (sVar 0) (sC (.str "\n"))) (fgStar 0 2 (fgCons (fgName 1) (fgCons (fgName 2) fgNil))))
  (sSeq (sIfS (sTruth (sOp2 gNe (sVar 2) (sC (.str ""))))
  sNever
  sSkip)
  (sRet (sVar 1)))))
def F_lines_of : FS := fnSem 3 1 [1, 2] b_lines_of
/- slots of show_row: 0 row, 1 stroke -/
def b_show_row : SS :=
  (sRet (sM1 gJoin (sC (.str "")) (sLc (sWalk (sVar 0)) (fgName 1) sYes (sOp2 gAdd (sCall F_show_stroke (sCons (sVar 1) sNil)) (sC (.str "\n"))) [1])))
def F_show_row : FS := fnSem 2 1 [] b_show_row
/- slots of read_row: 0 text, 1 row, 2 line, 3 stroke -/
def b_read_row : SS :=
  (sSeq (sSet 1 (sLc (sWalk (sCall F_lines_of (sCons (sVar 0) sNil))) (fgName 2) sYes (sCall F_read_stroke (sCons (sVar 2) sNil)) [2]))
  (sSeq (sIfS (sTruth (sOp2 gGt (sLenScO 1 (fgName 3) sYes (sBlt gLen (sCons (sVar 3) sNil)) [3]) (sC (.int 1))))
  sNever
  sSkip)
  (sRet (sVar 1))))
def F_read_row : FS := fnSem 4 1 [1] b_read_row
/- slots of _law_bag: 0 _law_script, 1 _law_cell -/
def b__law_bag : SS :=
  (sRet (sLstF (sCons (sC (.int 0)) (sCons (sC (.int 1234567891)) (sCons (sC (.int 0)) (sCons (sLc (sWalk (sSl (sVar 0) sNoPart (sPart (sC (.int 63))))) (fgName 1) sYes (sBlt gAbs (sCons (sVar 1) sNil)) [1]) sNil))))))
def F__law_bag : FS := fnSem 2 1 [] b__law_bag
/- slots of _law_take: 0 _law_bag_here, 1 _law_many, 2 _law_cell, 3 _law_value, 4 _law_first, 5 _law_second -/
def b__law_take : SS :=
  (sSeq (sIfS (sTruth (sOp2 gEq (sIx (sVar 0) (sC (.int 0))) (sC (.int 0))))
  (sSeq (sSet 2 (sC (.int 0)))
  (sSeq (sIfS (sTruth (sOp2 gLtI (sIx (sVar 0) (sC (.int 2))) (sBlt gLen (sCons (sIx (sVar 0) (sC (.int 3))) sNil))))
  (sSet 2 (sIx (sIx (sVar 0) (sC (.int 3))) (sIx (sVar 0) (sC (.int 2)))))
  sSkip)
  (sSeq (sAugIx 0 (sC (.int 2)) (sC (.int 1)))
  (sSeq (sIfS (sTruth (sOp2 gGe (sVar 2) (sC (.int 1000000000000000000))))
  (sSetIx 0 (sC (.int 0)) (sVar 2))
  sSkip)
  (sSetIx 0 (sC (.int 1)) (sOp2 gMod (sOp2 gAdd (sOp2 gAdd (sOp2 gMul (sIx (sVar 0) (sC (.int 1))) (sC (.int 48271))) (sOp2 gMod (sVar 2) (sC (.int 2147483647)))) (sOp2 gMul (sC (.int 7919)) (sIx (sVar 0) (sC (.int 2))))) (sC (.int 2147483647))))))))
  sSkip)
  (sSeq (sIfS (sTruth (sOp2 gGt (sIx (sVar 0) (sC (.int 0))) (sC (.int 0))))
  (sSeq (sSet 3 (sOp2 gMod (sIx (sVar 0) (sC (.int 0))) (sVar 1)))
  (sSeq (sSetIx 0 (sC (.int 0)) (sOp2 gDiv (sIx (sVar 0) (sC (.int 0))) (sVar 1)))
  (sRet (sVar 3))))
  sSkip)
  (sSeq (sSet 4 (sOp2 gMod (sOp2 gMul (sOp2 gAdd (sIx (sVar 0) (sC (.int 1))) (sC (.int 1))) (sC (.int 39373))) (sC (.int 1000000007))))
  (sSeq (sSet 5 (sOp2 gMod (sOp2 gMul (sOp2 gMod (sOp2 gMul (sVar 4) (sVar 4)) (sC (.int 998244353))) (sC (.int 30011))) (sC (.int 998244353))))
  (sSeq (sIfS (sTruth (sOp2 gGt (sVar 1) (sC (.int 1000000))))
  (sRet (sOp2 gMod (sOp2 gAdd (sOp2 gMul (sVar 5) (sC (.int 1000000007))) (sVar 4)) (sVar 1)))
  sSkip)
  (sRet (sOp2 gMod (sOp2 gDiv (sVar 5) (sC (.int 7))) (sVar 1))))))))
def F__law_take : FS := fnSem 6 2 [2, 3, 4, 5] b__law_take
/- slots of _law_name: 0 _law_bag_here, 1 _law_letters, 2 _law_k -/
def b__law_name : SS :=
  (sSeq (sSet 1 (sC (.str "abcdefghijklmnopqrstuvwxyz")))
  (sSeq (sIfS (sTruth (sOp2 gEq (sCall F__law_take (sCons (sVar 0) (sCons (sC (.int 4)) sNil))) (sC (.int 0))))
  (sRet (sIx (sLstF (sCons (sC (.str "push")) (sCons (sC (.str "turn")) (sCons (sC (.str "hold")) (sCons (sC (.str "n")) (sCons (sC (.str "e")) (sCons (sC (.str "s")) (sCons (sC (.str "w")) (sCons (sC (.str "none")) sNil))))))))) (sCall F__law_take (sCons (sVar 0) (sCons (sC (.int 8)) sNil)))))
  sSkip)
  (sRet (sM1 gJoin (sC (.str "")) (sLc (sRng1 (sCons (sOp2 gAdd (sC (.int 1)) (sCall F__law_take (sCons (sVar 0) (sCons (sC (.int 8)) sNil)))) sNil)) (fgName 2) sYes (sIx (sVar 1) (sCall F__law_take (sCons (sVar 0) (sCons (sC (.int 26)) sNil)))) [2])))))
def F__law_name : FS := fnSem 3 1 [1] b__law_name
/- slots of _law_deed: 0 _law_bag_here, 1 _law_name_here, 2 _law_way -/
def b__law_deed : SS :=
  (sSeq (sSet 1 (sCall F__law_name (sCons (sVar 0) sNil)))
  (sSeq (sSet 2 (sCall F__law_take (sCons (sVar 0) (sCons (sC (.int 6)) sNil))))
  (sSeq (sIfS (sTruth (sOp2 gLtI (sVar 2) (sC (.int 3))))
  (sRet (sTup (sCons (sC (.str "push")) (sCons (sVar 1) (sCons (sIx (sC (.str "nesw")) (sCall F__law_take (sCons (sVar 0) (sCons (sC (.int 4)) sNil)))) sNil)))))
  sSkip)
  (sRet (sIx (sLstF (sCons (sTup (sCons (sC (.str "turn")) (sCons (sVar 1) sNil))) (sCons (sTup (sCons (sC (.str "hold")) sNil)) (sCons (sC .non) sNil)))) (sOp2 L3.gSub (sVar 2) (sC (.int 3))))))))
def F__law_deed : FS := fnSem 3 1 [1, 2] b__law_deed
/- slots of _law_row: 0 _law_bag_here, 1 _law_many, 2 _law_long, 3 _law_j, 4 _law_k -/
def b__law_row : SS :=
  (sSeq (sSet 1 (sOp2 gAdd (sC (.int 1)) (sCall F__law_take (sCons (sVar 0) (sCons (sC (.int 4)) sNil)))))
  (sSeq (sSet 2 (sIx (sLstF (sCons (sCall F__law_take (sCons (sVar 0) (sCons (sC (.int 4)) sNil))) (sCons (sC (.int 40)) sNil))) (sOp2 gDiv (sCall F__law_take (sCons (sVar 0) (sCons (sC (.int 8)) sNil))) (sC (.int 7)))))
  (sRet (sLc (sRng1 (sCons (sVar 2) sNil)) (fgName 3) sYes (sBlt gTuple (sCons (sLc (sRng1 (sCons (sVar 1) sNil)) (fgName 4) sYes (sCall F__law_deed (sCons (sVar 0) sNil)) [4]) sNil)) [3]))))
def F__law_row : FS := fnSem 5 1 [1, 2] b__law_row
/- slots of _law_deed_text: 0 _law_deed_here, 1 _law_text_here, 2 _law_word -/
def b__law_deed_text : SS :=
  (sSeq (sIfS (sTruth (sOp1 gIsN (sVar 0)))
  (sRet (sC (.str "-")))
  sSkip)
  (sSeq (sSet 1 (sIx (sVar 0) (sC (.int 0))))
  (sSeq (sFor (sWalk (sSl (sVar 0) (sPart (sC (.int 1))) sNoPart)) (fgName 2)
  (sSet 1 (sOp2 gAdd (sOp2 gAdd (sVar 1) (sC (.str " "))) (sVar 2))))
  (sRet (sVar 1)))))
def F__law_deed_text : FS := fnSem 3 1 [1, 2] b__law_deed_text
/- slots of _law_text: 0 _law_row_here, 1 _law_found, 2 _law_stroke, 3 _law_line, 4 _law_deed_here -/
def b__law_text : SS :=
  (sSeq (sSet 1 (sC (.str "")))
  (sSeq (sFor (sWalk (sVar 0)) (fgName 2)
  (sSeq (sSet 3 (sC (.str "")))
  (sSeq (sFor (sWalk (sVar 2)) (fgName 4)
  (sSet 3 (sOp2 gAdd (sOp2 gAdd (sVar 3) (sOp2 gMul (sC (.str " / ")) (sBlt gInt1 (sCons (sOp2 gNe (sVar 3) (sC (.str ""))) sNil)))) (sCall F__law_deed_text (sCons (sVar 4) sNil)))))
  (sSet 1 (sOp2 gAdd (sOp2 gAdd (sVar 1) (sVar 3)) (sC (.str "\n")))))))
  (sRet (sVar 1))))
def F__law_text : FS := fnSem 5 1 [1, 2, 3, 4] b__law_text
/- slots of _law_right: 0 _law_row_here, 1 _law_kept, 2 _law_text_here, 3 _law_stroke, 4 _law_line, 5 _law_deed_here, 6 _law_found -/
def b__law_right : SS :=
  (sSeq (sSet 1 (sBlt gRepr (sCons (sVar 0) sNil)))
  (sSeq (sSet 2 (sCall F__law_text (sCons (sVar 0) sNil)))
  (sSeq (sIfS (sOrT (sTruth (sOp2 gNe (sBlt gRepr (sCons (sCall F_show_row (sCons (sVar 0) sNil)) sNil)) (sBlt gRepr (sCons (sVar 2) sNil)))) (sOrT (sTruth (sOp2 gNe (sBlt gRepr (sCons (sCall F_read_row (sCons (sVar 2) sNil)) sNil)) (sVar 1))) (sTruth (sOp2 gNe (sBlt gRepr (sCons (sVar 0) sNil)) (sVar 1)))))
  (sRet (sC (.bl false)))
  sSkip)
  (sSeq (sFor (sWalk (sSl (sVar 0) sNoPart (sPart (sC (.int 6))))) (fgName 3)
  (sSeq (sSet 4 (sSl (sCall F__law_text (sCons (sLstF (sCons (sVar 3) sNil)) sNil)) sNoPart (sPart (sOp1 gNeg (sC (.int 1))))))
  (sSeq (sIfS (sOrT (sTruth (sOp2 gNe (sCall F_show_stroke (sCons (sVar 3) sNil)) (sVar 4))) (sTruth (sOp2 gNe (sBlt gRepr (sCons (sCall F_read_stroke (sCons (sVar 4) sNil)) sNil)) (sBlt gRepr (sCons (sVar 3) sNil)))))
  (sRet (sC (.bl false)))
  sSkip)
  (sFor (sWalk (sVar 3)) (fgName 5)
  (sIfS (sOrT (sTruth (sOp2 gNe (sCall F_show_deed (sCons (sVar 5) sNil)) (sCall F__law_deed_text (sCons (sVar 5) sNil)))) (sTruth (sOp2 gNe (sBlt gRepr (sCons (sCall F_read_deed (sCons (sCall F__law_deed_text (sCons (sVar 5) sNil)) sNil)) sNil)) (sBlt gRepr (sCons (sVar 5) sNil)))))
  (sRet (sC (.bl false)))
  sSkip)))))
  (sSeq (sSet 6 (sCall F_read_row (sCons (sVar 2) sNil)))
  (sSeq (sDrop (sMut 6 mApp (sCons (sC .non) sNil)))
  (sRet (sOp2 gEq (sBlt gRepr (sCons (sCall F_read_row (sCons (sVar 2) sNil)) sNil)) (sVar 1)))))))))
def F__law_right : FS := fnSem 7 1 [1, 2, 3, 4, 5, 6] b__law_right
/- slots of law: 0 _law_script, 1 _law_bag_here, 2 _law_rows, 3 _law_row_here, 4 _law_one, 5 _law_other, 6 _law_k, 7 _law_many, 8 _law_parts, 9 _law_due, 10 _law_at, 11 _law_part -/
def b_law : SS :=
  (sSeq (sSet 1 (sCall F__law_bag (sCons (sVar 0) sNil)))
  (sSeq (sSet 2 (sLc (sRng1 (sCons (sC (.int 3)) sNil)) (fgName 6) sYes (sCall F__law_row (sCons (sVar 1) sNil)) [6]))
  (sSeq (sFor (sWalk (sOp2 gAdd (sVar 2) (sSl (sVar 2) sNoPart (sPart (sC (.int 2)))))) (fgName 3)
  (sIfS (sNotT (sTruth (sCall F__law_right (sCons (sVar 3) sNil))))
  (sRet (sC (.bl false)))
  sSkip))
  (sSeq (sFor (sWalk (sVar 2)) (fgName 4)
  (sFor (sWalk (sVar 2)) (fgName 5)
  (sIfS (sTruth (sOp2 gNe (sOp2 gEq (sCall F_show_row (sCons (sVar 4) sNil)) (sCall F_show_row (sCons (sVar 5) sNil))) (sOp2 gEq (sVar 4) (sVar 5))))
  (sRet (sC (.bl false)))
  sSkip)))
  (sSeq (sPar 6 7 (sCons (sCall F__law_take (sCons (sVar 1) (sCons (sC (.int 3)) sNil))) (sCons (sOp2 gAdd (sC (.int 1)) (sCall F__law_take (sCons (sVar 1) (sCons (sC (.int 400)) sNil)))) sNil)))
  (sSeq (sSet 8 (sOp2 gMul (sIx (sLstF (sCons (sLstF (sCons (sC (.str "-")) sNil)) (sCons (sLstF (sCons (sC (.str "- / hold")) sNil)) (sCons (sLstF (sCons (sC (.str "hold / - / -")) sNil)) sNil)))) (sVar 6)) (sVar 7)))
  (sSeq (sSet 9 (sOp2 gMul (sIx (sLstF (sCons (sLstF (sCons (sTup (sCons (sC .non) sNil)) sNil)) (sCons (sLstF (sCons (sTup (sCons (sC .non) (sCons (sTup (sCons (sC (.str "hold")) sNil)) sNil))) sNil)) (sCons (sLstF (sCons (sTup (sCons (sTup (sCons (sC (.str "hold")) sNil)) (sCons (sC .non) (sCons (sC .non) sNil)))) sNil)) sNil)))) (sVar 6)) (sVar 7)))
  (sSeq (sSet 10 (sCall F__law_take (sCons (sVar 1) (sCons (sVar 7) sNil))))
  (sSeq (sSetIx 8 (sVar 10) (sIx (sLstF (sCons (sC (.str "turn a")) (sCons (sC (.str "turn a / -")) (sCons (sC (.str "- / turn a / -")) sNil)))) (sVar 6)))
  (sSeq (sSetIx 9 (sVar 10) (sIx (sLstF (sCons (sTup (sCons (sTup (sCons (sC (.str "turn")) (sCons (sC (.str "a")) sNil))) sNil)) (sCons (sTup (sCons (sTup (sCons (sC (.str "turn")) (sCons (sC (.str "a")) sNil))) (sCons (sC .non) sNil))) (sCons (sTup (sCons (sC .non) (sCons (sTup (sCons (sC (.str "turn")) (sCons (sC (.str "a")) sNil))) (sCons (sC .non) sNil)))) sNil)))) (sVar 6)))
  (sSeq (sIfS (sTruth (sOp2 gNe (sBlt gRepr (sCons (sCall F_read_row (sCons (sM1 gJoin (sC (.str "")) (sLc (sWalk (sVar 8)) (fgName 11) sYes (sOp2 gAdd (sVar 11) (sC (.str "\n"))) [11])) sNil)) sNil)) (sBlt gRepr (sCons (sVar 9) sNil))))
  (sRet (sC (.bl false)))
  sSkip)
  (sRet (sAndV (sOp2 gEq (sCall F_show_row (sCons (sLstF sNil) sNil)) (sC (.str ""))) (sOp2 gEq (sCall F_read_row (sCons (sC (.str "")) sNil)) (sLstF sNil)))))))))))))))
def F_law : FS := fnSem 12 1 [1, 2, 3, 4, 5, 6, 7, 8, 9, 10] b_law
/-! ### derivations -/
section
variable {P : Program} {w : World} {T : Tx} {base : Heap}
theorem sc_is_name : FnScope ["thing", "sign"] ["thing"] (defScope st_is_name) := ⟨rfl, rfl, rfl, by decide +kernel, rfl, by decide +kernel, by decide +kernel⟩
theorem ok_is_name (FX : Facts T) : Ok P w T base 1 "is_name" F_is_name := by
  refine Ok.ofDf (names := ["thing", "sign"]) (ps := ["thing"]) (g := b_is_name) FX.d_is_name sc_is_name rfl (fun _ _ _ _ _ _ us hl => match us, hl with | [_], _ => rfl) fun f E => ?_
  have h := famD (P := P) (w := w) (T := T) (base := base) (k := 0) (qual := "is_name") (scope := defScope st_is_name) (f := f) (names := ["thing", "sign"]) E (by decide +kernel)
  exact DSs.mono (DSs.cons (DS.ifS (DT.whole (DW.or (DT.not (DT.val (DE.isi h FX.n_isinstance (DA.cons (DE.var h 0) (DA.cons (DE.ty h FX.n_str PyProof.Rows.boot_str) DA.nil))))) (DW.or1 (DT.not (DT.chain (fun i => op_le) lift_le (fun i => op_le) lift_le DE.int (DE.len h FX.n_len (DA.cons (DE.var h 0) DA.nil)) (DE.gint h FX.g_LONGEST))))))
      (DSs.one (DS.ret DE.bl))
      DSs.nil)
      (DSs.one (DS.ret (DE.all_ h FX.n_all (DA.cons (DE.lc h [("sign", 1)] (DI.walk h (DE.var h 0)) (DG.name (Fam.blk h _) 1) (by decide) DTs.nil (DE.in_ (Fam.blk h _) (DE.var (Fam.blk h _) 1) (DE.gstr (Fam.blk h _) FX.g_LETTERS))) DA.nil))))) (by decide)
theorem sc_is_way : FnScope ["thing"] ["thing"] (defScope st_is_way) := ⟨rfl, rfl, rfl, by decide +kernel, rfl, by decide +kernel, by decide +kernel⟩
theorem ok_is_way (FX : Facts T) : Ok P w T base 1 "is_way" F_is_way := by
  refine Ok.ofDf (names := ["thing"]) (ps := ["thing"]) (g := b_is_way) FX.d_is_way sc_is_way rfl (fun _ _ _ _ _ _ us hl => match us, hl with | [_], _ => rfl) fun f E => ?_
  have h := famD (P := P) (w := w) (T := T) (base := base) (k := 0) (qual := "is_way") (scope := defScope st_is_way) (f := f) (names := ["thing"]) E (by decide +kernel)
  exact DSs.mono (DSs.one (DS.ret (DE.and (DE.isi h FX.n_isinstance (DA.cons (DE.var h 0) (DA.cons (DE.ty h FX.n_str PyProof.Rows.boot_str) DA.nil))) (DE.one (DE.in_ h (DE.var h 0) (DE.gref h FX.g_WAYS)))))) (by decide)
theorem sc_is_deed : FnScope ["thing"] ["thing"] (defScope st_is_deed) := ⟨rfl, rfl, rfl, by decide +kernel, rfl, by decide +kernel, by decide +kernel⟩
theorem ok_is_deed (FX : Facts T) : Ok P w T base 2 "is_deed" F_is_deed := by
  have ok_is_name := ok_is_name (P := P) (w := w) (base := base) FX
  have ok_is_way := ok_is_way (P := P) (w := w) (base := base) FX
  refine Ok.ofDf (names := ["thing"]) (ps := ["thing"]) (g := b_is_deed) FX.d_is_deed sc_is_deed rfl (fun _ _ _ _ _ _ us hl => match us, hl with | [_], _ => rfl) fun f E => ?_
  have h := famD (P := P) (w := w) (T := T) (base := base) (k := 1) (qual := "is_deed") (scope := defScope st_is_deed) (f := f) (names := ["thing"]) E (by decide +kernel)
  exact DSs.mono (DSs.cons (DS.ifS (DT.whole (DW.or (DT.not (DT.val (DE.isi h FX.n_isinstance (DA.cons (DE.var h 0) (DA.cons (DE.ty h FX.n_tuple PyProof.Rows.boot_tuple) DA.nil))))) (DW.or (DT.eq h (DE.var h 0) (DE.tup DA.nil)) (DW.or1 (DT.not (DT.val (DE.isi h FX.n_isinstance (DA.cons (DE.ix h (DE.var h 0) DE.int) (DA.cons (DE.ty h FX.n_str PyProof.Rows.boot_str) DA.nil)))))))))
      (DSs.one (DS.ret DE.bl))
      DSs.nil)
      (DSs.cons (DS.ifS (DT.eq h (DE.ix h (DE.var h 0) DE.int) DE.str)
      (DSs.one (DS.ret (DE.and (DE.eq h (DE.len h FX.n_len (DA.cons (DE.var h 0) DA.nil)) DE.int) (DE.and (DE.own h ok_is_name (DA.cons (DE.ix h (DE.var h 0) DE.int) DA.nil)) (DE.one (DE.own h ok_is_way (DA.cons (DE.ix h (DE.var h 0) DE.int) DA.nil)))))))
      DSs.nil)
      (DSs.cons (DS.ifS (DT.eq h (DE.ix h (DE.var h 0) DE.int) DE.str)
      (DSs.one (DS.ret (DE.and (DE.eq h (DE.len h FX.n_len (DA.cons (DE.var h 0) DA.nil)) DE.int) (DE.one (DE.own h ok_is_name (DA.cons (DE.ix h (DE.var h 0) DE.int) DA.nil))))))
      DSs.nil)
      (DSs.one (DS.ret (DE.eq h (DE.var h 0) (DE.tup (DA.cons DE.str DA.nil)))))))) (by decide)
theorem sc_need_text : FnScope ["thing"] ["thing"] (defScope st_need_text) := ⟨rfl, rfl, rfl, by decide +kernel, rfl, by decide +kernel, by decide +kernel⟩
theorem ok_need_text (FX : Facts T) : Ok P w T base 1 "need_text" F_need_text := by
  refine Ok.ofDf (names := ["thing"]) (ps := ["thing"]) (g := b_need_text) FX.d_need_text sc_need_text rfl (fun _ _ _ _ _ _ us hl => match us, hl with | [_], _ => rfl) fun f E => ?_
  have h := famD (P := P) (w := w) (T := T) (base := base) (k := 0) (qual := "need_text") (scope := defScope st_need_text) (f := f) (names := ["thing"]) E (by decide +kernel)
  exact DSs.mono (DSs.one (DS.ifS (DT.not (DT.val (DE.isi h FX.n_isinstance (DA.cons (DE.var h 0) (DA.cons (DE.ty h FX.n_str PyProof.Rows.boot_str) DA.nil)))))
      DSs.never
      DSs.nil)) (by decide)
theorem sc_show_deed : FnScope ["deed"] ["deed"] (defScope st_show_deed) := ⟨rfl, rfl, rfl, by decide +kernel, rfl, by decide +kernel, by decide +kernel⟩
theorem ok_show_deed (FX : Facts T) : Ok P w T base 1 "show_deed" F_show_deed := by
  refine Ok.ofDf (names := ["deed"]) (ps := ["deed"]) (g := b_show_deed) FX.d_show_deed sc_show_deed rfl (fun _ _ _ _ _ _ us hl => match us, hl with | [_], _ => rfl) fun f E => ?_
  have h := famD (P := P) (w := w) (T := T) (base := base) (k := 0) (qual := "show_deed") (scope := defScope st_show_deed) (f := f) (names := ["deed"]) E (by decide +kernel)
  exact DSs.mono (DSs.cons (DS.ifS (DT.isN (DE.var h 0))
      (DSs.one (DS.ret DE.str))
      DSs.nil)
      (DSs.one (DS.ret (DE.join h DE.str (DE.var h 0))))) (by decide)
theorem sc_read_deed : FnScope ["text", "deed"] ["text"] (defScope st_read_deed) := ⟨rfl, rfl, rfl, by decide +kernel, rfl, by decide +kernel, by decide +kernel⟩
theorem ok_read_deed (FX : Facts T) : Ok P w T base 3 "read_deed" F_read_deed := by
  have ok_is_deed := ok_is_deed (P := P) (w := w) (base := base) FX
  have ok_need_text := ok_need_text (P := P) (w := w) (base := base) FX
  refine Ok.ofDf (names := ["text", "deed"]) (ps := ["text"]) (g := b_read_deed) FX.d_read_deed sc_read_deed rfl (fun _ _ _ _ _ _ us hl => match us, hl with | [_], _ => rfl) fun f E => ?_
  have h := famD (P := P) (w := w) (T := T) (base := base) (k := 2) (qual := "read_deed") (scope := defScope st_read_deed) (f := f) (names := ["text", "deed"]) E (by decide +kernel)
  exact DSs.mono (DSs.cons (DS.expr (DE.own h ok_need_text (DA.cons (DE.var h 0) DA.nil)))
      (DSs.cons (DS.ifS (DT.eq h (DE.var h 0) DE.str)
      (DSs.one (DS.ret DE.non))
      DSs.nil)
      (DSs.cons (DS.set h 1 (DE.tuple_ h FX.n_tuple (DA.cons (DE.split (DE.var h 0) DE.str) DA.nil)))
      (DSs.cons (DS.ifS (DT.not (DT.val (DE.own h ok_is_deed (DA.cons (DE.var h 1) DA.nil))))
      DSs.never
      DSs.nil)
      (DSs.one (DS.ret (DE.var h 1))))))) (by decide)
theorem sc_show_stroke : FnScope ["stroke", "deed"] ["stroke"] (defScope st_show_stroke) := ⟨rfl, rfl, rfl, by decide +kernel, rfl, by decide +kernel, by decide +kernel⟩
theorem ok_show_stroke (FX : Facts T) : Ok P w T base 2 "show_stroke" F_show_stroke := by
  have ok_show_deed := ok_show_deed (P := P) (w := w) (base := base) FX
  refine Ok.ofDf (names := ["stroke", "deed"]) (ps := ["stroke"]) (g := b_show_stroke) FX.d_show_stroke sc_show_stroke rfl (fun _ _ _ _ _ _ us hl => match us, hl with | [_], _ => rfl) fun f E => ?_
  have h := famD (P := P) (w := w) (T := T) (base := base) (k := 1) (qual := "show_stroke") (scope := defScope st_show_stroke) (f := f) (names := ["stroke", "deed"]) E (by decide +kernel)
  exact DSs.mono (DSs.one (DS.ret (DE.join h (DE.gstr h FX.g_BETWEEN) (DE.lc h [("deed", 1)] (DI.walk h (DE.var h 0)) (DG.name (Fam.blk h _) 1) (by decide) DTs.nil (DE.own (Fam.blk h _) ok_show_deed (DA.cons (DE.var (Fam.blk h _) 1) DA.nil)))))) (by decide)
theorem sc_read_stroke : FnScope ["text", "stroke", "part"] ["text"] (defScope st_read_stroke) := ⟨rfl, rfl, rfl, by decide +kernel, rfl, by decide +kernel, by decide +kernel⟩
theorem ok_read_stroke (FX : Facts T) : Ok P w T base 4 "read_stroke" F_read_stroke := by
  have ok_need_text := ok_need_text (P := P) (w := w) (base := base) FX
  have ok_read_deed := ok_read_deed (P := P) (w := w) (base := base) FX
  refine Ok.ofDf (names := ["text", "stroke", "part"]) (ps := ["text"]) (g := b_read_stroke) FX.d_read_stroke sc_read_stroke rfl (fun _ _ _ _ _ _ us hl => match us, hl with | [_], _ => rfl) fun f E => ?_
  have h := famD (P := P) (w := w) (T := T) (base := base) (k := 3) (qual := "read_stroke") (scope := defScope st_read_stroke) (f := f) (names := ["text", "stroke", "part"]) E (by decide +kernel)
  exact DSs.mono (DSs.cons (DS.expr (DE.own h ok_need_text (DA.cons (DE.var h 0) DA.nil)))
      (DSs.cons (DS.set h 1 (DE.tuple_ h FX.n_tuple (DA.cons (DE.lc h [("part", 2)] (DI.walk h (DE.split (DE.var h 0) (DE.gstr h FX.g_BETWEEN))) (DG.name (Fam.blk h _) 2) (by decide) DTs.nil (DE.own (Fam.blk h _) ok_read_deed (DA.cons (DE.var (Fam.blk h _) 2) DA.nil))) DA.nil)))
      (DSs.cons (DS.ifS (DT.gt (DE.len h FX.n_len (DA.cons (DE.var h 1) DA.nil)) (DE.gint h FX.g_MOST_HALLS))
      DSs.never
      DSs.nil)
      (DSs.one (DS.ret (DE.var h 1)))))) (by decide)
theorem sc_lines_of : FnScope ["text", "lines", "last"] ["text"] (defScope st_lines_of) := ⟨rfl, rfl, rfl, by decide +kernel, rfl, by decide +kernel, by decide +kernel⟩
theorem ok_lines_of (FX : Facts T) : Ok P w T base 2 "lines_of" F_lines_of := by
  have ok_need_text := ok_need_text (P := P) (w := w) (base := base) FX
  refine Ok.ofDf (names := ["text", "lines", "last"]) (ps := ["text"]) (g := b_lines_of) FX.d_lines_of sc_lines_of rfl (fun _ _ _ _ _ _ us hl => match us, hl with | [_], _ => rfl) fun f E => ?_
  have h := famD (P := P) (w := w) (T := T) (base := base) (k := 1) (qual := "lines_of") (scope := defScope st_lines_of) (f := f) (names := ["text", "lines", "last"]) E (by decide +kernel)
  exact DSs.mono (DSs.cons (DS.expr (DE.own h ok_need_text (DA.cons (DE.var h 0) DA.nil)))
      (DSs.cons (DS.asg (DE.split (DE.var h 0) DE.str) (DG.star h 0 2 (DGs.consS (DG.name h 1) (DGs.cons (DG.name h 2) DGs.nil))))
      (DSs.cons (DS.ifS (DT.ne h (DE.var h 2) DE.str)
      DSs.never
      DSs.nil)
      (DSs.one (DS.ret (DE.var h 1)))))) (by decide)
theorem sc_show_row : FnScope ["row", "stroke"] ["row"] (defScope st_show_row) := ⟨rfl, rfl, rfl, by decide +kernel, rfl, by decide +kernel, by decide +kernel⟩
theorem ok_show_row (FX : Facts T) : Ok P w T base 3 "show_row" F_show_row := by
  have ok_show_stroke := ok_show_stroke (P := P) (w := w) (base := base) FX
  refine Ok.ofDf (names := ["row", "stroke"]) (ps := ["row"]) (g := b_show_row) FX.d_show_row sc_show_row rfl (fun _ _ _ _ _ _ us hl => match us, hl with | [_], _ => rfl) fun f E => ?_
  have h := famD (P := P) (w := w) (T := T) (base := base) (k := 2) (qual := "show_row") (scope := defScope st_show_row) (f := f) (names := ["row", "stroke"]) E (by decide +kernel)
  exact DSs.mono (DSs.one (DS.ret (DE.join h DE.str (DE.lc h [("stroke", 1)] (DI.walk h (DE.var h 0)) (DG.name (Fam.blk h _) 1) (by decide) DTs.nil (DE.add (Fam.blk h _) (DE.own (Fam.blk h _) ok_show_stroke (DA.cons (DE.var (Fam.blk h _) 1) DA.nil)) DE.str))))) (by decide)
theorem sc_read_row : FnScope ["text", "row", "line", "stroke"] ["text"] (defScope st_read_row) := ⟨rfl, rfl, rfl, by decide +kernel, rfl, by decide +kernel, by decide +kernel⟩
theorem ok_read_row (FX : Facts T) : Ok P w T base 5 "read_row" F_read_row := by
  have ok_lines_of := ok_lines_of (P := P) (w := w) (base := base) FX
  have ok_read_stroke := ok_read_stroke (P := P) (w := w) (base := base) FX
  refine Ok.ofDf (names := ["text", "row", "line", "stroke"]) (ps := ["text"]) (g := b_read_row) FX.d_read_row sc_read_row rfl (fun _ _ _ _ _ _ us hl => match us, hl with | [_], _ => rfl) fun f E => ?_
  have h := famD (P := P) (w := w) (T := T) (base := base) (k := 4) (qual := "read_row") (scope := defScope st_read_row) (f := f) (names := ["text", "row", "line", "stroke"]) E (by decide +kernel)
  exact DSs.mono (DSs.cons (DS.setLc h 1 [("line", 2)] (DI.walk h (DE.own h ok_lines_of (DA.cons (DE.var h 0) DA.nil))) (DG.name (Fam.blk h _) 2) (by decide) DTs.nil (DE.own (Fam.blk h _) ok_read_stroke (DA.cons (DE.var (Fam.blk h _) 2) DA.nil)) rfl rfl (fun i => by rfl))
      (DSs.cons (DS.ifS (DT.gt (DE.lenScO h [("stroke", 3)] 1 FX.n_len (DG.name (Fam.blk h _) 3) (by decide) DTs.nil (DE.len (Fam.blk h _) FX.n_len (DA.cons (DE.var (Fam.blk h _) 3) DA.nil))) DE.int)
      DSs.never
      DSs.nil)
      (DSs.one (DS.ret (DE.var h 1))))) (by decide)
theorem sc__law_bag : FnScope ["_law_script", "_law_cell"] ["_law_script"] (defScope st__law_bag) := ⟨rfl, rfl, rfl, by decide +kernel, rfl, by decide +kernel, by decide +kernel⟩
theorem ok__law_bag (FX : Facts T) : Ok P w T base 1 "_law_bag" F__law_bag := by
  refine Ok.ofDf (names := ["_law_script", "_law_cell"]) (ps := ["_law_script"]) (g := b__law_bag) FX.d__law_bag sc__law_bag rfl (fun _ _ _ _ _ _ us hl => match us, hl with | [_], _ => rfl) fun f E => ?_
  have h := famD (P := P) (w := w) (T := T) (base := base) (k := 0) (qual := "_law_bag") (scope := defScope st__law_bag) (f := f) (names := ["_law_script", "_law_cell"]) E (by decide +kernel)
  exact DSs.mono (DSs.one (DS.ret (DE.lstF (DA.cons DE.int (DA.cons DE.int (DA.cons DE.int (DA.cons (DE.lc h [("_law_cell", 1)] (DI.walk h (DE.sl h (DE.var h 0) DO.none (DO.some DE.int))) (DG.name (Fam.blk h _) 1) (by decide) DTs.nil (DE.abs (Fam.blk h _) FX.n_abs (DA.cons (DE.var (Fam.blk h _) 1) DA.nil))) DA.nil))))))) (by decide)
theorem sc__law_take : FnScope ["_law_bag_here", "_law_many", "_law_cell", "_law_value", "_law_first", "_law_second"] ["_law_bag_here", "_law_many"] (defScope st__law_take) := ⟨rfl, rfl, rfl, by decide +kernel, rfl, by decide +kernel, by decide +kernel⟩
theorem ok__law_take (FX : Facts T) : Ok P w T base 1 "_law_take" F__law_take := by
  refine Ok.ofDf (names := ["_law_bag_here", "_law_many", "_law_cell", "_law_value", "_law_first", "_law_second"]) (ps := ["_law_bag_here", "_law_many"]) (g := b__law_take) FX.d__law_take sc__law_take rfl (fun _ _ _ _ _ _ us hl => match us, hl with | [_, _], _ => rfl) fun f E => ?_
  have h := famD (P := P) (w := w) (T := T) (base := base) (k := 0) (qual := "_law_take") (scope := defScope st__law_take) (f := f) (names := ["_law_bag_here", "_law_many", "_law_cell", "_law_value", "_law_first", "_law_second"]) E (by decide +kernel)
  exact DSs.mono (DSs.cons (DS.ifS (DT.eq h (DE.ix h (DE.var h 0) DE.int) DE.int)
      (DSs.cons (DS.set h 2 DE.int)
      (DSs.cons (DS.ifS (DT.lt (DE.ix h (DE.var h 0) DE.int) (DE.len h FX.n_len (DA.cons (DE.ix h (DE.var h 0) DE.int) DA.nil)))
      (DSs.one (DS.set h 2 (DE.ix h (DE.ix h (DE.var h 0) DE.int) (DE.ix h (DE.var h 0) DE.int))))
      DSs.nil)
      (DSs.cons (DS.augIx h 0 DE.int DE.int)
      (DSs.cons (DS.ifS (DT.ge (DE.var h 2) DE.int)
      (DSs.one (DS.setIx h 0 (DE.var h 2) DE.int))
      DSs.nil)
      (DSs.one (DS.setIx h 0 (DE.mod (DE.add h (DE.add h (DE.mul h (DE.ix h (DE.var h 0) DE.int) DE.int) (DE.mod (DE.var h 2) DE.int)) (DE.mul h DE.int (DE.ix h (DE.var h 0) DE.int))) DE.int) DE.int))))))
      DSs.nil)
      (DSs.cons (DS.ifS (DT.gt (DE.ix h (DE.var h 0) DE.int) DE.int)
      (DSs.cons (DS.set h 3 (DE.mod (DE.ix h (DE.var h 0) DE.int) (DE.var h 1)))
      (DSs.cons (DS.setIx h 0 (DE.div (DE.ix h (DE.var h 0) DE.int) (DE.var h 1)) DE.int)
      (DSs.one (DS.ret (DE.var h 3)))))
      DSs.nil)
      (DSs.cons (DS.set h 4 (DE.mod (DE.mul h (DE.add h (DE.ix h (DE.var h 0) DE.int) DE.int) DE.int) DE.int))
      (DSs.cons (DS.set h 5 (DE.mod (DE.mul h (DE.mod (DE.mul h (DE.var h 4) (DE.var h 4)) DE.int) DE.int) DE.int))
      (DSs.cons (DS.ifS (DT.gt (DE.var h 1) DE.int)
      (DSs.one (DS.ret (DE.mod (DE.add h (DE.mul h (DE.var h 5) DE.int) (DE.var h 4)) (DE.var h 1))))
      DSs.nil)
      (DSs.one (DS.ret (DE.mod (DE.div (DE.var h 5) DE.int) (DE.var h 1))))))))) (by decide)
theorem sc__law_name : FnScope ["_law_bag_here", "_law_letters", "_law_k"] ["_law_bag_here"] (defScope st__law_name) := ⟨rfl, rfl, rfl, by decide +kernel, rfl, by decide +kernel, by decide +kernel⟩
theorem ok__law_name (FX : Facts T) : Ok P w T base 2 "_law_name" F__law_name := by
  have ok__law_take := ok__law_take (P := P) (w := w) (base := base) FX
  refine Ok.ofDf (names := ["_law_bag_here", "_law_letters", "_law_k"]) (ps := ["_law_bag_here"]) (g := b__law_name) FX.d__law_name sc__law_name rfl (fun _ _ _ _ _ _ us hl => match us, hl with | [_], _ => rfl) fun f E => ?_
  have h := famD (P := P) (w := w) (T := T) (base := base) (k := 1) (qual := "_law_name") (scope := defScope st__law_name) (f := f) (names := ["_law_bag_here", "_law_letters", "_law_k"]) E (by decide +kernel)
  exact DSs.mono (DSs.cons (DS.set h 1 DE.str)
      (DSs.cons (DS.ifS (DT.eq h (DE.own h ok__law_take (DA.cons (DE.var h 0) (DA.cons DE.int DA.nil))) DE.int)
      (DSs.one (DS.ret (DE.ix h (DE.lstF (DA.cons DE.str (DA.cons DE.str (DA.cons DE.str (DA.cons DE.str (DA.cons DE.str (DA.cons DE.str (DA.cons DE.str (DA.cons DE.str DA.nil))))))))) (DE.own h ok__law_take (DA.cons (DE.var h 0) (DA.cons DE.int DA.nil))))))
      DSs.nil)
      (DSs.one (DS.ret (DE.join h DE.str (DE.lc h [("_law_k", 2)] (DI.rng1 h FX.n_range (DA.cons (DE.add h DE.int (DE.own h ok__law_take (DA.cons (DE.var h 0) (DA.cons DE.int DA.nil)))) DA.nil)) (DG.name (Fam.blk h _) 2) (by decide) DTs.nil (DE.ix (Fam.blk h _) (DE.var (Fam.blk h _) 1) (DE.own (Fam.blk h _) ok__law_take (DA.cons (DE.var (Fam.blk h _) 0) (DA.cons DE.int DA.nil)))))))))) (by decide)
theorem sc__law_deed : FnScope ["_law_bag_here", "_law_name_here", "_law_way"] ["_law_bag_here"] (defScope st__law_deed) := ⟨rfl, rfl, rfl, by decide +kernel, rfl, by decide +kernel, by decide +kernel⟩
theorem ok__law_deed (FX : Facts T) : Ok P w T base 3 "_law_deed" F__law_deed := by
  have ok__law_name := ok__law_name (P := P) (w := w) (base := base) FX
  have ok__law_take := ok__law_take (P := P) (w := w) (base := base) FX
  refine Ok.ofDf (names := ["_law_bag_here", "_law_name_here", "_law_way"]) (ps := ["_law_bag_here"]) (g := b__law_deed) FX.d__law_deed sc__law_deed rfl (fun _ _ _ _ _ _ us hl => match us, hl with | [_], _ => rfl) fun f E => ?_
  have h := famD (P := P) (w := w) (T := T) (base := base) (k := 2) (qual := "_law_deed") (scope := defScope st__law_deed) (f := f) (names := ["_law_bag_here", "_law_name_here", "_law_way"]) E (by decide +kernel)
  exact DSs.mono (DSs.cons (DS.set h 1 (DE.own h ok__law_name (DA.cons (DE.var h 0) DA.nil)))
      (DSs.cons (DS.set h 2 (DE.own h ok__law_take (DA.cons (DE.var h 0) (DA.cons DE.int DA.nil))))
      (DSs.cons (DS.ifS (DT.lt (DE.var h 2) DE.int)
      (DSs.one (DS.ret (DE.tup (DA.cons DE.str (DA.cons (DE.var h 1) (DA.cons (DE.ix h DE.str (DE.own h ok__law_take (DA.cons (DE.var h 0) (DA.cons DE.int DA.nil)))) DA.nil))))))
      DSs.nil)
      (DSs.one (DS.ret (DE.ix h (DE.lstF (DA.cons (DE.tup (DA.cons DE.str (DA.cons (DE.var h 1) DA.nil))) (DA.cons (DE.tup (DA.cons DE.str DA.nil)) (DA.cons DE.non DA.nil)))) (DE.sub (DE.var h 2) DE.int))))))) (by decide)
theorem sc__law_row : FnScope ["_law_bag_here", "_law_many", "_law_long", "_law_j", "_law_k"] ["_law_bag_here"] (defScope st__law_row) := ⟨rfl, rfl, rfl, by decide +kernel, rfl, by decide +kernel, by decide +kernel⟩
theorem ok__law_row (FX : Facts T) : Ok P w T base 4 "_law_row" F__law_row := by
  have ok__law_deed := ok__law_deed (P := P) (w := w) (base := base) FX
  have ok__law_take := ok__law_take (P := P) (w := w) (base := base) FX
  refine Ok.ofDf (names := ["_law_bag_here", "_law_many", "_law_long", "_law_j", "_law_k"]) (ps := ["_law_bag_here"]) (g := b__law_row) FX.d__law_row sc__law_row rfl (fun _ _ _ _ _ _ us hl => match us, hl with | [_], _ => rfl) fun f E => ?_
  have h := famD (P := P) (w := w) (T := T) (base := base) (k := 3) (qual := "_law_row") (scope := defScope st__law_row) (f := f) (names := ["_law_bag_here", "_law_many", "_law_long", "_law_j", "_law_k"]) E (by decide +kernel)
  exact DSs.mono (DSs.cons (DS.set h 1 (DE.add h DE.int (DE.own h ok__law_take (DA.cons (DE.var h 0) (DA.cons DE.int DA.nil)))))
      (DSs.cons (DS.set h 2 (DE.ix h (DE.lstF (DA.cons (DE.own h ok__law_take (DA.cons (DE.var h 0) (DA.cons DE.int DA.nil))) (DA.cons DE.int DA.nil))) (DE.div (DE.own h ok__law_take (DA.cons (DE.var h 0) (DA.cons DE.int DA.nil))) DE.int)))
      (DSs.one (DS.ret (DE.lc h [("_law_j", 3)] (DI.rng1 h FX.n_range (DA.cons (DE.var h 2) DA.nil)) (DG.name (Fam.blk h _) 3) (by decide) DTs.nil (DE.tuple_ (Fam.blk h _) FX.n_tuple (DA.cons (DE.lc (Fam.blk h _) [("_law_k", 4)] (DI.rng1 (Fam.blk h _) FX.n_range (DA.cons (DE.var (Fam.blk h _) 1) DA.nil)) (DG.name (Fam.blk (Fam.blk h _) _) 4) (by decide) DTs.nil (DE.own (Fam.blk (Fam.blk h _) _) ok__law_deed (DA.cons (DE.var (Fam.blk (Fam.blk h _) _) 0) DA.nil))) DA.nil))))))) (by decide)
theorem sc__law_deed_text : FnScope ["_law_deed_here", "_law_text_here", "_law_word"] ["_law_deed_here"] (defScope st__law_deed_text) := ⟨rfl, rfl, rfl, by decide +kernel, rfl, by decide +kernel, by decide +kernel⟩
theorem ok__law_deed_text (FX : Facts T) : Ok P w T base 1 "_law_deed_text" F__law_deed_text := by
  refine Ok.ofDf (names := ["_law_deed_here", "_law_text_here", "_law_word"]) (ps := ["_law_deed_here"]) (g := b__law_deed_text) FX.d__law_deed_text sc__law_deed_text rfl (fun _ _ _ _ _ _ us hl => match us, hl with | [_], _ => rfl) fun f E => ?_
  have h := famD (P := P) (w := w) (T := T) (base := base) (k := 0) (qual := "_law_deed_text") (scope := defScope st__law_deed_text) (f := f) (names := ["_law_deed_here", "_law_text_here", "_law_word"]) E (by decide +kernel)
  exact DSs.mono (DSs.cons (DS.ifS (DT.isN (DE.var h 0))
      (DSs.one (DS.ret DE.str))
      DSs.nil)
      (DSs.cons (DS.set h 1 (DE.ix h (DE.var h 0) DE.int))
      (DSs.cons (DS.for_ h (DI.walk h (DE.sl h (DE.var h 0) (DO.some DE.int) DO.none)) (DG.name h 2)
      (DSs.one (DS.set h 1 (DE.add h (DE.add h (DE.var h 1) DE.str) (DE.var h 2)))))
      (DSs.one (DS.ret (DE.var h 1)))))) (by decide)
theorem sc__law_text : FnScope ["_law_row_here", "_law_found", "_law_stroke", "_law_line", "_law_deed_here"] ["_law_row_here"] (defScope st__law_text) := ⟨rfl, rfl, rfl, by decide +kernel, rfl, by decide +kernel, by decide +kernel⟩
theorem ok__law_text (FX : Facts T) : Ok P w T base 2 "_law_text" F__law_text := by
  have ok__law_deed_text := ok__law_deed_text (P := P) (w := w) (base := base) FX
  refine Ok.ofDf (names := ["_law_row_here", "_law_found", "_law_stroke", "_law_line", "_law_deed_here"]) (ps := ["_law_row_here"]) (g := b__law_text) FX.d__law_text sc__law_text rfl (fun _ _ _ _ _ _ us hl => match us, hl with | [_], _ => rfl) fun f E => ?_
  have h := famD (P := P) (w := w) (T := T) (base := base) (k := 1) (qual := "_law_text") (scope := defScope st__law_text) (f := f) (names := ["_law_row_here", "_law_found", "_law_stroke", "_law_line", "_law_deed_here"]) E (by decide +kernel)
  exact DSs.mono (DSs.cons (DS.set h 1 DE.str)
      (DSs.cons (DS.for_ h (DI.walk h (DE.var h 0)) (DG.name h 2)
      (DSs.cons (DS.set h 3 DE.str)
      (DSs.cons (DS.for_ h (DI.walk h (DE.var h 2)) (DG.name h 4)
      (DSs.one (DS.set h 3 (DE.add h (DE.add h (DE.var h 3) (DE.mul h DE.str (DE.int1 h FX.n_int (DA.cons (DE.ne h (DE.var h 3) DE.str) DA.nil)))) (DE.own h ok__law_deed_text (DA.cons (DE.var h 4) DA.nil))))))
      (DSs.one (DS.set h 1 (DE.add h (DE.add h (DE.var h 1) (DE.var h 3)) DE.str))))))
      (DSs.one (DS.ret (DE.var h 1))))) (by decide)
theorem sc__law_right : FnScope ["_law_row_here", "_law_kept", "_law_text_here", "_law_stroke", "_law_line", "_law_deed_here", "_law_found"] ["_law_row_here"] (defScope st__law_right) := ⟨rfl, rfl, rfl, by decide +kernel, rfl, by decide +kernel, by decide +kernel⟩
theorem ok__law_right (FX : Facts T) : OkG P w T base 6 "_law_right" F__law_right := by
  have ok__law_deed_text := ok__law_deed_text (P := P) (w := w) (base := base) FX
  have ok__law_text := ok__law_text (P := P) (w := w) (base := base) FX
  have ok_read_deed := ok_read_deed (P := P) (w := w) (base := base) FX
  have ok_read_row := ok_read_row (P := P) (w := w) (base := base) FX
  have ok_read_stroke := ok_read_stroke (P := P) (w := w) (base := base) FX
  have ok_show_deed := ok_show_deed (P := P) (w := w) (base := base) FX
  have ok_show_row := ok_show_row (P := P) (w := w) (base := base) FX
  have ok_show_stroke := ok_show_stroke (P := P) (w := w) (base := base) FX
  refine OkG.ofDf (names := ["_law_row_here", "_law_kept", "_law_text_here", "_law_stroke", "_law_line", "_law_deed_here", "_law_found"]) (ps := ["_law_row_here"]) (g := b__law_right) FX.d__law_right sc__law_right rfl (fun _ _ _ _ _ _ us hl => match us, hl with | [_], _ => rfl) fun f E => ?_
  have h := famG (P := P) (w := w) (T := T) (base := base) (k := 5) (qual := "_law_right") (scope := defScope st__law_right) (f := f) (names := ["_law_row_here", "_law_kept", "_law_text_here", "_law_stroke", "_law_line", "_law_deed_here", "_law_found"]) E (by decide +kernel)
  exact DSs.mono (DSs.cons (DS.set h 1 (DE.repr_ h (guardsG E) FX.n_repr (DA.cons (DE.var h 0) DA.nil)))
      (DSs.cons (DS.set h 2 (DE.own h ok__law_text (DA.cons (DE.var h 0) DA.nil)))
      (DSs.cons (DS.ifS (DT.whole (DW.or (DT.ne h (DE.repr_ h (guardsG E) FX.n_repr (DA.cons (DE.own h ok_show_row (DA.cons (DE.var h 0) DA.nil)) DA.nil)) (DE.repr_ h (guardsG E) FX.n_repr (DA.cons (DE.var h 2) DA.nil))) (DW.or (DT.ne h (DE.repr_ h (guardsG E) FX.n_repr (DA.cons (DE.own h ok_read_row (DA.cons (DE.var h 2) DA.nil)) DA.nil)) (DE.var h 1)) (DW.or1 (DT.ne h (DE.repr_ h (guardsG E) FX.n_repr (DA.cons (DE.var h 0) DA.nil)) (DE.var h 1))))))
      (DSs.one (DS.ret DE.bl))
      DSs.nil)
      (DSs.cons (DS.for_ h (DI.walk h (DE.sl h (DE.var h 0) DO.none (DO.some DE.int))) (DG.name h 3)
      (DSs.cons (DS.set h 4 (DE.sl h (DE.own h ok__law_text (DA.cons (DE.lstF (DA.cons (DE.var h 3) DA.nil)) DA.nil)) DO.none (DO.some (DE.neg DE.int))))
      (DSs.cons (DS.ifS (DT.whole (DW.or (DT.ne h (DE.own h ok_show_stroke (DA.cons (DE.var h 3) DA.nil)) (DE.var h 4)) (DW.or1 (DT.ne h (DE.repr_ h (guardsG E) FX.n_repr (DA.cons (DE.own h ok_read_stroke (DA.cons (DE.var h 4) DA.nil)) DA.nil)) (DE.repr_ h (guardsG E) FX.n_repr (DA.cons (DE.var h 3) DA.nil))))))
      (DSs.one (DS.ret DE.bl))
      DSs.nil)
      (DSs.one (DS.for_ h (DI.walk h (DE.var h 3)) (DG.name h 5)
      (DSs.one (DS.ifS (DT.whole (DW.or (DT.ne h (DE.own h ok_show_deed (DA.cons (DE.var h 5) DA.nil)) (DE.own h ok__law_deed_text (DA.cons (DE.var h 5) DA.nil))) (DW.or1 (DT.ne h (DE.repr_ h (guardsG E) FX.n_repr (DA.cons (DE.own h ok_read_deed (DA.cons (DE.own h ok__law_deed_text (DA.cons (DE.var h 5) DA.nil)) DA.nil)) DA.nil)) (DE.repr_ h (guardsG E) FX.n_repr (DA.cons (DE.var h 5) DA.nil))))))
      (DSs.one (DS.ret DE.bl))
      DSs.nil)))))))
      (DSs.cons (DS.set h 6 (DE.own h ok_read_row (DA.cons (DE.var h 2) DA.nil)))
      (DSs.cons (DS.expr (DE.mut h F.slot_list_append F.type_list_append (fun i => mt_append) mut_app (DA.cons DE.non DA.nil) 6))
      (DSs.one (DS.ret (DE.eq h (DE.repr_ h (guardsG E) FX.n_repr (DA.cons (DE.own h ok_read_row (DA.cons (DE.var h 2) DA.nil)) DA.nil)) (DE.var h 1)))))))))) (by decide)
theorem sc_law : FnScope ["_law_script", "_law_bag_here", "_law_rows", "_law_row_here", "_law_one", "_law_other", "_law_k", "_law_many", "_law_parts", "_law_due", "_law_at", "_law_part"] ["_law_script"] (defScope st_law) := ⟨rfl, rfl, rfl, by decide +kernel, rfl, by decide +kernel, by decide +kernel⟩
theorem ok_law (FX : Facts T) {f : Addr} {fd : FuncData} (F : FunD T.K "law" "law" (defArgs st_law) (defBody st_law) (defScope st_law) [] [] f fd) : FnG P w T.K T.mg base (L2.CX P w) 7 f fd ["_law_script"] (spOf T F_law) := by
  have ok__law_bag := ok__law_bag (P := P) (w := w) (base := base) FX
  have ok__law_right := ok__law_right (P := P) (w := w) (base := base) FX
  have ok__law_row := ok__law_row (P := P) (w := w) (base := base) FX
  have ok__law_take := ok__law_take (P := P) (w := w) (base := base) FX
  have ok_read_row := ok_read_row (P := P) (w := w) (base := base) FX
  have ok_show_row := ok_show_row (P := P) (w := w) (base := base) FX
  refine def_okG (names := ["_law_script", "_law_bag_here", "_law_rows", "_law_row_here", "_law_one", "_law_other", "_law_k", "_law_many", "_law_parts", "_law_due", "_law_at", "_law_part"]) (ps := ["_law_script"]) (n := 1) (g := b_law) F sc_law rfl fun E => ?_
  have h := famG (P := P) (w := w) (T := T) (base := base) (k := 6) (qual := "law") (scope := defScope st_law) (f := f) (names := ["_law_script", "_law_bag_here", "_law_rows", "_law_row_here", "_law_one", "_law_other", "_law_k", "_law_many", "_law_parts", "_law_due", "_law_at", "_law_part"]) E (by decide +kernel)
  exact DSs.mono (DSs.cons (DS.set h 1 (DE.own h ok__law_bag (DA.cons (DE.var h 0) DA.nil)))
      (DSs.cons (DS.setLc h 2 [("_law_k", 6)] (DI.rng1 h FX.n_range (DA.cons DE.int DA.nil)) (DG.name (Fam.blk h _) 6) (by decide) DTs.nil (DE.own (Fam.blk h _) ok__law_row (DA.cons (DE.var (Fam.blk h _) 1) DA.nil)) rfl rfl (fun i => by rfl))
      (DSs.cons (DS.for_ h (DI.walk h (DE.add h (DE.var h 2) (DE.sl h (DE.var h 2) DO.none (DO.some DE.int)))) (DG.name h 3)
      (DSs.one (DS.ifS (DT.not (DT.val (DE.ownG h (guardsG E) ok__law_right (DA.cons (DE.var h 3) DA.nil))))
      (DSs.one (DS.ret DE.bl))
      DSs.nil)))
      (DSs.cons (DS.for_ h (DI.walk h (DE.var h 2)) (DG.name h 4)
      (DSs.one (DS.for_ h (DI.walk h (DE.var h 2)) (DG.name h 5)
      (DSs.one (DS.ifS (DT.ne h (DE.eq h (DE.own h ok_show_row (DA.cons (DE.var h 4) DA.nil)) (DE.own h ok_show_row (DA.cons (DE.var h 5) DA.nil))) (DE.eq h (DE.var h 4) (DE.var h 5)))
      (DSs.one (DS.ret DE.bl))
      DSs.nil)))))
      (DSs.cons (DS.par h 6 7 (DA.cons (DE.own h ok__law_take (DA.cons (DE.var h 1) (DA.cons DE.int DA.nil))) (DA.cons (DE.add h DE.int (DE.own h ok__law_take (DA.cons (DE.var h 1) (DA.cons DE.int DA.nil)))) DA.nil)))
      (DSs.cons (DS.set h 8 (DE.mul h (DE.ix h (DE.lstF (DA.cons (DE.lstF (DA.cons DE.str DA.nil)) (DA.cons (DE.lstF (DA.cons DE.str DA.nil)) (DA.cons (DE.lstF (DA.cons DE.str DA.nil)) DA.nil)))) (DE.var h 6)) (DE.var h 7)))
      (DSs.cons (DS.set h 9 (DE.mul h (DE.ix h (DE.lstF (DA.cons (DE.lstF (DA.cons (DE.tup (DA.cons DE.non DA.nil)) DA.nil)) (DA.cons (DE.lstF (DA.cons (DE.tup (DA.cons DE.non (DA.cons (DE.tup (DA.cons DE.str DA.nil)) DA.nil))) DA.nil)) (DA.cons (DE.lstF (DA.cons (DE.tup (DA.cons (DE.tup (DA.cons DE.str DA.nil)) (DA.cons DE.non (DA.cons DE.non DA.nil)))) DA.nil)) DA.nil)))) (DE.var h 6)) (DE.var h 7)))
      (DSs.cons (DS.set h 10 (DE.own h ok__law_take (DA.cons (DE.var h 1) (DA.cons (DE.var h 7) DA.nil))))
      (DSs.cons (DS.setIx h 8 (DE.ix h (DE.lstF (DA.cons DE.str (DA.cons DE.str (DA.cons DE.str DA.nil)))) (DE.var h 6)) (DE.var h 10))
      (DSs.cons (DS.setIx h 9 (DE.ix h (DE.lstF (DA.cons (DE.tup (DA.cons (DE.tup (DA.cons DE.str (DA.cons DE.str DA.nil))) DA.nil)) (DA.cons (DE.tup (DA.cons (DE.tup (DA.cons DE.str (DA.cons DE.str DA.nil))) (DA.cons DE.non DA.nil))) (DA.cons (DE.tup (DA.cons DE.non (DA.cons (DE.tup (DA.cons DE.str (DA.cons DE.str DA.nil))) (DA.cons DE.non DA.nil)))) DA.nil)))) (DE.var h 6)) (DE.var h 10))
      (DSs.cons (DS.ifS (DT.ne h (DE.repr_ h (guardsG E) FX.n_repr (DA.cons (DE.own h ok_read_row (DA.cons (DE.join h DE.str (DE.lc h [("_law_part", 11)] (DI.walk h (DE.var h 8)) (DG.name (Fam.blk h _) 11) (by decide) DTs.nil (DE.add (Fam.blk h _) (DE.var (Fam.blk h _) 11) DE.str))) DA.nil)) DA.nil)) (DE.repr_ h (guardsG E) FX.n_repr (DA.cons (DE.var h 9) DA.nil)))
      (DSs.one (DS.ret DE.bl))
      DSs.nil)
      (DSs.one (DS.ret (DE.and (DE.eq h (DE.own h ok_show_row (DA.cons (DE.lstF DA.nil) DA.nil)) DE.str) (DE.one (DE.eq h (DE.own h ok_read_row (DA.cons DE.str DA.nil)) (DE.lstF DA.nil))))))))))))))))) (by decide)
end
end K91
namespace K91
open PySem L2 L3
structure Bag where
  a : Int
  b : Int
  c : Int
  cs : List Int
def Bag.ds (B : Bag) : List D := [.int B.a, .int B.b, .int B.c, .lst (B.cs.map D.int)]
def Bag.C (B : Bag) : C := .own (dats B.ds)
structure BagOk (n : Nat) (B : Bag) : Prop where
  a0 : 0 ≤ B.a
  b0 : 0 ≤ B.b
  b1 : B.b < 2147483647
  c0 : 0 ≤ B.c
  c1 : B.c ≤ n
  cs0 : ∀ x ∈ B.cs, 0 ≤ x
/-- the cell that a turn takes -/
def cellOf (B : Bag) : Int := if B.c < B.cs.length then B.cs.getD B.c.toNat 0 else 0
/-- the bag that a turn refreshes -/
def fresh (B : Bag) : Bag := ⟨if cellOf B ≥ 1000000000000000000 then cellOf B else B.a, (B.b * 48271 + cellOf B % 2147483647 + 7919 * (B.c + 1)) % 2147483647, B.c + 1, B.cs⟩
def turned (B : Bag) : Bag := if B.a = 0 then fresh B else B
def takeV (B : Bag) (m : Int) : Int := if 0 < (turned B).a then (turned B).a % m else
  if 1000000 < m then ((((turned B).b + 1) * 39373 % 1000000007 * (((turned B).b + 1) * 39373 % 1000000007) % 998244353 * 30011 % 998244353) * 1000000007 + ((turned B).b + 1) * 39373 % 1000000007) % m
  else (((turned B).b + 1) * 39373 % 1000000007 * (((turned B).b + 1) * 39373 % 1000000007) % 998244353 * 30011 % 998244353) / 7 % m
def takeB (B : Bag) (m : Int) : Bag := if 0 < (turned B).a then ⟨(turned B).a / m, (turned B).b, (turned B).c, (turned B).cs⟩ else turned B
theorem log_small {x : Int} (h0 : 0 ≤ x) (h : x < 2 ^ 1000) : x.natAbs.log2 < 1000 := by
  by_cases hz : x.natAbs = 0
  · rw [hz]; decide
  · rw [Nat.log2_lt hz]
    omega
/-- the first half: the bag turned -/
def bTurn : SS := (sIfS (sTruth (sOp2 gEq (sIx (sVar 0) (sC (.int 0))) (sC (.int 0))))
  (sSeq (sSet 2 (sC (.int 0)))
  (sSeq (sIfS (sTruth (sOp2 gLtI (sIx (sVar 0) (sC (.int 2))) (sBlt gLen (sCons (sIx (sVar 0) (sC (.int 3))) sNil))))
  (sSet 2 (sIx (sIx (sVar 0) (sC (.int 3))) (sIx (sVar 0) (sC (.int 2)))))
  sSkip)
  (sSeq (sAugIx 0 (sC (.int 2)) (sC (.int 1)))
  (sSeq (sIfS (sTruth (sOp2 gGe (sVar 2) (sC (.int 1000000000000000000))))
  (sSetIx 0 (sC (.int 0)) (sVar 2))
  sSkip)
  (sSetIx 0 (sC (.int 1)) (sOp2 gMod (sOp2 gAdd (sOp2 gAdd (sOp2 gMul (sIx (sVar 0) (sC (.int 1))) (sC (.int 48271))) (sOp2 gMod (sVar 2) (sC (.int 2147483647)))) (sOp2 gMul (sC (.int 7919)) (sIx (sVar 0) (sC (.int 2))))) (sC (.int 2147483647))))))))
  sSkip)
theorem log_mul {x y : Int} (hx : x.natAbs.log2 < 1000) (hy : y.natAbs.log2 < 1000) : x.natAbs.log2 + y.natAbs.log2 < 1000000 := by omega
theorem mul_int {x y : Int} (hx : x.natAbs.log2 < 1000) (hy : y.natAbs.log2 < 1000) : gMul (.dat (.int x)) (.dat (.int y)) = some (.dat (.int (x * y))) := by
  exact if_pos (log_mul hx hy)
theorem turn_ok {n : Nat} {B : Bag} (h : BagOk n B) (hn : n < 2 ^ 60) (m : C) : ∃ o, bTurn [some B.C, some m, none, none, none, none] = some (.nx [some (turned B).C, some m, o, none, none, none]) ∧ BagOk (n + 1) (turned B) := by
  obtain ⟨a, b, c, cs⟩ := B
  obtain ⟨a0, b0, b1, c0, c1, cs0⟩ := h
  dsimp only at a0 b0 b1 c0 c1 cs0
  have lb : gMul (.dat (.int b)) (.dat (.int 48271)) = some (.dat (.int (b * 48271))) := mul_int (log_small b0 (by omega)) (by decide)
  have lc : gMul (.dat (.int 7919)) (.dat (.int (c + 1))) = some (.dat (.int (7919 * (c + 1)))) := mul_int (by decide) (log_small (by omega) (by omega))
  by_cases ha : a = 0
  · subst ha
    have cell : 0 ≤ cellOf ⟨0, b, c, cs⟩ := by
      unfold cellOf
      dsimp only
      split
      · rename_i hc
        have : c.toNat < cs.length := by omega
        rw [List.getD_eq_getElem?_getD, List.getElem?_eq_getElem this]
        exact cs0 _ (List.getElem_mem this)
      · exact Int.le_refl 0
    refine ⟨some (.dat (.int (cellOf ⟨0, b, c, cs⟩))), ?_, ?_⟩
    · by_cases hc : c < cs.length
      · have hcn : c.toNat < cs.length := by omega
        have ec : cellOf ⟨0, b, c, cs⟩ = cs[c.toNat] := by
          unfold cellOf
          dsimp only
          rw [if_pos hc, List.getD_eq_getElem?_getD, List.getElem?_eq_getElem hcn]
          rfl
        by_cases hb : cs[c.toNat] ≥ 1000000000000000000
        · simp [bTurn, sSeq, sIfS, S.thn, S.bind, sTruth, sOp2, sIx, sVar, sC, L3.res, gEq, eqD, C.toD, Bag.C, Bag.ds, dats, gIx, seqOf, undat, L2.atI, ixN, sSet, sMov, gLtI, gI2, sBlt, sCons, sNil, S.ret, ress, gLen, sAugIx, ownAt, sSetIx, sFrz, gGe, gMod, gAdd, turned, fresh, hc, hcn, c0, hb, ec, sSkip, lb, lc]
        · simp [bTurn, sSeq, sIfS, S.thn, S.bind, sTruth, sOp2, sIx, sVar, sC, L3.res, gEq, eqD, C.toD, Bag.C, Bag.ds, dats, gIx, seqOf, undat, L2.atI, ixN, sSet, sMov, gLtI, gI2, sBlt, sCons, sNil, S.ret, ress, gLen, sAugIx, ownAt, sSetIx, sFrz, gGe, gMod, gAdd, turned, fresh, hc, hcn, c0, hb, ec, sSkip, lb, lc]
      · have ec : cellOf ⟨0, b, c, cs⟩ = 0 := by
          unfold cellOf
          dsimp only
          rw [if_neg hc]
        simp [bTurn, sSeq, sIfS, S.thn, S.bind, sTruth, sOp2, sIx, sVar, sC, L3.res, gEq, eqD, C.toD, Bag.C, Bag.ds, dats, gIx, seqOf, undat, L2.atI, ixN, sSet, sMov, gLtI, gI2, sBlt, sCons, sNil, S.ret, ress, gLen, sAugIx, ownAt, sSetIx, sFrz, gGe, gMod, gAdd, turned, fresh, hc, c0, ec, sSkip, lb, lc]
    · unfold turned
      rw [if_pos rfl]
      unfold fresh
      refine ⟨?_, Int.emod_nonneg _ (by decide), Int.emod_lt_of_pos _ (by decide), by dsimp only; omega, by dsimp only; omega, cs0⟩
      dsimp only
      split
      · exact cell
      · exact Int.le_refl 0
  · refine ⟨none, ?_, ?_⟩
    · simp [bTurn, sSeq, sIfS, S.thn, S.bind, sTruth, sOp2, sIx, sVar, sC, L3.res, gEq, eqD, C.toD, Bag.C, Bag.ds, dats, gIx, seqOf, undat, L2.atI, ixN, turned, ha, sSkip]
    · unfold turned
      dsimp only
      rw [if_neg ha]
      exact ⟨a0, b0, b1, c0, by dsimp only; omega, cs0⟩
def bRest : SS := (sSeq (sIfS (sTruth (sOp2 gGt (sIx (sVar 0) (sC (.int 0))) (sC (.int 0))))
  (sSeq (sSet 3 (sOp2 gMod (sIx (sVar 0) (sC (.int 0))) (sVar 1)))
  (sSeq (sSetIx 0 (sC (.int 0)) (sOp2 gDiv (sIx (sVar 0) (sC (.int 0))) (sVar 1)))
  (sRet (sVar 3))))
  sSkip)
  (sSeq (sSet 4 (sOp2 gMod (sOp2 gMul (sOp2 gAdd (sIx (sVar 0) (sC (.int 1))) (sC (.int 1))) (sC (.int 39373))) (sC (.int 1000000007))))
  (sSeq (sSet 5 (sOp2 gMod (sOp2 gMul (sOp2 gMod (sOp2 gMul (sVar 4) (sVar 4)) (sC (.int 998244353))) (sC (.int 30011))) (sC (.int 998244353))))
  (sSeq (sIfS (sTruth (sOp2 gGt (sVar 1) (sC (.int 1000000))))
  (sRet (sOp2 gMod (sOp2 gAdd (sOp2 gMul (sVar 5) (sC (.int 1000000007))) (sVar 4)) (sVar 1)))
  sSkip)
  (sRet (sOp2 gMod (sOp2 gDiv (sVar 5) (sC (.int 7))) (sVar 1)))))))
theorem take_split : b__law_take = sSeq bTurn bRest := rfl
def restV (B : Bag) (m : Int) : Int := if 0 < B.a then B.a % m else
  if 1000000 < m then (((B.b + 1) * 39373 % 1000000007 * ((B.b + 1) * 39373 % 1000000007) % 998244353 * 30011 % 998244353) * 1000000007 + (B.b + 1) * 39373 % 1000000007) % m
  else ((B.b + 1) * 39373 % 1000000007 * ((B.b + 1) * 39373 % 1000000007) % 998244353 * 30011 % 998244353) / 7 % m
def restB (B : Bag) (m : Int) : Bag := if 0 < B.a then ⟨B.a / m, B.b, B.c, B.cs⟩ else B
theorem div_int {x y : Int} (h0 : 0 < y) (h : y < 2 ^ 1000) : gDiv (.dat (.int x)) (.dat (.int y)) = some (.dat (.int (x / y))) := by
  have q : y.natAbs.log2 < 9000 := Nat.lt_trans (log_small (by omega) h) (by decide)
  unfold gDiv gI2
  simp [h0, q]
theorem mod_int {x y : Int} (h0 : 0 < y) : gMod (.dat (.int x)) (.dat (.int y)) = some (.dat (.int (x % y))) := by
  unfold gMod gI2
  simp [h0]
theorem rest_ok {n : Nat} {B : Bag} (h : BagOk n B) {m : Int} (hm : 0 < m) (hm2 : m < 2 ^ 60) (o : Option C) : ∃ o3 o4 o5, bRest [some B.C, some (.dat (.int m)), o, none, none, none] = some (.rt (.dat (.int (restV B m))) [some (restB B m).C, some (.dat (.int m)), o, o3, o4, o5]) ∧ BagOk n (restB B m) ∧ 0 ≤ restV B m ∧ restV B m < m := by
  obtain ⟨a, b, c, cs⟩ := B
  obtain ⟨a0, b0, b1, c0, c1, cs0⟩ := h
  dsimp only at a0 b0 b1 c0 c1 cs0
  by_cases ha : 0 < a
  · refine ⟨some (.dat (.int (a % m))), none, none, ?_, ?_, ?_, ?_⟩
    · have d1 := div_int (x := a) hm (by omega)
      have d2 := mod_int (x := a) hm
      have e1 : gMod = gMod := rfl
      generalize hgd : gDiv = gd at d1
      generalize hgm : gMod = gm at d2
      simp [bRest, hgd, hgm, sSeq, sIfS, S.thn, S.bind, sTruth, sOp2, sIx, sVar, sC, L3.res, gEq, eqD, C.toD, Bag.C, Bag.ds, dats, gIx, seqOf, undat, L2.atI, ixN, sSet, sMov, gLtI, gI2, sBlt, sCons, sNil, S.ret, ress, gLen, sAugIx, ownAt, sSetIx, sFrz, gGe, gGt, gAdd, sSkip, sRet, restV, restB, ha, d1, d2]
    · unfold restB
      dsimp only
      rw [if_pos ha]
      exact ⟨Int.ediv_nonneg a0 (by omega), b0, b1, c0, c1, cs0⟩
    · unfold restV
      dsimp only
      rw [if_pos ha]
      exact Int.emod_nonneg _ (by omega)
    · unfold restV
      dsimp only
      rw [if_pos ha]
      exact Int.emod_lt_of_pos _ hm
  · have m1 : gMul (.dat (.int (b + 1))) (.dat (.int 39373)) = some (.dat (.int ((b + 1) * 39373))) := mul_int (log_small (by omega) (by omega)) (by decide)
    generalize hf : (b + 1) * 39373 % 1000000007 = f
    have f0 : 0 ≤ f := by rw [← hf]; exact Int.emod_nonneg _ (by decide)
    have f1 : f < 1000000007 := by rw [← hf]; exact Int.emod_lt_of_pos _ (by decide)
    have m2 : gMul (.dat (.int f)) (.dat (.int f)) = some (.dat (.int (f * f))) := mul_int (log_small f0 (by omega)) (log_small f0 (by omega))
    generalize hg : f * f % 998244353 = g
    have g0 : 0 ≤ g := by rw [← hg]; exact Int.emod_nonneg _ (by decide)
    have g1 : g < 998244353 := by rw [← hg]; exact Int.emod_lt_of_pos _ (by decide)
    have m3 : gMul (.dat (.int g)) (.dat (.int 30011)) = some (.dat (.int (g * 30011))) := mul_int (log_small g0 (by omega)) (by decide)
    generalize hs : g * 30011 % 998244353 = s
    have s0 : 0 ≤ s := by rw [← hs]; exact Int.emod_nonneg _ (by decide)
    have s1 : s < 998244353 := by rw [← hs]; exact Int.emod_lt_of_pos _ (by decide)
    have m4 : gMul (.dat (.int s)) (.dat (.int 1000000007)) = some (.dat (.int (s * 1000000007))) := mul_int (log_small s0 (by omega)) (by decide)
    have p1 := mod_int (x := (b + 1) * 39373) (y := 1000000007) (by decide)
    have p2 := mod_int (x := f * f) (y := 998244353) (by decide)
    have p3 := mod_int (x := g * 30011) (y := 998244353) (by decide)
    have p4 := div_int (x := s) (y := 7) (by decide) (by decide)
    have p5 := mod_int (x := s * 1000000007 + f) hm
    have p6 := mod_int (x := s / 7) hm
    rw [hf] at p1
    rw [hg] at p2
    rw [hs] at p3
    refine ⟨none, some (.dat (.int f)), some (.dat (.int s)), ?_, ?_, ?_, ?_⟩
    · generalize hgd : gDiv = gd at p4
      generalize hgm : gMod = gm at p1 p2 p3 p5 p6
      by_cases hb : 1000000 < m
      · simp [bRest, hgd, hgm, sSeq, sIfS, S.thn, S.bind, sTruth, sOp2, sIx, sVar, sC, L3.res, gEq, eqD, C.toD, Bag.C, Bag.ds, dats, gIx, seqOf, undat, L2.atI, ixN, sSet, sMov, gLtI, gI2, sBlt, sCons, sNil, S.ret, ress, gLen, sAugIx, ownAt, sSetIx, sFrz, gGe, gGt, gAdd, sSkip, sRet, restV, restB, ha, m1, m2, m3, m4, p1, p2, p3, p4, p5, p6, hf, hg, hs, hb]
      · simp [bRest, hgd, hgm, sSeq, sIfS, S.thn, S.bind, sTruth, sOp2, sIx, sVar, sC, L3.res, gEq, eqD, C.toD, Bag.C, Bag.ds, dats, gIx, seqOf, undat, L2.atI, ixN, sSet, sMov, gLtI, gI2, sBlt, sCons, sNil, S.ret, ress, gLen, sAugIx, ownAt, sSetIx, sFrz, gGe, gGt, gAdd, sSkip, sRet, restV, restB, ha, m1, m2, m3, m4, p1, p2, p3, p4, p5, p6, hf, hg, hs, hb]
    · unfold restB
      dsimp only
      rw [if_neg ha]
      exact ⟨a0, b0, b1, c0, c1, cs0⟩
    · unfold restV
      dsimp only
      rw [if_neg ha]
      split <;> exact Int.emod_nonneg _ (by omega)
    · unfold restV
      dsimp only
      rw [if_neg ha]
      split <;> exact Int.emod_lt_of_pos _ hm
def tkV (B : Bag) (m : Int) : Int := restV (turned B) m
def tkB (B : Bag) (m : Int) : Bag := restB (turned B) m
theorem take_ok {n : Nat} {B : Bag} (h : BagOk n B) (hn : n < 2 ^ 60) {m : Int} (hm : 0 < m) (hm2 : m < 2 ^ 60) : F__law_take [B.C, .dat (.int m)] = some (.ok (.dat (.int (tkV B m))) [some (tkB B m).C, some (.dat (.int m))]) ∧ BagOk (n + 1) (tkB B m) ∧ 0 ≤ tkV B m ∧ tkV B m < m := by
  obtain ⟨o, e1, h1⟩ := turn_ok h hn (.dat (.int m))
  obtain ⟨o3, o4, o5, e2, h2, h3, h4⟩ := rest_ok h1 hm hm2 o
  refine ⟨?_, h2, h3, h4⟩
  have e : b__law_take [some B.C, some (.dat (.int m)), none, none, none, none] = some (.rt (.dat (.int (tkV B m))) [some (tkB B m).C, some (.dat (.int m)), o, o3, o4, o5]) := by
    rw [take_split]
    unfold sSeq
    rw [e1]
    exact e2
  unfold F__law_take fnSem
  rw [if_pos ⟨rfl, by decide⟩]
  show (match b__law_take [some B.C, some (.dat (.int m)), none, none, none, none] with | some (.rt c ρ) => _ | some (.nx ρ) => _ | some (.ex x ρ) => _ | _ => none) = _
  rw [e]
  rfl
end K91
namespace K91
open PySem L2 L3 TL
/-! ### tools -/
theorem set_same {ρ : Ro} {j : Nat} {x : Option C} (h : ρ[j]? = some x) : ρ.set j x = ρ := by
  refine List.ext_getElem? fun i => ?_
  by_cases e : j = i
  · subst e
    rw [List.getElem?_set_self (List.getElem?_eq_some_iff.mp h).1, h]
  · rw [List.getElem?_set_ne e]
theorem lc_step {fg : D → Ro → Option Ro} {ft : S Bool} {fe : S R} {vs : List Nat} {d : D} {ds : List D} {ρ ρ1 ρ2 ρ3 ρ' : Ro} {y : D} {ys : List D} (h1 : fg d ρ = some ρ1) (h2 : ft ρ1 = some (.ok true ρ2)) (h3 : S.bind fe sFrz ρ2 = some (.ok y ρ3)) (h4 : lcLoop fg ft fe vs ds (wipeR ρ3 vs) = some (ys, ρ')) :
    lcLoop fg ft fe vs (d :: ds) ρ = some (y :: ys, ρ') := by
  unfold lcLoop
  rw [h1]
  dsimp only
  rw [h2]
  dsimp only
  rw [h3]
  dsimp only
  rw [h4]
/-- a comprehension that changes nothing -/
theorem lc_map {j : Nat} {fe : S R} {g : D → D} : ∀ {ds : List D} {ρ : Ro}, ρ[j]? = some none → (∀ d ∈ ds, fe (ρ.set j (some (.dat d))) = some (.ok (.val (.dat (g d))) (ρ.set j (some (.dat d))))) → lcLoop (fgName j) sYes fe [j] ds ρ = some (ds.map g, ρ)
  | [], ρ, _, _ => rfl
  | d :: ds, ρ, hj, hf => by
    have hl : j < ρ.length := (List.getElem?_eq_some_iff.mp hj).1
    have hw : wipeR (ρ.set j (some (.dat d))) [j] = ρ := by
      show (ρ.set j (some (.dat d))).set j none = ρ
      rw [List.set_set, set_same hj]
    refine lc_step (ρ1 := ρ.set j (some (.dat d))) (ρ2 := ρ.set j (some (.dat d))) (ρ3 := ρ.set j (some (.dat d))) ?_ rfl ?_ ?_
    · unfold fgName; rw [if_pos hl]
    · rw [S.bind_ok (hf d List.mem_cons_self)]; rfl
    · rw [hw]; exact lc_map hj fun x m => hf x (List.mem_cons_of_mem _ m)
theorem wipe1 {ρ : Ro} {j : Nat} (h : ρ[j]? = some none) : wipeR ρ [j] = ρ := set_same h
theorem backR_none : ∀ {p : Nat → Bool} {ρ ρ' : Ro}, (∀ i, p i = true → ρ[i]? = some none → ρ'[i]? = some none) → (∀ i, p i = true → i < ρ.length → ρ[i]? = some none) → ρ.length = ρ'.length → backR p ρ ρ' = ρ'
  | p, [], [], _, _, _ => rfl
  | p, [], _ :: _, _, _, l => by simp at l
  | p, _ :: _, [], _, _, l => by simp at l
  | p, o :: ρ, o' :: ρ', h, k, l => by
    have ih := backR_none (p := fun i => p (i + 1)) (ρ := ρ) (ρ' := ρ') (fun i h1 h2 => by simpa using h (i + 1) h1 (by simpa using h2)) (fun i h1 h2 => by simpa using k (i + 1) h1 (by simpa using h2)) (by simpa using l)
    unfold backR
    rw [ih]
    by_cases hp : p 0 = true
    · have e1 := k 0 hp (by simp)
      have e2 := h 0 hp e1
      simp at e1 e2
      subst e1 e2
      simp [hp, keepD]
    · simp [hp]
/-- a comprehension over a walk, one slot of its own that held nothing -/
theorem lc_ok {fi : S (List D)} {j : Nat} {fe : S R} {ds ys : List D} {ρ ρ1 ρ' : Ro} (h1 : fi ρ = some (.ok ds ρ1)) (hz : ds.length ≤ sizeLine) (hj : ρ1[j]? = some none) (h2 : lcLoop (fgName j) sYes fe [j] ds ρ1 = some (ys, ρ')) (hj' : ρ'[j]? = some none) (hl : ρ1.length = ρ'.length) :
    sLc fi (fgName j) sYes fe [j] ρ = some (.ok (.val (.own (dats ys))) ρ') := by
  unfold sLc
  rw [S.bind_ok h1, if_pos hz, wipe1 hj, h2]
  dsimp only
  rw [backR_none (fun i hi _ => ?_) (fun i hi _ => ?_) hl]
  · have : i = j := by simpa using hi
    rw [this]; exact hj'
  · have : i = j := by simpa using hi
    rw [this]; exact hj
/-- a call with one slot's list and a datum -/
theorem call_sd {fs : FS} {fb : S R} {j : Nat} {ρ : Ro} {cs cs' : List C} {d : D} {c : C} {k2 : Option C} (hj : ρ[j]? = some (some (.own cs))) (hb : fb ρ = some (.ok (.val (.dat d)) ρ)) (hF : fs [.own cs, .dat d] = some (.ok c [some (.own cs'), k2])) :
    sCall fs (sCons (sVar j) (sCons fb sNil)) ρ = some (.ok (.val c) (ρ.set j (some (.own cs')))) := by
  have hl : j < ρ.length := (List.getElem?_eq_some_iff.mp hj).1
  have v : sVar j ρ = some (.ok (.slot j) ρ) := by unfold sVar; rw [hj]
  have a : sCons (sVar j) (sCons fb sNil) ρ = some (.ok [.slot j, .val (.dat d)] ρ) := by
    unfold sCons
    rw [S.bind_ok v, S.bind_ok (m := S.bind fb _) (a := [R.val (.dat d)]) (ρ' := ρ) (by rw [S.bind_ok hb]; rfl)]
    rfl
  unfold sCall
  rw [S.bind_ok a]
  have t : takes [.slot j, .val (.dat d)] ρ = some ([.own cs, .dat d], ρ.set j none) := by
    simp [takes, hj]
  rw [t]
  dsimp only
  rw [hF]
  dsimp only
  have fr : freeAt (ρ.set j none) j = true := by
    unfold freeAt
    rw [List.getElem?_set_self hl]
  cases k2 <;> simp [puts, fr, List.set_set]
theorem call_s {fs : FS} {j : Nat} {ρ : Ro} {cs cs' : List C} {c : C} (hj : ρ[j]? = some (some (.own cs))) (hF : fs [.own cs] = some (.ok c [some (.own cs')])) :
    sCall fs (sCons (sVar j) sNil) ρ = some (.ok (.val c) (ρ.set j (some (.own cs')))) := by
  have hl : j < ρ.length := (List.getElem?_eq_some_iff.mp hj).1
  have v : sVar j ρ = some (.ok (.slot j) ρ) := by unfold sVar; rw [hj]
  have a : sCons (sVar j) sNil ρ = some (.ok [.slot j] ρ) := by
    unfold sCons
    rw [S.bind_ok v]
    rfl
  unfold sCall
  rw [S.bind_ok a]
  have t : takes [.slot j] ρ = some ([.own cs], ρ.set j none) := by
    simp [takes, hj]
  rw [t]
  dsimp only
  rw [hF]
  dsimp only
  have fr : freeAt (ρ.set j none) j = true := by
    unfold freeAt
    rw [List.getElem?_set_self hl]
  simp [puts, fr, List.set_set]
/-- a call with one datum -/
theorem call_d {fs : FS} {fb : S R} {ρ ρ1 : Ro} {c c' : C} {k : Option C} (hb : fb ρ = some (.ok (.val c') ρ1)) (hF : fs [c'] = some (.ok c [k])) : sCall fs (sCons fb sNil) ρ = some (.ok (.val c) ρ1) := by
  have a : sCons fb sNil ρ = some (.ok [.val c'] ρ1) := by
    unfold sCons
    rw [S.bind_ok hb]
    rfl
  unfold sCall
  rw [S.bind_ok a]
  dsimp only [takes]
  rw [hF]
  cases k <;> rfl
theorem call_take {n : Nat} {B : Bag} (h : BagOk n B) (hn : n < 2 ^ 60) {m : Int} (hm : 0 < m) (hm2 : m < 2 ^ 60) {j : Nat} {ρ : Ro} (hj : ρ[j]? = some (some B.C)) :
    sCall F__law_take (sCons (sVar j) (sCons (sC (.int m)) sNil)) ρ = some (.ok (.val (.dat (.int (tkV B m)))) (ρ.set j (some (tkB B m).C))) :=
  call_sd hj rfl (take_ok h hn hm hm2).1
/-! ### names -/
def letters : Str := "abcdefghijklmnopqrstuvwxyz"
def GoodName (x : Str) : Prop := 1 ≤ (tl x).length ∧ (tl x).length ≤ 8 ∧ ∀ c ∈ tl x, 97 ≤ c ∧ c ≤ 122
theorem letter_at : ∀ i, i < 26 → letters.cps.toList[i]? = some (97 + i) := by decide +kernel
theorem letters_len : letters.length = 26 := by decide +kernel
theorem ix_letters {v : Int} (h0 : 0 ≤ v) (h1 : v < 26) : gIx (.dat (.str letters)) (.dat (.int v)) = some (.dat (.str ⟨#[97 + v.toNat]⟩)) := by
  have e : L2.atI letters.cps.toList v = some (97 + v.toNat) := by
    unfold L2.atI ixN
    have hl : letters.cps.toList.length = 26 := letters_len
    rw [hl, if_pos h0, if_pos (by exact_mod_cast h1)]
    exact letter_at _ (by omega)
  unfold gIx
  dsimp only
  rw [if_pos (by rw [letters_len, sizeLine_eq]; decide), e]
end K91
namespace K91
open PySem L2 L3 TL
theorem tl_one (c : Nat) : tl (⟨#[c]⟩ : Str) = [c] := rfl
theorem bag_len (B : Bag) : B.C = .own (dats B.ds) := rfl
/-- the signs of a name that is drawn -/
theorem name_loop : ∀ (ds : List D) (n : Nat) (B : Bag), BagOk n B → n + ds.length < 2 ^ 60 → ∃ (ks : List Nat) (B' : Bag), lcLoop (fgName 2) sYes (sIx (sVar 1) (sCall F__law_take (sCons (sVar 0) (sCons (sC (.int 26)) sNil)))) [2] ds [some B.C, some (.dat (.str letters)), none] = some (ks.map fun k => D.str ⟨#[k]⟩, [some B'.C, some (.dat (.str letters)), none]) ∧
    ks.length = ds.length ∧ (∀ k ∈ ks, 97 ≤ k ∧ k ≤ 122) ∧ BagOk (n + ds.length) B'
  | [], n, B, h, _ => ⟨[], B, rfl, rfl, by simp, h⟩
  | d :: ds, n, B, h, hn => by
    have hn' : n + (ds.length + 1) < 2 ^ 60 := hn
    obtain ⟨t1, t2, t3, t4⟩ := take_ok h (by omega) (m := 26) (by decide) (by decide)
    obtain ⟨ks, B', e, l, g, b⟩ := name_loop ds (n + 1) (tkB B 26) t2 (by omega)
    have c := call_take h (by omega) (m := 26) (by decide) (by decide) (j := 0) (ρ := [some B.C, some (.dat (.str letters)), some (.dat d)]) rfl
    have q := ix_letters t3 t4
    refine ⟨(97 + (tkV B 26).toNat) :: ks, B', lc_step (ρ1 := [some B.C, some (.dat (.str letters)), some (.dat d)]) (ρ2 := [some B.C, some (.dat (.str letters)), some (.dat d)]) (ρ3 := [some (tkB B 26).C, some (.dat (.str letters)), some (.dat d)]) rfl rfl ?_ e, by simp [l], fun k hk => ?_, by rw [show n + (d :: ds).length = n + 1 + ds.length by simp; omega]; exact b⟩
    · have v : sVar 1 [some B.C, some (.dat (.str letters)), some (.dat d)] = some (.ok (.val (.dat (.str letters))) [some B.C, some (.dat (.str letters)), some (.dat d)]) := rfl
      have e : sIx (sVar 1) (sCall F__law_take (sCons (sVar 0) (sCons (sC (.int 26)) sNil))) [some B.C, some (.dat (.str letters)), some (.dat d)] = some (.ok (.val (.dat (.str ⟨#[97 + (tkV B 26).toNat]⟩))) [some (tkB B 26).C, some (.dat (.str letters)), some (.dat d)]) := by
        unfold sIx
        rw [S.bind_ok v, S.bind_ok c]
        simp [L3.res, q]
      rw [S.bind_ok e]
      rfl
    · rcases List.mem_cons.mp hk with rfl | hk
      · omega
      · exact g k hk
theorem txts_one : ∀ ks : List Nat, txts (ks.map fun k => D.str ⟨#[k]⟩) = some (ks.map fun k => (⟨#[k]⟩ : Str))
  | [] => rfl
  | k :: ks => by
    simp only [List.map_cons, txts, txts_one ks]
theorem seqOf_own (ds : List D) : seqOf (.own (dats ds)) = some ds := undat_dats ds
theorem lstOf_own (ds : List D) : lstOf (.own (dats ds)) = some ds := undat_dats ds
theorem join_nil : ∀ ps : List (List Nat), joinL [] ps = ps.flatten
  | [] => rfl
  | [p] => by simp [joinL]
  | p :: q :: r => by
    show p ++ ([] ++ joinL [] (q :: r)) = _
    rw [join_nil (q :: r)]
    simp
theorem tl_empty : tl ("" : Str) = [] := by decide +kernel
theorem tl_joinE (parts : List Str) : tl (Txt.join "" parts) = (parts.map tl).flatten := by
  rw [join_eq, tl_join, tl_empty, join_nil]
/-- what a def's names are when drawn -/
theorem fn1 {N : Nat} {Z : List Nat} {g : SS} {c0 c : C} {ρ' : Ro} {k : Option C} (hN : 1 ≤ N) (h : g (some c0 :: List.replicate (N - 1) none) = some (.rt c ρ')) (hk : (backR (fun i => Z.contains i) (List.replicate N none) ρ').take 1 = [k]) : fnSem N 1 Z g [c0] = some (.ok c [k]) := by
  unfold fnSem
  rw [if_pos ⟨rfl, hN⟩]
  show (match g (some c0 :: List.replicate (N - 1) none) with | some (.rt c ρ) => _ | some (.nx ρ) => _ | some (.ex x ρ) => _ | _ => none) = _
  rw [h]
  dsimp only
  rw [hk]
theorem set_step1 {i : Nat} {fa : S R} {ρ ρ1 : Ro} {c : C} (h : fa ρ = some (.ok (.val c) ρ1)) (hi : i < ρ1.length) : sSet i fa ρ = some (.nx (ρ1.set i (some c))) := by
  unfold sSet
  rw [S.thn_ok h]
  show S.thn (sMov (.val c)) _ ρ1 = _
  rw [S.thn_ok (m := sMov (.val c)) (a := c) (ρ' := ρ1) rfl, if_pos hi]
theorem seq_step {f g : SS} {ρ ρ1 : Ro} (h : f ρ = some (.nx ρ1)) : sSeq f g ρ = g ρ1 := by
  unfold sSeq; rw [h]
theorem seq_rt {f g : SS} {ρ ρ1 : Ro} {c : C} (h : f ρ = some (.rt c ρ1)) : sSeq f g ρ = some (.rt c ρ1) := by
  unfold sSeq; rw [h]
theorem if_yes {f : S Bool} {g h : SS} {ρ ρ1 : Ro} (e : f ρ = some (.ok true ρ1)) : sIfS f g h ρ = g ρ1 := by
  unfold sIfS; rw [S.thn_ok e, if_pos rfl]
theorem if_no {f : S Bool} {g h : SS} {ρ ρ1 : Ro} (e : f ρ = some (.ok false ρ1)) : sIfS f g h ρ = h ρ1 := by
  unfold sIfS; rw [S.thn_ok e, if_neg Bool.false_ne_true]
theorem ret_val {f : S R} {ρ ρ1 : Ro} {c : C} (e : f ρ = some (.ok (.val c) ρ1)) : sRet f ρ = some (.rt c ρ1) := by
  unfold sRet; rw [S.thn_ok e]
theorem tru_val {f : S R} {ρ ρ1 : Ro} {b : Bool} (e : f ρ = some (.ok (.val (.dat (.bl b))) ρ1)) : sTruth f ρ = some (.ok b ρ1) := by
  unfold sTruth; rw [S.bind_ok e]; rfl
theorem op_val {g : C → C → Option C} {fa fb : S R} {ρ ρ1 ρ2 : Ro} {c1 c2 c : C} (h1 : fa ρ = some (.ok (.val c1) ρ1)) (h2 : fb ρ1 = some (.ok (.val c2) ρ2)) (h3 : g c1 c2 = some c) : sOp2 g fa fb ρ = some (.ok (.val c) ρ2) := by
  unfold sOp2; rw [S.bind_ok h1, S.bind_ok h2]; simp [L3.res, h3]
theorem ix_dat {fa fb : S R} {ρ ρ1 ρ2 : Ro} {d : D} {c2 c : C} (h1 : fa ρ = some (.ok (.val (.dat d)) ρ1)) (h2 : fb ρ1 = some (.ok (.val c2) ρ2)) (h3 : gIx (.dat d) c2 = some c) : sIx fa fb ρ = some (.ok (.val c) ρ2) := by
  unfold sIx; rw [S.bind_ok h1, S.bind_ok h2]; simp [L3.res, h3]
theorem ix_own {fa fb : S R} {ρ ρ1 ρ2 : Ro} {cs : List C} {i : Int} {c : C} (h1 : fa ρ = some (.ok (.val (.own cs)) ρ1)) (h2 : fb ρ1 = some (.ok (.val (.dat (.int i))) ρ2)) (h3 : L2.atI cs i = some c) : sIx fa fb ρ = some (.ok (.val c) ρ2) := by
  unfold sIx; rw [S.bind_ok h1, S.bind_ok h2]; simp [L3.res, h3]
theorem m1_val {g : C → List C → Option C} {fa fb : S R} {ρ ρ1 ρ2 : Ro} {z : Str} {c2 c : C} (h1 : fa ρ = some (.ok (.val (.dat (.str z))) ρ1)) (h2 : fb ρ1 = some (.ok (.val c2) ρ2)) (h3 : g (.dat (.str z)) [c2] = some c) : sM1 g fa fb ρ = some (.ok (.val c) ρ2) := by
  unfold sM1; rw [S.bind_ok h1]; show S.bind fb _ ρ1 = _; rw [S.bind_ok h2]; simp [L3.res, h3]
theorem cons_val {fa : S R} {fr : S (List R)} {ρ ρ1 ρ2 : Ro} {r : R} {rs : List R} (h1 : fa ρ = some (.ok r ρ1)) (h2 : fr ρ1 = some (.ok rs ρ2)) : sCons fa fr ρ = some (.ok (r :: rs) ρ2) := by
  unfold sCons; rw [S.bind_ok h1, S.bind_ok h2]; rfl
theorem eq_int {x y : Int} : gEq (.dat (.int x)) (.dat (.int y)) = some (.dat (.bl (decide (x = y)))) := rfl
def words8 : List Str := ["push", "turn", "hold", "n", "e", "s", "w", "none"]
theorem words8_good : ∀ x ∈ words8, GoodName x := by
  have h : ∀ x ∈ words8, (decide (1 ≤ (tl x).length) && decide ((tl x).length ≤ 8) && (tl x).all fun c => decide (97 ≤ c) && decide (c ≤ 122)) = true := by decide +kernel
  intro x hx
  have := h x hx
  simp only [Bool.and_eq_true, decide_eq_true_eq, List.all_eq_true] at this
  exact ⟨this.1.1, this.1.2, this.2⟩
theorem dats_at {ds : List D} {i : Int} {d : D} (h : L2.atI ds i = some d) : L2.atI (dats ds) i = some (.dat d) := by
  unfold L2.atI at h ⊢
  rw [show (dats ds).length = ds.length by simp [dats]]
  cases e : ixN ds.length i with
  | none => rw [e] at h; cases h
  | some j =>
    rw [e] at h
    have h' : ds[j]? = some d := h
    show (dats ds)[j]? = _
    unfold dats
    rw [List.getElem?_map, h']
    rfl
theorem atI_nat {α : Type} {xs : List α} {i : Int} (h0 : 0 ≤ i) (h1 : i < xs.length) : ∃ x, L2.atI xs i = some x ∧ x ∈ xs := by
  have hl : i.toNat < xs.length := by omega
  refine ⟨xs[i.toNat], ?_, List.getElem_mem hl⟩
  unfold L2.atI ixN
  rw [if_pos h0, if_pos h1]
  show xs[i.toNat]? = _
  exact List.getElem?_eq_getElem hl
theorem name_ok {n : Nat} {B : Bag} (h : BagOk n B) (hn : n < 2 ^ 50) : ∃ x B', F__law_name [B.C] = some (.ok (.dat (.str x)) [some B'.C]) ∧ BagOk (n + 20) B' ∧ GoodName x := by
  obtain ⟨t1, t2, t3, t4⟩ := take_ok h (by omega) (m := 4) (by decide) (by decide)
  have c1 := call_take h (by omega) (m := 4) (by decide) (by decide) (j := 0) (ρ := [some B.C, some (.dat (.str letters)), none]) rfl
  obtain ⟨u1, u2, u3, u4⟩ := take_ok t2 (by omega) (m := 8) (by decide) (by decide)
  have c2 := call_take t2 (by omega) (m := 8) (by decide) (by decide) (j := 0) (ρ := [some (tkB B 4).C, some (.dat (.str letters)), none]) rfl
  have s1 : sSet 1 (sC (.str "abcdefghijklmnopqrstuvwxyz")) [some B.C, none, none] = some (.nx [some B.C, some (.dat (.str letters)), none]) := rfl
  have e1 : sTruth (sOp2 gEq (sCall F__law_take (sCons (sVar 0) (sCons (sC (.int 4)) sNil))) (sC (.int 0))) [some B.C, some (.dat (.str letters)), none] = some (.ok (decide (tkV B 4 = 0)) [some (tkB B 4).C, some (.dat (.str letters)), none]) := tru_val (op_val c1 rfl eq_int)
  by_cases hz : tkV B 4 = 0
  · obtain ⟨x, hx, mx⟩ := atI_nat (xs := words8) u3 (by show tkV (tkB B 4) 8 < (8 : Nat); omega)
    have hx' : L2.atI (words8.map D.str) (tkV (tkB B 4) 8) = some (.str x) := by
      unfold L2.atI at hx ⊢
      rw [List.length_map]
      cases e : ixN words8.length (tkV (tkB B 4) 8) with
      | none => rw [e] at hx; cases hx
      | some j =>
        rw [e] at hx
        have h' : words8[j]? = some x := hx
        show (words8.map D.str)[j]? = _
        rw [List.getElem?_map, h']
        rfl
    refine ⟨x, tkB (tkB B 4) 8, ?_, ⟨u2.a0, u2.b0, u2.b1, u2.c0, by have := u2.c1; omega, u2.cs0⟩, words8_good x mx⟩
    refine fn1 (N := 3) (Z := [1]) (ρ' := [some (tkB (tkB B 4) 8).C, some (.dat (.str letters)), none]) (by decide) ?_ rfl
    show b__law_name [some B.C, none, none] = _
    unfold b__law_name
    rw [seq_step s1]
    refine seq_rt ?_
    rw [if_yes (by rw [e1, decide_eq_true hz])]
    exact ret_val (ix_own (cs := dats (words8.map D.str)) rfl c2 (dats_at hx'))
  · have d1 : gAdd (.dat (.int 1)) (.dat (.int (tkV (tkB B 4) 8))) = some (.dat (.int (1 + tkV (tkB B 4) 8))) := rfl
    have r1 : sRng1 (sCons (sOp2 gAdd (sC (.int 1)) (sCall F__law_take (sCons (sVar 0) (sCons (sC (.int 8)) sNil)))) sNil) [some (tkB B 4).C, some (.dat (.str letters)), none] = some (.ok (intsD 0 (1 + tkV (tkB B 4) 8).toNat) [some (tkB (tkB B 4) 8).C, some (.dat (.str letters)), none]) := by
      have o := op_val (fa := sC (.int 1)) (ρ := [some (tkB B 4).C, some (.dat (.str letters)), none]) rfl c2 d1
      unfold sRng1
      rw [S.bind_ok (cons_val o rfl)]
      show (if -(2 ^ 62) ≤ 1 + tkV (tkB B 4) 8 ∧ 1 + tkV (tkB B 4) 8 < 2 ^ 62 then _ else _) = _
      rw [if_pos (by omega)]
      rfl
    have hlen : (intsD 0 (1 + tkV (tkB B 4) 8).toNat).length = (1 + tkV (tkB B 4) 8).toNat := intsD_length _ _
    obtain ⟨ks, B', e, l, g, b⟩ := name_loop (intsD 0 (1 + tkV (tkB B 4) 8).toNat) (n + 1 + 1) (tkB (tkB B 4) 8) u2 (by rw [hlen]; omega)
    rw [hlen] at l b
    have lc := lc_ok (fe := sIx (sVar 1) (sCall F__law_take (sCons (sVar 0) (sCons (sC (.int 26)) sNil)))) (j := 2) r1 (by rw [hlen, sizeLine_eq]; omega) rfl e rfl rfl
    have jn : gJoin (.dat (.str "")) [.own (dats (ks.map fun k => D.str ⟨#[k]⟩))] = some (.dat (.str (Txt.join "" (ks.map fun k => (⟨#[k]⟩ : Str))))) := by
      unfold gJoin
      simp only [seqOf_own, txts_one]
      rw [if_pos]
      have hs : ((ks.map fun k => (⟨#[k]⟩ : Str)).map (·.length)).sum = ks.length := by
        rw [List.map_map]
        clear e g b lc l
        induction ks with
        | nil => rfl
        | cons k ks ih => simp only [List.map_cons, List.sum_cons, ih, List.length_cons, Function.comp]; show 1 + ks.length = _; omega
      rw [hs]
      have hz : Str.length "" = 0 := by decide +kernel
      rw [hz, l]
      omega
    refine ⟨Txt.join "" (ks.map fun k => (⟨#[k]⟩ : Str)), B', ?_, ⟨b.a0, b.b0, b.b1, b.c0, by have := b.c1; omega, b.cs0⟩, ?_⟩
    · refine fn1 (N := 3) (Z := [1]) (ρ' := [some B'.C, some (.dat (.str letters)), none]) (by decide) ?_ rfl
      show b__law_name [some B.C, none, none] = _
      unfold b__law_name
      rw [seq_step s1, seq_step (ρ1 := [some (tkB B 4).C, some (.dat (.str letters)), none]) (by rw [if_no (by rw [e1, decide_eq_false hz])]; rfl)]
      exact ret_val (m1_val rfl lc jn)
    · have ht : tl (Txt.join "" (ks.map fun k => (⟨#[k]⟩ : Str))) = ks := by
        rw [tl_joinE, List.map_map]
        clear e g b lc l jn
        induction ks with
        | nil => rfl
        | cons k ks ih =>
          rw [List.map_cons, List.flatten_cons, ih]
          rfl
      unfold GoodName
      rw [ht, l]
      exact ⟨by omega, by omega, g⟩
end K91
namespace K91
open PySem L2 L3 TL
/-! ### deeds, strokes, rows -/
abbrev Deed := Option (List Str)
def dD : Deed → D
  | none => .non
  | some ws => .tup (ws.map D.str)
def dS (st : List Deed) : D := .tup (st.map dD)
def ways : List Str := ["n", "e", "s", "w"]
def GoodDeed : Deed → Prop
  | none => True
  | some ws => (∃ x w : Str, GoodName x ∧ w ∈ ways ∧ ws = [("push" : Str), x, w]) ∨ (∃ x : Str, GoodName x ∧ ws = [("turn" : Str), x]) ∨ ws = [("hold" : Str)]
def GoodStroke (k : Nat) (st : List Deed) : Prop := st.length = k ∧ ∀ d ∈ st, GoodDeed d
theorem nesw_at : ∀ i, i < 4 → (Str.ofString "nesw").cps.toList[i]? = (["n", "e", "s", "w"] : List Str)[i]?.bind fun w => w.cps.toList[0]? := by decide +kernel
theorem nesw_len : (Str.ofString "nesw").length = 4 := by decide +kernel
theorem nesw_ix : ∀ i, i < 4 → ∃ w ∈ ways, ∃ c, (Str.ofString "nesw").cps.toList[i]? = some c ∧ (⟨#[c]⟩ : Str) = w := by
  have h : ∀ i, i < 4 → (match (Str.ofString "nesw").cps.toList[i]? with
    | some c => ways.any fun w => tl w == [c]
    | none => false) = true := by decide +kernel
  intro i hi
  have := h i hi
  split at this
  · rename_i c e
    simp only [List.any_eq_true, beq_iff_eq] at this
    obtain ⟨w, hw, ew⟩ := this
    exact ⟨w, hw, c, e, (ext_tl (by rw [tl_one]; exact ew.symm))⟩
  · cases this
theorem ix_nesw {v : Int} (h0 : 0 ≤ v) (h1 : v < 4) : ∃ w ∈ ways, gIx (.dat (.str "nesw")) (.dat (.int v)) = some (.dat (.str w)) := by
  obtain ⟨w, hw, c, e, ew⟩ := nesw_ix v.toNat (by omega)
  refine ⟨w, hw, ?_⟩
  have e' : L2.atI (Str.ofString "nesw").cps.toList v = some c := by
    unfold L2.atI ixN
    have hl : (Str.ofString "nesw").cps.toList.length = 4 := nesw_len
    rw [hl, if_pos h0, if_pos (by exact_mod_cast h1)]
    exact e
  unfold gIx
  dsimp only
  rw [if_pos (by rw [nesw_len, sizeLine_eq]; decide), e']
  dsimp only
  rw [ew]
theorem BagOk.le {m n : Nat} {B : Bag} (h : BagOk m B) (e : m ≤ n) : BagOk n B := ⟨h.a0, h.b0, h.b1, h.c0, by have := h.c1; omega, h.cs0⟩
theorem sub_int {x y : Int} : L3.gSub (.dat (.int x)) (.dat (.int y)) = some (.dat (.int (x - y))) := rfl
theorem lt_int {x y : Int} : gLtI (.dat (.int x)) (.dat (.int y)) = some (.dat (.bl (decide (x < y)))) := rfl
theorem tup_val {fs : S (List R)} {ρ ρ1 : Ro} {ds : List D} (h : fs ρ = some (.ok (ds.map fun d => R.val (.dat d)) ρ1)) (hz : ds.length ≤ sizeLine) : sTup fs ρ = some (.ok (.val (.dat (.tup ds))) ρ1) := by
  have fz : ∀ (es : List D) (ρ : Ro), sFrzs (es.map fun d => R.val (.dat d)) ρ = some (.ok es ρ) := fun es => by
    induction es with
    | nil => intro ρ; rfl
    | cons e es ih =>
      intro ρ
      show S.bind (sFrz (.val (.dat e))) _ ρ = _
      rw [S.bind_ok (m := sFrz (.val (.dat e))) (a := e) (ρ' := ρ) rfl, S.bind_ok (ih ρ)]
      rfl
  unfold sTup
  rw [S.bind_ok h, S.bind_ok (fz ds ρ1), if_pos hz]
theorem lst_val {fs : S (List R)} {ρ ρ1 : Ro} {ds : List D} (h : fs ρ = some (.ok (ds.map fun d => R.val (.dat d)) ρ1)) (hz : ds.length ≤ sizeLine) : sLstF fs ρ = some (.ok (.val (.own (dats ds))) ρ1) := by
  have fz : ∀ (es : List D) (ρ : Ro), sFrzs (es.map fun d => R.val (.dat d)) ρ = some (.ok es ρ) := fun es => by
    induction es with
    | nil => intro ρ; rfl
    | cons e es ih =>
      intro ρ
      show S.bind (sFrz (.val (.dat e))) _ ρ = _
      rw [S.bind_ok (m := sFrz (.val (.dat e))) (a := e) (ρ' := ρ) rfl, S.bind_ok (ih ρ)]
      rfl
  unfold sLstF
  rw [S.bind_ok h, S.bind_ok (fz ds ρ1), if_pos hz]
theorem small_line {n : Nat} (h : n ≤ 10000) : n ≤ sizeLine := by rw [sizeLine_eq]; omega
theorem deed_ok {n : Nat} {B : Bag} (h : BagOk n B) (hn : n < 2 ^ 49) : ∃ d B', F__law_deed [B.C] = some (.ok (.dat (dD d)) [some B'.C]) ∧ BagOk (n + 30) B' ∧ GoodDeed d := by
  obtain ⟨x, B1, e1, b1, gx⟩ := name_ok h (by omega)
  obtain ⟨t1, t2, t3, t4⟩ := take_ok b1 (by omega) (m := 6) (by decide) (by decide)
  have c0 := call_s (fs := F__law_name) (j := 0) (ρ := [some B.C, none, none]) (cs := dats B.ds) (cs' := dats B1.ds) rfl e1
  have c1 := call_take b1 (by omega) (m := 6) (by decide) (by decide) (j := 0) (ρ := [some B1.C, some (.dat (.str x)), none]) rfl
  have s1 : sSet 1 (sCall F__law_name (sCons (sVar 0) sNil)) [some B.C, none, none] = some (.nx [some B1.C, some (.dat (.str x)), none]) := set_step1 c0 (by simp)
  have s2 : sSet 2 (sCall F__law_take (sCons (sVar 0) (sCons (sC (.int 6)) sNil))) [some B1.C, some (.dat (.str x)), none] = some (.nx [some (tkB B1 6).C, some (.dat (.str x)), some (.dat (.int (tkV B1 6)))]) := set_step1 c1 (by simp)
  have e2 : sTruth (sOp2 gLtI (sVar 2) (sC (.int 3))) [some (tkB B1 6).C, some (.dat (.str x)), some (.dat (.int (tkV B1 6)))] = some (.ok (decide (tkV B1 6 < 3)) [some (tkB B1 6).C, some (.dat (.str x)), some (.dat (.int (tkV B1 6)))]) := tru_val (op_val rfl rfl lt_int)
  have hs3 : (3 : Nat) ≤ sizeLine := small_line (by decide)
  have hs2 : (2 : Nat) ≤ sizeLine := small_line (by decide)
  have hs1 : (1 : Nat) ≤ sizeLine := small_line (by decide)
  by_cases hv : tkV B1 6 < 3
  · obtain ⟨u1, u2, u3, u4⟩ := take_ok t2 (by omega) (m := 4) (by decide) (by decide)
    have c2 := call_take t2 (by omega) (m := 4) (by decide) (by decide) (j := 0) (ρ := [some (tkB B1 6).C, some (.dat (.str x)), some (.dat (.int (tkV B1 6)))]) rfl
    obtain ⟨w, hw, ew⟩ := ix_nesw u3 u4
    refine ⟨some ["push", x, w], tkB (tkB B1 6) 4, ?_, u2.le (by omega), .inl ⟨x, w, gx, hw, rfl⟩⟩
    refine fn1 (N := 3) (Z := [1, 2]) (ρ' := [some (tkB (tkB B1 6) 4).C, some (.dat (.str x)), some (.dat (.int (tkV B1 6)))]) (by decide) ?_ rfl
    show b__law_deed [some B.C, none, none] = _
    unfold b__law_deed
    rw [seq_step s1, seq_step s2]
    refine seq_rt ?_
    rw [if_yes (by rw [e2, decide_eq_true hv])]
    have ix := ix_dat (fa := sC (.str "nesw")) (ρ := [some (tkB B1 6).C, some (.dat (.str x)), some (.dat (.int (tkV B1 6)))]) rfl c2 ew
    exact ret_val (tup_val (ds := [.str "push", .str x, .str w]) (cons_val (r := .val (.dat (.str "push"))) rfl (cons_val (r := .val (.dat (.str x))) rfl (cons_val ix rfl))) hs3)
  · have hv3 : tkV B1 6 - 3 = 0 ∨ tkV B1 6 - 3 = 1 ∨ tkV B1 6 - 3 = 2 := by omega
    have main : ∀ d : Deed, GoodDeed d → L2.atI [D.tup [.str "turn", .str x], D.tup [.str "hold"], D.non] (tkV B1 6 - 3) = some (dD d) → ∃ d B', F__law_deed [B.C] = some (.ok (.dat (dD d)) [some B'.C]) ∧ BagOk (n + 30) B' ∧ GoodDeed d := fun d gd hd => by
      refine ⟨d, tkB B1 6, ?_, t2.le (by omega), gd⟩
      refine fn1 (N := 3) (Z := [1, 2]) (ρ' := [some (tkB B1 6).C, some (.dat (.str x)), some (.dat (.int (tkV B1 6)))]) (by decide) ?_ rfl
      show b__law_deed [some B.C, none, none] = _
      unfold b__law_deed
      rw [seq_step s1, seq_step s2, seq_step (ρ1 := [some (tkB B1 6).C, some (.dat (.str x)), some (.dat (.int (tkV B1 6)))]) (by rw [if_no (by rw [e2, decide_eq_false hv])]; rfl)]
      refine ret_val (ix_own (ρ1 := [some (tkB B1 6).C, some (.dat (.str x)), some (.dat (.int (tkV B1 6)))]) (cs := dats [D.tup [.str "turn", .str x], D.tup [.str "hold"], D.non]) (i := tkV B1 6 - 3) ?_ (op_val rfl rfl sub_int) (dats_at hd))
      refine lst_val (ds := [D.tup [.str "turn", .str x], D.tup [.str "hold"], D.non]) (cons_val (r := .val (.dat (.tup [.str "turn", .str x]))) (tup_val (ds := [.str "turn", .str x]) (cons_val (r := .val (.dat (.str "turn"))) rfl (cons_val (r := .val (.dat (.str x))) rfl rfl)) hs2) (cons_val (r := .val (.dat (.tup [.str "hold"]))) (tup_val (ds := [.str "hold"]) rfl hs1) rfl)) hs3
    rcases hv3 with e | e | e
    · exact main (some ["turn", x]) (.inr (.inl ⟨x, gx, rfl⟩)) (by rw [e]; rfl)
    · exact main (some ["hold"]) (.inr (.inr rfl)) (by rw [e]; rfl)
    · exact main none trivial (by rw [e]; rfl)
end K91
namespace K91
open PySem L2 L3 TL
theorem deed_loop (o1 o2 o3 : Option C) : ∀ (ds : List D) (n : Nat) (B : Bag), BagOk n B → n + 30 * ds.length < 2 ^ 48 → ∃ (st : List Deed) (B' : Bag), lcLoop (fgName 4) sYes (sCall F__law_deed (sCons (sVar 0) sNil)) [4] ds [some B.C, o1, o2, o3, none] = some (st.map dD, [some B'.C, o1, o2, o3, none]) ∧
    st.length = ds.length ∧ (∀ d ∈ st, GoodDeed d) ∧ BagOk (n + 30 * ds.length) B'
  | [], n, B, h, _ => ⟨[], B, rfl, rfl, by simp, h⟩
  | d :: ds, n, B, h, hn => by
    have hn' : n + 30 * (ds.length + 1) < 2 ^ 48 := hn
    obtain ⟨x, B1, e1, b1, g1⟩ := deed_ok h (by omega)
    obtain ⟨st, B', e, l, g, b⟩ := deed_loop o1 o2 o3 ds (n + 30) B1 b1 (by omega)
    have c := call_s (fs := F__law_deed) (j := 0) (ρ := [some B.C, o1, o2, o3, some (.dat d)]) (cs := dats B.ds) (cs' := dats B1.ds) rfl e1
    refine ⟨x :: st, B', lc_step (ρ1 := [some B.C, o1, o2, o3, some (.dat d)]) (ρ2 := [some B.C, o1, o2, o3, some (.dat d)]) (ρ3 := [some B1.C, o1, o2, o3, some (.dat d)]) rfl rfl (by rw [S.bind_ok c]; rfl) e, by simp [l], fun y hy => ?_, by rw [show n + 30 * (d :: ds).length = n + 30 + 30 * ds.length by simp; omega]; exact b⟩
    rcases List.mem_cons.mp hy with rfl | hy
    · exact g1
    · exact g y hy
theorem rng_val {fa : S R} {ρ ρ1 : Ro} {j : Int} (h : fa ρ = some (.ok (.val (.dat (.int j))) ρ1)) (h0 : 0 ≤ j) (h1 : j < 2 ^ 62) : sRng1 (sCons fa sNil) ρ = some (.ok (intsD 0 j.toNat) ρ1) := by
  unfold sRng1
  rw [S.bind_ok (cons_val h rfl)]
  show (if -(2 ^ 62) ≤ j ∧ j < 2 ^ 62 then _ else _) = _
  rw [if_pos (by omega)]
theorem blt_val {g : List C → Option C} {fs : S (List R)} {ρ ρ1 : Ro} {cs : List C} {c : C} (h : fs ρ = some (.ok (cs.map R.val) ρ1)) (hg : g cs = some c) : sBlt g fs ρ = some (.ok (.val c) ρ1) := by
  have r : ∀ (es : List C) (ρ : Ro), ress (es.map R.val) ρ = some es := fun es => by
    induction es with
    | nil => intro ρ; rfl
    | cons e es ih =>
      intro ρ
      simp only [List.map_cons, ress, L3.res, ih]
  unfold sBlt
  rw [S.bind_ok h, r]
  dsimp only
  rw [hg]
theorem tuple_own (ds : List D) : gTuple [.own (dats ds)] = some (.dat (.tup ds)) := by
  unfold gTuple
  simp [lstOf_own]
def GoodRow (row : List (List Deed)) : Prop := ∃ k, 1 ≤ k ∧ k ≤ 4 ∧ ∀ st ∈ row, GoodStroke k st
theorem row_loop (k : Nat) (hk : k ≤ 4) (o2 : Option C) : ∀ (ds : List D) (n : Nat) (B : Bag), BagOk n B → n + 120 * ds.length < 2 ^ 47 → ∃ (row : List (List Deed)) (B' : Bag), lcLoop (fgName 3) sYes (sBlt gTuple (sCons (sLc (sRng1 (sCons (sVar 1) sNil)) (fgName 4) sYes (sCall F__law_deed (sCons (sVar 0) sNil)) [4]) sNil)) [3] ds [some B.C, some (.dat (.int (k : Nat))), o2, none, none] = some (row.map dS, [some B'.C, some (.dat (.int (k : Nat))), o2, none, none]) ∧
    row.length = ds.length ∧ (∀ st ∈ row, GoodStroke k st) ∧ BagOk (n + 120 * ds.length) B'
  | [], n, B, h, _ => ⟨[], B, rfl, rfl, by simp, h⟩
  | d :: ds, n, B, h, hn => by
    have hn' : n + 120 * (ds.length + 1) < 2 ^ 47 := hn
    have il : (intsD 0 k).length = k := intsD_length _ _
    obtain ⟨st, B1, e1, l1, g1, b1⟩ := deed_loop (some (.dat (.int (k : Nat)))) o2 (some (.dat d)) (intsD 0 k) n B h (by rw [il]; omega)
    rw [il] at l1 b1
    obtain ⟨row, B', e, l, g, b⟩ := row_loop k hk o2 ds (n + 120) B1 (b1.le (by omega)) (by omega)
    have r1 : sRng1 (sCons (sVar 1) sNil) [some B.C, some (.dat (.int (k : Nat))), o2, some (.dat d), none] = some (.ok (intsD 0 k) [some B.C, some (.dat (.int (k : Nat))), o2, some (.dat d), none]) := by
      have := rng_val (fa := sVar 1) (ρ := [some B.C, some (.dat (.int (k : Nat))), o2, some (.dat d), none]) (j := (k : Nat)) rfl (by omega) (by omega)
      rw [show ((k : Nat) : Int).toNat = k by omega] at this
      exact this
    have lc := lc_ok (fe := sCall F__law_deed (sCons (sVar 0) sNil)) (j := 4) r1 (by rw [il]; exact small_line (by omega)) rfl e1 rfl rfl
    have tv := blt_val (cs := [.own (dats (st.map dD))]) (cons_val (fr := sNil) lc rfl) (tuple_own _)
    refine ⟨st :: row, B', lc_step (ρ1 := [some B.C, some (.dat (.int (k : Nat))), o2, some (.dat d), none]) (ρ2 := [some B.C, some (.dat (.int (k : Nat))), o2, some (.dat d), none]) (ρ3 := [some B1.C, some (.dat (.int (k : Nat))), o2, some (.dat d), none]) rfl rfl (by rw [S.bind_ok tv]; rfl) e, by simp [l], fun y hy => ?_, by rw [show n + 120 * (d :: ds).length = n + 120 + 120 * ds.length by simp; omega]; exact b⟩
    rcases List.mem_cons.mp hy with rfl | hy
    · exact ⟨l1, g1⟩
    · exact g y hy
theorem add_int {x y : Int} : gAdd (.dat (.int x)) (.dat (.int y)) = some (.dat (.int (x + y))) := rfl
theorem row_ok {n : Nat} {B : Bag} (h : BagOk n B) (hn : n < 2 ^ 46) : ∃ row B', F__law_row [B.C] = some (.ok (.own (dats (row.map dS))) [some B'.C]) ∧ BagOk (n + 5000) B' ∧ GoodRow row ∧ row.length ≤ 40 := by
  obtain ⟨t1, t2, t3, t4⟩ := take_ok h (by omega) (m := 4) (by decide) (by decide)
  have c1 := call_take h (by omega) (m := 4) (by decide) (by decide) (j := 0) (ρ := [some B.C, none, none, none, none]) rfl
  generalize hB1 : tkB B 4 = B1 at t2 c1
  generalize hv1 : tkV B 4 = v1 at t3 t4 c1
  have s1 : sSet 1 (sOp2 gAdd (sC (.int 1)) (sCall F__law_take (sCons (sVar 0) (sCons (sC (.int 4)) sNil)))) [some B.C, none, none, none, none] = some (.nx [some B1.C, some (.dat (.int (1 + v1))), none, none, none]) := set_step1 (op_val rfl c1 add_int) (by simp)
  obtain ⟨u1, u2, u3, u4⟩ := take_ok t2 (by omega) (m := 4) (by decide) (by decide)
  have c2 := call_take t2 (by omega) (m := 4) (by decide) (by decide) (j := 0) (ρ := [some B1.C, some (.dat (.int (1 + v1))), none, none, none]) rfl
  generalize hB2 : tkB B1 4 = B2 at u2 c2
  generalize hv2 : tkV B1 4 = v2 at u3 u4 c2
  obtain ⟨w1, w2, w3, w4⟩ := take_ok u2 (by omega) (m := 8) (by decide) (by decide)
  have c3 := call_take u2 (by omega) (m := 8) (by decide) (by decide) (j := 0) (ρ := [some B2.C, some (.dat (.int (1 + v1))), none, none, none]) rfl
  generalize hB3 : tkB B2 8 = B3 at w2 c3
  generalize hv3 : tkV B2 8 = v3 at w3 w4 c3
  have ld : ∃ long : Int, 0 ≤ long ∧ long ≤ 40 ∧ L2.atI [D.int v2, D.int 40] (v3 / 7) = some (.int long) := by
    have : v3 / 7 = 0 ∨ v3 / 7 = 1 := by omega
    rcases this with e | e
    · exact ⟨v2, u3, by omega, by rw [e]; rfl⟩
    · exact ⟨40, by decide, by decide, by rw [e]; rfl⟩
  obtain ⟨long, l0, l1, el⟩ := ld
  have s2 : sSet 2 (sIx (sLstF (sCons (sCall F__law_take (sCons (sVar 0) (sCons (sC (.int 4)) sNil))) (sCons (sC (.int 40)) sNil))) (sOp2 gDiv (sCall F__law_take (sCons (sVar 0) (sCons (sC (.int 8)) sNil))) (sC (.int 7)))) [some B1.C, some (.dat (.int (1 + v1))), none, none, none] = some (.nx [some B3.C, some (.dat (.int (1 + v1))), some (.dat (.int long)), none, none]) := by
    refine set_step1 (ρ1 := [some B3.C, some (.dat (.int (1 + v1))), none, none, none]) (ix_own (ρ1 := [some B2.C, some (.dat (.int (1 + v1))), none, none, none]) (cs := dats [D.int v2, D.int 40]) (i := v3 / 7) ?_ (op_val c3 rfl (div_int (by decide) (by decide))) (dats_at el)) (by simp)
    exact lst_val (ds := [D.int v2, D.int 40]) (cons_val c2 rfl) (small_line (by simp))
  have il : (intsD 0 long.toNat).length = long.toNat := intsD_length _ _
  have hk : (1 + v1) = (((1 + v1).toNat : Nat) : Int) := by omega
  have rl := row_loop (1 + v1).toNat (by omega) (some (.dat (.int long))) (intsD 0 long.toNat) (n + 1 + 1 + 1) B3 w2 (by rw [il]; omega)
  rw [← hk] at rl
  obtain ⟨row, B', e, l, g, b⟩ := rl
  rw [il] at l b
  have r1 := rng_val (fa := sVar 2) (ρ := [some B3.C, some (.dat (.int (1 + v1))), some (.dat (.int long)), none, none]) (j := long) rfl l0 (by omega)
  have lc := lc_ok (fe := sBlt gTuple (sCons (sLc (sRng1 (sCons (sVar 1) sNil)) (fgName 4) sYes (sCall F__law_deed (sCons (sVar 0) sNil)) [4]) sNil)) (j := 3) r1 (by rw [il]; exact small_line (by omega)) rfl e rfl rfl
  refine ⟨row, B', ?_, b.le (by omega), ⟨(1 + v1).toNat, by omega, by omega, g⟩, by omega⟩
  refine fn1 (N := 5) (Z := [1, 2]) (ρ' := [some B'.C, some (.dat (.int (1 + v1))), some (.dat (.int long)), none, none]) (by decide) ?_ rfl
  show b__law_row [some B.C, none, none, none, none] = _
  unfold b__law_row
  rw [seq_step s1, seq_step s2]
  exact ret_val lc
end K91
namespace K91
open PySem L2 L3 TL
/-! ### texts -/
def tD : Deed → Str
  | none => "-"
  | some ws => Txt.join " " ws
def tS (st : List Deed) : Str := Txt.join " / " (st.map tD)
def tR (row : List (List Deed)) : Str := Txt.join "" (row.map fun st => tS st ++ "\n")
theorem tl_sp : tl (" " : Str) = [32] := by decide +kernel
theorem tl_bt : tl (" / " : Str) = [32, 47, 32] := by decide +kernel
theorem tl_nl : tl ("\n" : Str) = [10] := by decide +kernel
theorem tl_da : tl ("-" : Str) = [45] := by decide +kernel
theorem good_words {ws : List Str} (h : GoodDeed (some ws)) : ws ≠ [] ∧ ws.length ≤ 3 ∧ ∀ x ∈ ws, GoodName x := by
  have g : ∀ x ∈ (["push", "turn", "hold", "n", "e", "s", "w"] : List Str), GoodName x := fun x hx => words8_good x (by
    unfold words8
    simp only [List.mem_cons, List.not_mem_nil, or_false] at hx ⊢
    rcases hx with h | h | h | h | h | h | h <;> simp [h])
  rcases h with ⟨x, w, gx, hw, rfl⟩ | ⟨x, gx, rfl⟩ | rfl
  · refine ⟨by simp, by simp, fun y hy => ?_⟩
    simp only [List.mem_cons, List.not_mem_nil, or_false] at hy
    rcases hy with rfl | rfl | rfl
    · exact g _ (by simp)
    · exact gx
    · refine g _ ?_
      unfold ways at hw
      simp only [List.mem_cons, List.not_mem_nil, or_false] at hw ⊢
      rcases hw with h | h | h | h <;> simp [h]
  · refine ⟨by simp, by simp, fun y hy => ?_⟩
    simp only [List.mem_cons, List.not_mem_nil, or_false] at hy
    rcases hy with rfl | rfl
    · exact g _ (by simp)
    · exact gx
  · refine ⟨by simp, by simp, fun y hy => ?_⟩
    simp only [List.mem_cons, List.not_mem_nil, or_false] at hy
    subst hy
    exact g _ (by simp)
theorem tl_join2 (y : Str) (ps : List Str) : tl (Txt.join y ps) = joinL (tl y) (ps.map tl) := by rw [join_eq, tl_join]
theorem mem_join {S : List Nat} {c : Nat} : ∀ {ps : List (List Nat)}, c ∈ joinL S ps → c ∈ S ∨ ∃ p ∈ ps, c ∈ p
  | [], h => by cases h
  | [p], h => .inr ⟨p, by simp, h⟩
  | p :: q :: r, h => by
    have h : c ∈ p ++ (S ++ joinL S (q :: r)) := h
    rcases List.mem_append.mp h with h | h
    · exact .inr ⟨p, by simp, h⟩
    · rcases List.mem_append.mp h with h | h
      · exact .inl h
      · rcases mem_join h with h | ⟨z, hz, h⟩
        · exact .inl h
        · exact .inr ⟨z, List.mem_cons_of_mem _ hz, h⟩
theorem len_join {S : List Nat} {m : Nat} : ∀ {ps : List (List Nat)}, (∀ p ∈ ps, p.length ≤ m) → (joinL S ps).length ≤ ps.length * (m + S.length)
  | [], _ => by simp [joinL]
  | [p], h => by have := h p (by simp); simp [joinL]; omega
  | p :: q :: r, h => by
    have h1 := h p (by simp)
    have ih := len_join (S := S) (m := m) (ps := q :: r) fun x hx => h x (List.mem_cons_of_mem _ hx)
    show (p ++ (S ++ joinL S (q :: r))).length ≤ (p :: q :: r).length * (m + S.length)
    rw [List.length_append, List.length_append]
    have e : (p :: q :: r).length * (m + S.length) = (q :: r).length * (m + S.length) + (m + S.length) := by
      rw [List.length_cons, Nat.succ_mul]
    omega
/-- the signs of a deed's text -/
theorem deed_signs {d : Deed} (h : GoodDeed d) : (∀ c ∈ tl (tD d), c = 45 ∨ c = 32 ∨ (97 ≤ c ∧ c ≤ 122)) ∧ (tl (tD d)).length ≤ 27 := by
  cases d with
  | none => rw [show tD none = ("-" : Str) from rfl, tl_da]; simp
  | some ws =>
    obtain ⟨h1, h2, h3⟩ := good_words h
    rw [show tD (some ws) = Txt.join " " ws from rfl, tl_join2, tl_sp]
    refine ⟨fun c hc => ?_, ?_⟩
    · rcases mem_join hc with hc | ⟨p, hp, hc⟩
      · simp at hc; exact .inr (.inl hc)
      · obtain ⟨x, hx, rfl⟩ := List.mem_map.mp hp
        exact .inr (.inr ((h3 x hx).2.2 c hc))
    · have := len_join (S := [32]) (m := 8) (ps := ws.map tl) fun p hp => by
        obtain ⟨x, hx, rfl⟩ := List.mem_map.mp hp
        exact (h3 x hx).2.1
      rw [List.length_map] at this
      have : ws.length * (8 + 1) ≤ 3 * 9 := Nat.mul_le_mul h2 (by decide)
      simp only [List.length_cons, List.length_nil] at *
      omega
theorem deed_no45 {ws : List Str} (h : GoodDeed (some ws)) : tD (some ws) ≠ "-" := by
  obtain ⟨h1, h2, h3⟩ := good_words h
  intro e
  have e2 : tl (tD (some ws)) = [45] := by rw [e, tl_da]
  rw [show tD (some ws) = Txt.join " " ws from rfl, tl_join2, tl_sp] at e2
  have hc : (45 : Nat) ∈ joinL [32] (ws.map tl) := by rw [e2]; simp
  rcases mem_join hc with hc | ⟨p, hp, hc⟩
  · simp at hc
  · obtain ⟨x, hx, rfl⟩ := List.mem_map.mp hp
    have := (h3 x hx).2.2 _ hc
    omega
theorem deed_split {ws : List Str} (h : GoodDeed (some ws)) : Txt.split (tD (some ws)) " " = ws := by
  obtain ⟨h1, h2, h3⟩ := good_words h
  refine split_join (y := " ") tl_sp (by decide +kernel) h1 fun p hp hc => ?_
  have := (h3 p hp).2.2 _ hc
  omega
/-! ### the separator of strokes -/
theorem pre_at {l : List Nat} (h : pre [32, 47, 32] l = true) : l[1]? = some 47 := by
  unfold pre at h
  have e : l.take 3 = [32, 47, 32] := eq_of_beq h
  have : (l.take 3)[1]? = some 47 := by rw [e]; rfl
  rw [List.getElem?_take] at this
  simpa using this
theorem sep_free {p q : List Nat} (hp : 47 ∉ p) (hq : q[0]? ≠ some 47) : ∀ i, i < p.length → pre [32, 47, 32] ((p ++ q).drop i) = false := fun i hi => by
  cases e : pre [32, 47, 32] ((p ++ q).drop i) with
  | false => rfl
  | true =>
    exfalso
    have h := pre_at e
    rw [List.getElem?_drop] at h
    by_cases h1 : i + 1 < p.length
    · rw [List.getElem?_append_left h1] at h
      exact hp (List.mem_of_getElem? h)
    · rw [List.getElem?_append_right (by omega), show i + 1 - p.length = 0 by omega] at h
      exact hq h
theorem spl_strokes : ∀ {ps : List (List Nat)}, ps ≠ [] → (∀ p ∈ ps, 47 ∉ p) → spl [32, 47, 32] 0 [] (joinL [32, 47, 32] ps) = ps
  | [], h, _ => absurd rfl h
  | [p], _, hp => by
    have := spl_last (S := [32, 47, 32]) (p := p) (acc := []) fun i hi => by
      have := sep_free (q := []) (hp p (by simp)) (by simp) i hi
      rw [List.append_nil] at this
      exact this
    rw [List.nil_append] at this
    exact this
  | p :: q :: r, _, hp => by
    show spl [32, 47, 32] 0 [] (p ++ ([32, 47, 32] ++ joinL [32, 47, 32] (q :: r))) = p :: q :: r
    rw [spl_part (by simp) (sep_free (hp p (by simp)) (by simp)), List.nil_append, spl_strokes (by simp) fun z hz => hp z (List.mem_cons_of_mem _ hz)]
theorem stroke_split {st : List Deed} (hne : st ≠ []) (h : ∀ d ∈ st, GoodDeed d) : Txt.split (tS st) " / " = st.map tD := by
  refine map_tl_inj ?_
  rw [split_spl _ (" / " : Str) (by rw [tl_bt]; simp) (kind_ok (by decide +kernel)), show tS st = Txt.join " / " (st.map tD) from rfl, tl_join2, tl_bt]
  refine spl_strokes (by simpa using hne) fun p hp hc => ?_
  obtain ⟨x, hx, rfl⟩ := List.mem_map.mp hp
  obtain ⟨d, hd, rfl⟩ := List.mem_map.mp hx
  rcases (deed_signs (h d hd)).1 _ hc with e | e | e <;> omega
theorem stroke_signs {st : List Deed} (h : ∀ d ∈ st, GoodDeed d) (hl : st.length ≤ 4) : 10 ∉ tl (tS st) ∧ (tl (tS st)).length ≤ 120 := by
  rw [show tS st = Txt.join " / " (st.map tD) from rfl, tl_join2, tl_bt]
  refine ⟨fun hc => ?_, ?_⟩
  · rcases mem_join hc with hc | ⟨p, hp, hc⟩
    · simp at hc
    · obtain ⟨x, hx, rfl⟩ := List.mem_map.mp hp
      obtain ⟨d, hd, rfl⟩ := List.mem_map.mp hx
      rcases (deed_signs (h d hd)).1 _ hc with e | e | e <;> omega
  · have := len_join (S := [32, 47, 32]) (m := 27) (ps := (st.map tD).map tl) fun p hp => by
      obtain ⟨x, hx, rfl⟩ := List.mem_map.mp hp
      obtain ⟨d, hd, rfl⟩ := List.mem_map.mp hx
      exact (deed_signs (h d hd)).2
    simp only [List.length_map, List.length_cons, List.length_nil] at this
    have : st.length * (27 + (0 + 1 + 1 + 1)) ≤ 4 * 30 := Nat.mul_le_mul hl (by decide)
    omega
/-! ### rows -/
theorem rows_join : ∀ ls : List (List Nat), (ls.map fun l => l ++ [10]).flatten = joinL [10] (ls ++ [[]])
  | [] => rfl
  | [l] => by simp [joinL]
  | l :: m :: r => by
    show (l ++ [10]) ++ ((m :: r).map fun l => l ++ [10]).flatten = l ++ ([10] ++ joinL [10] ((m :: r) ++ [[]]))
    rw [rows_join (m :: r), List.append_assoc]
theorem tl_tR (row : List (List Deed)) : tl (tR row) = joinL [10] (row.map (fun st => tl (tS st)) ++ [[]]) := by
  rw [show tR row = Txt.join "" (row.map fun st => tS st ++ "\n") from rfl, tl_joinE, ← rows_join, List.map_map, List.map_map]
  congr 1
  refine List.map_congr_left fun st _ => ?_
  show tl (tS st ++ "\n") = tl (tS st) ++ [10]
  rw [tl_append, tl_nl]
theorem row_split {row : List (List Deed)} (h : ∀ st ∈ row, 10 ∉ tl (tS st)) : Txt.split (tR row) "\n" = row.map tS ++ [("" : Str)] := by
  refine map_tl_inj ?_
  rw [split_spl _ ("\n" : Str) (by rw [tl_nl]; simp) (kind_ok (by decide +kernel)), tl_tR, tl_nl, spl_join (s := 10) (S := []) (by simp)]
  · rw [List.map_append, List.map_map]
    show _ = _ ++ [tl ("" : Str)]
    rw [tl_empty]
    rfl
  · intro p hp hc
    rcases List.mem_append.mp hp with hp | hp
    · obtain ⟨st, hs, rfl⟩ := List.mem_map.mp hp
      exact h st hs hc
    · simp at hp
      subst hp
      cases hc
theorem row_len {row : List (List Deed)} (h : ∀ st ∈ row, (tl (tS st)).length ≤ 120) : (tR row).length ≤ row.length * 121 + 121 := by
  have : (tR row).length = (tl (tR row)).length := len_tl _
  rw [this, tl_tR]
  have := len_join (S := [10]) (m := 120) (ps := row.map (fun st => tl (tS st)) ++ [[]]) fun p hp => by
    rcases List.mem_append.mp hp with hp | hp
    · obtain ⟨st, hs, rfl⟩ := List.mem_map.mp hp
      exact h st hs
    · simp at hp
      subst hp
      simp
  simp only [List.length_append, List.length_map, List.length_cons, List.length_nil] at this
  omega
end K91
namespace K91
open PySem L2 L3 TL
/-! ### the package's defs -/
theorem need_ok (x : PySem.Str) : F_need_text [.dat (.str x)] = some (.ok (.dat .non) [some (.dat (.str x))]) := by
  simp [F_need_text, fnSem, b_need_text, sIfS, S.thn, sNotT, S.bind, sTruth, sBlt, sCons, sNil, S.ret, sVar, sC, ress, L3.res, gIsi, C.toD, tyName, isiB, sSkip, backR]
theorem occ_letters : ∀ i, i < 26 → (!(Builtin.Str.occurrences letters ⟨#[97 + i]⟩ 0 letters.length 1).isEmpty) = true := by decide +kernel
theorem in_letters {c : Nat} (h : 97 ≤ c ∧ c ≤ 122) : gIn (.dat (.str ⟨#[c]⟩)) (.dat (.str letters)) = some (.dat (.bl true)) := by
  have := occ_letters (c - 97) (by omega)
  rw [show 97 + (c - 97) = c by omega] at this
  show some (C.dat (.bl (!(Builtin.Str.occurrences letters ⟨#[c]⟩ 0 letters.length 1).isEmpty))) = _
  rw [this]
theorem isi_val {fa : S R} {ρ : Ro} {d : D} {a n : String} {b : Bool} (h : fa ρ = some (.ok (.val (.dat d)) ρ)) (ha : tyName d = some a) (hb : isiB a n = some b) : sBlt gIsi (sCons fa (sCons (sC (.ty n)) sNil)) ρ = some (.ok (.val (.dat (.bl b))) ρ) := by
  refine blt_val (cs := [.dat d, .dat (.ty n)]) (cons_val h (cons_val (r := .val (.dat (.ty n))) rfl rfl)) ?_
  unfold gIsi
  simp [C.toD, ha, hb]
theorem len_str {fa : S R} {ρ : Ro} {x : Str} (h : fa ρ = some (.ok (.val (.dat (.str x))) ρ)) (hz : x.length ≤ sizeLine) : sBlt gLen (sCons fa sNil) ρ = some (.ok (.val (.dat (.int x.length))) ρ) := by
  refine blt_val (cs := [.dat (.str x)]) (cons_val h rfl) ?_
  unfold gLen
  simp [hz]
theorem len_tup {fa : S R} {ρ : Ro} {ds : List D} (h : fa ρ = some (.ok (.val (.dat (.tup ds))) ρ)) : sBlt gLen (sCons fa sNil) ρ = some (.ok (.val (.dat (.int ds.length))) ρ) := blt_val (cs := [.dat (.tup ds)]) (cons_val h rfl) rfl
theorem not_t {f : S Bool} {ρ ρ1 : Ro} {b : Bool} (h : f ρ = some (.ok b ρ1)) : sNotT f ρ = some (.ok (!b) ρ1) := by
  unfold sNotT; rw [S.bind_ok h]; rfl
theorem or_f {f g : S Bool} {ρ ρ1 : Ro} (h : f ρ = some (.ok false ρ1)) : sOrT f g ρ = g ρ1 := by
  unfold sOrT; rw [S.bind_ok h, if_neg Bool.false_ne_true]
theorem and_v {fa fb : S R} {ρ ρ1 : Ro} (h : fa ρ = some (.ok (.val (.dat (.bl true))) ρ1)) : sAndV fa fb ρ = fb ρ1 := by
  unfold sAndV; rw [S.bind_ok (tru_val h), if_pos rfl]
theorem bools_true : ∀ n, bools (List.replicate n (D.bl true)) = some (List.replicate n true)
  | 0 => rfl
  | n + 1 => by simp [List.replicate_succ, bools, bools_true n]
theorem map_const {α β : Type} (b : β) : ∀ l : List α, l.map (fun _ => b) = List.replicate l.length b
  | [] => rfl
  | _ :: l => by rw [List.map_cons, map_const b l, List.length_cons, List.replicate_succ]
theorem is_name_ok {x : Str} (g : GoodName x) : F_is_name [.dat (.str x)] = some (.ok (.dat (.bl true)) [some (.dat (.str x))]) := by
  obtain ⟨g1, g2, g3⟩ := g
  have hl : x.length = (tl x).length := len_tl x
  have v0 : sVar 0 [some (.dat (.str x)), none] = some (.ok (.val (.dat (.str x))) [some (.dat (.str x)), none]) := rfl
  have t1 : sNotT (sTruth (sBlt gIsi (sCons (sVar 0) (sCons (sC (.ty "str")) sNil)))) [some (.dat (.str x)), none] = some (.ok false [some (.dat (.str x)), none]) := not_t (b := true) (tru_val (isi_val (a := "str") v0 rfl rfl))
  have ch : sChain gLe gLe (sC (.int 1)) (sBlt gLen (sCons (sVar 0) sNil)) (sC (.int 8)) [some (.dat (.str x)), none] = some (.ok (.val (.dat (.bl true))) [some (.dat (.str x)), none]) := by
    have c1 : (1 : Int) ≤ (x.length : Int) := by rw [hl]; omega
    have c2 : (x.length : Int) ≤ 8 := by rw [hl]; omega
    unfold sChain
    rw [S.bind_ok (m := sC (.int 1)) (a := .val (.dat (.int 1))) (ρ' := [some (.dat (.str x)), none]) rfl, S.bind_ok (len_str v0 (small_line (by omega)))]
    simp [L3.res, gLe, gI2, c1, c2, S.bind, sC]
  have t2 : sNotT (sTruth (sChain gLe gLe (sC (.int 1)) (sBlt gLen (sCons (sVar 0) sNil)) (sC (.int 8)))) [some (.dat (.str x)), none] = some (.ok false [some (.dat (.str x)), none]) := not_t (tru_val ch)
  have lm : lcLoop (fgName 1) sYes (sOp2 gIn (sVar 1) (sC (.str letters))) [1] (signs x) [some (.dat (.str x)), none] = some ((signs x).map fun _ => .bl true, [some (.dat (.str x)), none]) := by
    refine lc_map rfl fun d hd => ?_
    unfold signs at hd
    obtain ⟨c, hc, rfl⟩ := List.mem_map.mp hd
    exact op_val (c1 := .dat (.str ⟨#[c]⟩)) rfl rfl (in_letters (g3 c hc))
  have lc := lc_ok (fi := sWalk (sVar 0)) (fe := sOp2 gIn (sVar 1) (sC (.str letters))) (j := 1) (ds := signs x) (ρ := [some (.dat (.str x)), none]) rfl (by rw [signs_length]; exact small_line (by have : x.cps.size = x.length := rfl; omega)) rfl lm rfl rfl
  have al : gAll [.own (dats ((signs x).map fun _ => D.bl true))] = some (.dat (.bl true)) := by
    unfold gAll
    simp only [lstOf_own, map_const, bools_true]
    congr 2
    simp
  refine fn1 (N := 2) (Z := []) (ρ' := [some (.dat (.str x)), none]) (by decide) ?_ rfl
  show b_is_name [some (.dat (.str x)), none] = _
  unfold b_is_name
  rw [seq_step (ρ1 := [some (.dat (.str x)), none]) (by rw [if_no (by rw [or_f t1]; exact t2)]; rfl)]
  exact ret_val (blt_val (cs := [.own (dats ((signs x).map fun _ => D.bl true))]) (cons_val (fr := sNil) lc rfl) al)
theorem in_ways : ∀ w ∈ ways, gIn (.dat (.str w)) (.dat (.tup [.str "n", .str "e", .str "s", .str "w"])) = some (.dat (.bl true)) := by
  have h : ∀ w ∈ ways, ([.str "n", .str "e", .str "s", .str "w"] : List D).any (fun z => eqF z (.str w)) = true := by decide +kernel
  intro w hw
  have e : inD (.str w) ([.str "n", .str "e", .str "s", .str "w"] : List D) = some true := by
    unfold inD
    rw [if_pos (by simp [scalD]), h w hw]
  unfold gIn
  simp only [seqOf, C.toD, e]
theorem is_way_ok {w : Str} (h : w ∈ ways) : F_is_way [.dat (.str w)] = some (.ok (.dat (.bl true)) [some (.dat (.str w))]) := by
  have v0 : sVar 0 [some (.dat (.str w))] = some (.ok (.val (.dat (.str w))) [some (.dat (.str w))]) := rfl
  refine fn1 (N := 1) (Z := []) (ρ' := [some (.dat (.str w))]) (by decide) ?_ rfl
  show b_is_way [some (.dat (.str w))] = _
  unfold b_is_way
  refine ret_val ?_
  rw [and_v (isi_val (a := "str") v0 rfl rfl)]
  exact op_val v0 rfl (in_ways w h)
/-! ### equality of such data -/
def pD : Deed → PyData
  | none => .none
  | some ws => .tuple (ws.map .str)
def pS (st : List Deed) : PyData := .tuple (st.map pD)
theorem toPys_strs : ∀ ws : List Str, toPys (ws.map D.str) = some (ws.map PyData.str)
  | [] => rfl
  | w :: ws => by simp [toPys, toPy, toPys_strs ws]
theorem toPy_dD : ∀ d : Deed, toPy (dD d) = some (pD d)
  | none => rfl
  | some ws => by simp [dD, toPy, toPys_strs, pD]
theorem toPys_dD : ∀ st : List Deed, toPys (st.map dD) = some (st.map pD)
  | [] => rfl
  | d :: st => by simp [toPys, toPy_dD, toPys_dD st]
theorem toPy_dS (st : List Deed) : toPy (dS st) = some (pS st) := by simp [dS, toPy, toPys_dD, pS]
theorem toPys_dS : ∀ row : List (List Deed), toPys (row.map dS) = some (row.map pS)
  | [] => rfl
  | st :: row => by simp [toPys, toPy_dS, toPys_dS row]
theorem eqv_strs : ∀ xs ys : List Str, PyData.eqvAll (xs.map .str) (ys.map .str) = decide (xs = ys)
  | [], [] => rfl
  | [], _ :: _ => rfl
  | _ :: _, [] => rfl
  | x :: xs, y :: ys => by
    simp only [List.map_cons, PyData.eqvAll, PyData.eqv, eqv_strs xs ys]
    by_cases h : x = y <;> simp [h]
theorem eqv_pD : ∀ a b : Deed, PyData.eqv (pD a) (pD b) = decide (a = b)
  | none, none => rfl
  | none, some _ => rfl
  | some _, none => rfl
  | some xs, some ys => by simp [pD, PyData.eqv, eqv_strs]
theorem eqv_pDs : ∀ xs ys : List Deed, PyData.eqvAll (xs.map pD) (ys.map pD) = decide (xs = ys)
  | [], [] => rfl
  | [], _ :: _ => rfl
  | _ :: _, [] => rfl
  | x :: xs, y :: ys => by
    simp only [List.map_cons, PyData.eqvAll, eqv_pD, eqv_pDs xs ys]
    by_cases h : x = y <;> simp [h]
theorem eqv_pS (a b : List Deed) : PyData.eqv (pS a) (pS b) = decide (a = b) := by simp [pS, PyData.eqv, eqv_pDs]
theorem eqv_pSs : ∀ xs ys : List (List Deed), PyData.eqvAll (xs.map pS) (ys.map pS) = decide (xs = ys)
  | [], [] => rfl
  | [], _ :: _ => rfl
  | _ :: _, [] => rfl
  | x :: xs, y :: ys => by
    simp only [List.map_cons, PyData.eqvAll, eqv_pS, eqv_pSs xs ys]
    by_cases h : x = y <;> simp [h]
theorem lay_strs {ws : List Str} (h : ∀ x ∈ ws, PyData.strOk x = true) : PyData.canLayAll0 (ws.map .str) = true := by
  induction ws with
  | nil => rfl
  | cons w ws ih =>
    simp only [List.map_cons, PyData.canLayAll0, PyData.canLay0, Bool.and_eq_true]
    exact ⟨h w (by simp), ih fun x hx => h x (List.mem_cons_of_mem _ hx)⟩
theorem strOk_of {x : Str} (h : ∀ c ∈ tl x, c < 1000) : PyData.strOk x = true := by
  unfold PyData.strOk
  rw [Array.all_eq_true]
  intro i hi
  have : x.cps[i] ∈ tl x := by simp [tl]
  have := h _ this
  simp
  omega
theorem lay_pD {d : Deed} (h : GoodDeed d) : (pD d).canLay0 = true := by
  cases d with
  | none => rfl
  | some ws =>
    obtain ⟨_, _, h3⟩ := good_words h
    exact lay_strs fun x hx => strOk_of fun c hc => by have := (h3 x hx).2.2 c hc; omega
theorem lay_pDs {st : List Deed} (h : ∀ d ∈ st, GoodDeed d) : PyData.canLayAll0 (st.map pD) = true := by
  induction st with
  | nil => rfl
  | cons w ws ih =>
    simp only [List.map_cons, PyData.canLayAll0, Bool.and_eq_true]
    exact ⟨lay_pD (h w (by simp)), ih fun x hx => h x (List.mem_cons_of_mem _ hx)⟩
theorem lay_pSs {row : List (List Deed)} (h : ∀ st ∈ row, ∀ d ∈ st, GoodDeed d) : PyData.canLayAll0 (row.map pS) = true := by
  induction row with
  | nil => rfl
  | cons w ws ih =>
    simp only [List.map_cons, PyData.canLayAll0, Bool.and_eq_true]
    exact ⟨lay_pDs (h w (by simp)), ih fun x hx => h x (List.mem_cons_of_mem _ hx)⟩
theorem dep_strs : ∀ ws : List Str, PyData.depthAll (ws.map .str) = 0
  | [] => rfl
  | w :: ws => by simp [PyData.depthAll, PyData.depth, dep_strs ws]
theorem dep_pD : ∀ d : Deed, (pD d).depth ≤ 1
  | none => by simp [pD, PyData.depth]
  | some ws => by simp [pD, PyData.depth, dep_strs]
theorem dep_pDs : ∀ st : List Deed, PyData.depthAll (st.map pD) ≤ 1
  | [] => by simp [PyData.depthAll]
  | d :: st => by
    have h1 := dep_pD d
    have h2 := dep_pDs st
    simp only [List.map_cons, PyData.depthAll]
    omega
theorem dep_pS (st : List Deed) : (pS st).depth ≤ 2 := by
  have := dep_pDs st
  simp only [pS, PyData.depth]
  omega
theorem dep_pSs : ∀ row : List (List Deed), PyData.depthAll (row.map pS) ≤ 2
  | [] => by simp [PyData.depthAll]
  | d :: st => by
    have h1 := dep_pS d
    have h2 := dep_pSs st
    simp only [List.map_cons, PyData.depthAll]
    omega
theorem eq_words {xs ys : List Str} (hx : ∀ x ∈ xs, PyData.strOk x = true) (hy : ∀ x ∈ ys, PyData.strOk x = true) : gEq (.dat (.tup (xs.map D.str))) (.dat (.tup (ys.map D.str))) = some (.dat (.bl (decide (xs = ys)))) := by
  unfold gEq C.toD eqD
  simp only [toPy, toPys_strs]
  have s : ∀ ws : List Str, (∀ x ∈ ws, PyData.strOk x = true) → SeqAt.shaped (.tuple (ws.map .str)) = true := fun ws h => by
    unfold SeqAt.shaped
    rw [Bool.and_eq_true]
    exact ⟨lay_strs h, by simp [PyData.depth, dep_strs]⟩
  rw [if_pos ⟨s xs hx, s ys hy⟩]
  simp [PyData.eqv, eqv_strs]
theorem eq_rows {xs ys : List (List Deed)} (hx : ∀ st ∈ xs, ∀ d ∈ st, GoodDeed d) (hy : ∀ st ∈ ys, ∀ d ∈ st, GoodDeed d) : gEq (.dat (.lst (xs.map dS))) (.dat (.lst (ys.map dS))) = some (.dat (.bl (decide (xs = ys)))) := by
  unfold gEq C.toD eqD
  simp only [toPy, toPys_dS]
  have s : ∀ ws : List (List Deed), (∀ st ∈ ws, ∀ d ∈ st, GoodDeed d) → SeqAt.shaped (.list (ws.map pS)) = true := fun ws h => by
    unfold SeqAt.shaped
    rw [Bool.and_eq_true]
    exact ⟨lay_pSs h, by have := dep_pSs ws; simp only [PyData.depth]; exact decide_eq_true (by omega)⟩
  rw [if_pos ⟨s xs hx, s ys hy⟩]
  simp [PyData.eqv, eqv_pSs]
theorem eq_strs {x y : Str} : gEq (.dat (.str x)) (.dat (.str y)) = some (.dat (.bl (decide (x = y)))) := rfl
theorem ne_strs {x y : Str} : gNe (.dat (.str x)) (.dat (.str y)) = some (.dat (.bl (!decide (x = y)))) := rfl
end K91
namespace K91
open PySem L2 L3 TL
theorem name_strOk {x : Str} (g : GoodName x) : PyData.strOk x = true := strOk_of fun c hc => by have := g.2.2 c hc; omega
theorem words_strOk {ws : List Str} (h : GoodDeed (some ws)) : ∀ x ∈ ws, PyData.strOk x = true := fun x hx => name_strOk ((good_words h).2.2 x hx)
/-- the first three tests of is_deed -/
theorem deed_tests {w0 : Str} {ws : List Str} (h : ∀ x ∈ w0 :: ws, PyData.strOk x = true) : sOrT (sNotT (sTruth (sBlt gIsi (sCons (sVar 0) (sCons (sC (.ty "tuple")) sNil))))) (sOrT (sTruth (sOp2 gEq (sVar 0) (sTup sNil))) (sNotT (sTruth (sBlt gIsi (sCons (sIx (sVar 0) (sC (.int 0))) (sCons (sC (.ty "str")) sNil))))))
    [some (.dat (.tup ((w0 :: ws).map D.str)))] = some (.ok false [some (.dat (.tup ((w0 :: ws).map D.str)))]) := by
  have v0 : sVar 0 [some (.dat (.tup ((w0 :: ws).map D.str)))] = some (.ok (.val (.dat (.tup ((w0 :: ws).map D.str)))) [some (.dat (.tup ((w0 :: ws).map D.str)))]) := rfl
  rw [or_f (not_t (b := true) (tru_val (isi_val (a := "tuple") v0 rfl rfl)))]
  have e1 := eq_words (xs := w0 :: ws) (ys := []) h (fun x hx => nomatch hx)
  have e2 : decide (w0 :: ws = ([] : List Str)) = false := decide_eq_false (by simp)
  rw [e2] at e1
  have tn : sTup sNil [some (.dat (.tup ((w0 :: ws).map D.str)))] = some (.ok (.val (.dat (.tup []))) [some (.dat (.tup ((w0 :: ws).map D.str)))]) := tup_val (ds := []) rfl (Nat.zero_le _)
  rw [or_f (tru_val (op_val v0 tn e1))]
  have ix : sIx (sVar 0) (sC (.int 0)) [some (.dat (.tup ((w0 :: ws).map D.str)))] = some (.ok (.val (.dat (.str w0))) [some (.dat (.tup ((w0 :: ws).map D.str)))]) := by
    refine ix_dat v0 rfl ?_
    unfold gIx
    simp [seqOf, L2.atI, ixN]
  exact not_t (b := true) (tru_val (isi_val (a := "str") ix rfl rfl))
theorem ix_tup {ds : List D} {i : Nat} {d : D} (h : ds[i]? = some d) : gIx (.dat (.tup ds)) (.dat (.int (i : Nat))) = some (.dat d) := by
  have hl : i < ds.length := (List.getElem?_eq_some_iff.mp h).1
  have e : L2.atI ds (i : Nat) = some d := by
    unfold L2.atI ixN
    rw [if_pos (by omega), if_pos (by omega)]
    show ds[((i : Nat) : Int).toNat]? = _
    rw [show ((i : Nat) : Int).toNat = i by omega, h]
  unfold gIx
  simp only [seqOf, e]
theorem is_deed_ok {ws : List Str} (h : GoodDeed (some ws)) : F_is_deed [.dat (.tup (ws.map D.str))] = some (.ok (.dat (.bl true)) [some (.dat (.tup (ws.map D.str)))]) := by
  have so := words_strOk h
  refine fn1 (N := 1) (Z := []) (ρ' := [some (.dat (.tup (ws.map D.str)))]) (by decide) ?_ rfl
  show b_is_deed [some (.dat (.tup (ws.map D.str)))] = _
  have hne : ∃ w0 r, ws = w0 :: r := by
    cases ws with
    | nil => exact absurd rfl (good_words h).1
    | cons w0 r => exact ⟨w0, r, rfl⟩
  obtain ⟨w0, r, rfl⟩ := hne
  have dt := deed_tests so
  have v0 : sVar 0 [some (.dat (.tup ((w0 :: r).map D.str)))] = some (.ok (.val (.dat (.tup ((w0 :: r).map D.str)))) [some (.dat (.tup ((w0 :: r).map D.str)))]) := rfl
  have ix0 : sIx (sVar 0) (sC (.int 0)) [some (.dat (.tup ((w0 :: r).map D.str)))] = some (.ok (.val (.dat (.str w0))) [some (.dat (.tup ((w0 :: r).map D.str)))]) := ix_dat v0 rfl (ix_tup (i := 0) rfl)
  have q1 : sTruth (sOp2 gEq (sIx (sVar 0) (sC (.int 0))) (sC (.str "push"))) [some (.dat (.tup ((w0 :: r).map D.str)))] = some (.ok (decide (w0 = ("push" : Str))) [some (.dat (.tup ((w0 :: r).map D.str)))]) := tru_val (op_val ix0 rfl eq_strs)
  have q2 : sTruth (sOp2 gEq (sIx (sVar 0) (sC (.int 0))) (sC (.str "turn"))) [some (.dat (.tup ((w0 :: r).map D.str)))] = some (.ok (decide (w0 = ("turn" : Str))) [some (.dat (.tup ((w0 :: r).map D.str)))]) := tru_val (op_val ix0 rfl eq_strs)
  unfold b_is_deed
  rw [seq_step (ρ1 := [some (.dat (.tup ((w0 :: r).map D.str)))]) (by rw [if_no dt]; rfl)]
  rcases h with ⟨x, w, gx, hw, e⟩ | ⟨x, gx, e⟩ | e
  · cases e
    refine seq_rt ?_
    rw [if_yes (by rw [q1, decide_eq_true rfl])]
    refine ret_val ?_
    rw [and_v (op_val (len_tup v0) rfl eq_int)]
    have c1 := call_d (fs := F_is_name) (fb := sIx (sVar 0) (sC (.int 1))) (ρ := [some (.dat (.tup ([("push" : Str), x, w].map D.str)))]) (ix_dat v0 rfl (ix_tup (i := 1) (d := .str x) rfl)) (is_name_ok gx)
    have c2 := call_d (fs := F_is_way) (fb := sIx (sVar 0) (sC (.int 2))) (ρ := [some (.dat (.tup ([("push" : Str), x, w].map D.str)))]) (ix_dat v0 rfl (ix_tup (i := 2) (d := .str w) rfl)) (is_way_ok hw)
    rw [and_v c1]
    exact c2
  · cases e
    rw [seq_step (ρ1 := [some (.dat (.tup ([("turn" : Str), x].map D.str)))]) (by rw [if_no (by rw [q1, show decide (("turn" : Str) = "push") = false by decide +kernel])]; rfl)]
    refine seq_rt ?_
    rw [if_yes (by rw [q2, decide_eq_true rfl])]
    refine ret_val ?_
    rw [and_v (op_val (len_tup v0) rfl eq_int)]
    exact call_d (fs := F_is_name) (fb := sIx (sVar 0) (sC (.int 1))) (ρ := [some (.dat (.tup ([("turn" : Str), x].map D.str)))]) (ix_dat v0 rfl (ix_tup (i := 1) (d := .str x) rfl)) (is_name_ok gx)
  · cases e
    rw [seq_step (ρ1 := [some (.dat (.tup ([("hold" : Str)].map D.str)))]) (by rw [if_no (by rw [q1, show decide (("hold" : Str) = "push") = false by decide +kernel])]; rfl)]
    rw [seq_step (ρ1 := [some (.dat (.tup ([("hold" : Str)].map D.str)))]) (by rw [if_no (by rw [q2, show decide (("hold" : Str) = "turn") = false by decide +kernel])]; rfl)]
    refine ret_val ?_
    have th : sTup (sCons (sC (.str "hold")) sNil) [some (.dat (.tup ([("hold" : Str)].map D.str)))] = some (.ok (.val (.dat (.tup ([("hold" : Str)].map D.str)))) [some (.dat (.tup ([("hold" : Str)].map D.str)))]) := tup_val (ds := [.str "hold"]) rfl (small_line (by simp))
    have e1 := eq_words (xs := [("hold" : Str)]) (ys := [("hold" : Str)]) so so
    rw [decide_eq_true rfl] at e1
    exact op_val v0 th e1
/-! ### the texts of deeds -/
theorem txts_strs : ∀ ws : List Str, txts (ws.map D.str) = some ws
  | [] => rfl
  | w :: ws => by simp only [List.map_cons, txts, txts_strs ws]
theorem sum_le {m : Nat} : ∀ {ws : List Str}, (∀ w ∈ ws, w.length ≤ m) → (ws.map (·.length)).sum ≤ ws.length * m
  | [], _ => by simp
  | w :: ws, h => by
    have h1 := h w (by simp)
    have h2 := sum_le (ws := ws) fun x hx => h x (List.mem_cons_of_mem _ hx)
    simp only [List.map_cons, List.sum_cons, List.length_cons, Nat.succ_mul]
    omega
theorem join_val {z : Str} {c : C} {ws : List Str} {m k : Nat} (hs : seqOf c = some (ws.map D.str)) (hw : ∀ w ∈ ws, w.length ≤ m) (hk : z.length ≤ k) (hz : ws.length * m + ws.length * k ≤ 16777216) : gJoin (.dat (.str z)) [c] = some (.dat (.str (Txt.join z ws))) := by
  unfold gJoin
  simp only [hs, txts_strs]
  have h1 := sum_le hw
  have h2 : ws.length * z.length ≤ ws.length * k := Nat.mul_le_mul_left _ hk
  rw [if_pos (by omega)]
theorem show_deed_ok {d : Deed} (h : GoodDeed d) : F_show_deed [.dat (dD d)] = some (.ok (.dat (.str (tD d))) [some (.dat (dD d))]) := by
  refine fn1 (N := 1) (Z := []) (ρ' := [some (.dat (dD d))]) (by decide) ?_ rfl
  show b_show_deed [some (.dat (dD d))] = _
  unfold b_show_deed
  cases d with
  | none => rfl
  | some ws =>
    obtain ⟨h1, h2, h3⟩ := good_words h
    rw [seq_step (ρ1 := [some (.dat (dD (some ws)))]) (by rw [if_no (ρ1 := [some (.dat (dD (some ws)))]) rfl]; rfl)]
    refine ret_val (m1_val (ρ1 := [some (.dat (dD (some ws)))]) rfl (ρ2 := [some (.dat (dD (some ws)))]) (c2 := .dat (.tup (ws.map D.str))) rfl ?_)
    refine join_val (m := 8) (k := 1) rfl (fun w hw => by rw [len_tl]; exact (h3 w hw).2.1) (by decide +kernel) ?_
    have : ws.length * 8 ≤ 3 * 8 := Nat.mul_le_mul_right _ h2
    omega
theorem read_deed_ok {d : Deed} (h : GoodDeed d) : F_read_deed [.dat (.str (tD d))] = some (.ok (.dat (dD d)) [some (.dat (.str (tD d)))]) := by
  have c0 := call_d (fs := F_need_text) (fb := sVar 0) (ρ := [some (.dat (.str (tD d))), none]) (ρ1 := [some (.dat (.str (tD d))), none]) (c' := .dat (.str (tD d))) rfl (need_ok _)
  have s0 : sDrop (sCall F_need_text (sCons (sVar 0) sNil)) [some (.dat (.str (tD d))), none] = some (.nx [some (.dat (.str (tD d))), none]) := by
    unfold sDrop; rw [S.thn_ok c0]
  have q : sTruth (sOp2 gEq (sVar 0) (sC (.str "-"))) [some (.dat (.str (tD d))), none] = some (.ok (decide (tD d = ("-" : Str))) [some (.dat (.str (tD d))), none]) := tru_val (op_val rfl rfl eq_strs)
  cases d with
  | none =>
    refine fn1 (N := 2) (Z := [1]) (ρ' := [some (.dat (.str (tD none))), none]) (by decide) ?_ rfl
    show b_read_deed [some (.dat (.str (tD none))), none] = _
    unfold b_read_deed
    rw [seq_step s0]
    refine seq_rt ?_
    rw [if_yes (by rw [q, show decide (tD none = ("-" : Str)) = true from decide_eq_true rfl])]
    exact ret_val rfl
  | some ws =>
    have sp : gSplit (.dat (.str (tD (some ws)))) [.dat (.str " ")] = some (.own (dats (ws.map D.str))) := by
      unfold gSplit
      dsimp only
      have h1 := (deed_signs h).2
      have hl : (tD (some ws)).length = (tl (tD (some ws))).length := len_tl _
      rw [if_pos ⟨by decide +kernel, small_line (by omega)⟩, deed_split h]
    have tv := blt_val (g := gTuple) (cs := [.own (dats (ws.map D.str))]) (cons_val (fr := sNil) (ρ := [some (.dat (.str (tD (some ws)))), none]) (m1_val (fa := sVar 0) (fb := sC (.str " ")) rfl rfl sp) rfl) (tuple_own _)
    have s1 := set_step1 (i := 1) tv (by simp)
    have c1 := call_d (fs := F_is_deed) (fb := sVar 1) (ρ := [some (.dat (.str (tD (some ws)))), some (.dat (.tup (ws.map D.str)))]) (ρ1 := [some (.dat (.str (tD (some ws)))), some (.dat (.tup (ws.map D.str)))]) (c' := .dat (.tup (ws.map D.str))) rfl (is_deed_ok h)
    refine fn1 (N := 2) (Z := [1]) (ρ' := [some (.dat (.str (tD (some ws)))), some (.dat (.tup (ws.map D.str)))]) (by decide) ?_ rfl
    show b_read_deed [some (.dat (.str (tD (some ws)))), none] = _
    unfold b_read_deed
    rw [seq_step s0, seq_step (ρ1 := [some (.dat (.str (tD (some ws)))), none]) (by rw [if_no (by rw [q, decide_eq_false (deed_no45 h)])]; rfl), seq_step s1]
    show sSeq _ _ [some (.dat (.str (tD (some ws)))), some (.dat (.tup (ws.map D.str)))] = _
    rw [seq_step (ρ1 := [some (.dat (.str (tD (some ws)))), some (.dat (.tup (ws.map D.str)))]) (by rw [if_no (not_t (tru_val c1))]; rfl)]
    exact ret_val rfl
end K91
namespace K91
open PySem L2 L3 TL
theorem walk_val {fa : S R} {ρ ρ1 : Ro} {d : D} {ds : List D} (h : fa ρ = some (.ok (.val (.dat d)) ρ1)) (hi : itemsOf d = some ds) : sWalk fa ρ = some (.ok ds ρ1) := by
  unfold sWalk
  rw [S.bind_ok h, S.bind_ok (m := sFrz (.val (.dat d))) (a := d) (ρ' := ρ1) rfl, hi]
theorem walk_own {fa : S R} {ρ ρ1 : Ro} {ds : List D} (h : fa ρ = some (.ok (.val (.own (dats ds))) ρ1)) : sWalk fa ρ = some (.ok ds ρ1) := by
  unfold sWalk
  rw [S.bind_ok h, S.bind_ok (m := sFrz (.val (.own (dats ds)))) (a := .lst ds) (ρ' := ρ1) (by show some (O.ok (C.toD (.own (dats ds))) ρ1) = _; rw [show C.toD (.own (dats ds)) = .lst (C.toDs (dats ds)) from rfl, toDs_dats])]
  rfl
theorem walk_slot {j : Nat} {ρ : Ro} {ds : List D} (h : ρ[j]? = some (some (.own (dats ds)))) : sWalk (sVar j) ρ = some (.ok ds (ρ.set j (some (.dat (.lst ds))))) := by
  have v : sVar j ρ = some (.ok (.slot j) ρ) := by unfold sVar; rw [h]
  unfold sWalk
  rw [S.bind_ok v, S.bind_ok (m := sFrz (.slot j)) (a := .lst ds) (ρ' := ρ.set j (some (.dat (.lst ds)))) (by
    show (match ρ[j]? with
      | some (some c) => some (O.ok c.toD (ρ.set j (some (.dat c.toD))))
      | _ => none) = _
    rw [h]
    dsimp only
    rw [show C.toD (.own (dats ds)) = .lst (C.toDs (dats ds)) from rfl, toDs_dats])]
  rfl
/-- a comprehension that changes nothing, over data at hand -/
theorem lcm {fi : S (List D)} {fe : S R} {j : Nat} {g : D → D} {ds : List D} {ρ ρ1 : Ro} (h1 : fi ρ = some (.ok ds ρ1)) (hz : ds.length ≤ sizeLine) (hj : ρ1[j]? = some none) (hf : ∀ d ∈ ds, fe (ρ1.set j (some (.dat d))) = some (.ok (.val (.dat (g d))) (ρ1.set j (some (.dat d))))) :
    sLc fi (fgName j) sYes fe [j] ρ = some (.ok (.val (.own (dats (ds.map g)))) ρ1) := lc_ok h1 hz hj (lc_map hj hf) hj rfl
theorem lcm2 {α : Type} {fi : S (List D)} {fe : S R} {j : Nat} {f g : α → D} {xs : List α} {ρ ρ1 : Ro} (h1 : fi ρ = some (.ok (xs.map f) ρ1)) (hz : xs.length ≤ sizeLine) (hj : ρ1[j]? = some none) (hf : ∀ x ∈ xs, fe (ρ1.set j (some (.dat (f x)))) = some (.ok (.val (.dat (g x))) (ρ1.set j (some (.dat (f x)))))) :
    sLc fi (fgName j) sYes fe [j] ρ = some (.ok (.val (.own (dats (xs.map g)))) ρ1) := by
  have lm : ∀ (xs : List α), (∀ x ∈ xs, fe (ρ1.set j (some (.dat (f x)))) = some (.ok (.val (.dat (g x))) (ρ1.set j (some (.dat (f x)))))) → lcLoop (fgName j) sYes fe [j] (xs.map f) ρ1 = some (xs.map g, ρ1) := fun xs => by
    induction xs with
    | nil => intro _; rfl
    | cons x xs ih =>
      intro hf
      have hl : j < ρ1.length := (List.getElem?_eq_some_iff.mp hj).1
      have hw : wipeR (ρ1.set j (some (.dat (f x)))) [j] = ρ1 := by
        show (ρ1.set j (some (.dat (f x)))).set j none = ρ1
        rw [List.set_set, set_same hj]
      refine lc_step (ρ1 := ρ1.set j (some (.dat (f x)))) (ρ2 := ρ1.set j (some (.dat (f x)))) (ρ3 := ρ1.set j (some (.dat (f x)))) ?_ rfl ?_ ?_
      · unfold fgName; rw [if_pos hl]
      · rw [S.bind_ok (hf x List.mem_cons_self)]; rfl
      · rw [hw]; exact ih fun y m => hf y (List.mem_cons_of_mem _ m)
  exact lc_ok h1 (by rw [List.length_map]; exact hz) hj (lm xs hf) hj rfl
theorem seqOf_texts (ws : List Str) : seqOf (.own (dats (ws.map D.str))) = some (ws.map D.str) := seqOf_own _
theorem show_stroke_ok {st : List Deed} (h : ∀ d ∈ st, GoodDeed d) (hl : st.length ≤ 4) : F_show_stroke [.dat (dS st)] = some (.ok (.dat (.str (tS st))) [some (.dat (dS st))]) := by
  have w := walk_val (fa := sVar 0) (ρ := [some (.dat (dS st)), none]) (ρ1 := [some (.dat (dS st)), none]) (d := dS st) (ds := st.map dD) rfl rfl
  have lc := lcm2 (fe := sCall F_show_deed (sCons (sVar 1) sNil)) (j := 1) (g := fun d => .str (tD d)) w (small_line (by omega)) rfl fun d hd => call_d (fb := sVar 1) (ρ := [some (.dat (dS st)), some (.dat (dD d))]) rfl (show_deed_ok (h d hd))
  refine fn1 (N := 2) (Z := []) (ρ' := [some (.dat (dS st)), none]) (by decide) ?_ rfl
  show b_show_stroke [some (.dat (dS st)), none] = _
  unfold b_show_stroke
  have e : st.map (fun d => D.str (tD d)) = (st.map tD).map D.str := by rw [List.map_map]; rfl
  rw [e] at lc
  refine ret_val (m1_val rfl lc ?_)
  refine join_val (m := 27) (k := 3) (seqOf_texts _) (fun x hx => ?_) (by decide +kernel) (by rw [List.length_map]; omega)
  obtain ⟨d, hd, rfl⟩ := List.mem_map.mp hx
  rw [len_tl]
  exact (deed_signs (h d hd)).2
theorem read_stroke_ok {st : List Deed} (h : ∀ d ∈ st, GoodDeed d) (hne : st ≠ []) (hl : st.length ≤ 4) : F_read_stroke [.dat (.str (tS st))] = some (.ok (.dat (dS st)) [some (.dat (.str (tS st)))]) := by
  have c0 := call_d (fs := F_need_text) (fb := sVar 0) (ρ := [some (.dat (.str (tS st))), none, none]) (ρ1 := [some (.dat (.str (tS st))), none, none]) (c' := .dat (.str (tS st))) rfl (need_ok _)
  have s0 : sDrop (sCall F_need_text (sCons (sVar 0) sNil)) [some (.dat (.str (tS st))), none, none] = some (.nx [some (.dat (.str (tS st))), none, none]) := by
    unfold sDrop; rw [S.thn_ok c0]
  have sp : gSplit (.dat (.str (tS st))) [.dat (.str " / ")] = some (.own (dats (st.map fun d => D.str (tD d)))) := by
    unfold gSplit
    dsimp only
    have h1 := (stroke_signs h hl).2
    have hl : (tS st).length = (tl (tS st)).length := len_tl _
    rw [if_pos ⟨by decide +kernel, small_line (by omega)⟩, stroke_split hne h, List.map_map]
    rfl
  have w := walk_own (fa := sM1 gSplit (sVar 0) (sC (.str " / "))) (ρ := [some (.dat (.str (tS st))), none, none]) (ρ1 := [some (.dat (.str (tS st))), none, none]) (m1_val (fa := sVar 0) (fb := sC (.str " / ")) rfl rfl sp)
  have lc := lcm2 (fe := sCall F_read_deed (sCons (sVar 2) sNil)) (j := 2) (g := dD) w (small_line (by omega)) rfl fun d hd => call_d (fb := sVar 2) (ρ := [some (.dat (.str (tS st))), none, some (.dat (.str (tD d)))]) rfl (read_deed_ok (h d hd))
  have tv := blt_val (g := gTuple) (cs := [.own (dats (st.map dD))]) (cons_val (fr := sNil) lc rfl) (tuple_own _)
  have s1 := set_step1 (i := 1) tv (by simp)
  have lt := len_tup (fa := sVar 1) (ρ := [some (.dat (.str (tS st))), some (.dat (dS st)), none]) (ds := st.map dD) rfl
  have q : sTruth (sOp2 gGt (sBlt gLen (sCons (sVar 1) sNil)) (sC (.int 4))) [some (.dat (.str (tS st))), some (.dat (dS st)), none] = some (.ok false [some (.dat (.str (tS st))), some (.dat (dS st)), none]) := by
    refine tru_val (op_val lt rfl ?_)
    rw [List.length_map]
    show some (C.dat (.bl (decide ((4 : Int) < ((st.length : Nat) : Int))))) = _
    rw [decide_eq_false (by omega)]
  refine fn1 (N := 3) (Z := [1]) (ρ' := [some (.dat (.str (tS st))), some (.dat (dS st)), none]) (by decide) ?_ rfl
  show b_read_stroke [some (.dat (.str (tS st))), none, none] = _
  unfold b_read_stroke
  rw [seq_step s0, seq_step s1]
  show sSeq _ _ [some (.dat (.str (tS st))), some (.dat (dS st)), none] = _
  rw [seq_step (ρ1 := [some (.dat (.str (tS st))), some (.dat (dS st)), none]) (by rw [if_no q]; rfl)]
  exact ret_val rfl
/-- what a row's strokes are -/
def GR (k : Nat) (row : List (List Deed)) : Prop := 1 ≤ k ∧ k ≤ 4 ∧ row.length ≤ 400 ∧ ∀ st ∈ row, GoodStroke k st
theorem GR.st {k : Nat} {row : List (List Deed)} (h : GR k row) {st : List Deed} (m : st ∈ row) : (∀ d ∈ st, GoodDeed d) ∧ st ≠ [] ∧ st.length ≤ 4 ∧ st.length = k := by
  obtain ⟨h1, h2, _, h3⟩ := h
  obtain ⟨l, g⟩ := h3 st m
  exact ⟨g, fun e => by subst e; simp at l; omega, by omega, l⟩
theorem GR.len {k : Nat} {row : List (List Deed)} (h : GR k row) : (tR row).length ≤ 100000 := by
  have := row_len (row := row) fun st m => (stroke_signs (h.st m).1 (h.st m).2.2.1).2
  have := h.2.2.1
  omega
theorem lines_of_ok {k : Nat} {row : List (List Deed)} (h : GR k row) : F_lines_of [.dat (.str (tR row))] = some (.ok (.dat (.lst (row.map fun st => .str (tS st)))) [some (.dat (.str (tR row)))]) := by
  have c0 := call_d (fs := F_need_text) (fb := sVar 0) (ρ := [some (.dat (.str (tR row))), none, none]) (ρ1 := [some (.dat (.str (tR row))), none, none]) (c' := .dat (.str (tR row))) rfl (need_ok _)
  have s0 : sDrop (sCall F_need_text (sCons (sVar 0) sNil)) [some (.dat (.str (tR row))), none, none] = some (.nx [some (.dat (.str (tR row))), none, none]) := by
    unfold sDrop; rw [S.thn_ok c0]
  have hln := h.len
  have sp : gSplit (.dat (.str (tR row))) [.dat (.str "\n")] = some (.own (dats (row.map (fun st => D.str (tS st)) ++ [D.str ""]))) := by
    unfold gSplit
    dsimp only
    rw [if_pos ⟨by decide +kernel, by rw [sizeLine_eq]; omega⟩, row_split fun st m => (stroke_signs (h.st m).1 (h.st m).2.2.1).1, List.map_append, List.map_map]
    rfl
  have mv := m1_val (fa := sVar 0) (fb := sC (.str "\n")) (ρ := [some (.dat (.str (tR row))), none, none]) (ρ1 := [some (.dat (.str (tR row))), none, none]) (ρ2 := [some (.dat (.str (tR row))), none, none]) rfl rfl sp
  have fg : fgStar 0 2 (fgCons (fgName 1) (fgCons (fgName 2) fgNil)) (.lst (row.map (fun st => D.str (tS st)) ++ [D.str ""])) [some (.dat (.str (tR row))), none, none] = some [some (.dat (.str (tR row))), some (.dat (.lst (row.map fun st => .str (tS st)))), some (.dat (.str ""))] := by
    unfold fgStar
    dsimp only
    rw [if_pos (by simp)]
    have e1 : (row.map (fun st => D.str (tS st)) ++ [D.str ""]).length - 0 - (2 - 1 - 0) = (row.map (fun st => D.str (tS st))).length := by simp
    rw [e1, List.drop_zero, List.take_left, List.drop_left]
    simp [fgCons, fgName, fgNil]
  have s1 : sAsg (sM1 gSplit (sVar 0) (sC (.str "\n"))) (fgStar 0 2 (fgCons (fgName 1) (fgCons (fgName 2) fgNil))) [some (.dat (.str (tR row))), none, none] = some (.nx [some (.dat (.str (tR row))), some (.dat (.lst (row.map fun st => .str (tS st)))), some (.dat (.str ""))]) := by
    unfold sAsg
    rw [S.thn_ok mv, S.thn_ok (m := sFrz (.val (.own (dats (row.map (fun st => D.str (tS st)) ++ [D.str ""]))))) (a := .lst (row.map (fun st => D.str (tS st)) ++ [D.str ""])) (ρ' := [some (.dat (.str (tR row))), none, none]) (by show some (O.ok (D.lst (C.toDs (dats _))) _) = _; rw [toDs_dats]), fg]
  have q : sTruth (sOp2 gNe (sVar 2) (sC (.str ""))) [some (.dat (.str (tR row))), some (.dat (.lst (row.map fun st => .str (tS st)))), some (.dat (.str ""))] = some (.ok false [some (.dat (.str (tR row))), some (.dat (.lst (row.map fun st => .str (tS st)))), some (.dat (.str ""))]) := by
    refine tru_val (op_val rfl rfl ?_)
    rw [ne_strs, decide_eq_true rfl]
    rfl
  refine fn1 (N := 3) (Z := [1, 2]) (ρ' := [some (.dat (.str (tR row))), some (.dat (.lst (row.map fun st => .str (tS st)))), some (.dat (.str ""))]) (by decide) ?_ rfl
  show b_lines_of [some (.dat (.str (tR row))), none, none] = _
  unfold b_lines_of
  rw [seq_step s0, seq_step s1, seq_step (ρ1 := [some (.dat (.str (tR row))), some (.dat (.lst (row.map fun st => .str (tS st)))), some (.dat (.str ""))]) (by rw [if_no q]; rfl)]
  exact ret_val rfl
end K91
namespace K91
open PySem L2 L3 TL
theorem add_strs {x y : Str} (h : x.length + y.length ≤ 1000000) : gAdd (.dat (.str x)) (.dat (.str y)) = some (.dat (.str (x ++ y))) := by
  show (if x.length + y.length ≤ sizeLine then _ else _) = _
  rw [if_pos (by rw [sizeLine_eq]; omega)]
theorem tS_len {st : List Deed} (h : ∀ d ∈ st, GoodDeed d) (hl : st.length ≤ 4) : (tS st).length ≤ 120 := by rw [len_tl]; exact (stroke_signs h hl).2
theorem nl_len : (Str.ofString "\n").length = 1 := by decide +kernel
theorem app_len (x y : Str) : (x ++ y).length = x.length + y.length := by rw [len_tl, len_tl x, len_tl y, tl_append, List.length_append]
/-- what show_row does behind the walk of its argument -/
theorem show_row_core {k : Nat} {row : List (List Deed)} (h : GR k row) {c : C} {o : Option C} (w : sWalk (sVar 0) [some c, none] = some (.ok (row.map dS) [o, none])) : b_show_row [some c, none] = some (.rt (.dat (.str (tR row))) [o, none]) := by
  have lc := lcm2 (fe := sOp2 gAdd (sCall F_show_stroke (sCons (sVar 1) sNil)) (sC (.str "\n"))) (j := 1) (g := fun st => .str (tS st ++ "\n")) w (small_line (by have := h.2.2.1; omega)) rfl fun st m => by
    obtain ⟨g, hne, hl, _⟩ := h.st m
    have c0 := call_d (fs := F_show_stroke) (fb := sVar 1) (ρ := [o, some (.dat (dS st))]) (ρ1 := [o, some (.dat (dS st))]) (c' := .dat (dS st)) rfl (show_stroke_ok g hl)
    have hs := tS_len g hl
    exact op_val c0 rfl (add_strs (by rw [nl_len]; omega))
  unfold b_show_row
  have e : row.map (fun st => D.str (tS st ++ "\n")) = (row.map fun st => tS st ++ "\n").map D.str := by rw [List.map_map]; rfl
  rw [e] at lc
  refine ret_val (m1_val rfl lc ?_)
  refine join_val (m := 121) (k := 0) (seqOf_texts _) (fun x hx => ?_) (by decide +kernel) (by rw [List.length_map]; have := h.2.2.1; omega)
  obtain ⟨st, m, rfl⟩ := List.mem_map.mp hx
  have hs := tS_len (h.st m).1 (h.st m).2.2.1
  rw [app_len, nl_len]
  omega
theorem show_row_ok {k : Nat} {row : List (List Deed)} (h : GR k row) : F_show_row [.dat (.lst (row.map dS))] = some (.ok (.dat (.str (tR row))) [some (.dat (.lst (row.map dS)))]) :=
  fn1 (N := 2) (Z := []) (ρ' := [some (.dat (.lst (row.map dS))), none]) (by decide) (show_row_core h (walk_val (fa := sVar 0) (ρ := [some (.dat (.lst (row.map dS))), none]) rfl rfl)) rfl
theorem nums_const (v : Int) : ∀ n, nums (List.replicate n (D.int v)) = some (List.replicate n v)
  | 0 => rfl
  | n + 1 => by simp [List.replicate_succ, nums, nums_const v n]
theorem addK_const (v : Int) : ∀ n, (List.replicate n v).foldl addK [v] = [v]
  | 0 => rfl
  | n + 1 => by
    rw [List.replicate_succ, List.foldl_cons]
    have : addK [v] v = [v] := by simp [addK]
    rw [this]
    exact addK_const v n
theorem addK_le (v : Int) (n : Nat) : ((List.replicate n v).foldl addK []).length ≤ 1 := by
  cases n with
  | zero => simp
  | succ n =>
    rw [List.replicate_succ, List.foldl_cons, show addK [] v = [v] from rfl, addK_const]
    simp
theorem read_row_ok {k : Nat} {row : List (List Deed)} (h : GR k row) : F_read_row [.dat (.str (tR row))] = some (.ok (.own (dats (row.map dS))) [some (.dat (.str (tR row)))]) := by
  have hlen := h.2.2.1
  have c0 := call_d (fs := F_lines_of) (fb := sVar 0) (ρ := [some (.dat (.str (tR row))), none, none, none]) (ρ1 := [some (.dat (.str (tR row))), none, none, none]) (c' := .dat (.str (tR row))) rfl (lines_of_ok h)
  have w := walk_val c0 (ds := row.map fun st => D.str (tS st)) rfl
  have lc := lcm2 (fe := sCall F_read_stroke (sCons (sVar 2) sNil)) (j := 2) (g := dS) w (small_line (by omega)) rfl fun st m => by
    obtain ⟨g, hne, hl, _⟩ := h.st m
    exact call_d (fb := sVar 2) (ρ := [some (.dat (.str (tR row))), none, some (.dat (.str (tS st))), none]) rfl (read_stroke_ok g hne hl)
  have s1 := set_step1 (i := 1) lc (by simp)
  have own : ownAt [some (.dat (.str (tR row))), some (.own (dats (row.map dS))), none, none] 1 = some (row.map dS) := undat_dats _
  have lm : lcLoop (fgName 3) sYes (sBlt gLen (sCons (sVar 3) sNil)) [3] (row.map dS) [some (.dat (.str (tR row))), none, none, none] = some ((row.map dS).map fun _ => .int (k : Nat), [some (.dat (.str (tR row))), none, none, none]) := by
    refine lc_map rfl fun d hd => ?_
    obtain ⟨st, m, rfl⟩ := List.mem_map.mp hd
    have lt := len_tup (fa := sVar 3) (ρ := [some (.dat (.str (tR row))), none, none, some (.dat (dS st))]) (ds := st.map dD) rfl
    rw [List.length_map, (h.st m).2.2.2] at lt
    exact lt
  have sc : sLenScO 1 (fgName 3) sYes (sBlt gLen (sCons (sVar 3) sNil)) [3] [some (.dat (.str (tR row))), some (.own (dats (row.map dS))), none, none] = some (.ok (.val (.dat (.int (((List.replicate (row.map dS).length ((k : Nat) : Int)).foldl addK []).length : Nat)))) [some (.dat (.str (tR row))), some (.own (dats (row.map dS))), none, none]) := by
    unfold sLenScO
    rw [own]
    dsimp only
    rw [if_pos (by rw [List.length_map]; omega)]
    have e : wipeR (List.set [some (.dat (.str (tR row))), some (.own (dats (row.map dS))), none, none] 1 none) [3] = ([some (.dat (.str (tR row))), none, none, none] : Ro) := rfl
    rw [e, lm]
    dsimp only
    rw [map_const, nums_const]
    dsimp only
    refine (if_pos ?_).trans ?_
    · rfl
    · rfl
  have q : sTruth (sOp2 gGt (sLenScO 1 (fgName 3) sYes (sBlt gLen (sCons (sVar 3) sNil)) [3]) (sC (.int 1))) [some (.dat (.str (tR row))), some (.own (dats (row.map dS))), none, none] = some (.ok false [some (.dat (.str (tR row))), some (.own (dats (row.map dS))), none, none]) := by
    refine tru_val (op_val sc rfl ?_)
    have := addK_le ((k : Nat) : Int) (row.map dS).length
    show some (C.dat (.bl (decide ((1 : Int) < _)))) = _
    rw [decide_eq_false (by omega)]
  refine fn1 (N := 4) (Z := [1]) (ρ' := [some (.dat (.str (tR row))), none, none, none]) (by decide) ?_ rfl
  show b_read_row [some (.dat (.str (tR row))), none, none, none] = _
  unfold b_read_row
  rw [seq_step s1]
  show sSeq _ _ [some (.dat (.str (tR row))), some (.own (dats (row.map dS))), none, none] = _
  rw [seq_step (ρ1 := [some (.dat (.str (tR row))), some (.own (dats (row.map dS))), none, none]) (by rw [if_no q]; rfl)]
  rfl
/-! ### the law's own texts -/
theorem joinL_app (S p q : List Nat) : ∀ r : List (List Nat), joinL S ((p ++ q) :: r) = p ++ joinL S (q :: r)
  | [] => rfl
  | r :: rs => by
    show (p ++ q) ++ (S ++ joinL S (r :: rs)) = p ++ (q ++ (S ++ joinL S (r :: rs)))
    rw [List.append_assoc]
theorem fold_join (y : Str) : ∀ (ws : List Str) (a : Str), ws.foldl (fun a w => a ++ y ++ w) a = Txt.join y (a :: ws)
  | [], a => by
    refine ext_tl ?_
    rw [tl_join2]
    rfl
  | w :: ws, a => by
    rw [List.foldl_cons, fold_join y ws]
    refine ext_tl ?_
    rw [tl_join2, tl_join2, List.map_cons, tl_append, tl_append, joinL_app]
    show (tl a ++ tl y) ++ _ = tl a ++ (tl y ++ _)
    rw [List.append_assoc]
theorem loop_nx {fg : D → Ro → Option Ro} {fb : SS} {d : D} {ds : List D} {ρ ρ1 ρ2 : Ro} (h1 : fg d ρ = some ρ1) (h2 : fb ρ1 = some (.nx ρ2)) : loopS fg fb (d :: ds) ρ = loopS fg fb ds ρ2 := by
  show (match fg d ρ with | none => none | some ρ1 => (match fb ρ1 with | some (.nx ρ2) => loopS fg fb ds ρ2 | some (.ct ρ2) => loopS fg fb ds ρ2 | some (.bk ρ2) => some (.nx ρ2) | o => o)) = _
  rw [h1]
  dsimp only
  rw [h2]
theorem sl_res {fa : S R} {fl fh : S (Option Int)} {ρ ρ1 ρ2 ρ3 : Ro} {r : R} {lo hi : Option Int} {c c' : C} (h1 : fa ρ = some (.ok r ρ1)) (h2 : fl ρ1 = some (.ok lo ρ2)) (h3 : fh ρ2 = some (.ok hi ρ3)) (h4 : L3.res r ρ3 = some c) (h5 : gSl c lo hi = some c') : sSl fa fl fh ρ = some (.ok (.val c') ρ3) := by
  unfold sSl
  rw [S.bind_ok h1, S.bind_ok h2, S.bind_ok h3, h4]
  dsimp only
  rw [h5]
theorem sp_len : (Str.ofString " ").length = 1 := by decide +kernel
theorem word_loop (d : D) : ∀ (ws : List Str) (a : Str) (o : Option C), (∀ w ∈ ws, w.length ≤ 8) → a.length + 9 * ws.length ≤ 1000 → ∃ o', loopS (fgName 2) (sSet 1 (sOp2 gAdd (sOp2 gAdd (sVar 1) (sC (.str " "))) (sVar 2))) (ws.map D.str) [some (.dat d), some (.dat (.str a)), o] = some (.nx [some (.dat d), some (.dat (.str (ws.foldl (fun a w => a ++ " " ++ w) a))), o'])
  | [], a, o, _, _ => ⟨o, rfl⟩
  | w :: ws, a, o, hw, hz => by
    have hw1 := hw w (by simp)
    simp only [List.length_cons] at hz
    have e1 : (a ++ Str.ofString " ").length = a.length + 1 := by rw [app_len, sp_len]
    have st : sSet 1 (sOp2 gAdd (sOp2 gAdd (sVar 1) (sC (.str " "))) (sVar 2)) [some (.dat d), some (.dat (.str a)), some (.dat (.str w))] = some (.nx [some (.dat d), some (.dat (.str (a ++ " " ++ w))), some (.dat (.str w))]) := set_step1 (ρ1 := [some (.dat d), some (.dat (.str a)), some (.dat (.str w))]) (op_val (ρ1 := [some (.dat d), some (.dat (.str a)), some (.dat (.str w))]) (op_val (ρ1 := [some (.dat d), some (.dat (.str a)), some (.dat (.str w))]) rfl rfl (add_strs (by rw [sp_len]; omega))) rfl (add_strs (by rw [e1]; omega))) (by simp)
    obtain ⟨o', ih⟩ := word_loop d ws (a ++ " " ++ w) (some (.dat (.str w))) (fun x hx => hw x (List.mem_cons_of_mem _ hx)) (by rw [app_len, e1]; omega)
    refine ⟨o', ?_⟩
    rw [List.map_cons, loop_nx rfl st]
    exact ih
theorem deed_text_ok {d : Deed} (h : GoodDeed d) : F__law_deed_text [.dat (dD d)] = some (.ok (.dat (.str (tD d))) [some (.dat (dD d))]) := by
  cases d with
  | none =>
    refine fn1 (N := 3) (Z := [1, 2]) (ρ' := [some (.dat (dD none)), none, none]) (by decide) ?_ rfl
    show b__law_deed_text [some (.dat (dD none)), none, none] = _
    unfold b__law_deed_text
    exact seq_rt (by rw [if_yes (ρ1 := [some (.dat (dD none)), none, none]) rfl]; rfl)
  | some ws =>
    obtain ⟨h1, h2, h3⟩ := good_words h
    have hne : ∃ w0 r, ws = w0 :: r := by
      cases ws with
      | nil => exact absurd rfl h1
      | cons w0 r => exact ⟨w0, r, rfl⟩
    obtain ⟨w0, r, rfl⟩ := hne
    have v0 : ∀ o1 o2, sVar 0 [some (.dat (dD (some (w0 :: r)))), o1, o2] = some (.ok (.val (.dat (.tup ((w0 :: r).map D.str)))) [some (.dat (dD (some (w0 :: r)))), o1, o2]) := fun _ _ => rfl
    have s1 : sSet 1 (sIx (sVar 0) (sC (.int 0))) [some (.dat (dD (some (w0 :: r)))), none, none] = some (.nx [some (.dat (dD (some (w0 :: r)))), some (.dat (.str w0)), none]) := set_step1 (ρ1 := [some (.dat (dD (some (w0 :: r)))), none, none]) (ix_dat (v0 none none) rfl (ix_tup (i := 0) rfl)) (by simp)
    have sl : sSl (sVar 0) (sPart (sC (.int 1))) sNoPart [some (.dat (dD (some (w0 :: r)))), some (.dat (.str w0)), none] = some (.ok (.val (.dat (.tup (r.map D.str)))) [some (.dat (dD (some (w0 :: r)))), some (.dat (.str w0)), none]) := by
      have e : cutL ((w0 :: r).map D.str) (some 1) none = r.map D.str := by
        unfold cutL
        rw [HT.sIx_none, show (some (1 : Int)) = some ((1 : Nat) : Int) from rfl, HT.sIx_nat]
        simp [List.take_of_length_le]
      refine sl_res (v0 _ _) (lo := some 1) rfl (hi := none) rfl (c := .dat (.tup ((w0 :: r).map D.str))) rfl ?_
      rw [show gSl (.dat (.tup ((w0 :: r).map D.str))) (some 1) none = some (.dat (.tup (cutL ((w0 :: r).map D.str) (some 1) none))) from rfl, e]
    have w := walk_val sl (ds := r.map D.str) rfl
    have hl0 : ∀ x ∈ w0 :: r, x.length ≤ 8 := fun x hx => by rw [len_tl]; exact (h3 x hx).2.1
    obtain ⟨o', lp⟩ := word_loop (dD (some (w0 :: r))) r w0 none (fun x hx => hl0 x (List.mem_cons_of_mem _ hx)) (by have := hl0 w0 (by simp); simp only [List.length_cons] at h2; omega)
    have sf : sFor (sWalk (sSl (sVar 0) (sPart (sC (.int 1))) sNoPart)) (fgName 2) (sSet 1 (sOp2 gAdd (sOp2 gAdd (sVar 1) (sC (.str " "))) (sVar 2))) [some (.dat (dD (some (w0 :: r)))), some (.dat (.str w0)), none] = some (.nx [some (.dat (dD (some (w0 :: r)))), some (.dat (.str (tD (some (w0 :: r))))), o']) := by
      unfold sFor
      rw [S.thn_ok w, lp, fold_join]
      rfl
    refine fn1 (N := 3) (Z := [1, 2]) (ρ' := [some (.dat (dD (some (w0 :: r)))), some (.dat (.str (tD (some (w0 :: r))))), o']) (by decide) ?_ rfl
    show b__law_deed_text [some (.dat (dD (some (w0 :: r)))), none, none] = _
    unfold b__law_deed_text
    rw [seq_step (ρ1 := [some (.dat (dD (some (w0 :: r)))), none, none]) (by rw [if_no (ρ1 := [some (.dat (dD (some (w0 :: r)))), none, none]) rfl]; rfl), seq_step s1, seq_step sf]
    exact ret_val rfl
end K91
namespace K91
open PySem L2 L3 TL
theorem empty_len : (Str.ofString "").length = 0 := by decide +kernel
theorem bt_len : (Str.ofString " / ").length = 3 := by decide +kernel
theorem rep0 : strRep (" / " : Str) 0 = "" := by
  refine ext_tl ?_
  rw [tl_empty]
  rfl
theorem rep1 : strRep (" / " : Str) 1 = " / " := by
  refine ext_tl ?_
  unfold strRep
  simp [tl]
theorem mul_bt (b : Bool) : gMul (.dat (.str " / ")) (.dat (.int (if b = true then 1 else 0))) = some (.dat (.str (if b = true then (" / " : Str) else ("" : Str)))) := by
  cases b with
  | true =>
    rw [if_pos rfl, if_pos rfl]
    show (if -1000000 ≤ (1 : Int) ∧ (1 : Int) ≤ 1000000 ∧ (Str.ofString " / ").length * (1 : Int).toNat ≤ sizeLine then some (C.dat (.str (strRep (" / " : Str) (1 : Int).toNat))) else none) = _
    rw [if_pos ⟨by decide, by decide, by rw [bt_len, sizeLine_eq]; decide⟩, show (1 : Int).toNat = 1 from rfl, rep1]
  | false =>
    rw [if_neg Bool.false_ne_true, if_neg Bool.false_ne_true]
    show (if -1000000 ≤ (0 : Int) ∧ (0 : Int) ≤ 1000000 ∧ (Str.ofString " / ").length * (0 : Int).toNat ≤ sizeLine then some (C.dat (.str (strRep (" / " : Str) (0 : Int).toNat))) else none) = _
    rw [if_pos ⟨by decide, by decide, by rw [bt_len, sizeLine_eq]; decide⟩, show (0 : Int).toNat = 0 from rfl, rep0]
theorem empty_app (x : Str) : ("" : Str) ++ ("" : Str) ++ x = x := by
  refine ext_tl ?_
  rw [tl_append, tl_append, tl_empty]
  rfl
theorem deed_ne {d : Deed} (h : GoodDeed d) : tD d ≠ "" := by
  intro e
  cases d with
  | none => exact absurd e (by decide +kernel)
  | some ws =>
    obtain ⟨h1, h2, h3⟩ := good_words h
    have e2 : tl (tD (some ws)) = [] := by rw [e, tl_empty]
    rw [show tD (some ws) = Txt.join " " ws from rfl, tl_join2] at e2
    cases ws with
    | nil => exact h1 rfl
    | cons w r =>
      have hw := (h3 w (by simp)).1
      have hz : tl w = [] := by
        cases r with
        | nil => exact e2
        | cons q r =>
          have e3 : tl w ++ (tl (" " : Str) ++ joinL (tl (" " : Str)) ((q :: r).map tl)) = [] := e2
          exact (List.append_eq_nil_iff.mp e3).1
      rw [hz] at hw
      simp at hw
/-- one deed more in a line -/
def lineStep (a : Str) (d : Deed) : Str := a ++ (if decide (a = ("" : Str)) = false then (" / " : Str) else ("" : Str)) ++ tD d
def bLine : SS := (sSet 3 (sOp2 gAdd (sOp2 gAdd (sVar 3) (sOp2 gMul (sC (.str " / ")) (sBlt gInt1 (sCons (sOp2 gNe (sVar 3) (sC (.str ""))) sNil)))) (sCall F__law_deed_text (sCons (sVar 4) sNil))))
theorem line_loop (o0 o1 o2 : Option C) : ∀ (st : List Deed) (a : Str) (o : Option C), (∀ d ∈ st, GoodDeed d) → a.length + 30 * st.length ≤ 10000 → ∃ o', loopS (fgName 4) bLine (st.map dD) [o0, o1, o2, some (.dat (.str a)), o] = some (.nx [o0, o1, o2, some (.dat (.str (st.foldl lineStep a))), o'])
  | [], a, o, _, _ => ⟨o, rfl⟩
  | d :: st, a, o, h, hz => by
    have gd := h d (by simp)
    simp only [List.length_cons] at hz
    have td : (tD d).length ≤ 27 := by rw [len_tl]; exact (deed_signs gd).2
    have sp : (if decide (a = ("" : Str)) = false then (" / " : Str) else ("" : Str)).length ≤ 3 := by
      split
      · rw [bt_len]; omega
      · exact Nat.le_trans (by decide +kernel) (Nat.zero_le 3)
    have la : (a ++ (if decide (a = ("" : Str)) = false then (" / " : Str) else ("" : Str))).length ≤ a.length + 3 := by rw [app_len]; omega
    have ll : (lineStep a d).length ≤ a.length + 30 := by unfold lineStep; rw [app_len]; omega
    have ne := op_val (fa := sVar 3) (fb := sC (.str "")) (ρ := [o0, o1, o2, some (.dat (.str a)), some (.dat (dD d))]) (ρ1 := [o0, o1, o2, some (.dat (.str a)), some (.dat (dD d))]) (ρ2 := [o0, o1, o2, some (.dat (.str a)), some (.dat (dD d))]) (c1 := .dat (.str a)) (c2 := .dat (.str "")) rfl rfl ne_strs
    have ii := blt_val (g := gInt1) (cs := [.dat (.bl (!decide (a = ("" : Str))))]) (c := .dat (.int (if (!decide (a = ("" : Str))) = true then 1 else 0))) (cons_val (fr := sNil) ne rfl) rfl
    have mm := op_val (fa := sC (.str " / ")) (ρ := [o0, o1, o2, some (.dat (.str a)), some (.dat (dD d))]) (c1 := .dat (.str " / ")) rfl ii (mul_bt _)
    have eb : (if (!decide (a = ("" : Str))) = true then (" / " : Str) else ("" : Str)) = (if decide (a = ("" : Str)) = false then (" / " : Str) else ("" : Str)) := by
      cases decide (a = ("" : Str)) <;> rfl
    rw [eb] at mm
    have a1 := op_val (fa := sVar 3) (ρ := [o0, o1, o2, some (.dat (.str a)), some (.dat (dD d))]) (c1 := .dat (.str a)) rfl mm (add_strs (by omega))
    have c0 := call_d (fs := F__law_deed_text) (fb := sVar 4) (ρ := [o0, o1, o2, some (.dat (.str a)), some (.dat (dD d))]) (ρ1 := [o0, o1, o2, some (.dat (.str a)), some (.dat (dD d))]) (c' := .dat (dD d)) rfl (deed_text_ok gd)
    have a2 := op_val a1 c0 (add_strs (by omega))
    have s : bLine [o0, o1, o2, some (.dat (.str a)), some (.dat (dD d))] = some (.nx [o0, o1, o2, some (.dat (.str (lineStep a d))), some (.dat (dD d))]) := set_step1 a2 (by simp)
    obtain ⟨o', ih⟩ := line_loop o0 o1 o2 st (lineStep a d) (some (.dat (dD d))) (fun x hx => h x (List.mem_cons_of_mem _ hx)) (by omega)
    refine ⟨o', ?_⟩
    rw [List.map_cons, loop_nx rfl s]
    exact ih
theorem line_fold : ∀ (st : List Deed) (a : Str), a ≠ "" → (∀ d ∈ st, GoodDeed d) → st.foldl lineStep a = (st.map tD).foldl (fun (a : Str) (w : Str) => a ++ (" / " : Str) ++ w) a
  | [], a, _, _ => rfl
  | d :: st, a, ha, h => by
    have e : lineStep a d = a ++ " / " ++ tD d := by
      unfold lineStep
      rw [decide_eq_false ha, if_pos rfl]
    rw [List.foldl_cons, e, List.map_cons, List.foldl_cons]
    refine line_fold st _ (fun z => ?_) fun x hx => h x (List.mem_cons_of_mem _ hx)
    have : tl (a ++ " / " ++ tD d) = [] := by rw [z, tl_empty]
    rw [tl_append] at this
    exact deed_ne (h d (by simp)) (ext_tl (by rw [(List.append_eq_nil_iff.mp this).2, tl_empty]))
theorem line_ok {st : List Deed} (hne : st ≠ []) (h : ∀ d ∈ st, GoodDeed d) : st.foldl lineStep "" = tS st := by
  cases st with
  | nil => exact absurd rfl hne
  | cons d st =>
    have e : lineStep "" d = tD d := by
      unfold lineStep
      rw [decide_eq_true rfl, if_neg (by decide), empty_app]
    rw [List.foldl_cons, e, line_fold st _ (deed_ne (h d (by simp))) fun x hx => h x (List.mem_cons_of_mem _ hx), fold_join]
    rfl
def bRow : SS := (sSeq (sSet 3 (sC (.str "")))
  (sSeq (sFor (sWalk (sVar 2)) (fgName 4) bLine)
  (sSet 1 (sOp2 gAdd (sOp2 gAdd (sVar 1) (sVar 3)) (sC (.str "\n"))))))
theorem row_loopT {k : Nat} (o0 : Option C) : ∀ (row : List (List Deed)) (a : Str) (o2 o3 o4 : Option C), GR k row → a.length + 121 * row.length ≤ 100000 → ∃ o2' o3' o4', loopS (fgName 2) bRow (row.map dS) [o0, some (.dat (.str a)), o2, o3, o4] = some (.nx [o0, some (.dat (.str (row.foldl (fun (a : Str) st => a ++ tS st ++ ("\n" : Str)) a))), o2', o3', o4'])
  | [], a, o2, o3, o4, _, _ => ⟨o2, o3, o4, rfl⟩
  | st :: row, a, o2, o3, o4, h, hz => by
    simp only [List.length_cons] at hz
    obtain ⟨g, hne, hl, _⟩ := h.st (st := st) (by simp)
    have hs := tS_len g hl
    obtain ⟨o4', lp⟩ := line_loop o0 (some (.dat (.str a))) (some (.dat (dS st))) st "" o4 g (by rw [empty_len]; omega)
    rw [line_ok hne g] at lp
    have w := walk_val (fa := sVar 2) (ρ := [o0, some (.dat (.str a)), some (.dat (dS st)), some (.dat (.str "")), o4]) (ρ1 := [o0, some (.dat (.str a)), some (.dat (dS st)), some (.dat (.str "")), o4]) (d := dS st) (ds := st.map dD) rfl rfl
    have sf : sFor (sWalk (sVar 2)) (fgName 4) bLine [o0, some (.dat (.str a)), some (.dat (dS st)), some (.dat (.str "")), o4] = some (.nx [o0, some (.dat (.str a)), some (.dat (dS st)), some (.dat (.str (tS st))), o4']) := by
      unfold sFor
      rw [S.thn_ok w, lp]
    have a1 := op_val (fa := sVar 1) (fb := sVar 3) (ρ := [o0, some (.dat (.str a)), some (.dat (dS st)), some (.dat (.str (tS st))), o4']) (ρ1 := [o0, some (.dat (.str a)), some (.dat (dS st)), some (.dat (.str (tS st))), o4']) (ρ2 := [o0, some (.dat (.str a)), some (.dat (dS st)), some (.dat (.str (tS st))), o4']) (c1 := .dat (.str a)) (c2 := .dat (.str (tS st))) rfl rfl (add_strs (by omega))
    have a2 := op_val (fb := sC (.str "\n")) a1 rfl (add_strs (y := "\n") (by rw [app_len, nl_len]; omega))
    have b1 : bRow [o0, some (.dat (.str a)), some (.dat (dS st)), o3, o4] = some (.nx [o0, some (.dat (.str (a ++ tS st ++ "\n"))), some (.dat (dS st)), some (.dat (.str (tS st))), o4']) := by
      unfold bRow
      rw [seq_step (ρ1 := [o0, some (.dat (.str a)), some (.dat (dS st)), some (.dat (.str "")), o4]) rfl, seq_step sf]
      exact set_step1 a2 (by simp)
    have h' : GR k row := ⟨h.1, h.2.1, by have := h.2.2.1; simp at this; omega, fun x hx => h.2.2.2 x (List.mem_cons_of_mem _ hx)⟩
    obtain ⟨p2, p3, p4, ih⟩ := row_loopT o0 row (a ++ tS st ++ "\n") (some (.dat (dS st))) (some (.dat (.str (tS st)))) o4' h' (by rw [app_len, app_len, nl_len]; omega)
    refine ⟨p2, p3, p4, ?_⟩
    rw [List.map_cons, loop_nx rfl b1]
    exact ih
theorem row_fold (row : List (List Deed)) : row.foldl (fun (a : Str) st => a ++ tS st ++ ("\n" : Str)) "" = tR row := by
  have g : ∀ (row : List (List Deed)) (a : Str), tl (row.foldl (fun (a : Str) st => a ++ tS st ++ ("\n" : Str)) a) = tl a ++ (row.map fun st => tl (tS st ++ "\n")).flatten := fun row => by
    induction row with
    | nil => intro a; simp
    | cons st row ih =>
      intro a
      rw [List.foldl_cons, ih, List.map_cons, List.flatten_cons, tl_append, tl_append, tl_append]
      simp
  refine ext_tl ?_
  rw [g, tl_empty, show tR row = Txt.join "" (row.map fun st => tS st ++ "\n") from rfl, tl_joinE, List.map_map]
  rfl
theorem law_text_core {k : Nat} {row : List (List Deed)} (h : GR k row) {c : C} {o : Option C} (w : sWalk (sVar 0) [some c, some (.dat (.str "")), none, none, none] = some (.ok (row.map dS) [o, some (.dat (.str "")), none, none, none])) :
    ∃ o2 o3 o4, b__law_text [some c, none, none, none, none] = some (.rt (.dat (.str (tR row))) [o, some (.dat (.str (tR row))), o2, o3, o4]) := by
  obtain ⟨o2, o3, o4, lp⟩ := row_loopT (k := k) o row "" none none none h (by rw [empty_len]; have := h.2.2.1; omega)
  rw [row_fold] at lp
  refine ⟨o2, o3, o4, ?_⟩
  have sf : sFor (sWalk (sVar 0)) (fgName 2) bRow [some c, some (.dat (.str "")), none, none, none] = some (.nx [o, some (.dat (.str (tR row))), o2, o3, o4]) := by
    unfold sFor
    rw [S.thn_ok w, lp]
  have e : b__law_text = sSeq (sSet 1 (sC (.str ""))) (sSeq (sFor (sWalk (sVar 0)) (fgName 2) bRow) (sRet (sVar 1))) := rfl
  rw [e, seq_step (ρ1 := [some c, some (.dat (.str "")), none, none, none]) rfl, seq_step sf]
  exact ret_val rfl
theorem law_text_ok {k : Nat} {row : List (List Deed)} (h : GR k row) : F__law_text [.dat (.lst (row.map dS))] = some (.ok (.dat (.str (tR row))) [some (.dat (.lst (row.map dS)))]) := by
  obtain ⟨o2, o3, o4, e⟩ := law_text_core h (c := .dat (.lst (row.map dS))) (walk_val (fa := sVar 0) rfl rfl)
  exact fn1 (N := 5) (Z := [1, 2, 3, 4]) (by decide) e rfl
theorem law_text_own {k : Nat} {row : List (List Deed)} (h : GR k row) : F__law_text [.own (dats (row.map dS))] = some (.ok (.dat (.str (tR row))) [some (.dat (.lst (row.map dS)))]) := by
  obtain ⟨o2, o3, o4, e⟩ := law_text_core h (c := .own (dats (row.map dS))) (walk_slot rfl)
  exact fn1 (N := 5) (Z := [1, 2, 3, 4]) (by decide) e rfl
end K91
namespace K91
open PySem L2 L3 TL
/-- data that repr shows -/
structure Sh (m : Nat) (p : PyData) : Prop where
  lay : p.canLay0 = true
  ish : p.intsShort 13 = true
  sho : p.showable = true
  dic : p.hasDict = false
  dep : p.depth ≤ 5
  wt : p.weight ≤ m
theorem repr_val {m : Nat} {c : C} {p : PyData} (h : toPy c.toD = some p) (s : Sh m p) (hm : m ≤ 1000000) : gRepr [c] = some (.dat (.str p.shown)) := by
  unfold gRepr
  simp only [h]
  rw [if_pos ⟨s.sho, s.dic, by have := s.dep; omega, PyData.shown_fits (B := 13) (by decide) (by decide) (PyData.leavesShort_of_canLay0 13 p s.lay s.ish) (Nat.le_trans s.wt (Nat.le_trans hm (by decide)))⟩]
theorem sh_str {x : Str} {m : Nat} (h : ∀ c ∈ tl x, c < 1000) (hl : x.length ≤ m) : Sh m (.str x) := ⟨strOk_of h, rfl, rfl, rfl, by simp [PyData.depth], hl⟩
theorem sho_strs : ∀ ws : List Str, PyData.showableAll (ws.map .str) = true
  | [] => rfl
  | w :: ws => by simp [PyData.showableAll, PyData.showable, sho_strs ws]
theorem dic_strs : ∀ ws : List Str, PyData.hasDictAll (ws.map .str) = false
  | [] => rfl
  | w :: ws => by simp [PyData.hasDictAll, PyData.hasDict, dic_strs ws]
theorem wt_strs : ∀ {ws : List Str}, (∀ w ∈ ws, w.length ≤ 8) → PyData.weightAll (ws.map .str) ≤ ws.length * 9
  | [], _ => by simp [PyData.weightAll]
  | w :: ws, h => by
    have h1 := h w (by simp)
    have h2 := wt_strs (ws := ws) fun x hx => h x (List.mem_cons_of_mem _ hx)
    have h3 : w.cps.size = w.length := rfl
    simp only [List.map_cons, PyData.weightAll, PyData.weight, List.length_cons]
    omega
theorem sh_deed {d : Deed} (h : GoodDeed d) : Sh 27 (pD d) := by
  cases d with
  | none => exact ⟨rfl, rfl, rfl, rfl, by simp [pD, PyData.depth], by simp [pD, PyData.weight]⟩
  | some ws =>
    obtain ⟨h1, h2, h3⟩ := good_words h
    have w := wt_strs (ws := ws) fun x hx => by rw [len_tl]; exact (h3 x hx).2.1
    exact ⟨lay_pD h, PyData.intsShortAll_strs 13 ws, sho_strs ws, dic_strs ws, by have := dep_pD (some ws); omega, by simp only [pD, PyData.weight]; omega⟩
theorem sh_all {α : Type} {m n : Nat} {f : α → PyData} : ∀ {xs : List α}, (∀ x ∈ xs, Sh m (f x)) → xs.length ≤ n → PyData.canLayAll0 (xs.map f) = true ∧ PyData.intsShortAll 13 (xs.map f) = true ∧ PyData.showableAll (xs.map f) = true ∧ PyData.hasDictAll (xs.map f) = false ∧ PyData.weightAll (xs.map f) ≤ xs.length * (m + 1)
  | [], _, _ => ⟨rfl, rfl, rfl, rfl, by simp [PyData.weightAll]⟩
  | x :: xs, h, hl => by
    have hx := h x (by simp)
    obtain ⟨a, b, c, d, e⟩ := sh_all (m := m) (n := n) (f := f) (xs := xs) (fun y hy => h y (List.mem_cons_of_mem _ hy)) (by simp at hl; omega)
    have := hx.wt
    refine ⟨by simp [PyData.canLayAll0, hx.lay, a], by simp [PyData.intsShortAll, hx.ish, b], by simp [PyData.showableAll, hx.sho, c], by simp [PyData.hasDictAll, hx.dic, d], ?_⟩
    simp only [List.map_cons, PyData.weightAll, List.length_cons, Nat.succ_mul]
    omega
theorem sh_stroke {st : List Deed} (h : ∀ d ∈ st, GoodDeed d) (hl : st.length ≤ 4) : Sh 112 (pS st) := by
  obtain ⟨a, b, c, d, e⟩ := sh_all (m := 27) (n := 4) (f := pD) (xs := st) (fun x hx => sh_deed (h x hx)) hl
  exact ⟨a, b, c, d, by have := dep_pS st; omega, by simp only [pS, PyData.weight]; omega⟩
def pR (row : List (List Deed)) : PyData := .list (row.map pS)
theorem sh_row {k : Nat} {row : List (List Deed)} (h : GR k row) : Sh 50000 (pR row) := by
  obtain ⟨a, b, c, d, e⟩ := sh_all (m := 112) (n := 400) (f := pS) (xs := row) (fun x hx => sh_stroke (h.st hx).1 (h.st hx).2.2.1) h.2.2.1
  have := h.2.2.1
  exact ⟨a, b, c, d, by have := dep_pSs row; simp only [pR, PyData.depth]; omega, by simp only [pR, PyData.weight]; omega⟩
theorem tS_lt {st : List Deed} (h : ∀ d ∈ st, GoodDeed d) : ∀ c ∈ tl (tS st), c < 1000 := by
  rw [show tS st = Txt.join " / " (st.map tD) from rfl, tl_join2, tl_bt]
  intro c hc
  rcases mem_join hc with hc | ⟨p, hp, hc⟩
  · simp at hc; omega
  · obtain ⟨x, hx, rfl⟩ := List.mem_map.mp hp
    obtain ⟨d, hd, rfl⟩ := List.mem_map.mp hx
    rcases (deed_signs (h d hd)).1 _ hc with e | e | e <;> omega
theorem tR_lt {k : Nat} {row : List (List Deed)} (h : GR k row) : ∀ c ∈ tl (tR row), c < 1000 := by
  rw [tl_tR]
  intro c hc
  rcases mem_join hc with hc | ⟨p, hp, hc⟩
  · simp at hc; omega
  · rcases List.mem_append.mp hp with hp | hp
    · obtain ⟨st, hs, rfl⟩ := List.mem_map.mp hp
      exact tS_lt (h.st hs).1 c hc
    · simp at hp
      subst hp
      cases hc
theorem toPy_row (row : List (List Deed)) : toPy (.lst (row.map dS)) = some (pR row) := by simp [toPy, toPys_dS, pR]
theorem toD_own (ds : List D) : C.toD (.own (dats ds)) = .lst ds := by
  show D.lst (C.toDs (dats ds)) = _
  rw [toDs_dats]
theorem repr_row {k : Nat} {row : List (List Deed)} (h : GR k row) : gRepr [.dat (.lst (row.map dS))] = some (.dat (.str (pR row).shown)) := repr_val (toPy_row row) (sh_row h) (by decide)
theorem repr_rowO {k : Nat} {row : List (List Deed)} (h : GR k row) : gRepr [.own (dats (row.map dS))] = some (.dat (.str (pR row).shown)) := repr_val (by rw [toD_own]; exact toPy_row row) (sh_row h) (by decide)
theorem repr_text {k : Nat} {row : List (List Deed)} (h : GR k row) : gRepr [.dat (.str (tR row))] = some (.dat (.str (PyData.str (tR row)).shown)) := repr_val (p := .str (tR row)) rfl (sh_str (m := 100000) (tR_lt h) h.len) (by decide)
theorem repr_stroke {st : List Deed} (h : ∀ d ∈ st, GoodDeed d) (hl : st.length ≤ 4) : gRepr [.dat (dS st)] = some (.dat (.str (pS st).shown)) := repr_val (toPy_dS st) (sh_stroke h hl) (by decide)
theorem repr_deed {d : Deed} (h : GoodDeed d) : gRepr [.dat (dD d)] = some (.dat (.str (pD d).shown)) := repr_val (toPy_dD d) (sh_deed h) (by decide)
theorem ne_same (x : Str) : gNe (.dat (.str x)) (.dat (.str x)) = some (.dat (.bl false)) := by rw [ne_strs, decide_eq_true rfl]; rfl
theorem cut_map {α β : Type} (f : α → β) (xs : List α) (lo hi : Option Int) : cutL (xs.map f) lo hi = (cutL xs lo hi).map f := by
  unfold cutL
  rw [List.length_map, List.map_take, List.map_drop]
theorem cut_mem {α : Type} {xs : List α} {lo hi : Option Int} {x : α} (h : x ∈ cutL xs lo hi) : x ∈ xs := by
  unfold cutL at h
  exact List.mem_of_mem_drop (List.mem_of_mem_take h)
theorem cut_len {α : Type} (xs : List α) (lo hi : Option Int) : (cutL xs lo hi).length ≤ xs.length := by
  unfold cutL
  rw [List.length_take, List.length_drop]
  omega
/-- a stroke's line is its row's text without the end -/
theorem cut_line {st : List Deed} : cutS (tR [st]) none (some (-1)) = tS st := by
  refine ext_tl ?_
  have ht : tl (tR [st]) = tl (tS st) ++ [10] := by
    rw [show tR [st] = Txt.join "" [tS st ++ "\n"] from rfl, tl_joinE]
    simp only [List.map_cons, List.map_nil, List.flatten_cons, List.flatten_nil, List.append_nil]
    rw [tl_append, tl_nl]
  have hl : (tR [st]).length = (tl (tS st)).length + 1 := by rw [len_tl, ht]; simp
  have e : HT.sIx (tR [st]).length (tR [st]).length (some (-1)) = (tl (tS st)).length := by
    unfold HT.sIx
    rw [hl]
    simp
    try omega
  unfold cutS
  rw [HT.sIx_none, e]
  show ((tl (tR [st])).drop 0).take _ = _
  rw [ht]
  simp
end K91
namespace K91
open PySem L2 L3 TL
theorem repr_of {fa : S R} {ρ ρ1 : Ro} {c : C} {z : Str} (h : fa ρ = some (.ok (.val c) ρ1)) (hg : gRepr [c] = some (.dat (.str z))) : sBlt gRepr (sCons fa sNil) ρ = some (.ok (.val (.dat (.str z))) ρ1) :=
  blt_val (cs := [c]) (cons_val (fr := sNil) h rfl) hg
theorem ne_of {fa fb : S R} {ρ ρ1 ρ2 : Ro} {z : Str} (h1 : fa ρ = some (.ok (.val (.dat (.str z))) ρ1)) (h2 : fb ρ1 = some (.ok (.val (.dat (.str z))) ρ2)) : sTruth (sOp2 gNe fa fb) ρ = some (.ok false ρ2) := tru_val (op_val h1 h2 (ne_same z))
def bDeed : SS := (sIfS (sOrT (sTruth (sOp2 gNe (sCall F_show_deed (sCons (sVar 5) sNil)) (sCall F__law_deed_text (sCons (sVar 5) sNil)))) (sTruth (sOp2 gNe (sBlt gRepr (sCons (sCall F_read_deed (sCons (sCall F__law_deed_text (sCons (sVar 5) sNil)) sNil)) sNil)) (sBlt gRepr (sCons (sVar 5) sNil)))))
  (sRet (sC (.bl false)))
  sSkip)
theorem deed_turn {d : Deed} (h : GoodDeed d) (o0 o1 o2 o3 o4 o6 : Option C) : bDeed [o0, o1, o2, o3, o4, some (.dat (dD d)), o6] = some (.nx [o0, o1, o2, o3, o4, some (.dat (dD d)), o6]) := by
  have v : sVar 5 [o0, o1, o2, o3, o4, some (.dat (dD d)), o6] = some (.ok (.val (.dat (dD d))) [o0, o1, o2, o3, o4, some (.dat (dD d)), o6]) := by
    unfold sVar
    rfl
  have c1 := call_d (fs := F_show_deed) v (show_deed_ok h)
  have c2 := call_d (fs := F__law_deed_text) v (deed_text_ok h)
  have c3 := call_d (fs := F_read_deed) c2 (read_deed_ok h)
  unfold bDeed
  rw [if_no (by rw [or_f (ne_of c1 c2)]; exact ne_of (repr_of c3 (repr_deed h)) (repr_of v (repr_deed h)))]
  rfl
theorem deeds_turn (o0 o1 o2 o3 o4 o6 : Option C) : ∀ (st : List Deed) (o5 : Option C), (∀ d ∈ st, GoodDeed d) → ∃ o5', loopS (fgName 5) bDeed (st.map dD) [o0, o1, o2, o3, o4, o5, o6] = some (.nx [o0, o1, o2, o3, o4, o5', o6])
  | [], o5, _ => ⟨o5, rfl⟩
  | d :: st, o5, h => by
    obtain ⟨o5', ih⟩ := deeds_turn o0 o1 o2 o3 o4 o6 st (some (.dat (dD d))) fun x hx => h x (List.mem_cons_of_mem _ hx)
    refine ⟨o5', ?_⟩
    rw [List.map_cons, loop_nx (fg := fgName 5) rfl (deed_turn (h d (by simp)) o0 o1 o2 o3 o4 o6)]
    exact ih
def bStroke : SS := (sSeq (sSet 4 (sSl (sCall F__law_text (sCons (sLstF (sCons (sVar 3) sNil)) sNil)) sNoPart (sPart (sOp1 gNeg (sC (.int 1))))))
  (sSeq (sIfS (sOrT (sTruth (sOp2 gNe (sCall F_show_stroke (sCons (sVar 3) sNil)) (sVar 4))) (sTruth (sOp2 gNe (sBlt gRepr (sCons (sCall F_read_stroke (sCons (sVar 4) sNil)) sNil)) (sBlt gRepr (sCons (sVar 3) sNil)))))
  (sRet (sC (.bl false)))
  sSkip)
  (sFor (sWalk (sVar 3)) (fgName 5) bDeed)))
theorem GR.one {k : Nat} {row : List (List Deed)} (h : GR k row) {st : List Deed} (m : st ∈ row) : GR k [st] := ⟨h.1, h.2.1, by simp, fun x hx => by
  simp at hx
  subst hx
  exact h.2.2.2 _ m⟩
theorem stroke_turn {k : Nat} {row : List (List Deed)} (h : GR k row) {st : List Deed} (m : st ∈ row) (o0 o1 o2 o4 o5 o6 : Option C) : ∃ o4' o5', bStroke [o0, o1, o2, some (.dat (dS st)), o4, o5, o6] = some (.nx [o0, o1, o2, some (.dat (dS st)), o4', o5', o6]) := by
  obtain ⟨g, hne, hl, _⟩ := h.st m
  have v3 : ∀ o4 o5, sVar 3 [o0, o1, o2, some (.dat (dS st)), o4, o5, o6] = some (.ok (.val (.dat (dS st))) [o0, o1, o2, some (.dat (dS st)), o4, o5, o6]) := fun _ _ => by
    unfold sVar
    rfl
  have v4 : ∀ o5, sVar 4 [o0, o1, o2, some (.dat (dS st)), some (.dat (.str (tS st))), o5, o6] = some (.ok (.val (.dat (.str (tS st)))) [o0, o1, o2, some (.dat (dS st)), some (.dat (.str (tS st))), o5, o6]) := fun _ => by
    unfold sVar
    rfl
  have ls := lst_val (ds := [dS st]) (cons_val (fr := sNil) (v3 o4 o5) rfl) (small_line (by simp))
  have ct := call_d (fs := F__law_text) ls (law_text_own (h.one m))
  have hz : (tR [st]).length ≤ sizeLine := by have := (h.one m).len; rw [sizeLine_eq]; omega
  have sl := sl_res (fl := sNoPart) (fh := sPart (sOp1 gNeg (sC (.int 1)))) ct (lo := none) rfl (hi := some (-1)) (ρ3 := [o0, o1, o2, some (.dat (dS st)), o4, o5, o6]) rfl (c := .dat (.str (tR [st]))) rfl (c' := .dat (.str (tS st))) (by
    show (if (tR [st]).length ≤ sizeLine then some (C.dat (.str (cutS (tR [st]) none (some (-1))))) else none) = _
    rw [if_pos hz, cut_line])
  have s1 : sSet 4 (sSl (sCall F__law_text (sCons (sLstF (sCons (sVar 3) sNil)) sNil)) sNoPart (sPart (sOp1 gNeg (sC (.int 1))))) [o0, o1, o2, some (.dat (dS st)), o4, o5, o6] = some (.nx [o0, o1, o2, some (.dat (dS st)), some (.dat (.str (tS st))), o5, o6]) := set_step1 sl (by simp)
  have c1 := call_d (fs := F_show_stroke) (v3 (some (.dat (.str (tS st)))) o5) (show_stroke_ok g hl)
  have c2 := call_d (fs := F_read_stroke) (v4 o5) (read_stroke_ok g hne hl)
  obtain ⟨o5', lp⟩ := deeds_turn o0 o1 o2 (some (.dat (dS st))) (some (.dat (.str (tS st)))) o6 st o5 g
  refine ⟨some (.dat (.str (tS st))), o5', ?_⟩
  unfold bStroke
  rw [seq_step s1, seq_step (ρ1 := [o0, o1, o2, some (.dat (dS st)), some (.dat (.str (tS st))), o5, o6]) (by
    rw [if_no (by rw [or_f (ne_of c1 (v4 o5))]; exact ne_of (repr_of c2 (repr_stroke g hl)) (repr_of (v3 _ _) (repr_stroke g hl)))]
    rfl)]
  unfold sFor
  rw [S.thn_ok (walk_val (v3 _ _) (ds := st.map dD) rfl)]
  exact lp
theorem strokes_turn {k : Nat} {row : List (List Deed)} (h : GR k row) (o0 o1 o2 o6 : Option C) : ∀ (some' : List (List Deed)) (o3 o4 o5 : Option C), (∀ st ∈ some', st ∈ row) → ∃ o3' o4' o5', loopS (fgName 3) bStroke (some'.map dS) [o0, o1, o2, o3, o4, o5, o6] = some (.nx [o0, o1, o2, o3', o4', o5', o6])
  | [], o3, o4, o5, _ => ⟨o3, o4, o5, rfl⟩
  | st :: sts, o3, o4, o5, hs => by
    obtain ⟨p4, p5, e⟩ := stroke_turn h (hs st (by simp)) o0 o1 o2 o4 o5 o6
    obtain ⟨o3', o4', o5', ih⟩ := strokes_turn h o0 o1 o2 o6 sts (some (.dat (dS st))) p4 p5 fun x hx => hs x (List.mem_cons_of_mem _ hx)
    refine ⟨o3', o4', o5', ?_⟩
    rw [List.map_cons, loop_nx (fg := fgName 3) rfl e]
    exact ih
theorem right_ok {k : Nat} {row : List (List Deed)} (h : GR k row) : F__law_right [.dat (.lst (row.map dS))] = some (.ok (.dat (.bl true)) [some (.dat (.lst (row.map dS)))]) := by
  generalize hR : (pR row).shown = R
  have rr := repr_row h
  have rro := repr_rowO h
  rw [hR] at rr rro
  have v0 : ∀ o1 o2 o3 o4 o5 o6, sVar 0 [some (.dat (.lst (row.map dS))), o1, o2, o3, o4, o5, o6] = some (.ok (.val (.dat (.lst (row.map dS)))) [some (.dat (.lst (row.map dS))), o1, o2, o3, o4, o5, o6]) := fun _ _ _ _ _ _ => by
    unfold sVar
    rfl
  have s1 : sSet 1 (sBlt gRepr (sCons (sVar 0) sNil)) [some (.dat (.lst (row.map dS))), none, none, none, none, none, none] = some (.nx [some (.dat (.lst (row.map dS))), some (.dat (.str R)), none, none, none, none, none]) := set_step1 (repr_of (v0 _ _ _ _ _ _) rr) (by simp)
  have s2 : sSet 2 (sCall F__law_text (sCons (sVar 0) sNil)) [some (.dat (.lst (row.map dS))), some (.dat (.str R)), none, none, none, none, none] = some (.nx [some (.dat (.lst (row.map dS))), some (.dat (.str R)), some (.dat (.str (tR row))), none, none, none, none]) := set_step1 (call_d (v0 _ _ _ _ _ _) (law_text_ok h)) (by simp)
  have v1 : ∀ o3 o4 o5 o6, sVar 1 [some (.dat (.lst (row.map dS))), some (.dat (.str R)), some (.dat (.str (tR row))), o3, o4, o5, o6] = some (.ok (.val (.dat (.str R))) [some (.dat (.lst (row.map dS))), some (.dat (.str R)), some (.dat (.str (tR row))), o3, o4, o5, o6]) := fun _ _ _ _ => rfl
  have v2 : ∀ o3 o4 o5 o6, sVar 2 [some (.dat (.lst (row.map dS))), some (.dat (.str R)), some (.dat (.str (tR row))), o3, o4, o5, o6] = some (.ok (.val (.dat (.str (tR row)))) [some (.dat (.lst (row.map dS))), some (.dat (.str R)), some (.dat (.str (tR row))), o3, o4, o5, o6]) := fun _ _ _ _ => rfl
  have q1 : sTruth (sOp2 gNe (sBlt gRepr (sCons (sCall F_show_row (sCons (sVar 0) sNil)) sNil)) (sBlt gRepr (sCons (sVar 2) sNil))) [some (.dat (.lst (row.map dS))), some (.dat (.str R)), some (.dat (.str (tR row))), none, none, none, none] = some (.ok false [some (.dat (.lst (row.map dS))), some (.dat (.str R)), some (.dat (.str (tR row))), none, none, none, none]) :=
    ne_of (repr_of (call_d (v0 _ _ _ _ _ _) (show_row_ok h)) (repr_text h)) (repr_of (v2 _ _ _ _) (repr_text h))
  have q2 : sTruth (sOp2 gNe (sBlt gRepr (sCons (sCall F_read_row (sCons (sVar 2) sNil)) sNil)) (sVar 1)) [some (.dat (.lst (row.map dS))), some (.dat (.str R)), some (.dat (.str (tR row))), none, none, none, none] = some (.ok false [some (.dat (.lst (row.map dS))), some (.dat (.str R)), some (.dat (.str (tR row))), none, none, none, none]) :=
    ne_of (repr_of (call_d (v2 _ _ _ _) (read_row_ok h)) rro) (v1 _ _ _ _)
  have q3 : sTruth (sOp2 gNe (sBlt gRepr (sCons (sVar 0) sNil)) (sVar 1)) [some (.dat (.lst (row.map dS))), some (.dat (.str R)), some (.dat (.str (tR row))), none, none, none, none] = some (.ok false [some (.dat (.lst (row.map dS))), some (.dat (.str R)), some (.dat (.str (tR row))), none, none, none, none]) :=
    ne_of (repr_of (v0 _ _ _ _ _ _) rr) (v1 _ _ _ _)
  have sl := sl_res (fl := sNoPart) (fh := sPart (sC (.int 6))) (v0 (some (.dat (.str R))) (some (.dat (.str (tR row)))) none none none none) (lo := none) rfl (hi := some 6) (ρ3 := [some (.dat (.lst (row.map dS))), some (.dat (.str R)), some (.dat (.str (tR row))), none, none, none, none]) rfl (c := .dat (.lst (row.map dS))) rfl (c' := .own (dats (cutL (row.map dS) none (some 6)))) rfl
  rw [cut_map] at sl
  obtain ⟨o3, o4, o5, lp⟩ := strokes_turn h (some (.dat (.lst (row.map dS)))) (some (.dat (.str R))) (some (.dat (.str (tR row)))) none (cutL row none (some 6)) none none none fun st m => cut_mem m
  have sf : sFor (sWalk (sSl (sVar 0) sNoPart (sPart (sC (.int 6))))) (fgName 3) bStroke [some (.dat (.lst (row.map dS))), some (.dat (.str R)), some (.dat (.str (tR row))), none, none, none, none] = some (.nx [some (.dat (.lst (row.map dS))), some (.dat (.str R)), some (.dat (.str (tR row))), o3, o4, o5, none]) := by
    unfold sFor
    rw [S.thn_ok (walk_own sl)]
    exact lp
  have s6 : sSet 6 (sCall F_read_row (sCons (sVar 2) sNil)) [some (.dat (.lst (row.map dS))), some (.dat (.str R)), some (.dat (.str (tR row))), o3, o4, o5, none] = some (.nx [some (.dat (.lst (row.map dS))), some (.dat (.str R)), some (.dat (.str (tR row))), o3, o4, o5, some (.own (dats (row.map dS)))]) := set_step1 (call_d (v2 _ _ _ _) (read_row_ok h)) (by simp)
  have s7 : sDrop (sMut 6 mApp (sCons (sC .non) sNil)) [some (.dat (.lst (row.map dS))), some (.dat (.str R)), some (.dat (.str (tR row))), o3, o4, o5, some (.own (dats (row.map dS)))] = some (.nx [some (.dat (.lst (row.map dS))), some (.dat (.str R)), some (.dat (.str (tR row))), o3, o4, o5, some (.own (dats (row.map dS ++ [.non])))]) := by
    have ow : ownAt [some (.dat (.lst (row.map dS))), some (.dat (.str R)), some (.dat (.str (tR row))), o3, o4, o5, some (.own (dats (row.map dS)))] 6 = some (row.map dS) := undat_dats _
    have m : sMut 6 mApp (sCons (sC .non) sNil) [some (.dat (.lst (row.map dS))), some (.dat (.str R)), some (.dat (.str (tR row))), o3, o4, o5, some (.own (dats (row.map dS)))] = some (.ok (.val (.dat .non)) [some (.dat (.lst (row.map dS))), some (.dat (.str R)), some (.dat (.str (tR row))), o3, o4, o5, some (.own (dats (row.map dS ++ [.non])))]) := by
      have ma : mApp (row.map dS) [.non] = some (row.map dS ++ [.non], .non) := by
        exact if_pos (by rw [List.length_map, sizeLine_eq]; have := h.2.2.1; omega)
      unfold sMut
      rw [ow]
      simp only [Option.isSome_some, if_true]
      rw [S.bind_ok (cons_val (fa := sC .non) (fr := sNil) (r := .val (.dat .non)) rfl rfl), S.bind_ok (m := sFrzs [L3.R.val (.dat .non)]) (a := [.non]) rfl]
      rw [ow]
      dsimp only
      rw [ma]
      rfl
    unfold sDrop
    rw [S.thn_ok m]
  refine fn1 (N := 7) (Z := [1, 2, 3, 4, 5, 6]) (ρ' := [some (.dat (.lst (row.map dS))), some (.dat (.str R)), some (.dat (.str (tR row))), o3, o4, o5, some (.own (dats (row.map dS ++ [.non])))]) (by decide) ?_ rfl
  show b__law_right [some (.dat (.lst (row.map dS))), none, none, none, none, none, none] = _
  unfold b__law_right
  rw [seq_step s1, seq_step s2, seq_step (ρ1 := [some (.dat (.lst (row.map dS))), some (.dat (.str R)), some (.dat (.str (tR row))), none, none, none, none]) (by
    rw [if_no (by rw [or_f q1, or_f q2]; exact q3)]
    rfl)]
  refine (seq_step sf).trans ?_
  rw [seq_step s6, seq_step s7]
  refine ret_val (op_val (repr_of (call_d (v2 _ _ _ _) (read_row_ok h)) rro) (v1 _ _ _ _) ?_)
  rw [eq_strs, decide_eq_true rfl]
end K91
namespace K91
open PySem L2 L3 TL
theorem op_res {g : C → C → Option C} {fa fb : S R} {ρ ρ1 ρ2 : Ro} {r1 r2 : R} {c1 c2 c : C} (h1 : fa ρ = some (.ok r1 ρ1)) (h2 : fb ρ1 = some (.ok r2 ρ2)) (e1 : L3.res r1 ρ2 = some c1) (e2 : L3.res r2 ρ2 = some c2) (h3 : g c1 c2 = some c) : sOp2 g fa fb ρ = some (.ok (.val c) ρ2) := by
  unfold sOp2; rw [S.bind_ok h1, S.bind_ok h2, e1]; dsimp only; rw [e2]; dsimp only; rw [h3]
theorem bag_ok (ns : List Int) : ∃ cs, F__law_bag [.dat (.rol (ns.map D.int))] = some (.ok (⟨0, 1234567891, 0, cs⟩ : Bag).C [some (.dat (.rol (ns.map D.int)))]) ∧ BagOk 0 ⟨0, 1234567891, 0, cs⟩ := by
  have sl := sl_res (fa := sVar 0) (fl := sNoPart) (fh := sPart (sC (.int 63))) (ρ := [some (.dat (.rol (ns.map D.int))), none]) (ρ1 := [some (.dat (.rol (ns.map D.int))), none]) (ρ2 := [some (.dat (.rol (ns.map D.int))), none]) (ρ3 := [some (.dat (.rol (ns.map D.int))), none]) rfl (lo := none) rfl (hi := some 63) rfl (c := .dat (.rol (ns.map D.int))) rfl (c' := .own (dats (cutL (ns.map D.int) none (some 63)))) rfl
  rw [cut_map] at sl
  have hl : (cutL ns none (some 63)).length ≤ 63 := by
    unfold cutL
    rw [HT.sIx_none, show (some (63 : Int)) = some ((63 : Nat) : Int) from rfl, HT.sIx_nat]
    rw [List.length_take]
    omega
  generalize cutL ns none (some 63) = ms at sl hl
  have lc := lcm2 (fe := sBlt gAbs (sCons (sVar 1) sNil)) (j := 1) (g := fun i => .int (if i < 0 then -i else i)) (walk_own sl) (small_line (by omega)) rfl fun i _ => blt_val (cs := [.dat (.int i)]) (cons_val (fa := sVar 1) (fr := sNil) (ρ := [some (.dat (.rol (ns.map D.int))), some (.dat (.int i))]) rfl rfl) rfl
  refine ⟨ms.map fun i => if i < 0 then -i else i, ?_, ⟨Int.le_refl _, (show (0:Int) ≤ 1234567891 by decide), (show (1234567891:Int) < 2147483647 by decide), Int.le_refl _, Int.le_refl _, fun x hx => ?_⟩⟩
  · refine fn1 (N := 2) (Z := []) (ρ' := [some (.dat (.rol (ns.map D.int))), none]) (by decide) ?_ rfl
    show b__law_bag [some (.dat (.rol (ns.map D.int))), none] = _
    unfold b__law_bag
    refine ret_val ?_
    have a := cons_val (fa := sC (.int 0)) (ρ := [some (.dat (.rol (ns.map D.int))), none]) rfl (cons_val (fa := sC (.int 1234567891)) rfl (cons_val (fa := sC (.int 0)) rfl (cons_val (fr := sNil) lc rfl)))
    unfold sLstF
    rw [S.bind_ok a]
    have fz : sFrzs [L3.R.val (.dat (.int 0)), L3.R.val (.dat (.int 1234567891)), L3.R.val (.dat (.int 0)), L3.R.val (.own (dats (ms.map fun i => D.int (if i < 0 then -i else i))))] [some (.dat (.rol (ns.map D.int))), none] = some (.ok [.int 0, .int 1234567891, .int 0, .lst (ms.map fun i => D.int (if i < 0 then -i else i))] [some (.dat (.rol (ns.map D.int))), none]) := by
      show some (O.ok [D.int 0, D.int 1234567891, D.int 0, C.toD (.own (dats (ms.map fun i => D.int (if i < 0 then -i else i))))] _) = _
      rw [toD_own]
    rw [S.bind_ok fz, if_pos (small_line (by simp))]
    unfold Bag.C Bag.ds
    dsimp only
    rw [List.map_map]
    rfl
  · obtain ⟨i, _, rfl⟩ := List.mem_map.mp hx
    split <;> omega
/-- rows that are drawn -/
theorem rows_loop (o0 o2 o3 o4 o5 o7 o8 o9 o10 o11 : Option C) : ∀ (ds : List D) (n : Nat) (B : Bag), BagOk n B → n + 5000 * ds.length < 2 ^ 45 → ∃ (rows : List (List (List Deed))) (B' : Bag), lcLoop (fgName 6) sYes (sCall F__law_row (sCons (sVar 1) sNil)) [6] ds [o0, some B.C, o2, o3, o4, o5, none, o7, o8, o9, o10, o11] = some (rows.map fun r => D.lst (r.map dS), [o0, some B'.C, o2, o3, o4, o5, none, o7, o8, o9, o10, o11]) ∧
    rows.length = ds.length ∧ (∀ r ∈ rows, ∃ k, GR k r) ∧ BagOk (n + 5000 * ds.length) B'
  | [], n, B, h, _ => ⟨[], B, rfl, rfl, by simp, h⟩
  | d :: ds, n, B, h, hn => by
    have hn' : n + 5000 * (ds.length + 1) < 2 ^ 45 := hn
    obtain ⟨r, B1, e1, b1, ⟨k, k1, k2, g1⟩, l1⟩ := row_ok h (by omega)
    obtain ⟨rows, B', e, l, g, b⟩ := rows_loop o0 o2 o3 o4 o5 o7 o8 o9 o10 o11 ds (n + 5000) B1 b1 (by omega)
    have c := call_s (fs := F__law_row) (j := 1) (ρ := [o0, some B.C, o2, o3, o4, o5, some (.dat d), o7, o8, o9, o10, o11]) (cs := dats B.ds) (cs' := dats B1.ds) rfl e1
    refine ⟨r :: rows, B', lc_step (ρ1 := [o0, some B.C, o2, o3, o4, o5, some (.dat d), o7, o8, o9, o10, o11]) (ρ2 := [o0, some B.C, o2, o3, o4, o5, some (.dat d), o7, o8, o9, o10, o11]) (ρ3 := [o0, some B1.C, o2, o3, o4, o5, some (.dat d), o7, o8, o9, o10, o11]) rfl rfl (by
      rw [S.bind_ok c]
      show some (O.ok (C.toD (.own (dats (r.map dS)))) _) = _
      rw [toD_own]
      rfl) e, by simp [l], fun y hy => ?_, by rw [show n + 5000 * (d :: ds).length = n + 5000 + 5000 * ds.length by simp; omega]; exact b⟩
    rcases List.mem_cons.mp hy with rfl | hy
    · exact ⟨k, k1, k2, by omega, g1⟩
    · exact g y hy
theorem rights (o0 o1 o2 o4 o5 o6 o7 o8 o9 o10 o11 : Option C) : ∀ (rows : List (List (List Deed))) (o3 : Option C), (∀ r ∈ rows, ∃ k, GR k r) → ∃ o3', loopS (fgName 3) (sIfS (sNotT (sTruth (sCall F__law_right (sCons (sVar 3) sNil)))) (sRet (sC (.bl false))) sSkip) (rows.map fun r => D.lst (r.map dS)) [o0, o1, o2, o3, o4, o5, o6, o7, o8, o9, o10, o11] = some (.nx [o0, o1, o2, o3', o4, o5, o6, o7, o8, o9, o10, o11])
  | [], o3, _ => ⟨o3, rfl⟩
  | r :: rows, o3, h => by
    obtain ⟨k, hk⟩ := h r (by simp)
    obtain ⟨o3', ih⟩ := rights o0 o1 o2 o4 o5 o6 o7 o8 o9 o10 o11 rows (some (.dat (.lst (r.map dS)))) fun x hx => h x (List.mem_cons_of_mem _ hx)
    have c := call_d (fs := F__law_right) (fb := sVar 3) (ρ := [o0, o1, o2, some (.dat (.lst (r.map dS))), o4, o5, o6, o7, o8, o9, o10, o11]) (ρ1 := [o0, o1, o2, some (.dat (.lst (r.map dS))), o4, o5, o6, o7, o8, o9, o10, o11]) (c' := .dat (.lst (r.map dS))) rfl (right_ok hk)
    refine ⟨o3', ?_⟩
    rw [List.map_cons, loop_nx (fg := fgName 3) (ρ1 := [o0, o1, o2, some (.dat (.lst (r.map dS))), o4, o5, o6, o7, o8, o9, o10, o11]) (ρ2 := [o0, o1, o2, some (.dat (.lst (r.map dS))), o4, o5, o6, o7, o8, o9, o10, o11]) rfl (by rw [if_no (not_t (b := true) (tru_val c))]; rfl)]
    exact ih
theorem dS_inj : ∀ {a b : List Deed}, dS a = dS b → a = b := fun {a b} h => by
  have h1 : toPy (dS a) = toPy (dS b) := by rw [h]
  rw [toPy_dS, toPy_dS] at h1
  have h2 : pS a = pS b := Option.some.inj h1
  have h3 := eqv_pS a b
  rw [h2] at h3
  have h4 := eqv_pS b b
  rw [h4, decide_eq_true rfl] at h3
  exact of_decide_eq_true h3.symm
theorem map_inj {α β : Type} {f : α → β} (h : ∀ {a b}, f a = f b → a = b) : ∀ {xs ys : List α}, xs.map f = ys.map f → xs = ys
  | [], [], _ => rfl
  | [], _ :: _, e => by simp at e
  | _ :: _, [], e => by simp at e
  | x :: xs, y :: ys, e => by
    simp only [List.map_cons, List.cons.injEq] at e
    rw [h e.1, map_inj h e.2]
theorem tR_inj {k j : Nat} {a b : List (List Deed)} (ha : GR k a) (hb : GR j b) : tR a = tR b ↔ a = b := by
  refine ⟨fun e => ?_, fun e => by rw [e]⟩
  have h1 := read_row_ok ha
  rw [e, read_row_ok hb] at h1
  have h2 : dats (b.map dS) = dats (a.map dS) := by injection h1 with h1; injection h1 with h1; injection h1
  have h3 : b.map dS = a.map dS := by rw [← toDs_dats (b.map dS), h2, toDs_dats]
  exact (map_inj dS_inj h3).symm
theorem ne_bl (x : Bool) : gNe (.dat (.bl x)) (.dat (.bl x)) = some (.dat (.bl false)) := by cases x <;> rfl
def bOther : SS := (sIfS (sTruth (sOp2 gNe (sOp2 gEq (sCall F_show_row (sCons (sVar 4) sNil)) (sCall F_show_row (sCons (sVar 5) sNil))) (sOp2 gEq (sVar 4) (sVar 5)))) (sRet (sC (.bl false))) sSkip)
theorem others (o0 o1 o2 o3 o6 o7 o8 o9 o10 o11 : Option C) {k : Nat} {a : List (List Deed)} (ha : GR k a) : ∀ (rows : List (List (List Deed))) (o5 : Option C), (∀ r ∈ rows, ∃ k, GR k r) → ∃ o5', loopS (fgName 5) bOther (rows.map fun r => D.lst (r.map dS)) [o0, o1, o2, o3, some (.dat (.lst (a.map dS))), o5, o6, o7, o8, o9, o10, o11] = some (.nx [o0, o1, o2, o3, some (.dat (.lst (a.map dS))), o5', o6, o7, o8, o9, o10, o11])
  | [], o5, _ => ⟨o5, rfl⟩
  | b :: rows, o5, h => by
    obtain ⟨j, hb⟩ := h b (by simp)
    obtain ⟨o5', ih⟩ := others o0 o1 o2 o3 o6 o7 o8 o9 o10 o11 ha rows (some (.dat (.lst (b.map dS)))) fun x hx => h x (List.mem_cons_of_mem _ hx)
    have v4 : sVar 4 [o0, o1, o2, o3, some (.dat (.lst (a.map dS))), some (.dat (.lst (b.map dS))), o6, o7, o8, o9, o10, o11] = some (.ok (.val (.dat (.lst (a.map dS)))) [o0, o1, o2, o3, some (.dat (.lst (a.map dS))), some (.dat (.lst (b.map dS))), o6, o7, o8, o9, o10, o11]) := rfl
    have v5 : sVar 5 [o0, o1, o2, o3, some (.dat (.lst (a.map dS))), some (.dat (.lst (b.map dS))), o6, o7, o8, o9, o10, o11] = some (.ok (.val (.dat (.lst (b.map dS)))) [o0, o1, o2, o3, some (.dat (.lst (a.map dS))), some (.dat (.lst (b.map dS))), o6, o7, o8, o9, o10, o11]) := rfl
    have e1 := op_val (call_d (fs := F_show_row) v4 (show_row_ok ha)) (call_d (fs := F_show_row) v5 (show_row_ok hb)) eq_strs
    have e2 := op_val v4 v5 (eq_rows (fun st m => (ha.st m).1) (fun st m => (hb.st m).1))
    rw [show decide (tR a = tR b) = decide (a = b) from decide_eq_decide.mpr (tR_inj ha hb)] at e1
    refine ⟨o5', ?_⟩
    rw [List.map_cons, loop_nx (fg := fgName 5) (fb := bOther) (ρ1 := [o0, o1, o2, o3, some (.dat (.lst (a.map dS))), some (.dat (.lst (b.map dS))), o6, o7, o8, o9, o10, o11]) (ρ2 := [o0, o1, o2, o3, some (.dat (.lst (a.map dS))), some (.dat (.lst (b.map dS))), o6, o7, o8, o9, o10, o11]) rfl (by unfold bOther; rw [if_no (tru_val (op_val e1 e2 (ne_bl _)))]; rfl)]
    exact ih
theorem ones (o0 o1 o3 o6 o7 o8 o9 o10 o11 : Option C) (all : List (List (List Deed))) (hall : ∀ r ∈ all, ∃ k, GR k r) : ∀ (rows : List (List (List Deed))) (o4 o5 : Option C), (∀ r ∈ rows, ∃ k, GR k r) → ∃ o4' o5', loopS (fgName 4) (sFor (sWalk (sVar 2)) (fgName 5) bOther) (rows.map fun r => D.lst (r.map dS)) [o0, o1, some (.dat (.lst (all.map fun r => D.lst (r.map dS)))), o3, o4, o5, o6, o7, o8, o9, o10, o11] = some (.nx [o0, o1, some (.dat (.lst (all.map fun r => D.lst (r.map dS)))), o3, o4', o5', o6, o7, o8, o9, o10, o11])
  | [], o4, o5, _ => ⟨o4, o5, rfl⟩
  | a :: rows, o4, o5, h => by
    obtain ⟨k, ha⟩ := h a (by simp)
    obtain ⟨p5, e⟩ := others o0 o1 (some (.dat (.lst (all.map fun r => D.lst (r.map dS))))) o3 o6 o7 o8 o9 o10 o11 ha all o5 hall
    obtain ⟨o4', o5', ih⟩ := ones o0 o1 o3 o6 o7 o8 o9 o10 o11 all hall rows (some (.dat (.lst (a.map dS)))) p5 fun x hx => h x (List.mem_cons_of_mem _ hx)
    have w := walk_val (fa := sVar 2) (ρ := [o0, o1, some (.dat (.lst (all.map fun r => D.lst (r.map dS)))), o3, some (.dat (.lst (a.map dS))), o5, o6, o7, o8, o9, o10, o11]) (ρ1 := [o0, o1, some (.dat (.lst (all.map fun r => D.lst (r.map dS)))), o3, some (.dat (.lst (a.map dS))), o5, o6, o7, o8, o9, o10, o11]) (d := .lst (all.map fun r => D.lst (r.map dS))) (ds := all.map fun r => D.lst (r.map dS)) rfl rfl
    refine ⟨o4', o5', ?_⟩
    rw [List.map_cons, loop_nx (fg := fgName 4) (ρ1 := [o0, o1, some (.dat (.lst (all.map fun r => D.lst (r.map dS)))), o3, some (.dat (.lst (a.map dS))), o5, o6, o7, o8, o9, o10, o11]) (ρ2 := [o0, o1, some (.dat (.lst (all.map fun r => D.lst (r.map dS)))), o3, some (.dat (.lst (a.map dS))), p5, o6, o7, o8, o9, o10, o11]) rfl (by unfold sFor; rw [S.thn_ok w]; exact e)]
    exact ih
end K91
namespace K91
open PySem L2 L3 TL
def s0 : Nat → List Deed
  | 0 => [none]
  | 1 => [none, some ["hold"]]
  | _ => [some ["hold"], none, none]
def s1 : Nat → List Deed
  | 0 => [some ["turn", "a"]]
  | 1 => [some ["turn", "a"], none]
  | _ => [none, some ["turn", "a"], none]
theorem good_hold : GoodDeed (some ["hold"]) := .inr (.inr rfl)
theorem good_turn : GoodDeed (some ["turn", "a"]) := .inr (.inl ⟨"a", ⟨by decide +kernel, by decide +kernel, by decide +kernel⟩, rfl⟩)
theorem s0_good : ∀ v, v < 3 → GoodStroke (v + 1) (s0 v)
  | 0, _ => ⟨rfl, fun d h => by simp [s0] at h; subst h; trivial⟩
  | 1, _ => ⟨rfl, fun d h => by simp [s0] at h; rcases h with rfl | rfl; trivial; exact good_hold⟩
  | 2, _ => ⟨rfl, fun d h => by simp [s0] at h; rcases h with rfl | rfl; exact good_hold; trivial⟩
theorem s1_good : ∀ v, v < 3 → GoodStroke (v + 1) (s1 v)
  | 0, _ => ⟨rfl, fun d h => by simp [s1] at h; subst h; exact good_turn⟩
  | 1, _ => ⟨rfl, fun d h => by simp [s1] at h; rcases h with rfl | rfl; exact good_turn; trivial⟩
  | 2, _ => ⟨rfl, fun d h => by simp [s1] at h; rcases h with rfl | rfl | rfl; trivial; exact good_turn; trivial⟩
def pinned (v m a : Nat) : List (List Deed) := (List.replicate m (s0 v)).set a (s1 v)
theorem pinned_gr {v m a : Nat} (hv : v < 3) (hm : m ≤ 400) : GR (v + 1) (pinned v m a) := ⟨by omega, by omega, by simp [pinned]; omega, fun st h => by
  rcases List.mem_or_eq_of_mem_set h with h | h
  · rw [(List.mem_replicate.mp h).2]; exact s0_good v hv
  · rw [h]; exact s1_good v hv⟩
theorem mul_lst (d : D) {n : Int} (h0 : 0 ≤ n) (h1 : n ≤ 400) : gMul (.dat (.lst [d])) (.dat (.int n)) = some (.own (dats (List.replicate n.toNat d))) := by
  show (match lstOf (.dat (.lst [d])) with
    | some xs => if -(2 ^ 63) ≤ n ∧ n < 2 ^ 63 ∧ xs.length * n.toNat ≤ sizeLine then some (C.own (dats (List.replicate n.toNat xs).flatten)) else none
    | none => none) = _
  show (if -(2 ^ 63) ≤ n ∧ n < 2 ^ 63 ∧ [d].length * n.toNat ≤ sizeLine then some (C.own (dats (List.replicate n.toNat [d]).flatten)) else none) = _
  rw [if_pos ⟨by omega, by omega, small_line (by simp; omega)⟩]
  rw [List.flatten_replicate_singleton]
theorem setIx_step {j m : Nat} {fi fe : S R} {ρ : Ro} {d : D} {k : Int} {ds : List D} (he : fe ρ = some (.ok (.val (.dat d)) ρ)) (hi : fi ρ = some (.ok (.val (.dat (.int k))) ρ)) (ho : ownAt ρ j = some ds) (hm : ixN ds.length k = some m) : sSetIx j fi fe ρ = some (.nx (ρ.set j (some (.own (dats (ds.set m d)))))) := by
  unfold sSetIx
  rw [S.thn_ok he]
  rw [S.thn_ok (m := sFrz (.val (.dat d))) (a := d) (ρ' := ρ) rfl]
  rw [ho]
  dsimp only [Option.isSome_some]
  rw [if_pos rfl, S.thn_ok hi]
  show (match some (C.dat (.int k)), ownAt ρ j with
  | some (.dat (.int k)), some ds => (match ixN ds.length k with
    | some m => some (SO.nx (ρ.set j (some (.own (dats (ds.set m d))))))
    | none => none)
  | _, _ => none) = _
  rw [ho]
  dsimp only
  rw [hm]
theorem ixN_nat {n : Nat} {k : Int} (h0 : 0 ≤ k) (h : k < n) : ixN n k = some k.toNat := by
  unfold ixN
  rw [if_pos h0, if_pos h]
theorem repr_slot {j : Nat} {ρ : Ro} {cs : List C} {z : Str} (h : ρ[j]? = some (some (.own cs))) (hg : gRepr [.own cs] = some (.dat (.str z))) : sBlt gRepr (sCons (sVar j) sNil) ρ = some (.ok (.val (.dat (.str z))) ρ) := by
  have v : sVar j ρ = some (.ok (.slot j) ρ) := by unfold sVar; rw [h]
  unfold sBlt
  rw [S.bind_ok (cons_val (fr := sNil) v rfl)]
  have e : ress [R.slot j] ρ = some [.own cs] := by
    show (match L3.res (R.slot j) ρ with | some c => (match ress [] ρ with | some cs => some (c :: cs) | none => none) | none => none) = _
    have r : L3.res (R.slot j) ρ = some (.own cs) := by
      show (match ρ[j]? with | some (some c) => some c | _ => none) = _
      rw [h]
    rw [r]
    rfl
  rw [e]
  dsimp only
  rw [hg]
def fParts : S R := sIx (sLstF (sCons (sLstF (sCons (sC (.str "-")) sNil)) (sCons (sLstF (sCons (sC (.str "- / hold")) sNil)) (sCons (sLstF (sCons (sC (.str "hold / - / -")) sNil)) sNil)))) (sVar 6)
def fDue : S R := sIx (sLstF (sCons (sLstF (sCons (sTup (sCons (sC .non) sNil)) sNil)) (sCons (sLstF (sCons (sTup (sCons (sC .non) (sCons (sTup (sCons (sC (.str "hold")) sNil)) sNil))) sNil)) (sCons (sLstF (sCons (sTup (sCons (sTup (sCons (sC (.str "hold")) sNil)) (sCons (sC .non) (sCons (sC .non) sNil)))) sNil)) sNil)))) (sVar 6)
def fPart1 : S R := sIx (sLstF (sCons (sC (.str "turn a")) (sCons (sC (.str "turn a / -")) (sCons (sC (.str "- / turn a / -")) sNil)))) (sVar 6)
def fDue1 : S R := sIx (sLstF (sCons (sTup (sCons (sTup (sCons (sC (.str "turn")) (sCons (sC (.str "a")) sNil))) sNil)) (sCons (sTup (sCons (sTup (sCons (sC (.str "turn")) (sCons (sC (.str "a")) sNil))) (sCons (sC .non) sNil))) (sCons (sTup (sCons (sC .non) (sCons (sTup (sCons (sC (.str "turn")) (sCons (sC (.str "a")) sNil))) (sCons (sC .non) sNil)))) sNil)))) (sVar 6)
theorem t00 : tS (s0 0) = "-" := by decide +kernel
theorem t01 : tS (s0 1) = "- / hold" := by decide +kernel
theorem t02 : tS (s0 2) = "hold / - / -" := by decide +kernel
theorem t10 : tS (s1 0) = "turn a" := by decide +kernel
theorem t11 : tS (s1 1) = "turn a / -" := by decide +kernel
theorem t12 : tS (s1 2) = "- / turn a / -" := by decide +kernel
theorem lits {v : Int} (h0 : 0 ≤ v) (h1 : v < 3) (o0 o1 o2 o3 o4 o5 o7 o8 o9 o10 o11 : Option C) :
    fParts [o0, o1, o2, o3, o4, o5, some (.dat (.int v)), o7, o8, o9, o10, o11] = some (.ok (.val (.dat (.lst [.str (tS (s0 v.toNat))]))) [o0, o1, o2, o3, o4, o5, some (.dat (.int v)), o7, o8, o9, o10, o11]) ∧
    fDue [o0, o1, o2, o3, o4, o5, some (.dat (.int v)), o7, o8, o9, o10, o11] = some (.ok (.val (.dat (.lst [dS (s0 v.toNat)]))) [o0, o1, o2, o3, o4, o5, some (.dat (.int v)), o7, o8, o9, o10, o11]) ∧
    fPart1 [o0, o1, o2, o3, o4, o5, some (.dat (.int v)), o7, o8, o9, o10, o11] = some (.ok (.val (.dat (.str (tS (s1 v.toNat))))) [o0, o1, o2, o3, o4, o5, some (.dat (.int v)), o7, o8, o9, o10, o11]) ∧
    fDue1 [o0, o1, o2, o3, o4, o5, some (.dat (.int v)), o7, o8, o9, o10, o11] = some (.ok (.val (.dat (dS (s1 v.toNat)))) [o0, o1, o2, o3, o4, o5, some (.dat (.int v)), o7, o8, o9, o10, o11]) := by
  have hv : v = 0 ∨ v = 1 ∨ v = 2 := by omega
  rcases hv with rfl | rfl | rfl
  · show _ = some (O.ok (R.val (.dat (.lst [.str (tS (s0 0))]))) _) ∧ _ = some (O.ok (R.val (.dat (.lst [dS (s0 0)]))) _) ∧ _ = some (O.ok (R.val (.dat (.str (tS (s1 0))))) _) ∧ _ = some (O.ok (R.val (.dat (dS (s1 0)))) _)
    rw [t00, t10]
    exact ⟨rfl, rfl, rfl, rfl⟩
  · show _ = some (O.ok (R.val (.dat (.lst [.str (tS (s0 1))]))) _) ∧ _ = some (O.ok (R.val (.dat (.lst [dS (s0 1)]))) _) ∧ _ = some (O.ok (R.val (.dat (.str (tS (s1 1))))) _) ∧ _ = some (O.ok (R.val (.dat (dS (s1 1)))) _)
    rw [t01, t11]
    exact ⟨rfl, rfl, rfl, rfl⟩
  · show _ = some (O.ok (R.val (.dat (.lst [.str (tS (s0 2))]))) _) ∧ _ = some (O.ok (R.val (.dat (.lst [dS (s0 2)]))) _) ∧ _ = some (O.ok (R.val (.dat (.str (tS (s1 2))))) _) ∧ _ = some (O.ok (R.val (.dat (dS (s1 2)))) _)
    rw [t02, t12]
    exact ⟨rfl, rfl, rfl, rfl⟩
theorem par_step {i j : Nat} {fa : S (List R)} {ρ ρ1 : Ro} {a b : D} (h : fa ρ = some (.ok [.val (.dat a), .val (.dat b)] ρ1)) (hi : i < ρ1.length) (hj : j < ρ1.length) : sPar i j fa ρ = some (.nx ((ρ1.set i (some (.dat a))).set j (some (.dat b)))) := by
  unfold sPar
  rw [S.thn_ok h, S.thn_ok (m := sMovs [.val (.dat a), .val (.dat b)]) (a := [.dat a, .dat b]) (ρ' := ρ1) rfl]
  dsimp only
  rw [if_pos ⟨hi, hj⟩]
theorem map_rep {α β : Type} (f : α → β) (n : Nat) (x : α) : (List.replicate n x).map f = List.replicate n (f x) := by simp
theorem pinned_map {β : Type} (f : List Deed → β) (v m a : Nat) : (pinned v m a).map f = (List.replicate m (f (s0 v))).set a (f (s1 v)) := by
  unfold pinned
  rw [List.map_set, map_rep]
def bLast : SS := (sIfS (sTruth (sOp2 gNe (sBlt gRepr (sCons (sCall F_read_row (sCons (sM1 gJoin (sC (.str "")) (sLc (sWalk (sVar 8)) (fgName 11) sYes (sOp2 gAdd (sVar 11) (sC (.str "\n"))) [11])) sNil)) sNil)) (sBlt gRepr (sCons (sVar 9) sNil))))
  (sRet (sC (.bl false)))
  sSkip)
theorem last_turn {k : Nat} {row : List (List Deed)} (h : GR k row) (o0 o1 o2 o3 o4 o5 o6 o7 o10 : Option C) : bLast [o0, o1, o2, o3, o4, o5, o6, o7, some (.own (dats (row.map fun st => D.str (tS st)))), some (.own (dats (row.map dS))), o10, none] = some (.nx [o0, o1, o2, o3, o4, o5, o6, o7, some (.dat (.lst (row.map fun st => D.str (tS st)))), some (.own (dats (row.map dS))), o10, none]) := by
  have w := walk_slot (j := 8) (ρ := [o0, o1, o2, o3, o4, o5, o6, o7, some (.own (dats (row.map fun st => D.str (tS st)))), some (.own (dats (row.map dS))), o10, none]) rfl
  have lc := lcm2 (fe := sOp2 gAdd (sVar 11) (sC (.str "\n"))) (j := 11) (g := fun st => .str (tS st ++ "\n")) w (small_line (by have := h.2.2.1; omega)) rfl fun st m => by
    have hs := tS_len (h.st m).1 (h.st m).2.2.1
    exact op_val (c1 := .dat (.str (tS st))) (c2 := .dat (.str "\n")) rfl rfl (add_strs (by rw [nl_len]; omega))
  have e : row.map (fun st => D.str (tS st ++ "\n")) = (row.map fun st => tS st ++ "\n").map D.str := by rw [List.map_map]; rfl
  rw [e] at lc
  have j := m1_val (fa := sC (.str "")) (ρ := [o0, o1, o2, o3, o4, o5, o6, o7, some (.own (dats (row.map fun st => D.str (tS st)))), some (.own (dats (row.map dS))), o10, none]) rfl lc (join_val (z := "") (m := 121) (k := 0) (seqOf_texts _) (fun x hx => by
    obtain ⟨st, m, rfl⟩ := List.mem_map.mp hx
    have hs := tS_len (h.st m).1 (h.st m).2.2.1
    rw [app_len, nl_len]
    omega) (by decide +kernel) (by rw [List.length_map]; have := h.2.2.1; omega))
  have c := call_d j (read_row_ok h)
  have r1 := repr_of c (repr_rowO h)
  have r2 := repr_slot (j := 9) (ρ := [o0, o1, o2, o3, o4, o5, o6, o7, some (.dat (.lst (row.map fun st => D.str (tS st)))), some (.own (dats (row.map dS))), o10, none]) rfl (repr_rowO h)
  unfold bLast
  rw [if_no (ne_of r1 r2)]
  rfl
theorem gr_nil : GR 1 [] := ⟨by decide, by decide, by decide, by simp⟩
theorem tR_nil : tR [] = "" := by decide +kernel
theorem ret_turn (ρ : Ro) : sRet (sAndV (sOp2 gEq (sCall F_show_row (sCons (sLstF sNil) sNil)) (sC (.str ""))) (sOp2 gEq (sCall F_read_row (sCons (sC (.str "")) sNil)) (sLstF sNil))) ρ = some (.rt (.dat (.bl true)) ρ) := by
  have l0 : sLstF sNil ρ = some (.ok (.val (.own (dats []))) ρ) := lst_val (ds := []) rfl (small_line (by decide))
  have sr : F_show_row [.own (dats [])] = some (.ok (.dat (.str (tR []))) [some (.dat (.lst []))]) := fn1 (N := 2) (Z := []) (ρ' := [some (.dat (.lst [])), none]) (by decide) (show_row_core gr_nil (walk_slot (j := 0) (ρ := [some (.own (dats [])), none]) rfl)) rfl
  have c1 := call_d (fs := F_show_row) (fb := sLstF sNil) l0 sr
  have rr := read_row_ok gr_nil
  rw [tR_nil] at c1 rr
  have c2 := call_d (fs := F_read_row) (fb := sC (.str "")) (ρ := ρ) rfl rr
  have e1 := op_val c1 (fb := sC (.str "")) rfl (eq_strs (x := "") (y := ""))
  have e2 := op_val (g := gEq) c2 l0 (c := .dat (.bl true)) (by rfl)
  refine ret_val ?_
  unfold sAndV
  rw [S.bind_ok (tru_val e1)]
  rw [decide_eq_true rfl, if_pos rfl]
  exact e2
end K91
namespace K91
open PySem L2 L3 TL
theorem gSl_own (R : List D) (lo hi : Option Int) : gSl (.own (dats R)) lo hi = some (.own (dats (cutL R lo hi))) := by
  show (match lstOf (.own (dats R)) with | some xs => some (C.own (dats (cutL xs lo hi))) | none => none) = _
  rw [lstOf_own]
theorem add_own {xs ys : List D} (h : xs.length + ys.length ≤ sizeLine) : gAdd (.own (dats xs)) (.own (dats ys)) = some (.own (dats (xs ++ ys))) := by
  show (match lstOf (.own (dats xs)), lstOf (.own (dats ys)) with
    | some xs, some ys => if xs.length + ys.length ≤ sizeLine then some (C.own (dats (xs ++ ys))) else none
    | _, _ => none) = _
  rw [lstOf_own, lstOf_own]
  exact if_pos h
theorem law_ok (ns : List Int) : ∃ ks, F_law [.dat (.rol (ns.map D.int))] = some (.ok (.dat (.bl true)) ks) := by
  obtain ⟨cs, eB, hB⟩ := bag_ok ns
  generalize hA : (C.dat (.rol (ns.map D.int))) = A at eB
  generalize hb : (⟨0, 1234567891, 0, cs⟩ : Bag) = B at eB hB
  -- the bag
  have t1 : sSet 1 (sCall F__law_bag (sCons (sVar 0) sNil)) [some A, none, none, none, none, none, none, none, none, none, none, none] = some (.nx [some A, some B.C, none, none, none, none, none, none, none, none, none, none]) := by
    subst hA
    exact set_step1 (call_d (fs := F__law_bag) (fb := sVar 0) (ρ := [some (.dat (.rol (ns.map D.int))), none, none, none, none, none, none, none, none, none, none, none]) rfl eB) (by simp)
  -- three rows
  have il : (intsD 0 3).length = 3 := intsD_length _ _
  obtain ⟨rows, B1, e2, l2, g2, b2⟩ := rows_loop (some A) none none none none none none none none none (intsD 0 3) 0 B hB (by rw [il]; decide)
  rw [il] at l2 b2
  have lc2 := lc_ok (rng_val (fa := sC (.int 3)) (j := 3) (ρ := [some A, some B.C, none, none, none, none, none, none, none, none, none, none]) rfl (by decide) (by decide)) (small_line (by rw [show (3 : Int).toNat = 3 from rfl, il]; decide)) rfl e2 rfl rfl
  have t2 := set_step1 (i := 2) lc2 (by simp)
  generalize hR : (rows.map fun r => D.lst (r.map dS)) = R at e2 lc2 t2
  have hRl : R.length = 3 := by rw [← hR, List.length_map, l2]
  -- the first loop
  have g3 : ∀ r ∈ rows ++ cutL rows none (some 2), ∃ k, GR k r := fun r hr => by
    rcases List.mem_append.mp hr with h | h
    · exact g2 r h
    · exact g2 r (List.mem_of_mem_drop (List.mem_of_mem_take h))
  have sl := sl_res (fa := sVar 2) (fl := sNoPart) (fh := sPart (sC (.int 2))) (ρ := [some A, some B1.C, some (.own (dats R)), none, none, none, none, none, none, none, none, none]) (ρ1 := [some A, some B1.C, some (.own (dats R)), none, none, none, none, none, none, none, none, none]) (ρ2 := [some A, some B1.C, some (.own (dats R)), none, none, none, none, none, none, none, none, none]) (ρ3 := [some A, some B1.C, some (.own (dats R)), none, none, none, none, none, none, none, none, none]) (r := .slot 2) rfl (lo := none) rfl (hi := some 2) rfl (c := .own (dats R)) rfl (c' := .own (dats (cutL R none (some 2)))) (gSl_own _ _ _)
  have ad := op_res (g := gAdd) (fa := sVar 2) (ρ := [some A, some B1.C, some (.own (dats R)), none, none, none, none, none, none, none, none, none]) (ρ1 := [some A, some B1.C, some (.own (dats R)), none, none, none, none, none, none, none, none, none]) (r1 := .slot 2) rfl sl (c1 := .own (dats R)) rfl rfl (add_own (by
    have : (cutL R none (some 2)).length ≤ R.length := by unfold cutL; rw [List.length_take, List.length_drop]; omega
    exact small_line (by omega)))
  have w3 := walk_own ad
  rw [← hR, cut_map, ← List.map_append, hR] at w3
  obtain ⟨p3, e3⟩ := rights (some A) (some B1.C) (some (.own (dats R))) none none none none none none none none (rows ++ cutL rows none (some 2)) none g3
  have t3 : sFor (sWalk (sOp2 gAdd (sVar 2) (sSl (sVar 2) sNoPart (sPart (sC (.int 2)))))) (fgName 3) (sIfS (sNotT (sTruth (sCall F__law_right (sCons (sVar 3) sNil)))) (sRet (sC (.bl false))) sSkip) [some A, some B1.C, some (.own (dats R)), none, none, none, none, none, none, none, none, none] = some (.nx [some A, some B1.C, some (.own (dats R)), p3, none, none, none, none, none, none, none, none]) := by
    unfold sFor
    rw [S.thn_ok w3]
    exact e3
  -- the second loop
  have w4 := walk_slot (j := 2) (ρ := [some A, some B1.C, some (.own (dats R)), p3, none, none, none, none, none, none, none, none]) (ds := R) rfl
  obtain ⟨p4, p5, e4⟩ := ones (some A) (some B1.C) p3 none none none none none none rows g2 rows none none g2
  rw [hR] at e4
  have t4 : sFor (sWalk (sVar 2)) (fgName 4) (sFor (sWalk (sVar 2)) (fgName 5) bOther) [some A, some B1.C, some (.own (dats R)), p3, none, none, none, none, none, none, none, none] = some (.nx [some A, some B1.C, some (.dat (.lst R)), p3, p4, p5, none, none, none, none, none, none]) := by
    unfold sFor
    rw [S.thn_ok w4]
    exact e4
  -- k and many
  obtain ⟨k1, k2, k3, k4⟩ := take_ok b2 (by decide) (m := 3) (by decide) (by decide)
  generalize hv : tkV B1 3 = v at k1 k3 k4
  generalize hB2 : tkB B1 3 = B2 at k1 k2
  obtain ⟨m1, m2, m3, m4⟩ := take_ok k2 (by decide) (m := 400) (by decide) (by decide)
  generalize hu : tkV B2 400 = u at m1 m3 m4
  generalize hB3 : tkB B2 400 = B3 at m1 m2
  have c5 := call_sd (fs := F__law_take) (fb := sC (.int 3)) (j := 1) (ρ := [some A, some B1.C, some (.dat (.lst R)), p3, p4, p5, none, none, none, none, none, none]) (cs := dats B1.ds) (cs' := dats B2.ds) rfl rfl k1
  have c6 := call_sd (fs := F__law_take) (fb := sC (.int 400)) (j := 1) (ρ := [some A, some B2.C, some (.dat (.lst R)), p3, p4, p5, none, none, none, none, none, none]) (cs := dats B2.ds) (cs' := dats B3.ds) rfl rfl m1
  have c7 := op_val (g := gAdd) (fa := sC (.int 1)) (c1 := .dat (.int 1)) (ρ := [some A, some B2.C, some (.dat (.lst R)), p3, p4, p5, none, none, none, none, none, none]) rfl c6 (c := .dat (.int (1 + u))) rfl
  have t5 := par_step (i := 6) (j := 7) (cons_val c5 (cons_val (fr := sNil) c7 rfl)) (by simp) (by simp)
  -- the texts and what is due
  obtain ⟨q1, q2, q3, q4⟩ := lits k3 k4 (some A) (some B3.C) (some (.dat (.lst R))) p3 p4 p5 (some (.dat (.int (1 + u)))) none none none none
  have t6 := set_step1 (i := 8) (op_val (g := gMul) (fb := sVar 7) (c2 := .dat (.int (1 + u))) q1 rfl (mul_lst _ (by omega) (by omega))) (by simp)
  obtain ⟨_, q2, _, _⟩ := lits k3 k4 (some A) (some B3.C) (some (.dat (.lst R))) p3 p4 p5 (some (.dat (.int (1 + u)))) (some (.own (dats (List.replicate (1 + u).toNat (D.str (tS (s0 v.toNat))))))) none none none
  have t7 := set_step1 (i := 9) (op_val (g := gMul) (fb := sVar 7) (c2 := .dat (.int (1 + u))) q2 rfl (mul_lst _ (by omega) (by omega))) (by simp)
  obtain ⟨n1, n2, n3, n4⟩ := take_ok m2 (by decide) (m := 1 + u) (by omega) (by omega)
  generalize ha : tkV B3 (1 + u) = a at n1 n3 n4
  generalize hB4 : tkB B3 (1 + u) = B4 at n1 n2
  have c8 := call_sd (fs := F__law_take) (fb := sVar 7) (j := 1) (ρ := [some A, some B3.C, some (.dat (.lst R)), p3, p4, p5, some (.dat (.int v)), some (.dat (.int (1 + u))), some (.own (dats (List.replicate (1 + u).toNat (D.str (tS (s0 v.toNat)))))), some (.own (dats (List.replicate (1 + u).toNat (dS (s0 v.toNat))))), none, none]) (cs := dats B3.ds) (cs' := dats B4.ds) rfl rfl n1
  have t8 := set_step1 (i := 10) c8 (by simp)
  obtain ⟨_, _, q3, _⟩ := lits k3 k4 (some A) (some B4.C) (some (.dat (.lst R))) p3 p4 p5 (some (.dat (.int (1 + u)))) (some (.own (dats (List.replicate (1 + u).toNat (D.str (tS (s0 v.toNat))))))) (some (.own (dats (List.replicate (1 + u).toNat (dS (s0 v.toNat)))))) (some (.dat (.int a))) none
  have t9 := setIx_step (j := 8) (fi := sVar 10) (k := a) (m := a.toNat) q3 rfl (undat_dats _) (by rw [List.length_replicate]; exact ixN_nat n3 (by omega))
  obtain ⟨_, _, _, q4⟩ := lits k3 k4 (some A) (some B4.C) (some (.dat (.lst R))) p3 p4 p5 (some (.dat (.int (1 + u)))) (some (.own (dats ((List.replicate (1 + u).toNat (D.str (tS (s0 v.toNat)))).set a.toNat (D.str (tS (s1 v.toNat))))))) (some (.own (dats (List.replicate (1 + u).toNat (dS (s0 v.toNat)))))) (some (.dat (.int a))) none
  have t10 := setIx_step (j := 9) (fi := sVar 10) (k := a) (m := a.toNat) q4 rfl (undat_dats _) (by rw [List.length_replicate]; exact ixN_nat n3 (by omega))
  have g5 := pinned_gr (v := v.toNat) (m := (1 + u).toNat) (a := a.toNat) (by omega) (by omega)
  have t11 := last_turn g5 (some A) (some B4.C) (some (.dat (.lst R))) p3 p4 p5 (some (.dat (.int v))) (some (.dat (.int (1 + u)))) (some (.dat (.int a)))
  rw [pinned_map, pinned_map] at t11
  have T : ∃ ρ', b_law [some A, none, none, none, none, none, none, none, none, none, none, none] = some (.rt (.dat (.bl true)) ρ') ∧ (backR (fun i => [1, 2, 3, 4, 5, 6, 7, 8, 9, 10].contains i) (List.replicate 12 none) ρ').take 1 = [some A] := by
    unfold b_law
    exact ⟨_, (seq_step t1).trans <| (seq_step t2).trans <| (seq_step t3).trans <| (seq_step t4).trans <| (seq_step t5).trans <| (seq_step t6).trans <| (seq_step t7).trans <| (seq_step t8).trans <| (seq_step t9).trans <| (seq_step t10).trans <| (seq_step t11).trans <| ret_turn _, rfl⟩
  obtain ⟨ρ', T1, T2⟩ := T
  exact ⟨_, fn1 (N := 12) (k := some A) (ρ' := ρ') (by decide) T1 T2⟩
end K91
namespace HdK91
open PySem PySem.Spec PyProof.Rows L2 L3 K91
def d_is_name : He.DefD := ⟨("is_name", none), "is_name", "is_name", defArgs st_is_name, defBody st_is_name, defScope st_is_name, [], []⟩
def d_is_way : He.DefD := ⟨("is_way", none), "is_way", "is_way", defArgs st_is_way, defBody st_is_way, defScope st_is_way, [], []⟩
def d_is_deed : He.DefD := ⟨("is_deed", none), "is_deed", "is_deed", defArgs st_is_deed, defBody st_is_deed, defScope st_is_deed, [], []⟩
def d_need_text : He.DefD := ⟨("need_text", none), "need_text", "need_text", defArgs st_need_text, defBody st_need_text, defScope st_need_text, [], []⟩
def d_show_deed : He.DefD := ⟨("show_deed", none), "show_deed", "show_deed", defArgs st_show_deed, defBody st_show_deed, defScope st_show_deed, [], []⟩
def d_read_deed : He.DefD := ⟨("read_deed", none), "read_deed", "read_deed", defArgs st_read_deed, defBody st_read_deed, defScope st_read_deed, [], []⟩
def d_show_stroke : He.DefD := ⟨("show_stroke", none), "show_stroke", "show_stroke", defArgs st_show_stroke, defBody st_show_stroke, defScope st_show_stroke, [], []⟩
def d_read_stroke : He.DefD := ⟨("read_stroke", none), "read_stroke", "read_stroke", defArgs st_read_stroke, defBody st_read_stroke, defScope st_read_stroke, [], []⟩
def d_lines_of : He.DefD := ⟨("lines_of", none), "lines_of", "lines_of", defArgs st_lines_of, defBody st_lines_of, defScope st_lines_of, [], []⟩
def d_show_row : He.DefD := ⟨("show_row", none), "show_row", "show_row", defArgs st_show_row, defBody st_show_row, defScope st_show_row, [], []⟩
def d_read_row : He.DefD := ⟨("read_row", none), "read_row", "read_row", defArgs st_read_row, defBody st_read_row, defScope st_read_row, [], []⟩
def d__law_bag : He.DefD := ⟨("_law_bag", none), "_law_bag", "_law_bag", defArgs st__law_bag, defBody st__law_bag, defScope st__law_bag, [], []⟩
def d__law_take : He.DefD := ⟨("_law_take", none), "_law_take", "_law_take", defArgs st__law_take, defBody st__law_take, defScope st__law_take, [], []⟩
def d__law_name : He.DefD := ⟨("_law_name", none), "_law_name", "_law_name", defArgs st__law_name, defBody st__law_name, defScope st__law_name, [], []⟩
def d__law_deed : He.DefD := ⟨("_law_deed", none), "_law_deed", "_law_deed", defArgs st__law_deed, defBody st__law_deed, defScope st__law_deed, [], []⟩
def d__law_row : He.DefD := ⟨("_law_row", none), "_law_row", "_law_row", defArgs st__law_row, defBody st__law_row, defScope st__law_row, [], []⟩
def d__law_deed_text : He.DefD := ⟨("_law_deed_text", none), "_law_deed_text", "_law_deed_text", defArgs st__law_deed_text, defBody st__law_deed_text, defScope st__law_deed_text, [], []⟩
def d__law_text : He.DefD := ⟨("_law_text", none), "_law_text", "_law_text", defArgs st__law_text, defBody st__law_text, defScope st__law_text, [], []⟩
def d__law_right : He.DefD := ⟨("_law_right", none), "_law_right", "_law_right", defArgs st__law_right, defBody st__law_right, defScope st__law_right, [], []⟩
def d_law : He.DefD := ⟨("law", none), "law", "law", defArgs st_law, defBody st_law, defScope st_law, [], []⟩
def fa0 : List He.Fa := [.free "abs", .free "all", .free "int", .free "isinstance", .free "len", .free "range", .free "repr", .free "str", .free "tuple", .str "BETWEEN" " / ", .str "LETTERS" "abcdefghijklmnopqrstuvwxyz", .int "LONGEST" 8, .int "MOST_HALLS" 4, .glo "WAYS", .glo "is_name", .glo "is_way", .glo "is_deed", .glo "need_text", .glo "show_deed", .glo "read_deed", .glo "show_stroke", .glo "read_stroke", .glo "lines_of", .glo "show_row", .glo "read_row", .glo "_law_bag", .glo "_law_take", .glo "_law_name", .glo "_law_deed", .glo "_law_row"]
def fa1 : List He.Fa := [.glo "_law_deed_text", .glo "_law_text", .glo "_law_right", .glo "law"]
def fa : List He.Fa := fa0 ++ fa1
def fn0 : List He.DefD := [d_is_name, d_is_way, d_is_deed, d_need_text, d_show_deed, d_read_deed, d_show_stroke, d_read_stroke, d_lines_of, d_show_row, d_read_row, d__law_bag, d__law_take, d__law_name, d__law_deed, d__law_row, d__law_deed_text, d__law_text, d__law_right, d_law]
def fn : List He.DefD := fn0
def loose0 : List Str := ["__name__", "MirrorError", "NoText", "LETTERS", "LONGEST", "WAYS", "is_name", "is_way", "is_deed", "MOST_HALLS", "BETWEEN", "need_text", "show_deed", "read_deed", "show_stroke", "read_stroke", "lines_of", "show_row", "read_row", "_law_bag", "_law_take", "_law_name", "_law_deed", "_law_row", "_law_deed_text", "_law_text", "_law_right"]
def loose : List Str := loose0
def ex (K : PySem.W.Frag) : Bool := He.tupB K "WAYS" [.str "n", .str "e", .str "s", .str "w"]
abbrev R : PySem.W.OpenRow := PySem.W.OpenLaw.row PySem.Challenge.rw_slowmirror_k91_texts_of_rows
abbrev hk : PySem.W.Hook := He.hookX 4 fa fn [] [] ex
def ob (s : PySem.W.SharedT) : He.AlX := He.obsX 4 fa fn [] [] ex (HandSHeadRun.getT s)
theorem ob_eq (s : PySem.W.SharedT) : ob s = hk.obs s.abs := He.obsX_eq (HandSHeadRun.getT_eq s)
theorem run (w : World) : HandSHeadRun.RunEq R (PySem.W.view R.prog [30]) hk ob 6000 loose w := by
  intro os
  kernel_rfl
theorem facts {w : World} {K : PySem.W.Frag} {h : Heap} {mg : Str → Option Value} (X : K.In h) (G : h.Ns mainGlobals mg) (cx : He.SaysX fa fn [] [] ex w h K) : Facts ⟨K, mg⟩ := by
  have c := cx.t.d
  have ex0 : He.tupB K "WAYS" [.str "n", .str "e", .str "s", .str "w"] = true := by
    have m : ex K = true := cx.more
    exact m
  exact ⟨He.free_ok X G (c.fact 0 (f := .free "abs") rfl),
    He.free_ok X G (c.fact 1 (f := .free "all") rfl),
    He.free_ok X G (c.fact 2 (f := .free "int") rfl),
    He.free_ok X G (c.fact 3 (f := .free "isinstance") rfl),
    He.free_ok X G (c.fact 4 (f := .free "len") rfl),
    He.free_ok X G (c.fact 5 (f := .free "range") rfl),
    He.free_ok X G (c.fact 6 (f := .free "repr") rfl),
    He.free_ok X G (c.fact 7 (f := .free "str") rfl),
    He.free_ok X G (c.fact 8 (f := .free "tuple") rfl),
    He.str_ok X G (c.fact 9 (f := .str "BETWEEN" " / ") rfl),
    He.str_ok X G (c.fact 10 (f := .str "LETTERS" "abcdefghijklmnopqrstuvwxyz") rfl),
    He.int_ok X G (c.fact 11 (f := .int "LONGEST" 8) rfl),
    He.int_ok X G (c.fact 12 (f := .int "MOST_HALLS" 4) rfl),
    ⟨_, He.glo_ok X G (c.fact 13 (f := .glo "WAYS") rfl), fun F => .tup (He.tupB_ok ex0 F) (.cons (.str _) (.cons (.str _) (.cons (.str _) (.cons (.str _) (.nil)))))⟩,
    ⟨_, (c.def_ 0 (d := d_is_name) rfl).choose, He.glo_ok X G (c.fact 14 (f := .glo "is_name") rfl), (c.def_ 0 (d := d_is_name) rfl).choose_spec⟩,
    ⟨_, (c.def_ 1 (d := d_is_way) rfl).choose, He.glo_ok X G (c.fact 15 (f := .glo "is_way") rfl), (c.def_ 1 (d := d_is_way) rfl).choose_spec⟩,
    ⟨_, (c.def_ 2 (d := d_is_deed) rfl).choose, He.glo_ok X G (c.fact 16 (f := .glo "is_deed") rfl), (c.def_ 2 (d := d_is_deed) rfl).choose_spec⟩,
    ⟨_, (c.def_ 3 (d := d_need_text) rfl).choose, He.glo_ok X G (c.fact 17 (f := .glo "need_text") rfl), (c.def_ 3 (d := d_need_text) rfl).choose_spec⟩,
    ⟨_, (c.def_ 4 (d := d_show_deed) rfl).choose, He.glo_ok X G (c.fact 18 (f := .glo "show_deed") rfl), (c.def_ 4 (d := d_show_deed) rfl).choose_spec⟩,
    ⟨_, (c.def_ 5 (d := d_read_deed) rfl).choose, He.glo_ok X G (c.fact 19 (f := .glo "read_deed") rfl), (c.def_ 5 (d := d_read_deed) rfl).choose_spec⟩,
    ⟨_, (c.def_ 6 (d := d_show_stroke) rfl).choose, He.glo_ok X G (c.fact 20 (f := .glo "show_stroke") rfl), (c.def_ 6 (d := d_show_stroke) rfl).choose_spec⟩,
    ⟨_, (c.def_ 7 (d := d_read_stroke) rfl).choose, He.glo_ok X G (c.fact 21 (f := .glo "read_stroke") rfl), (c.def_ 7 (d := d_read_stroke) rfl).choose_spec⟩,
    ⟨_, (c.def_ 8 (d := d_lines_of) rfl).choose, He.glo_ok X G (c.fact 22 (f := .glo "lines_of") rfl), (c.def_ 8 (d := d_lines_of) rfl).choose_spec⟩,
    ⟨_, (c.def_ 9 (d := d_show_row) rfl).choose, He.glo_ok X G (c.fact 23 (f := .glo "show_row") rfl), (c.def_ 9 (d := d_show_row) rfl).choose_spec⟩,
    ⟨_, (c.def_ 10 (d := d_read_row) rfl).choose, He.glo_ok X G (c.fact 24 (f := .glo "read_row") rfl), (c.def_ 10 (d := d_read_row) rfl).choose_spec⟩,
    ⟨_, (c.def_ 11 (d := d__law_bag) rfl).choose, He.glo_ok X G (c.fact 25 (f := .glo "_law_bag") rfl), (c.def_ 11 (d := d__law_bag) rfl).choose_spec⟩,
    ⟨_, (c.def_ 12 (d := d__law_take) rfl).choose, He.glo_ok X G (c.fact 26 (f := .glo "_law_take") rfl), (c.def_ 12 (d := d__law_take) rfl).choose_spec⟩,
    ⟨_, (c.def_ 13 (d := d__law_name) rfl).choose, He.glo_ok X G (c.fact 27 (f := .glo "_law_name") rfl), (c.def_ 13 (d := d__law_name) rfl).choose_spec⟩,
    ⟨_, (c.def_ 14 (d := d__law_deed) rfl).choose, He.glo_ok X G (c.fact 28 (f := .glo "_law_deed") rfl), (c.def_ 14 (d := d__law_deed) rfl).choose_spec⟩,
    ⟨_, (c.def_ 15 (d := d__law_row) rfl).choose, He.glo_ok X G (c.fact 29 (f := .glo "_law_row") rfl), (c.def_ 15 (d := d__law_row) rfl).choose_spec⟩,
    ⟨_, (c.def_ 16 (d := d__law_deed_text) rfl).choose, He.glo_ok X G (c.fact 30 (f := .glo "_law_deed_text") rfl), (c.def_ 16 (d := d__law_deed_text) rfl).choose_spec⟩,
    ⟨_, (c.def_ 17 (d := d__law_text) rfl).choose, He.glo_ok X G (c.fact 31 (f := .glo "_law_text") rfl), (c.def_ 17 (d := d__law_text) rfl).choose_spec⟩,
    ⟨_, (c.def_ 18 (d := d__law_right) rfl).choose, He.glo_ok X G (c.fact 32 (f := .glo "_law_right") rfl), (c.def_ 18 (d := d__law_right) rfl).choose_spec⟩,
    ⟨_, (c.def_ 19 (d := d_law) rfl).choose, He.glo_ok X G (c.fact 33 (f := .glo "law") rfl), (c.def_ 19 (d := d_law) rfl).choose_spec⟩⟩
end HdK91
open PySem PySem.W PySem.Calls PyProof.Rows
theorem PySem.Challenge.cw_slowmirror_k91_texts_of_rows_holds : PySem.Challenge.rw_slowmirror_k91_texts_of_rows.Holds := by
  w_on; o_law
  refine HandSHeadRun.head_any (r := OpenLaw.row PySem.Challenge.rw_slowmirror_k91_texts_of_rows) (q := view (OpenLaw.row PySem.Challenge.rw_slowmirror_k91_texts_of_rows).prog [30]) (H := HdK91.hk) (ob := HdK91.ob) (M := 6000) (loose := HdK91.loose) (d := HandSHeadRun.topDef (OpenLaw.row PySem.Challenge.rw_slowmirror_k91_texts_of_rows).prog 30) (kwd := []) HdK91.ob_eq
    (by kernel_rfl) (fun s => by kernel_rfl) HdK91.run (by kernel_rfl) (by kernel_rfl) (by kernel_rfl) (by rfl) (by first | assumption | decide +kernel) (by decide +kernel) ⟨rfl, rfl, rfl, rfl, rfl, by decide +kernel⟩ ?hw ?hc
  case hw => w_witness2
  case hc =>
    refine L2.walk_ofG (l := PySem.Challenge.rw_slowmirror_k91_texts_of_rows) (n := 63) (k := 7) (x := "_law_script") (CX := fun w => L2.CX (PySem.Challenge.rw_slowmirror_k91_texts_of_rows).prog w) rfl (by decide) (by kernel_rfl) ⟨rfl, by decide, by decide⟩ ?F (fun _ _ _ _ _ z => L3.cx_false z)
    intro w mg fa h Y G hmg0
    obtain ⟨K, KX, c⟩ := Y
    have hmg : mg ("law" : PySem.Str) = some (.ref fa) := by
      have e : (HandSHeadRun.topDef (OpenLaw.row PySem.Challenge.rw_slowmirror_k91_texts_of_rows).prog 30).name = ("law" : PySem.Str) := by kernel_rfl
      rw [← e]
      exact hmg0
    have FX := HdK91.facts (w := w) KX G c
    obtain ⟨fl, fd, m, F⟩ := FX.d_law
    have e := Option.some.inj (hmg.symm.trans m)
    cases e
    refine ⟨K, fd, L3.spOf ⟨K, mg⟩ K91.F_law, KX, ?b, fun H a ns hl hO hS => L3.law_sp (T := ⟨K, mg⟩) hO hS (K91.law_ok ns), fun base _ _ => ?h⟩
    case b =>
      have b := L2.FunD.bindsA (ps := ["_law_script"]) F fun _ _ _ _ _ _ us hl => match us, hl with | [_], _ => rfl
      exact fun s v => b s [v] rfl
    case h =>
      exact K91.ok_law (T := ⟨K, mg⟩) (P := (PySem.Challenge.rw_slowmirror_k91_texts_of_rows).prog) (w := w) (base := base) FX F
