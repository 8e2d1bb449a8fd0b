import PyProof.Rows.All
import Wide.All
import OpenK.AllK
import Wide.FinOn
import HandS.ForMost
import HandS.Evl
import HandS.Zip
import HandS.Wide
import HandS.SortInts
import HandS.Conv
import HandS.TupAny
import HandS.Style
import HandS.DictComp
import HandS.IsInst
import HandS.SortKw
import KE.DataMinMax
import KE.KIndexOf
import PyProof.ReprRoads
import PyProof.FactsAll.tuple_0
import PyProof.FactsAll.tuple_2
import PyProof.ReprBulk
import PyProof.Rows.RegStrFacts
import PySem.Challenge.RW_gridknot_k34_alexander_by_own_expansion
set_option Elab.async false
set_option linter.all false
set_option maxRecDepth 100000
set_option maxHeartbeats 4000000
/-! GLay: data at any depth (Dn), with the places where lists may stand; what an expression comes to, as data (EvD). -/
namespace GK
open PySem PySem.Spec PyProof.Rows L2 Evl

/-- a list that stands at a, where A allows -/
def SqA (K : PySem.W.Frag) (A : Addr → Prop) (H : Hp) (a : Addr) (xs : List V) : Prop := A a ∧ H a = some (.lst xs)
theorem SqA.sq {K : PySem.W.Frag} {A : Addr → Prop} {H : Hp} {a : Addr} {xs : List V} (h : SqA K A H a xs) : SqL K H a xs := Or.inl (Or.inl h.2)
theorem sqA_at {K : PySem.W.Frag} {A : Addr → Prop} {H : Hp} {a : Addr} {xs : List V} (h : H a = some (.lst xs)) (ha : A a) : SqA K A H a xs := ⟨ha, h⟩

mutual
/-- the value v is the data d -/
inductive Dn (K : PySem.W.Frag) (A : Addr → Prop) (H : Hp) : V → PyData → Prop
  | non : Dn K A H .non .none
  | bl (b : Bool) : Dn K A H (.bl b) (.bool b)
  | int (i : Int) : Dn K A H (.int i) (.int i)
  | str (x : Str) : Dn K A H (.str x) (.str x)
  | lst {a : Addr} {xs : List V} {ds : List PyData} : SqA K A H a xs → DnAll K A H xs ds → Dn K A H (.ref a) (.list ds)
  | tup {a : Addr} {xs : List V} {ds : List PyData} : H a = some (.tup xs) → DnAll K A H xs ds → Dn K A H (.ref a) (.tuple ds)
inductive DnAll (K : PySem.W.Frag) (A : Addr → Prop) (H : Hp) : List V → List PyData → Prop
  | nil : DnAll K A H [] []
  | cons {v : V} {vs : List V} {d : PyData} {ds : List PyData} : Dn K A H v d → DnAll K A H vs ds → DnAll K A H (v :: vs) (d :: ds)
end
abbrev Tt : Addr → Prop := fun _ => True
abbrev Dd (K : PySem.W.Frag) (H : Hp) (v : V) (d : PyData) : Prop := Dn K Tt H v d

section
variable {K : PySem.W.Frag} {A A' : Addr → Prop} {H H' : Hp}
theorem sqA_conv (hL : ∀ a xs, A a → H a = some (.lst xs) → A' a ∧ H' a = some (.lst xs)) {a : Addr} {xs : List V} (h : SqA K A H a xs) : SqA K A' H' a xs := hL _ _ h.1 h.2
mutual
theorem Dn.conv (hT : ∀ a xs, H a = some (.tup xs) → H' a = some (.tup xs)) (hL : ∀ a xs, A a → H a = some (.lst xs) → A' a ∧ H' a = some (.lst xs)) : ∀ (d : PyData) (v : V), Dn K A H v d → Dn K A' H' v d
  | .none, _, h => by cases h; exact .non
  | .bool _, _, h => by cases h; exact .bl _
  | .int _, _, h => by cases h; exact .int _
  | .str _, _, h => by cases h; exact .str _
  | .list ds, _, h => by
    cases h with
    | lst h1 h2 => exact .lst (sqA_conv hL h1) (DnAll.conv hT hL ds _ h2)
  | .tuple ds, _, h => by
    cases h with
    | tup h1 h2 => exact .tup (hT _ _ h1) (DnAll.conv hT hL ds _ h2)
  | .dict _, _, h => by cases h
theorem DnAll.conv (hT : ∀ a xs, H a = some (.tup xs) → H' a = some (.tup xs)) (hL : ∀ a xs, A a → H a = some (.lst xs) → A' a ∧ H' a = some (.lst xs)) : ∀ (ds : List PyData) (vs : List V), DnAll K A H vs ds → DnAll K A' H' vs ds
  | [], _, h => by cases h; exact .nil
  | d :: ds, _, h => by
    cases h with
    | cons h1 h2 => exact .cons (Dn.conv hT hL d _ h1) (DnAll.conv hT hL ds _ h2)
end
mutual
theorem Dn.dp : ∀ (d : PyData) (v : V), Dn K A H v d → Dp K H v d
  | .none, _, h => by cases h; exact .non
  | .bool _, _, h => by cases h; exact .bl _
  | .int _, _, h => by cases h; exact .int _
  | .str _, _, h => by cases h; exact .str _
  | .list ds, _, h => by
    cases h with
    | lst h1 h2 => exact .lst h1.sq (DnAll.dp ds _ h2)
  | .tuple ds, _, h => by
    cases h with
    | tup h1 h2 => exact .tup (st_of h1) (DnAll.dp ds _ h2)
  | .dict _, _, h => by cases h
theorem DnAll.dp : ∀ (ds : List PyData) (vs : List V), DnAll K A H vs ds → DpAll K H vs ds
  | [], _, h => by cases h; exact .nil
  | d :: ds, _, h => by
    cases h with
    | cons h1 h2 => exact .cons (Dn.dp d _ h1) (DnAll.dp ds _ h2)
end
theorem Dn.ex {v : V} {d : PyData} (h : Dn K A H v d) (e : Ex H H') : Dn K A H' v d := Dn.conv (fun _ _ r => e _ _ r) (fun _ _ a r => ⟨a, e _ _ r⟩) d v h
theorem DnAll.ex {v : List V} {d : List PyData} (h : DnAll K A H v d) (e : Ex H H') : DnAll K A H' v d := DnAll.conv (fun _ _ r => e _ _ r) (fun _ _ a r => ⟨a, e _ _ r⟩) d v h
theorem Dn.weak {v : V} {d : PyData} (h : Dn K A H v d) (w : ∀ a, A a → A' a) : Dn K A' H v d := Dn.conv (fun _ _ r => r) (fun _ _ a r => ⟨w _ a, r⟩) d v h
theorem DnAll.weak {v : List V} {d : List PyData} (h : DnAll K A H v d) (w : ∀ a, A a → A' a) : DnAll K A' H v d := DnAll.conv (fun _ _ r => r) (fun _ _ a r => ⟨w _ a, r⟩) d v h
theorem Dn.dd {v : V} {d : PyData} (h : Dn K A H v d) : Dd K H v d := h.weak fun _ _ => trivial
theorem DnAll.dd {v : List V} {d : List PyData} (h : DnAll K A H v d) : DnAll K Tt H v d := h.weak fun _ _ => trivial
theorem Dn.there {v : V} {d : PyData} (h : Dn K A H v d) : Dn K (fun a => A a ∧ H a ≠ none) H v d := Dn.conv (fun _ _ r => r) (fun _ _ a r => ⟨⟨a, fun z => by rw [z] at r; cases r⟩, r⟩) d v h
theorem DnAll.there {v : List V} {d : List PyData} (h : DnAll K A H v d) : DnAll K (fun a => A a ∧ H a ≠ none) H v d := DnAll.conv (fun _ _ r => r) (fun _ _ a r => ⟨⟨a, fun z => by rw [z] at r; cases r⟩, r⟩) d v h
/-- an object that is no tuple is changed at p, and no list of the data stands there -/
def NoT (H : Hp) (p : Addr) : Prop := ∀ xs, H p ≠ some (.tup xs)
theorem noT_l {p : Addr} {xs : List V} (h : H p = some (.lst xs)) : NoT H p := fun ys r => by
  rw [h] at r; cases r
theorem noT_k {p : Addr} {xs} (h : H p = some (.dK xs)) : NoT H p := fun ys r => by
  rw [h] at r; cases r
theorem noT_t {p : Addr} {xs} (h : H p = some (.dT xs)) : NoT H p := fun ys r => by
  rw [h] at r; cases r
theorem noT_f {p : Addr} {o xs} (h : H p = some (.frz o xs)) : NoT H p := fun ys r => by
  rw [h] at r; cases r
theorem noT_n {p : Addr} (h : H p = none) : NoT H p := fun ys r => by
  rw [h] at r; cases r
theorem tup_upd {a p : Addr} {o : HO} {xs : List V} (n : NoT H p) (r : H a = some (.tup xs)) : upd H p o a = some (.tup xs) := by
  rw [upd_ne fun e => n xs (by rw [← e]; exact r)]
  exact r
theorem Dn.upd {v : V} {d : PyData} {p : Addr} {o : HO} (h : Dn K A H v d) (n : NoT H p) (w : ∀ a, A a → a ≠ p) : Dn K A (L2.upd H p o) v d :=
  Dn.conv (fun a xs r => tup_upd n r) (fun _ _ a r => ⟨a, by rw [upd_ne (w _ a)]; exact r⟩) d v h
theorem DnAll.upd {v : List V} {d : List PyData} {p : Addr} {o : HO} (h : DnAll K A H v d) (n : NoT H p) (w : ∀ a, A a → a ≠ p) : DnAll K A (L2.upd H p o) v d :=
  DnAll.conv (fun a xs r => tup_upd n r) (fun _ _ a r => ⟨a, by rw [upd_ne (w _ a)]; exact r⟩) d v h
end

/-! no list within -/
mutual
def noL : PyData → Bool
  | .list _ => false
  | .tuple ds => noLs ds
  | .dict _ => false
  | _ => true
def noLs : List PyData → Bool
  | [] => true
  | d :: ds => noL d && noLs ds
end
section
variable {K : PySem.W.Frag} {A A' : Addr → Prop} {H H' : Hp}
mutual
theorem Dn.noL (hT : ∀ a xs, H a = some (.tup xs) → H' a = some (.tup xs)) : ∀ (d : PyData) (v : V), noL d = true → Dn K A H v d → Dn K A' H' v d
  | .none, _, _, h => by cases h; exact .non
  | .bool _, _, _, h => by cases h; exact .bl _
  | .int _, _, _, h => by cases h; exact .int _
  | .str _, _, _, h => by cases h; exact .str _
  | .list ds, _, n, h => absurd (show false = true from n) Bool.false_ne_true
  | .tuple ds, _, n, h => by
    cases h with
    | tup h1 h2 => exact .tup (hT _ _ h1) (DnAll.noL hT ds _ n h2)
  | .dict _, _, _, h => by cases h
theorem DnAll.noL (hT : ∀ a xs, H a = some (.tup xs) → H' a = some (.tup xs)) : ∀ (ds : List PyData) (vs : List V), noLs ds = true → DnAll K A H vs ds → DnAll K A' H' vs ds
  | [], _, _, h => by cases h; exact .nil
  | d :: ds, _, n, h => by
    have n' : (GK.noL d && noLs ds) = true := n
    rw [Bool.and_eq_true] at n'
    cases h with
    | cons h1 h2 => exact .cons (Dn.noL hT d _ n'.1 h1) (DnAll.noL hT ds _ n'.2 h2)
end
/-- data without a list stays under every change that leaves the tuples -/
theorem Dn.any {v : V} {d : PyData} (h : Dn K A H v d) (n : GK.noL d = true) : Dn K A' H v d := Dn.noL (fun _ _ r => r) d v n h
theorem DnAll.any {v : List V} {d : List PyData} (h : DnAll K A H v d) (n : noLs d = true) : DnAll K A' H v d := DnAll.noL (fun _ _ r => r) d v n h
theorem Dn.updN {v : V} {d : PyData} {p : Addr} {o : HO} (h : Dn K A H v d) (nl : GK.noL d = true) (n : NoT H p) : Dn K A' (L2.upd H p o) v d :=
  Dn.noL (fun a xs r => tup_upd n r) d v nl h
theorem DnAll.updN {v : List V} {d : List PyData} {p : Addr} {o : HO} (h : DnAll K A H v d) (nl : noLs d = true) (n : NoT H p) : DnAll K A' (L2.upd H p o) v d :=
  DnAll.noL (fun a xs r => tup_upd n r) d v nl h

/-! ### lists of data -/
theorem DnAll.len {vs : List V} {ds : List PyData} (h : DnAll K A H vs ds) : vs.length = ds.length := by
  induction ds generalizing vs with
  | nil => cases h; rfl
  | cons d ds ih =>
    cases h with
    | cons _ h2 => rw [List.length_cons, List.length_cons, ih h2]
theorem DnAll.get : ∀ {vs : List V} {ds : List PyData} {i : Nat} {d : PyData}, DnAll K A H vs ds → ds[i]? = some d → ∃ v, vs[i]? = some v ∧ Dn K A H v d
  | _, [], _, _, _, e => by simp at e
  | _, d' :: ds, 0, d, h, e => by
    cases h with
    | cons h1 _ =>
      have : d' = d := Option.some.inj e
      subst this
      exact ⟨_, rfl, h1⟩
  | _, d' :: ds, i + 1, d, h, e => by
    cases h with
    | cons _ h2 =>
      obtain ⟨v, e1, e2⟩ := DnAll.get (i := i) (d := d) h2 (by simpa using e)
      exact ⟨v, by simpa using e1, e2⟩
theorem DnAll.get' : ∀ {vs : List V} {ds : List PyData} {i : Nat} {v : V}, DnAll K A H vs ds → vs[i]? = some v → ∃ d, ds[i]? = some d ∧ Dn K A H v d
  | _, [], _, _, h, e => by cases h; simp at e
  | _, d' :: ds, 0, v, h, e => by
    cases h with
    | cons h1 _ =>
      have e := Option.some.inj e
      subst e
      exact ⟨_, rfl, h1⟩
  | _, d' :: ds, i + 1, v, h, e => by
    cases h with
    | cons _ h2 =>
      obtain ⟨d, e1, e2⟩ := DnAll.get' (i := i) (v := v) h2 (by simpa using e)
      exact ⟨d, by simpa using e1, e2⟩
theorem DnAll.app : ∀ {vs ws : List V} {ds es : List PyData}, DnAll K A H vs ds → DnAll K A H ws es → DnAll K A H (vs ++ ws) (ds ++ es)
  | _, _, [], _, h, g => by cases h; exact g
  | _, _, d :: ds, _, h, g => by
    cases h with
    | cons h1 h2 => exact .cons h1 (DnAll.app h2 g)
theorem DnAll.one {v : V} {d : PyData} (h : Dn K A H v d) : DnAll K A H [v] [d] := .cons h .nil
theorem DnAll.set : ∀ {vs : List V} {ds : List PyData} {v : V} {d : PyData} (i : Nat), DnAll K A H vs ds → Dn K A H v d → DnAll K A H (vs.set i v) (ds.set i d)
  | _, [], _, _, _, h, _ => by cases h; exact .nil
  | _, d' :: ds, _, _, 0, h, g => by
    cases h with
    | cons h1 h2 => exact .cons g h2
  | _, d' :: ds, _, _, i + 1, h, g => by
    cases h with
    | cons h1 h2 => exact .cons h1 (DnAll.set i h2 g)
theorem DnAll.drop : ∀ {vs : List V} {ds : List PyData} (i : Nat), DnAll K A H vs ds → DnAll K A H (vs.drop i) (ds.drop i)
  | _, _, 0, h => h
  | _, [], _ + 1, h => by cases h; exact .nil
  | _, d' :: ds, i + 1, h => by
    cases h with
    | cons h1 h2 => exact DnAll.drop i h2
theorem DnAll.take : ∀ {vs : List V} {ds : List PyData} (i : Nat), DnAll K A H vs ds → DnAll K A H (vs.take i) (ds.take i)
  | _, _, 0, h => .nil
  | _, [], _ + 1, h => by cases h; exact .nil
  | _, d' :: ds, i + 1, h => by
    cases h with
    | cons h1 h2 => exact .cons h1 (DnAll.take i h2)
theorem DnAll.rev {vs : List V} : ∀ {ds : List PyData}, DnAll K A H vs ds → DnAll K A H vs.reverse ds.reverse := by
  induction vs with
  | nil => intro ds h; cases h; exact .nil
  | cons v vs ih =>
    intro ds h
    cases h with
    | cons h1 h2 =>
      rw [List.reverse_cons, List.reverse_cons]
      exact (ih h2).app (.one h1)
theorem DnAll.ints : ∀ {vs : List V} {ns : List Int}, DnAll K A H vs (ns.map .int) → vs = ns.map V.int
  | _, [], h => by cases h; rfl
  | _, n :: ns, h => by
    cases h with
    | cons h1 h2 =>
      cases h1
      rw [DnAll.ints h2]
      rfl
theorem DnAll.of_ints : ∀ (ns : List Int), DnAll K A H (ns.map V.int) (ns.map .int)
  | [] => .nil
  | n :: ns => .cons (.int n) (DnAll.of_ints ns)
theorem DnAll.bools : ∀ {vs : List V} {ns : List Bool}, DnAll K A H vs (ns.map .bool) → vs = ns.map V.bl
  | _, [], h => by cases h; rfl
  | _, n :: ns, h => by
    cases h with
    | cons h1 h2 =>
      cases h1
      rw [DnAll.bools h2]
      rfl
theorem DnAll.rep {v : V} {d : PyData} (h : Dn K A H v d) : ∀ n, DnAll K A H (List.replicate n v) (List.replicate n d)
  | 0 => .nil
  | n + 1 => by
    rw [List.replicate_succ, List.replicate_succ]
    exact .cons h (DnAll.rep h n)
theorem Dn.int_inv {v : V} {i : Int} (h : Dn K A H v (.int i)) : v = .int i := by cases h; rfl
theorem Dn.bool_inv {v : V} {b : Bool} (h : Dn K A H v (.bool b)) : v = .bl b := by cases h; rfl
theorem Dn.str_inv {v : V} {b : Str} (h : Dn K A H v (.str b)) : v = .str b := by cases h; rfl
theorem Dn.non_inv {v : V} (h : Dn K A H v .none) : v = .non := by cases h; rfl
theorem Dn.list_inv {v : V} {ds : List PyData} (h : Dn K A H v (.list ds)) : ∃ a xs, v = .ref a ∧ SqA K A H a xs ∧ DnAll K A H xs ds := by
  cases h with
  | lst h1 h2 => exact ⟨_, _, rfl, h1, h2⟩
theorem Dn.tup_inv {v : V} {ds : List PyData} (h : Dn K A H v (.tuple ds)) : ∃ a xs, v = .ref a ∧ SqT K H a xs ∧ DnAll K A H xs ds := by
  cases h with
  | tup h1 h2 => exact ⟨_, _, rfl, st_of h1, h2⟩
theorem Dn.tup_at {v : V} {ds : List PyData} (h : Dn K A H v (.tuple ds)) : ∃ a xs, v = .ref a ∧ H a = some (.tup xs) ∧ DnAll K A H xs ds := by
  cases h with
  | tup h1 h2 => exact ⟨_, _, rfl, h1, h2⟩
theorem DnAll.nil_inv {vs : List V} (h : DnAll K A H vs []) : vs = [] := by cases h; rfl
theorem DnAll.cons_inv {vs : List V} {d : PyData} {ds : List PyData} (h : DnAll K A H vs (d :: ds)) : ∃ v r, vs = v :: r ∧ Dn K A H v d ∧ DnAll K A H r ds := by
  cases h with
  | cons h1 h2 => exact ⟨_, _, rfl, h1, h2⟩
end

/-! ### what an expression comes to -/
/-- where lists of a result may stand: where A allows and they stood at H, or anew since H1 -/
def NewA (A : Addr → Prop) (H H1 : Hp) : Addr → Prop := fun a => (A a ∧ H a ≠ none) ∨ H1 a = none
def EvD (K : PySem.W.Frag) (A : Addr → Prop) (te : TE) (σ : L2.St) (H : Hp) (d : PyData) : Prop :=
  ∀ H1, Ex H H1 → ∀ Q : VK, (∀ v H2, Ex H1 H2 → Dn K (NewA A H H1) H2 v d → Q v H2) → te σ H1 Q
/-- a new list that may be changed -/
def EvM (K : PySem.W.Frag) (A : Addr → Prop) (te : TE) (σ : L2.St) (H : Hp) (ds : List PyData) : Prop :=
  ∀ H1, Ex H H1 → ∀ Q : VK, (∀ p vs H2, H1 p = none → Ex H1 H2 → H2 p = some (.lst vs) → DnAll K (fun a => NewA A H H1 a ∧ a ≠ p) H2 vs ds → Q (.ref p) H2) → te σ H1 Q
def EvDA (K : PySem.W.Frag) (A : Addr → Prop) (ta : TA) (σ : L2.St) (H : Hp) (ds : List PyData) : Prop :=
  ∀ H1, Ex H H1 → ∀ Q : List V → Hp → Prop, (∀ vs H2, Ex H1 H2 → DnAll K (NewA A H H1) H2 vs ds → Q vs H2) → ta σ H1 Q

section
variable {K : PySem.W.Frag} {A A' : Addr → Prop} {σ : L2.St} {H H' : Hp} {ta tb te tx tc : TE} {t u : TT} {d : PyData} {ds : List PyData}
theorem newA_weak {H1 : Hp} (w : ∀ a, A a → A' a) : ∀ a, NewA A H H1 a → NewA A' H H1 a := fun a h => h.imp (fun h => ⟨w a h.1, h.2⟩) id
theorem ex_there (e : Ex H H') {a : Addr} (h : H a ≠ none) : H' a ≠ none := fun q => h (fresh_back e q)
theorem EvD.weak (h : EvD K A te σ H d) (w : ∀ a, A a → A' a) : EvD K A' te σ H d := fun H1 e Q q => h H1 e Q fun v H2 e2 g => q v H2 e2 (g.weak (newA_weak w))
theorem EvD.dd (h : EvD K A te σ H d) : EvD K Tt te σ H d := h.weak fun _ _ => trivial
theorem EvD.mono (h : EvD K A te σ H d) (e : Ex H H') : EvD K A te σ H' d := fun H1 e1 Q q => h H1 (e.trans e1) Q fun v H2 e2 g => q v H2 e2 (g.weak fun a z => z.imp (fun z => ⟨z.1, ex_there e z.2⟩) id)
theorem EvD.to {d' : PyData} (h : EvD K A te σ H d) (e : d = d') : EvD K A te σ H d' := e ▸ h
theorem EvM.weak (h : EvM K A te σ H ds) (w : ∀ a, A a → A' a) : EvM K A' te σ H ds := fun H1 e Q q => h H1 e Q fun p vs H2 hp e2 h2 g => q p vs H2 hp e2 h2 (g.weak fun a z => ⟨newA_weak w a z.1, z.2⟩)
theorem EvM.to {ds' : List PyData} (h : EvM K A te σ H ds) (e : ds = ds') : EvM K A te σ H ds' := e ▸ h
/-- a changeable new list is a list -/
theorem EvM.lst (h : EvM K A te σ H ds) : EvD K A te σ H (.list ds) := fun H1 e Q q => h H1 e Q fun p vs H2 hp e2 h2 g => q _ H2 e2 (.lst (sqA_at h2 (Or.inr hp)) (g.weak fun _ z => z.1))
theorem EvDA.weak (h : EvDA K A (fun σ => tNil σ) σ H ds) (w : ∀ a, A a → A' a) : EvDA K A' (fun σ => tNil σ) σ H ds := fun H1 e Q q => h H1 e Q fun v H2 e2 g => q v H2 e2 (g.weak (newA_weak w))
/-- from the evaluation of one after another -/
theorem dn_go {v : V} {H0 H1 H2 H3 : Hp} (g : Dn K (NewA A H0 H1) H2 v d) (e : Ex H2 H3) : Dn K (NewA A H0 H1) H3 v d := g.ex e
theorem dn_back {v : V} {H0 H1 H2 : Hp} (e : Ex H1 H2) {H3 : Hp} (g : Dn K (NewA A H0 H2) H3 v d) : Dn K (NewA A H0 H1) H3 v d := g.weak fun a z => z.imp id (fresh_back e)
theorem dna_back {v : List V} {H0 H1 H2 : Hp} (e : Ex H1 H2) {H3 : Hp} (g : DnAll K (NewA A H0 H2) H3 v ds) : DnAll K (NewA A H0 H1) H3 v ds := g.weak fun a z => z.imp id (fresh_back e)

/-! ### names, constants -/
theorem ed_v {i : Nat} {v : V} (h : σ[i]? = some (some v)) (g : Dn K A H v d) : EvD K A (tVar i) σ H d := fun H1 e _ q => ⟨v, h, q v H1 (Ex.refl H1) ((g.there.ex e).weak fun a z => Or.inl z)⟩
theorem ed_int {i : Int} : EvD K A (tC (.int i)) σ H (.int i) := fun H1 _ _ q => q _ H1 (Ex.refl H1) (.int i)
theorem ed_bl {i : Bool} : EvD K A (tC (.bl i)) σ H (.bool i) := fun H1 _ _ q => q _ H1 (Ex.refl H1) (.bl i)
theorem ed_non : EvD K A (tC .non) σ H .none := fun H1 _ _ q => q _ H1 (Ex.refl H1) .non
theorem ed_ev_i {i : Int} (h : EvD K A te σ H (.int i)) : Ev te σ H (.int i) := fun H1 e Q q => h H1 e Q fun v H2 e2 g => by
  cases g
  exact q H2 e2
theorem ed_ev_b {i : Bool} (h : EvD K A te σ H (.bool i)) : Ev te σ H (.bl i) := fun H1 e Q q => h H1 e Q fun v H2 e2 g => by
  cases g
  exact q H2 e2
theorem ev_ed_i {i : Int} (h : Ev te σ H (.int i)) : EvD K A te σ H (.int i) := fun H1 e Q q => h H1 e Q fun H2 e2 => q _ H2 e2 (.int i)
theorem ev_ed_b {i : Bool} (h : Ev te σ H (.bl i)) : EvD K A te σ H (.bool i) := fun H1 e Q q => h H1 e Q fun H2 e2 => q _ H2 e2 (.bl i)
theorem ev_ed_s {i : Str} (h : Ev te σ H (.str i)) : EvD K A te σ H (.str i) := fun H1 e Q q => h H1 e Q fun H2 e2 => q _ H2 e2 (.str i)

/-! ### operators -/
/-- two parts, then what is made of them -/
theorem ed_two {da db : PyData} {r : R2} (ha : EvD K A ta σ H da) (hb : EvD K A' tb σ H db)
    (hr : ∀ x y H1 H3, Ex H H1 → Ex H1 H3 → Dn K (NewA A H H1) H3 x da → Dn K (NewA A' H H1) H3 y db → ∀ Q : VK, (∀ v H4, Ex H3 H4 → Dn K (NewA A H H1) H4 v d → Q v H4) → r x y H3 Q) : EvD K A (tOp r ta tb) σ H d := fun H1 e Q q =>
  ha H1 e _ fun x H2 e2 gx => hb H2 (e.trans e2) _ fun y H3 e3 gy => hr x y H1 H3 e (e2.trans e3) (gx.ex e3) (dn_back e2 gy) Q fun v H4 e4 g => q v H4 ((e2.trans e3).trans e4) g
theorem ed_i0 {g : Int → Int → Int} {i j : Int} (ha : EvD K A ta σ H (.int i)) (hb : EvD K A tb σ H (.int j)) : EvD K A (tOp (rI0 fun i j => .int (g i j)) ta tb) σ H (.int (g i j)) :=
  ed_two ha hb fun x y H1 H3 _ _ gx gy Q q => ⟨i, j, gx.int_inv, gy.int_inv, q _ H3 (Ex.refl H3) (.int _)⟩
theorem ed_b0 {g : Int → Int → Bool} {i j : Int} (ha : EvD K A ta σ H (.int i)) (hb : EvD K A tb σ H (.int j)) : EvD K A (tOp (rI0 fun i j => .bl (g i j)) ta tb) σ H (.bool (g i j)) :=
  ed_two ha hb fun x y H1 H3 _ _ gx gy Q q => ⟨i, j, gx.int_inv, gy.int_inv, q _ H3 (Ex.refl H3) (.bl _)⟩
theorem ed_iC {C : Int → Int → Prop} {g : Int → Int → Int} {i j : Int} (ha : EvD K A ta σ H (.int i)) (hb : EvD K A tb σ H (.int j)) (hc : C i j) : EvD K A (tOp (rI C fun i j => .int (g i j)) ta tb) σ H (.int (g i j)) :=
  ed_two ha hb fun x y H1 H3 _ _ gx gy Q q => ⟨i, j, gx.int_inv, gy.int_inv, hc, q _ H3 (Ex.refl H3) (.int _)⟩
theorem ed_eqI {i j : Int} (ha : EvD K A ta σ H (.int i)) (hb : EvD K A tb σ H (.int j)) : EvD K A (tOp rEq ta tb) σ H (.bool (decide (i = j))) :=
  ed_two ha hb fun x y H1 H3 _ _ gx gy Q q => by
    rw [gx.int_inv, gy.int_inv]
    refine ⟨rfl, q _ H3 (Ex.refl H3) ?_⟩
    rw [show decide (V.int i = V.int j) = decide (i = j) by simp]
    exact .bl _
theorem ed_neI {i j : Int} (ha : EvD K A ta σ H (.int i)) (hb : EvD K A tb σ H (.int j)) : EvD K A (tOp rNe ta tb) σ H (.bool (!decide (i = j))) :=
  ed_two ha hb fun x y H1 H3 _ _ gx gy Q q => by
    rw [gx.int_inv, gy.int_inv]
    refine ⟨rfl, q _ H3 (Ex.refl H3) ?_⟩
    rw [show decide (V.int i = V.int j) = decide (i = j) by simp]
    exact .bl _
theorem ed_eqB {i j : Bool} (ha : EvD K A ta σ H (.bool i)) (hb : EvD K A tb σ H (.bool j)) : EvD K A (tOp rEq ta tb) σ H (.bool (decide (i = j))) :=
  ed_two ha hb fun x y H1 H3 _ _ gx gy Q q => by
    rw [gx.bool_inv, gy.bool_inv]
    refine ⟨rfl, q _ H3 (Ex.refl H3) ?_⟩
    rw [show decide (V.bl i = V.bl j) = decide (i = j) by simp]
    exact .bl _
theorem ed_eqS {i j : Str} (ha : EvD K A ta σ H (.str i)) (hb : EvD K A tb σ H (.str j)) : EvD K A (tOp rEq ta tb) σ H (.bool (decide (i = j))) :=
  ed_two ha hb fun x y H1 H3 _ _ gx gy Q q => by
    rw [gx.str_inv, gy.str_inv]
    refine ⟨rfl, q _ H3 (Ex.refl H3) ?_⟩
    rw [show decide (V.str i = V.str j) = decide (i = j) by simp]
    exact .bl _
theorem ed_neS {i j : Str} (ha : EvD K A ta σ H (.str i)) (hb : EvD K A tb σ H (.str j)) : EvD K A (tOp rNe ta tb) σ H (.bool (!decide (i = j))) :=
  ed_two ha hb fun x y H1 H3 _ _ gx gy Q q => by
    rw [gx.str_inv, gy.str_inv]
    refine ⟨rfl, q _ H3 (Ex.refl H3) ?_⟩
    rw [show decide (V.str i = V.str j) = decide (i = j) by simp]
    exact .bl _
theorem ed_neg {i : Int} (ha : EvD K A ta σ H (.int i)) : EvD K A (tUn (rU fun i => .int (-i)) ta) σ H (.int (-i)) := fun H1 e Q q =>
  ha H1 e _ fun x H2 e2 g => ⟨i, g.int_inv, q _ H2 e2 (.int _)⟩
/-- == and != of data of any depth -/
theorem ed_eqD {da db : PyData} (ha : EvD K A ta σ H da) (hb : EvD K A tb σ H db) (sa : SeqAt.shaped da = true) (sb : SeqAt.shaped db = true) : EvD K A (tOp (rEqD K) ta tb) σ H (.bool (PyData.eqv da db)) :=
  ed_two ha hb fun x y H1 H3 _ _ gx gy Q q => ⟨da, db, Dn.dp _ _ gx, Dn.dp _ _ gy, sa, sb, q _ H3 (Ex.refl H3) (.bl _)⟩
theorem ed_neD {da db : PyData} (ha : EvD K A ta σ H da) (hb : EvD K A tb σ H db) (sa : SeqAt.shaped da = true) (sb : SeqAt.shaped db = true) : EvD K A (tOp (rNeD K) ta tb) σ H (.bool (!PyData.eqv da db)) :=
  ed_two ha hb fun x y H1 H3 _ _ gx gy Q q => ⟨da, db, Dn.dp _ _ gx, Dn.dp _ _ gy, sa, sb, q _ H3 (Ex.refl H3) (.bl _)⟩
/-! ### places -/
def atD (ds : List PyData) (i : Int) : Option PyData := (ixN ds.length i).bind fun j => ds[j]?
theorem DnAll.at {vs : List V} {i : Int} (h : DnAll K A H vs ds) (e : atD ds i = some d) : ∃ v, atI vs i = some v ∧ Dn K A H v d := by
  unfold atD at e
  unfold atI
  rw [h.len]
  cases q : ixN ds.length i with
  | none => rw [q] at e; cases e
  | some j =>
    rw [q] at e
    exact h.get e
theorem atD_nat {j : Nat} (h : ds[j]? = some d) : atD ds (j : Int) = some d := by
  unfold atD
  rw [ixN_nat (List.getElem?_eq_some_iff.mp h).1]
  exact h
theorem ed_ixL {i : Int} (ha : EvD K A ta σ H (.list ds)) (hb : EvD K A tb σ H (.int i)) (hi : atD ds i = some d) : EvD K A (tOp (rIxL K) ta tb) σ H d :=
  ed_two ha hb fun x y H1 H3 _ _ gx gy Q q => by
    obtain ⟨a, xs, rfl, hs, hd⟩ := gx.list_inv
    obtain ⟨v, e1, e2⟩ := hd.at hi
    exact ⟨a, xs, i, v, rfl, gy.int_inv, hs.sq, e1, q v H3 (Ex.refl H3) e2⟩
theorem ed_ixT {i : Int} (ha : EvD K A ta σ H (.tuple ds)) (hb : EvD K A tb σ H (.int i)) (hi : atD ds i = some d) : EvD K A (tOp (rIxT K) ta tb) σ H d :=
  ed_two ha hb fun x y H1 H3 _ _ gx gy Q q => by
    obtain ⟨a, xs, rfl, hs, hd⟩ := gx.tup_inv
    obtain ⟨v, e1, e2⟩ := hd.at hi
    exact ⟨a, xs, i, v, rfl, gy.int_inv, hs, e1, q v H3 (Ex.refl H3) e2⟩
/-! ### displays -/
theorem eda_nil : EvDA K A tNil σ H [] := fun H1 _ _ q => q _ H1 (Ex.refl H1) .nil
theorem eda_cons {tr : TA} (h : EvD K A ta σ H d) (hr : EvDA K A tr σ H ds) : EvDA K A (tCons ta tr) σ H (d :: ds) := fun H1 e _ q =>
  h H1 e _ fun v H2 e2 g => hr H2 (e.trans e2) _ fun vs H3 e3 g3 => q _ H3 (e2.trans e3) (.cons (g.ex e3) (dna_back e2 g3))
theorem ed_tup {ta : TA} (h : EvDA K A ta σ H ds) (hl : ds.length ≤ 100000) : EvD K A (tTup ta) σ H (.tuple ds) := fun H1 e _ q =>
  h H1 e _ fun vs H2 e2 g => ⟨sz_of (by rw [g.len]; exact hl), fun p hp => q _ _ (e2.trans (Ex.new hp)) (.tup upd_same (g.ex (Ex.new hp)))⟩
theorem em_lst {ta : TA} (h : EvDA K A ta σ H ds) (hl : ds.length ≤ 100000) : EvM K A (tLst ta) σ H ds := fun H1 e _ q =>
  h H1 e _ fun vs H2 e2 g => ⟨sz_of (by rw [g.len]; exact hl), fun p hp => q p vs _ (fresh_back e2 hp) (e2.trans (Ex.new hp)) upd_same
    (((g.there.weak (A' := fun a => NewA A H H1 a ∧ a ≠ p) fun a z => ⟨z.1, fun x => z.2 (x ▸ hp)⟩)).ex (Ex.new hp))⟩
end
end GK
set_option Elab.async false
set_option linter.all false
set_option maxRecDepth 100000
set_option maxHeartbeats 4000000
/-! GLay2: values (EvW), statements, loops and comprehensions over data. -/
namespace GK
open PySem PySem.Spec PyProof.Rows L2 Evl

/-- comes to a value that is d (nothing is said of where its lists stand) -/
def EvW (K : PySem.W.Frag) (te : TE) (σ : L2.St) (H : Hp) (d : PyData) : Prop :=
  ∀ H1, Ex H H1 → ∀ Q : VK, (∀ v H2, Ex H1 H2 → Dd K H2 v d → Q v H2) → te σ H1 Q
def EvWA (K : PySem.W.Frag) (ta : TA) (σ : L2.St) (H : Hp) (ds : List PyData) : Prop :=
  ∀ H1, Ex H H1 → ∀ Q : List V → Hp → Prop, (∀ vs H2, Ex H1 H2 → DnAll K Tt H2 vs ds → Q vs H2) → ta σ H1 Q
section
variable {K : PySem.W.Frag} {A A' : Addr → Prop} {σ : L2.St} {H H' : Hp} {ta tb te tx tc : TE} {t u : TT} {d : PyData} {ds : List PyData}
theorem EvD.w (h : EvD K A te σ H d) : EvW K te σ H d := fun H1 e Q q => h H1 e Q fun v H2 e2 g => q v H2 e2 g.dd
theorem EvM.w (h : EvM K A te σ H ds) : EvW K te σ H (.list ds) := h.lst.w
theorem EvW.mono (h : EvW K te σ H d) (e : Ex H H') : EvW K te σ H' d := fun H1 e1 Q q => h H1 (e.trans e1) Q q
theorem EvW.to {d' : PyData} (h : EvW K te σ H d) (e : d = d') : EvW K te σ H d' := e ▸ h
/-- data without a list may stand anywhere -/
theorem EvW.nl (h : EvW K te σ H d) (n : noL d = true) : EvD K A te σ H d := fun H1 e Q q => h H1 e Q fun v H2 e2 g => q v H2 e2 (g.any n)
theorem ew_v {i : Nat} {v : V} (h : σ[i]? = some (some v)) (g : Dd K H v d) : EvW K (tVar i) σ H d := (ed_v h g).w
theorem ew_int {i : Int} : EvW K (tC (.int i)) σ H (.int i) := (ed_int (A := Tt)).w
theorem ewa_nil : EvWA K tNil σ H [] := fun H1 _ _ q => q _ H1 (Ex.refl H1) .nil
theorem ewa_cons {tr : TA} (h : EvW K ta σ H d) (hr : EvWA K tr σ H ds) : EvWA K (tCons ta tr) σ H (d :: ds) := fun H1 e _ q =>
  h H1 e _ fun v H2 e2 g => hr H2 (e.trans e2) _ fun vs H3 e3 g3 => q _ H3 (e2.trans e3) (.cons (g.ex e3) g3)
theorem EvDA.w {ta : TA} (h : EvDA K A ta σ H ds) : EvWA K ta σ H ds := fun H1 e Q q => h H1 e Q fun v H2 e2 g => q v H2 e2 g.dd
/-- the value's own word is kept too: a slot -/
theorem ev_v {i : Nat} {v : V} (h : σ[i]? = some (some v)) : Ev (tVar i) σ H v := ev_var h

/-! ### tests -/
theorem etD {b : Bool} (h : EvD K Tt te σ H (.bool b)) : EvT (tTest te) σ H b := et_test (ed_ev_b h)
theorem etB {b : Bool} (h : EvD K Tt te σ H (.bool b)) : EvT (tB te) σ H b := et_B (ed_ev_b h)
theorem etTrL (h : EvW K te σ H (.list ds)) : EvT (fun σ H Q => te σ H fun x H' => ∃ k, TruV K x H' k ∧ Q k H') σ H (!ds.isEmpty) := fun H1 e Q q => h H1 e _ fun v H2 e2 g => by
  obtain ⟨a, xs, rfl, hs, hd⟩ := g.list_inv
  refine ⟨_, Or.inl ⟨xs, hs.sq, ?_⟩, q H2 e2⟩
  have := hd.len
  cases xs <;> cases ds <;> first | rfl | simp at this
theorem et_yes : EvT tYes σ H true := fun H1 _ _ q => q H1 (Ex.refl H1)

/-! ### statements -/
variable {D : Ends} {tu tw tz : TS} {g : TG}
theorem sd_asg {i : Nat} (h : EvW K te σ H d) (k : ∀ v H1, Ex H H1 → Dd K H1 v d → D.nx (σ.set i (some v)) H1) : tAsg te (gName i) D σ H := h H (Ex.refl H) _ k
theorem sd_asgN {i : Nat} (h : EvD K A te σ H d) (k : ∀ v H1, Ex H H1 → Dn K (NewA A H H) H1 v d → D.nx (σ.set i (some v)) H1) : tAsg te (gName i) D σ H := h H (Ex.refl H) _ k
theorem sd_asgM {i : Nat} (h : EvM K A te σ H ds) (k : ∀ p vs H1, H p = none → Ex H H1 → H1 p = some (.lst vs) → DnAll K (fun a => NewA A H H a ∧ a ≠ p) H1 vs ds → D.nx (σ.set i (some (.ref p))) H1) : tAsg te (gName i) D σ H := h H (Ex.refl H) _ k
theorem qd_asg {i : Nat} (h : EvW K te σ H d) (k : ∀ v H1, Ex H H1 → Dd K H1 v d → tz D (σ.set i (some v)) H1) : tSeq (tAsg te (gName i)) tz D σ H := h H (Ex.refl H) _ k
theorem qd_asgN {i : Nat} (h : EvD K A te σ H d) (k : ∀ v H1, Ex H H1 → Dn K (NewA A H H) H1 v d → tz D (σ.set i (some v)) H1) : tSeq (tAsg te (gName i)) tz D σ H := h H (Ex.refl H) _ k
theorem qd_asgM {i : Nat} (h : EvM K A te σ H ds) (k : ∀ p vs H1, H p = none → Ex H H1 → H1 p = some (.lst vs) → DnAll K (fun a => NewA A H H a ∧ a ≠ p) H1 vs ds → tz D (σ.set i (some (.ref p))) H1) : tSeq (tAsg te (gName i)) tz D σ H := h H (Ex.refl H) _ k
theorem qd_asgI {i : Nat} {n : Int} (h : EvD K Tt te σ H (.int n)) (k : ∀ H1, Ex H H1 → tz D (σ.set i (some (.int n))) H1) : tSeq (tAsg te (gName i)) tz D σ H := q_asg (ed_ev_i h) k
theorem qd_asgB {i : Nat} {n : Bool} (h : EvD K Tt te σ H (.bool n)) (k : ∀ H1, Ex H H1 → tz D (σ.set i (some (.bl n))) H1) : tSeq (tAsg te (gName i)) tz D σ H := q_asg (ed_ev_b h) k
theorem sd_ret (h : EvW K te σ H d) (k : ∀ v H1, Ex H H1 → Dd K H1 v d → D.rt v H1) : tRet te D σ H := h H (Ex.refl H) _ k
theorem sd_retN (h : EvD K A te σ H d) (k : ∀ v H1, Ex H H1 → Dn K (NewA A H H) H1 v d → D.rt v H1) : tRet te D σ H := h H (Ex.refl H) _ k
theorem sd_retM (h : EvM K A te σ H ds) (k : ∀ p vs H1, H p = none → Ex H H1 → H1 p = some (.lst vs) → DnAll K (fun a => NewA A H H a ∧ a ≠ p) H1 vs ds → D.rt (.ref p) H1) : tRet te D σ H := h H (Ex.refl H) _ k
/-- xs[i] = e -/
theorem sd_set {l : Addr} {xs : List V} {j : Nat} (hl : H l = some (.lst xs)) (h : EvD K A te σ H d) (ho : Ev ta σ H (.ref l)) (hi : Ev tb σ H (.int (j : Int))) (hj : j < xs.length)
    (k : ∀ v H1, Ex H H1 → Dn K (NewA A H H) H1 v d → D.nx σ (upd H1 l (.lst (xs.set j v)))) : tAsg te (gSub ta tb rSetL) D σ H := h H (Ex.refl H) _ fun v H1 e1 g => ho H1 e1 _ fun H2 e2 => hi H2 (e1.trans e2) _ fun H3 e3 =>
  ⟨l, xs, (j : Int), j, rfl, rfl, ((e1.trans e2).trans e3) l _ hl, ixN_nat hj, k v H3 ((e1.trans e2).trans e3) (g.ex (e2.trans e3))⟩
theorem qd_set {l : Addr} {xs : List V} {j : Nat} (hl : H l = some (.lst xs)) (h : EvD K A te σ H d) (ho : Ev ta σ H (.ref l)) (hi : Ev tb σ H (.int (j : Int))) (hj : j < xs.length)
    (k : ∀ v H1, Ex H H1 → Dn K (NewA A H H) H1 v d → tz D σ (upd H1 l (.lst (xs.set j v)))) : tSeq (tAsg te (gSub ta tb rSetL)) tz D σ H := sd_set (D := { D with nx := tz D }) hl h ho hi hj k
/-- xs.append(e) -/
theorem sd_app {l : Addr} {xs : List V} (hl : H l = some (.lst xs)) (ha : Ev ta σ H (.ref l)) (h : EvD K A te σ H d) (hz : xs.length < 100000) (k : ∀ v H1, Ex H H1 → Dn K (NewA A H H) H1 v d → D.nx σ (upd H1 l (.lst (xs ++ [v])))) :
    tDrop (tBM K "list" rAppend ta (tCons te tNil)) D σ H := ha H (Ex.refl H) _ fun H1 e1 =>
  ⟨Or.inl ⟨rfl, xs, sq_of (e1 l _ hl)⟩, h H1 e1 _ fun v H2 e2 g => ⟨l, xs, v, rfl, rfl, e2 l _ (e1 l _ hl), sz_lt hz, k v H2 (e1.trans e2) (g.weak fun a z => z.imp id (fresh_back e1))⟩⟩
theorem qd_app {l : Addr} {xs : List V} (hl : H l = some (.lst xs)) (ha : Ev ta σ H (.ref l)) (h : EvD K A te σ H d) (hz : xs.length < 100000) (k : ∀ v H1, Ex H H1 → Dn K (NewA A H H) H1 v d → tz D σ (upd H1 l (.lst (xs ++ [v])))) :
    tSeq (tDrop (tBM K "list" rAppend ta (tCons te tNil))) tz D σ H := sd_app (D := { D with nx := tz D }) hl ha h hz k
/-- a, b, .. = e, e a tuple: the names one after another -/
theorem sd_unp {tg : TGs} {n : Nat} (h : EvW K te σ H (.tuple ds)) (hn : ds.length = n) (k : ∀ vs H1, Ex H H1 → DnAll K Tt H1 vs ds → tg vs σ H1 D.nx) : tAsg te (gTup K n tg) D σ H := h H (Ex.refl H) _ fun v H1 e g => by
  obtain ⟨a, xs, rfl, hs, hd⟩ := g.tup_inv
  exact ⟨a, xs, rfl, hs, by rw [hd.len, hn], k xs H1 e hd⟩
theorem qd_unp {tg : TGs} {n : Nat} (h : EvW K te σ H (.tuple ds)) (hn : ds.length = n) (k : ∀ vs H1, Ex H H1 → DnAll K Tt H1 vs ds → tg vs σ H1 (tz D)) : tSeq (tAsg te (gTup K n tg)) tz D σ H := sd_unp (D := { D with nx := tz D }) h hn k
end

/-! ### what is walked -/
/-- the iterator gives the data ds one by one, as long as S holds -/
def Turns (K : PySem.W.Frag) (J : It) (S : Hp → Prop) (ds : List PyData) : Prop :=
  ∀ H, S H → J.stop ds.length H ∧ ∀ i d, ds[i]? = some d → J.go i H ∧ ∀ x H', J.yld i H x H' → Ex H H' ∧ Dn K (fun a => H a ≠ none) H' x d
section
variable {K : PySem.W.Frag} {A : Addr → Prop}
theorem turns_l {a : Addr} {ds : List PyData} : Turns K (Itl K a) (fun H => Dd K H (.ref a) (.list ds)) ds := fun H g => by
  obtain ⟨a', xs, e, hs, hd⟩ := g.list_inv
  cases e
  refine ⟨⟨xs, hs.sq, Nat.le_of_eq hd.len⟩, fun i d hi => ?_⟩
  obtain ⟨v, e1, e2⟩ := hd.get hi
  refine ⟨⟨xs, v, hs.sq, e1⟩, fun x H' y => ?_⟩
  obtain ⟨rfl, y⟩ := y
  have e3 := y xs hs.sq
  rw [e1] at e3
  cases e3
  exact ⟨Ex.refl _, e2.there.weak fun _ z => z.2⟩
theorem turns_t {a : Addr} {ds : List PyData} : Turns K (Itt K a) (fun H => Dd K H (.ref a) (.tuple ds)) ds := fun H g => by
  obtain ⟨a', xs, e, hs, hd⟩ := g.tup_inv
  cases e
  refine ⟨⟨xs, hs, Nat.le_of_eq hd.len⟩, fun i d hi => ?_⟩
  obtain ⟨v, e1, e2⟩ := hd.get hi
  refine ⟨⟨xs, v, hs, e1⟩, fun x H' y => ?_⟩
  obtain ⟨rfl, y⟩ := y
  have e3 := y xs hs
  rw [e1] at e3
  cases e3
  exact ⟨Ex.refl _, e2.there.weak fun _ z => z.2⟩
def rangeD (lo : Int) (n : Nat) : List PyData := (List.range n).map fun (i : Nat) => PyData.int (lo + (i : Int))
def rangeC (lo c : Int) (n : Nat) : List PyData := (List.range n).map fun (i : Nat) => PyData.int (lo + (i : Int) * c)
theorem rangeD_len (lo : Int) (n : Nat) : (rangeD lo n).length = n := by simp [rangeD]
theorem rangeC_len (lo c : Int) (n : Nat) : (rangeC lo c n).length = n := by simp [rangeC]
theorem turns_r {lo : Int} {n : Nat} : Turns K (Itr lo n) (fun _ => True) (rangeD lo n) := fun H _ => by
  refine ⟨by rw [rangeD_len]; exact Nat.le_refl n, fun i d hi => ?_⟩
  have hn := (List.getElem?_eq_some_iff.mp hi).1
  rw [rangeD_len] at hn
  refine ⟨hn, fun x H' y => ?_⟩
  obtain ⟨rfl, rfl⟩ := y
  simp [rangeD, hn] at hi
  subst hi
  exact ⟨Ex.refl _, .int _⟩
theorem turns_c {lo c : Int} {n : Nat} : Turns K (Itc lo c n) (fun _ => True) (rangeC lo c n) := fun H _ => by
  refine ⟨by rw [rangeC_len]; exact Nat.le_refl n, fun i d hi => ?_⟩
  have hn := (List.getElem?_eq_some_iff.mp hi).1
  rw [rangeC_len] at hn
  refine ⟨hn, fun x H' y => ?_⟩
  obtain ⟨rfl, rfl⟩ := y
  simp [rangeC, hn] at hi
  subst hi
  exact ⟨Ex.refl _, .int _⟩
def pairD (d e : PyData) : PyData := .tuple [d, e]
theorem ex_tup {H : Hp} {T : Addr} {xs : List V} {ds : List PyData} (hT : H T = none) (h : DnAll K (fun a => H a ≠ none) H xs ds) : Ex H (upd H T (.tup xs)) ∧ Dn K (fun a => H a ≠ none) (upd H T (.tup xs)) (.ref T) (.tuple ds) :=
  ⟨Ex.new hT, .tup upd_same (h.ex (Ex.new hT))⟩
theorem turns_e {a : Addr} {ds : List PyData} : Turns K (Ite K a) (fun H => Dd K H (.ref a) (.list ds)) (ds.mapIdx fun i d => pairD (.int (i : Int)) d) := fun H g => by
  obtain ⟨a', xs, e, hs, hd⟩ := g.list_inv
  cases e
  refine ⟨⟨xs, hs.sq, by rw [List.length_mapIdx]; exact Nat.le_of_eq hd.len⟩, fun i d hi => ?_⟩
  rw [List.getElem?_mapIdx] at hi
  cases q : ds[i]? with
  | none => rw [q] at hi; cases hi
  | some d0 =>
    rw [q] at hi
    cases hi
    obtain ⟨v, e1, e2⟩ := hd.get q
    refine ⟨⟨xs, v, hs.sq, e1⟩, fun x H' y => ?_⟩
    obtain ⟨T, z, rfl, hT, rfl, y⟩ := y
    have e3 := y xs hs.sq
    rw [e1] at e3
    cases e3
    exact ex_tup hT (.cons (.int _) (.one (e2.there.weak fun _ z => z.2)))
theorem zip_get {ds es : List PyData} {i : Nat} {d : PyData} (hi : ((ds.zip es).map fun p => pairD p.1 p.2)[i]? = some d) : ∃ d1 d2, ds[i]? = some d1 ∧ es[i]? = some d2 ∧ d = pairD d1 d2 := by
  rw [List.getElem?_map] at hi
  cases q : (ds.zip es)[i]? with
  | none => rw [q] at hi; cases hi
  | some p =>
    rw [q] at hi
    rw [List.getElem?_zip_eq_some] at q
    exact ⟨p.1, p.2, q.1, q.2, (Option.some.inj hi).symm⟩
theorem turns_z {a b : Addr} {ds es : List PyData} : Turns K (Itz K a b) (fun H => Dd K H (.ref a) (.list ds) ∧ Dd K H (.ref b) (.list es)) ((ds.zip es).map fun p => pairD p.1 p.2) := fun H g => by
  obtain ⟨a', xs, e, hs, hd⟩ := g.1.list_inv
  cases e
  obtain ⟨b', ys, e, ht, he⟩ := g.2.list_inv
  cases e
  refine ⟨⟨xs, ys, hs.sq, ht.sq, by rw [List.length_map, List.length_zip, hd.len, he.len]; omega⟩, fun i d hi => ?_⟩
  obtain ⟨d1, d2, h1, h2, rfl⟩ := zip_get hi
  obtain ⟨v, e1, e2⟩ := hd.get h1
  obtain ⟨w, f1, f2⟩ := he.get h2
  refine ⟨⟨xs, ys, v, w, hs.sq, ht.sq, e1, f1⟩, fun x H' y => ?_⟩
  obtain ⟨T, z, z', rfl, hT, rfl, y, y'⟩ := y
  have e3 := y xs hs.sq
  rw [e1] at e3
  cases e3
  have e4 := y' ys ht.sq
  rw [f1] at e4
  cases e4
  exact ex_tup hT (.cons (e2.there.weak fun _ z => z.2) (.one (f2.there.weak fun _ z => z.2)))
theorem turns_zt {a b : Addr} {ds es : List PyData} : Turns K (RZ.ItzT K a b) (fun H => Dd K H (.ref a) (.tuple ds) ∧ Dd K H (.ref b) (.tuple es)) ((ds.zip es).map fun p => pairD p.1 p.2) := fun H g => by
  obtain ⟨a', xs, e, hs, hd⟩ := g.1.tup_inv
  cases e
  obtain ⟨b', ys, e, ht, he⟩ := g.2.tup_inv
  cases e
  refine ⟨⟨xs, ys, hs, ht, by rw [List.length_map, List.length_zip, hd.len, he.len]; omega⟩, fun i d hi => ?_⟩
  obtain ⟨d1, d2, h1, h2, rfl⟩ := zip_get hi
  obtain ⟨v, e1, e2⟩ := hd.get h1
  obtain ⟨w, f1, f2⟩ := he.get h2
  refine ⟨⟨xs, ys, v, w, hs, ht, e1, f1⟩, fun x H' y => ?_⟩
  obtain ⟨T, z, z', rfl, hT, rfl, y, y'⟩ := y
  have e3 := y xs hs
  rw [e1] at e3
  cases e3
  have e4 := y' ys ht
  rw [f1] at e4
  cases e4
  exact ex_tup hT (.cons (e2.there.weak fun _ z => z.2) (.one (f2.there.weak fun _ z => z.2)))

/-- a loop's turns by a word of the turn -/
theorem loopJ {J : It} {S : Hp → Prop} {ds : List PyData} (T : Turns K J S ds) {g : TG} {tb : TS} {D : Ends} {σ : L2.St} {H : Hp} (Pv : Nat → L2.St → Hp → Prop) (h0 : Pv 0 σ H) (hS : ∀ i σ H, Pv i σ H → S H)
    (hs : ∀ i d x σ H H', ds[i]? = some d → Pv i σ H → Ex H H' → Dn K (fun a => H a ≠ none) H' x d → g x σ H' fun σ2 H2 => tb { D with nx := Pv (i + 1), ct := Pv (i + 1), bk := D.nx } σ2 H2) (hd : ∀ σ H, Pv ds.length σ H → D.nx σ H) :
    ∃ W : Nat → Nat → L2.St → Hp → Prop, (∃ m, W 0 m σ H) ∧ ∀ i m σ H, W i m σ H →
      (J.stop i H ∧ D.nx σ H) ∨ (J.go i H ∧ ∃ N : L2.St → Hp → Prop, (∀ σ' H', N σ' H' → ∃ m', m' < m ∧ W (i + 1) m' σ' H') ∧ ∀ x H', J.yld i H x H' → g x σ H' fun σ2 H2 => tb { D with nx := N, ct := N, bk := D.nx } σ2 H2) := by
  refine ⟨fun i m σ H => m = ds.length - i ∧ i ≤ ds.length ∧ Pv i σ H, ⟨_, rfl, Nat.zero_le _, h0⟩, ?_⟩
  rintro i m σ H ⟨rfl, hi, p⟩
  obtain ⟨t1, t2⟩ := T H (hS i σ H p)
  by_cases hlt : i < ds.length
  · obtain ⟨t3, t4⟩ := t2 i ds[i] (List.getElem?_eq_getElem hlt)
    refine .inr ⟨t3, Pv (i + 1), fun σ' H' p' => ⟨ds.length - (i + 1), by omega, rfl, hlt, p'⟩, fun x H' y => ?_⟩
    obtain ⟨e, q⟩ := t4 x H' y
    exact hs i _ x σ H H' (List.getElem?_eq_getElem hlt) p e q
  · have e : i = ds.length := by omega
    subst e
    exact .inl ⟨t1, hd σ H p⟩
end
section
variable {K : PySem.W.Frag} {A : Addr → Prop} {σ : L2.St} {H H' : Hp} {tl te : TE} {t : TT} {d : PyData} {ds : List PyData} {D : Ends} {tu tz : TS} {g : TG}
/-- over the list, the tuple in a slot: v -/
theorem sd_forLv {v : V} (h : Ev tl σ H v) (g0 : Dd K H v (.list ds)) (Pv : Nat → L2.St → Hp → Prop) (h0 : ∀ H1, Ex H H1 → Pv 0 σ H1) (hS : ∀ i σ H, Pv i σ H → Dd K H v (.list ds))
    (hs : ∀ i d x σ' H' H2, ds[i]? = some d → Pv i σ' H' → Ex H' H2 → Dn K (fun a => H' a ≠ none) H2 x d → g x σ' H2 fun σ3 H3 => tu { D with nx := Pv (i + 1), ct := Pv (i + 1), bk := D.nx } σ3 H3) (hd : ∀ σ' H', Pv ds.length σ' H' → D.nx σ' H') : tFor (iList K tl) g tu D σ H := by
  obtain ⟨a, xs, rfl, q1, q2⟩ := g0.list_inv
  exact h H (Ex.refl H) _ fun H1 e => ⟨a, rfl, ⟨xs, ex_l e q1.sq⟩, loopJ turns_l Pv (h0 H1 e) hS hs hd⟩
theorem sd_forTv {v : V} (h : Ev tl σ H v) (g0 : Dd K H v (.tuple ds)) (Pv : Nat → L2.St → Hp → Prop) (h0 : ∀ H1, Ex H H1 → Pv 0 σ H1) (hS : ∀ i σ H, Pv i σ H → Dd K H v (.tuple ds))
    (hs : ∀ i d x σ' H' H2, ds[i]? = some d → Pv i σ' H' → Ex H' H2 → Dn K (fun a => H' a ≠ none) H2 x d → g x σ' H2 fun σ3 H3 => tu { D with nx := Pv (i + 1), ct := Pv (i + 1), bk := D.nx } σ3 H3) (hd : ∀ σ' H', Pv ds.length σ' H' → D.nx σ' H') : tFor (iTup K tl) g tu D σ H := by
  obtain ⟨a, xs, rfl, q1, q2⟩ := g0.tup_inv
  exact h H (Ex.refl H) _ fun H1 e => ⟨a, rfl, ⟨xs, ex_t e q1⟩, loopJ turns_t Pv (h0 H1 e) hS hs hd⟩
/-- over a tuple, a list that an expression makes -/
theorem sd_forL (h : EvW K tl σ H (.list ds)) (Pv : V → Nat → L2.St → Hp → Prop) (h0 : ∀ v H1, Ex H H1 → Dd K H1 v (.list ds) → Pv v 0 σ H1) (hS : ∀ v i σ H, Pv v i σ H → Dd K H v (.list ds))
    (hs : ∀ v i d x σ' H' H2, ds[i]? = some d → Pv v i σ' H' → Ex H' H2 → Dn K (fun a => H' a ≠ none) H2 x d → g x σ' H2 fun σ3 H3 => tu { D with nx := Pv v (i + 1), ct := Pv v (i + 1), bk := D.nx } σ3 H3) (hd : ∀ v σ' H', Pv v ds.length σ' H' → D.nx σ' H') : tFor (iList K tl) g tu D σ H :=
  h H (Ex.refl H) _ fun v H1 e g0 => by
    obtain ⟨a, xs, rfl, q1, q2⟩ := g0.list_inv
    exact ⟨a, rfl, ⟨xs, q1.sq⟩, loopJ turns_l (Pv (.ref a)) (h0 _ H1 e g0) (hS _) (hs _) (hd _)⟩
theorem sd_forT (h : EvW K tl σ H (.tuple ds)) (Pv : V → Nat → L2.St → Hp → Prop) (h0 : ∀ v H1, Ex H H1 → Dd K H1 v (.tuple ds) → Pv v 0 σ H1) (hS : ∀ v i σ H, Pv v i σ H → Dd K H v (.tuple ds))
    (hs : ∀ v i d x σ' H' H2, ds[i]? = some d → Pv v i σ' H' → Ex H' H2 → Dn K (fun a => H' a ≠ none) H2 x d → g x σ' H2 fun σ3 H3 => tu { D with nx := Pv v (i + 1), ct := Pv v (i + 1), bk := D.nx } σ3 H3) (hd : ∀ v σ' H', Pv v ds.length σ' H' → D.nx σ' H') : tFor (iTup K tl) g tu D σ H :=
  h H (Ex.refl H) _ fun v H1 e g0 => by
    obtain ⟨a, xs, rfl, q1, q2⟩ := g0.tup_inv
    exact ⟨a, rfl, ⟨xs, q1⟩, loopJ turns_t (Pv (.ref a)) (h0 _ H1 e g0) (hS _) (hs _) (hd _)⟩
/-- over enumerate(xs), xs in a slot -/
theorem sd_forEv {v : V} {ta : TE} (h : Ev ta σ H v) (g0 : Dd K H v (.list ds)) (Pv : Nat → L2.St → Hp → Prop) (h0 : ∀ H1, Ex H H1 → Pv 0 σ H1) (hS : ∀ i σ H, Pv i σ H → Dd K H v (.list ds))
    (hs : ∀ i d x σ' H' H2, (ds.mapIdx fun i d => pairD (.int (i : Int)) d)[i]? = some d → Pv i σ' H' → Ex H' H2 → Dn K (fun a => H' a ≠ none) H2 x d → g x σ' H2 fun σ3 H3 => tu { D with nx := Pv (i + 1), ct := Pv (i + 1), bk := D.nx } σ3 H3)
    (hd : ∀ σ' H', Pv ds.length σ' H' → D.nx σ' H') : tFor (iEnum K (tCons ta tNil)) g tu D σ H := by
  obtain ⟨a, xs, rfl, q1, q2⟩ := g0.list_inv
  exact h H (Ex.refl H) _ fun H1 e => ⟨a, xs, rfl, ex_l e q1.sq, loopJ turns_e Pv (h0 H1 e) hS hs (by rw [List.length_mapIdx]; exact hd)⟩

/-! ### comprehensions -/
def EvI (K : PySem.W.Frag) (wi : TI) (σ : L2.St) (H : Hp) (ds : List PyData) : Prop :=
  ∀ H1, Ex H H1 → ∀ R : It → Hp → Prop, (∀ J H2 (S : Hp → Prop), Ex H1 H2 → S H2 → (∀ H3, Ex H2 H3 → S H3) → Turns K J S ds → R J H2) → wi σ H1 R
theorem ei_l (h : EvW K tl σ H (.list ds)) : EvI K (iList K tl) σ H ds := fun H1 e R q => h H1 e _ fun v H2 e2 g0 => by
  obtain ⟨a, xs, rfl, q1, q2⟩ := g0.list_inv
  exact ⟨a, rfl, ⟨xs, q1.sq⟩, q _ H2 _ e2 g0 (fun H3 e3 => g0.ex e3) turns_l⟩
theorem ei_t (h : EvW K tl σ H (.tuple ds)) : EvI K (iTup K tl) σ H ds := fun H1 e R q => h H1 e _ fun v H2 e2 g0 => by
  obtain ⟨a, xs, rfl, q1, q2⟩ := g0.tup_inv
  exact ⟨a, rfl, ⟨xs, q1⟩, q _ H2 _ e2 g0 (fun H3 e3 => g0.ex e3) turns_t⟩
theorem ei_e {ta : TE} (h : EvW K ta σ H (.list ds)) : EvI K (iEnum K (tCons ta tNil)) σ H (ds.mapIdx fun i d => pairD (.int (i : Int)) d) := fun H1 e R q => h H1 e _ fun v H2 e2 g0 => by
  obtain ⟨a, xs, rfl, q1, q2⟩ := g0.list_inv
  exact ⟨a, xs, rfl, q1.sq, q _ H2 _ e2 g0 (fun H3 e3 => g0.ex e3) turns_e⟩
theorem ei_z {ta tb : TE} {es : List PyData} (h : EvW K ta σ H (.list ds)) (h' : EvW K tb σ H (.list es)) : EvI K (iZip K (tCons ta (tCons tb tNil))) σ H ((ds.zip es).map fun p => pairD p.1 p.2) := fun H1 e R q =>
  h H1 e _ fun v H2 e2 g0 => h' H2 (e.trans e2) _ fun v' H3 e3 g1 => by
    have g0 := g0.ex e3
    obtain ⟨a, xs, rfl, q1, q2⟩ := g0.list_inv
    obtain ⟨b, ys, rfl, q3, q4⟩ := g1.list_inv
    exact ⟨a, b, xs, ys, rfl, q1.sq, q3.sq, q _ H3 _ (e2.trans e3) ⟨g0, g1⟩ (fun H3 e3 => ⟨g0.ex e3, g1.ex e3⟩) turns_z⟩
theorem ei_zt {ta tb : TE} {es : List PyData} (h : EvW K ta σ H (.tuple ds)) (h' : EvW K tb σ H (.tuple es)) : EvI K (RZ.iZipA K (tCons ta (tCons tb tNil))) σ H ((ds.zip es).map fun p => pairD p.1 p.2) := fun H1 e R q =>
  h H1 e _ fun v H2 e2 g0 => h' H2 (e.trans e2) _ fun v' H3 e3 g1 => by
    have g0 := g0.ex e3
    obtain ⟨a, xs, rfl, q1, q2⟩ := g0.tup_inv
    obtain ⟨b, ys, rfl, q3, q4⟩ := g1.tup_inv
    exact ⟨a, b, xs, ys, rfl, Or.inr ⟨q1, q3, q _ H3 _ (e2.trans e3) ⟨g0, g1⟩ (fun H3 e3 => ⟨g0.ex e3, g1.ex e3⟩) turns_zt⟩⟩
theorem ei_r1 {ta : TE} {n : Int} (h : EvD K A ta σ H (.int n)) (hn : 0 ≤ n ∧ n ≤ 100000) : EvI K (iRng1 (tCons ta tNil)) σ H (rangeD 0 n.toNat) := fun H1 e R q => ed_ev_i h H1 e _ fun H2 e2 =>
  ⟨n, rfl, by omega, by omega, q _ H2 (fun _ => True) e2 trivial (fun _ _ => trivial) turns_r⟩
theorem ei_r2 {ta tb : TE} {i n : Int} (h : EvD K A ta σ H (.int i)) (h' : EvD K A tb σ H (.int n)) (hn : -100000 ≤ i ∧ i ≤ 100000 ∧ -100000 ≤ n ∧ n ≤ 100000) : EvI K (iRng2 (tCons ta (tCons tb tNil))) σ H (rangeD i (n - i).toNat) := fun H1 e R q =>
  ed_ev_i h H1 e _ fun H2 e2 => ed_ev_i h' H2 (e.trans e2) _ fun H3 e3 => ⟨i, n, rfl, ⟨by omega, by omega, by omega, by omega⟩, q _ H3 (fun _ => True) (e2.trans e3) trivial (fun _ _ => trivial) turns_r⟩
theorem ei_r3 {ta tb tc : TE} {i n c : Int} {m : Nat} (h : EvD K A ta σ H (.int i)) (h' : EvD K A tb σ H (.int n)) (h'' : EvD K A tc σ H (.int c)) (hn : RgC i n c m) : EvI K (iRng3 (tCons ta (tCons tb (tCons tc tNil)))) σ H (rangeC i c m) := fun H1 e R q =>
  ed_ev_i h H1 e _ fun H2 e2 => ed_ev_i h' H2 (e.trans e2) _ fun H3 e3 => ed_ev_i h'' H3 ((e.trans e2).trans e3) _ fun H4 e4 => ⟨i, n, c, m, rfl, hn, q _ H4 (fun _ => True) ((e2.trans e3).trans e4) trivial (fun _ _ => trivial) turns_c⟩

theorem take_filter {α : Type} (l : List α) (f : α → Bool) {i : Nat} {d : α} (h : l[i]? = some d) : (l.take (i + 1)).filter f = (l.take i).filter f ++ (if f d = true then [d] else []) := by
  rw [List.take_add_one, List.filter_append, h]
  congr 1
  simp only [Option.toList, List.filter_cons, List.filter_nil]
/-- [e for target in iter if t], F: what the target's names hold at an item -/
theorem em_lc {α : Type} {l : List α} {enc : α → PyData} {wi : TI} {vs : List Nat} (hi : EvI K wi σ H (l.map enc)) (hz : l.length ≤ 50000) (F : α → L2.St → Hp → Prop) (f : α → Bool) (v : α → PyData)
    (hg : ∀ d ∈ l, ∀ x H1 H2, Ex H H1 → Ex H1 H2 → Dn K (fun a => H1 a ≠ none) H2 x (enc d) → ∀ R : L2.St → Hp → Prop, (∀ σ', F d σ' H2 → R σ' H2) → g x (wipe σ vs) H2 R) (hw : ∀ d ∈ l, ∀ σ' H1, F d σ' H1 → wipe σ' vs = wipe σ vs)
    (ht : ∀ d ∈ l, ∀ σ' H1, Ex H H1 → F d σ' H1 → EvT t σ' H1 (f d)) (he : ∀ d ∈ l, ∀ σ' H1, Ex H H1 → (∃ H0, Ex H0 H1 ∧ F d σ' H0) → f d = true → EvD K (fun a => A a ∧ H a ≠ none) te σ' H1 (v d)) :
    EvM K A (tLc wi g t te vs) σ H ((l.filter f).map v) := fun H0 e0 Q q => by
  refine hi H0 e0 _ fun J H1 S e1 s1 sS T Dl hD => ?_
  have eD : Ex H1 (upd H1 Dl (.lst [])) := Ex.new hD
  have hDH : H Dl = none := fresh_back (e0.trans e1) hD
  refine ⟨fun i m H' => m = l.length - i ∧ i ≤ l.length ∧ Ex H1 H' ∧ ∃ ws, H' Dl = some (.lst ws) ∧ DnAll K (fun a => NewA A H H1 a ∧ a ≠ Dl) H' ws (((l.take i).filter f).map v), ⟨_, rfl, Nat.zero_le _, eD, [], upd_same, .nil⟩, ?_⟩
  rintro i m H' ⟨rfl, hi', e2, ws, hws, dws⟩
  obtain ⟨t1, t2⟩ := T H' (sS H' e2)
  rw [List.length_map] at t1
  by_cases hlt : i < l.length
  · refine .inr ?_
    have hds := List.getElem?_eq_getElem hlt
    have hmem : l[i] ∈ l := List.getElem_mem hlt
    obtain ⟨t3, t4⟩ := t2 i (enc l[i]) (by rw [List.getElem?_map, hds]; rfl)
    refine ⟨t3, fun H' => Ex H1 H' ∧ ∃ ws, H' Dl = some (.lst ws) ∧ DnAll K (fun a => NewA A H H1 a ∧ a ≠ Dl) H' ws (((l.take (i + 1)).filter f).map v), fun H' p => ⟨l.length - (i + 1), by omega, rfl, hlt, p⟩, fun x H3 y => ?_⟩
    obtain ⟨e3, gx⟩ := t4 x H3 y
    have eH3 : Ex H H3 := ((e0.trans e1).trans e2).trans e3
    refine hg _ hmem x H' H3 ((e0.trans e1).trans e2) e3 gx _ fun σ' hF => ⟨hw _ hmem σ' H3 hF, ?_⟩
    refine ht _ hmem σ' H3 eH3 hF H3 (Ex.refl _) _ fun H4 e4 => ?_
    cases hf : f l[i] with
    | false =>
      refine iteF ⟨(e2.trans e3).trans e4, ws, (e3.trans e4) _ _ hws, ?_⟩
      rw [take_filter l f hds, hf]
      show DnAll K _ H4 ws (((l.take i).filter f ++ []).map v)
      rw [List.append_nil]
      exact dws.ex (e3.trans e4)
    | true =>
      refine iteT ?_
      refine he _ hmem σ' H4 (eH3.trans e4) ⟨H3, e4, hF⟩ hf H4 (Ex.refl _) _ fun y H5 e5 gy => ⟨ws, ((e3.trans e4).trans e5) _ _ hws, ?_, Ex.mut (((e2.trans e3).trans e4).trans e5) hD, ws ++ [y], upd_same, ?_⟩
      · rw [dws.len, List.length_map]
        refine sz_lt (Nat.lt_of_le_of_lt (List.length_filter_le _ _) ?_)
        rw [List.length_take]
        omega
      · have hl5 : H5 Dl = some (.lst ws) := ((e3.trans e4).trans e5) _ _ hws
        have hl4 : H4 Dl = some (.lst ws) := (e3.trans e4) _ _ hws
        rw [take_filter l f hds, hf]
        show DnAll K _ _ (ws ++ [y]) (((l.take i).filter f ++ [l[i]]).map v)
        rw [List.map_append]
        refine ((dws.ex ((e3.trans e4).trans e5)).upd (noT_l hl5) fun a z => z.2).app (.one ?_)
        refine Dn.upd (gy.weak fun a z => ?_) (noT_l hl5) fun a z => z.2
        rcases z with ⟨⟨z1, z2⟩, z3⟩ | z
        · exact ⟨Or.inl ⟨z1, z2⟩, fun x => z2 (x ▸ hDH)⟩
        · exact ⟨Or.inr (fresh_back ((e2.trans e3).trans e4) z), fun x => by rw [x, hl4] at z; cases z⟩
  · have e : i = l.length := by omega
    subst e
    rw [List.take_of_length_le (Nat.le_refl _)] at dws
    exact .inl ⟨t1, q Dl ws H' (fresh_back e1 hD) (e1.trans e2) hws (dws.weak fun a z => ⟨z.1.imp id (fresh_back e1), z.2⟩)⟩
/-- targets: one name; two names of a pair; with one value in slot i an item's names hold -/
theorem em_lc1 {α : Type} {l : List α} {enc : α → PyData} {wi : TI} {vs : List Nat} {j : Nat} (hi : EvI K wi σ H (l.map enc)) (hz : l.length ≤ 50000) (f : α → Bool) (v : α → PyData) (hw : ∀ x, wipe ((wipe σ vs).set j (some x)) vs = wipe σ vs)
    (ht : ∀ d ∈ l, ∀ x H1, Ex H H1 → Dn K (fun a => H1 a ≠ none) H1 x (enc d) → EvT t ((wipe σ vs).set j (some x)) H1 (f d))
    (he : ∀ d ∈ l, ∀ x H1, Ex H H1 → Dn K (fun a => H1 a ≠ none) H1 x (enc d) → f d = true → EvD K (fun a => A a ∧ H a ≠ none) te ((wipe σ vs).set j (some x)) H1 (v d)) :
    EvM K A (tLc wi (gName j) t te vs) σ H ((l.filter f).map v) :=
  em_lc hi hz (fun d σ' H' => ∃ x, σ' = (wipe σ vs).set j (some x) ∧ Dn K (fun a => H' a ≠ none) H' x (enc d)) f v
    (fun d _ x H1 H2 _ e2 g R k => k _ ⟨x, rfl, g.weak fun a z => ex_there e2 z⟩) (fun d _ σ' H1 ⟨x, e, _⟩ => by rw [e]; exact hw x)
    (fun d hd σ' H1 e ⟨x, e1, g⟩ => by rw [e1]; exact ht d hd x H1 e g) (fun d hd σ' H1 e ⟨H0, e0, x, e1, g⟩ hf => by rw [e1]; exact he d hd x H1 e ((g.ex e0).weak fun a z => ex_there e0 z) hf)
theorem em_lc2 {α : Type} {l : List α} {e1 e2 : α → PyData} {wi : TI} {vs : List Nat} {j1 j2 : Nat} (hi : EvI K wi σ H (l.map fun d => pairD (e1 d) (e2 d))) (hz : l.length ≤ 50000) (f : α → Bool) (v : α → PyData)
    (hw : ∀ x y, wipe (((wipe σ vs).set j1 (some x)).set j2 (some y)) vs = wipe σ vs)
    (ht : ∀ d ∈ l, ∀ x y H1, Ex H H1 → Dn K (fun a => H1 a ≠ none) H1 x (e1 d) → Dn K (fun a => H1 a ≠ none) H1 y (e2 d) → EvT t (((wipe σ vs).set j1 (some x)).set j2 (some y)) H1 (f d))
    (he : ∀ d ∈ l, ∀ x y H1, Ex H H1 → Dn K (fun a => H1 a ≠ none) H1 x (e1 d) → Dn K (fun a => H1 a ≠ none) H1 y (e2 d) → f d = true → EvD K (fun a => A a ∧ H a ≠ none) te (((wipe σ vs).set j1 (some x)).set j2 (some y)) H1 (v d)) :
    EvM K A (tLc wi (gTup K 2 (gCons (gName j1) (gCons (gName j2) gNil))) t te vs) σ H ((l.filter f).map v) :=
  em_lc hi hz (fun d σ' H' => ∃ x y, σ' = ((wipe σ vs).set j1 (some x)).set j2 (some y) ∧ Dn K (fun a => H' a ≠ none) H' x (e1 d) ∧ Dn K (fun a => H' a ≠ none) H' y (e2 d)) f v
    (fun d _ x H1 H2 _ ee g R k => by
      obtain ⟨a, xs, rfl, h1, h2⟩ := g.tup_inv
      obtain ⟨x, r, rfl, h3, h4⟩ := h2.cons_inv
      obtain ⟨y, r, rfl, h5, h6⟩ := h4.cons_inv
      cases h6.nil_inv
      exact ⟨a, _, rfl, h1, rfl, x, _, rfl, y, _, rfl, rfl, k _ ⟨x, y, rfl, h3.weak fun a z => ex_there ee z, h5.weak fun a z => ex_there ee z⟩⟩)
    (fun d _ σ' H1 ⟨x, y, e, _⟩ => by rw [e]; exact hw x y)
    (fun d hd σ' H1 e ⟨x, y, e1, g, g'⟩ => by rw [e1]; exact ht d hd x y H1 e g g')
    (fun d hd σ' H1 e ⟨H0, e0, x, y, e1, g, g'⟩ hf => by rw [e1]; exact he d hd x y H1 e ((g.ex e0).weak fun a z => ex_there e0 z) ((g'.ex e0).weak fun a z => ex_there e0 z) hf)
theorem all_true {α : Type} (l : List α) : l.filter (fun _ => true) = l := List.filter_eq_self.mpr fun _ _ => rfl
end
end GK
set_option Elab.async false
set_option linter.all false
set_option maxRecDepth 100000
set_option maxHeartbeats 4000000
/-! GEv: what the built-ins come to, as data. -/
namespace GK
open PySem PySem.Spec PyProof.Rows L2 Evl

section
variable {K : PySem.W.Frag} {A A' : Addr → Prop} {σ : L2.St} {H H' : Hp} {ta tb te tx tc : TE} {t u : TT} {d : PyData} {ds es : List PyData}
/-- the items of a list that comes -/
theorem em_new {r : R2} {fs : List PyData} (ha : EvD K A ta σ H d) {db : PyData} (hb : EvD K A tb σ H db)
    (hr : ∀ x y H1 H3, Ex H H1 → Ex H1 H3 → Dn K (NewA A H H1) H3 x d → Dn K (NewA A H H1) H3 y db → ∃ ws, DnAll K (NewA A H H1) H3 ws fs ∧ ∀ Q : VK, (∀ p, H3 p = none → Q (.ref p) (upd H3 p (.lst ws))) → r x y H3 Q) : EvM K A (tOp r ta tb) σ H fs := fun H1 e Q q =>
  ha H1 e _ fun x H2 e2 gx => hb H2 (e.trans e2) _ fun y H3 e3 gy => by
    obtain ⟨ws, dw, k⟩ := hr x y H1 H3 e (e2.trans e3) (gx.ex e3) (dn_back e2 gy)
    exact k Q fun p hp => q p ws _ (fresh_back (e2.trans e3) hp) ((e2.trans e3).trans (Ex.new hp)) upd_same
      ((dw.there.weak (A' := fun a => NewA A H H1 a ∧ a ≠ p) fun a z => ⟨z.1, fun x => z.2 (x ▸ hp)⟩).ex (Ex.new hp))
theorem em_cat (ha : EvD K A ta σ H (.list ds)) (hb : EvD K A tb σ H (.list es)) (hz : ds.length + es.length ≤ 100000) : EvM K A (tOp rCat ta tb) σ H (ds ++ es) :=
  em_new ha hb fun x y H1 H3 _ _ gx gy => by
    obtain ⟨a, xs, rfl, h1, h2⟩ := gx.list_inv
    obtain ⟨b, ys, rfl, h3, h4⟩ := gy.list_inv
    exact ⟨xs ++ ys, h2.app h4, fun Q q => ⟨a, b, xs, ys, rfl, rfl, h1.2, h3.2, sz_of (by rw [h2.len, h4.len]; exact hz), q⟩⟩
theorem flat_rep {α : Type} (x : α) : ∀ n, (List.replicate n [x]).flatten = List.replicate n x
  | 0 => rfl
  | n + 1 => by rw [List.replicate_succ, List.flatten_cons, flat_rep x n]; rfl
/-- [x] * k -/
theorem em_rep1 {k : Int} (ha : EvD K A ta σ H (.list [d])) (hb : EvD K A tb σ H (.int k)) (hz : k ≤ 100000) (hz' : -100000 ≤ k) : EvM K A (tOp rRep ta tb) σ H (List.replicate k.toNat d) :=
  em_new ha hb fun x y H1 H3 _ _ gx gy => by
    obtain ⟨a, xs, rfl, h1, h2⟩ := gx.list_inv
    obtain ⟨v, r, rfl, h3, h4⟩ := h2.cons_inv
    cases h4.nil_inv
    refine ⟨List.replicate k.toNat v, DnAll.rep h3 _, fun Q q => ⟨a, k, [v], rfl, gy.int_inv, h1.2, by omega, by omega, sz_of (by show 1 * k.toNat ≤ 100000; omega), ?_⟩⟩
    rw [flat_rep]
    exact q
/-- slices of a list -/
theorem em_slTo {k : Nat} (ha : EvD K A ta σ H (.list ds)) (hb : EvD K A tb σ H (.int (k : Int))) : EvM K A (tSl (rSlL K) ta tNoPart (tPart tb)) σ H (ds.take k) := fun H1 e Q q =>
  ha H1 e _ fun x H2 e2 gx => ed_ev_i hb H2 (e.trans e2) _ fun H3 e3 => ⟨(k : Int), rfl, by
    obtain ⟨a, xs, rfl, h1, h2⟩ := (gx.ex e3).list_inv
    refine ⟨a, xs, rfl, h1.sq, fun p hp => ?_⟩
    have ec : cutV xs none (some (k : Int)) = xs.take k := by
      unfold cutV
      rw [HT.sIx_none, HT.sIx_nat, List.drop_zero, Nat.sub_zero]
      rcases Nat.le_total k xs.length with h | h
      · rw [Nat.min_eq_left h]
      · rw [Nat.min_eq_right h, List.take_of_length_le (Nat.le_refl _), List.take_of_length_le h]
    rw [ec]
    exact q p _ _ (fresh_back (e2.trans e3) hp) ((e2.trans e3).trans (Ex.new hp)) upd_same (((h2.take k).there.weak (A' := fun a => NewA A H H1 a ∧ a ≠ p) fun a z => ⟨z.1, fun x => z.2 (x ▸ hp)⟩).ex (Ex.new hp))⟩
theorem em_slFrom {k : Nat} (ha : EvD K A ta σ H (.list ds)) (hb : EvD K A tb σ H (.int (k : Int))) : EvM K A (tSl (rSlL K) ta (tPart tb) tNoPart) σ H (ds.drop k) := fun H1 e Q q =>
  ha H1 e _ fun x H2 e2 gx => ed_ev_i hb H2 (e.trans e2) _ fun H3 e3 => ⟨(k : Int), rfl, by
    obtain ⟨a, xs, rfl, h1, h2⟩ := (gx.ex e3).list_inv
    refine ⟨a, xs, rfl, h1.sq, fun p hp => ?_⟩
    have ec : cutV xs (some (k : Int)) none = xs.drop k := by
      unfold cutV
      rw [HT.sIx_none, HT.sIx_nat]
      rcases Nat.le_total k xs.length with h | h
      · rw [Nat.min_eq_left h, List.take_of_length_le (by rw [List.length_drop]; exact Nat.le_refl _)]
      · rw [Nat.min_eq_right h, Nat.sub_self, List.take_zero, List.drop_eq_nil_of_le h]
    rw [ec]
    exact q p _ _ (fresh_back (e2.trans e3) hp) ((e2.trans e3).trans (Ex.new hp)) upd_same (((h2.drop k).there.weak (A' := fun a => NewA A H H1 a ∧ a ≠ p) fun a z => ⟨z.1, fun x => z.2 (x ▸ hp)⟩).ex (Ex.new hp))⟩
theorem em_rev (ha : EvD K A ta σ H (.list ds)) : EvM K A (tRevL K ta) σ H ds.reverse := fun H1 e Q q =>
  ha H1 e _ fun x H2 e2 gx => by
    obtain ⟨a, xs, rfl, h1, h2⟩ := gx.list_inv
    exact ⟨a, xs, rfl, h1.sq, fun p hp => q p _ _ (fresh_back e2 hp) (e2.trans (Ex.new hp)) upd_same ((h2.rev.there.weak (A' := fun a => NewA A H H1 a ∧ a ≠ p) fun a z => ⟨z.1, fun x => z.2 (x ▸ hp)⟩).ex (Ex.new hp))⟩
/-! ### calls of built-ins -/
theorem ed_lenL (ha : EvW K ta σ H (.list ds)) : EvD K A (tCB (rLenS K) (tCons ta tNil)) σ H (.int (ds.length : Int)) := fun H1 e Q q =>
  ha H1 e _ fun x H2 e2 gx => by
    obtain ⟨a, xs, rfl, h1, h2⟩ := gx.list_inv
    exact ⟨a, xs, rfl, Or.inl h1.sq, q _ H2 e2 (by rw [h2.len]; exact .int _)⟩
theorem ed_lenT (ha : EvW K ta σ H (.tuple ds)) : EvD K A (tCB (rLenS K) (tCons ta tNil)) σ H (.int (ds.length : Int)) := fun H1 e Q q =>
  ha H1 e _ fun x H2 e2 gx => by
    obtain ⟨a, xs, rfl, h1, h2⟩ := gx.tup_inv
    exact ⟨a, xs, rfl, Or.inr h1, q _ H2 e2 (by rw [h2.len]; exact .int _)⟩
theorem ed_min2 {i j : Int} (ha : EvD K A ta σ H (.int i)) (hb : EvD K A tb σ H (.int j)) : EvD K A (tCB (fun xs H Q => ∃ i j, xs = [.int i, .int j] ∧ Q (.int (if j < i then j else i)) H) (tCons ta (tCons tb tNil))) σ H (.int (min i j)) := fun H1 e Q q =>
  ed_ev_i ha H1 e _ fun H2 e2 => ed_ev_i hb H2 (e.trans e2) _ fun H3 e3 => ⟨i, j, rfl, q _ H3 (e2.trans e3) (by
    have : (if j < i then j else i) = min i j := by split <;> omega
    rw [this]; exact .int _)⟩
theorem ed_max2 {i j : Int} (ha : EvD K A ta σ H (.int i)) (hb : EvD K A tb σ H (.int j)) : EvD K A (tCB (fun xs H Q => ∃ i j, xs = [.int i, .int j] ∧ Q (.int (if j > i then j else i)) H) (tCons ta (tCons tb tNil))) σ H (.int (max i j)) := fun H1 e Q q =>
  ed_ev_i ha H1 e _ fun H2 e2 => ed_ev_i hb H2 (e.trans e2) _ fun H3 e3 => ⟨i, j, rfl, q _ H3 (e2.trans e3) (by
    have : (if j > i then j else i) = max i j := by split <;> omega
    rw [this]; exact .int _)⟩
theorem ed_abs {i : Int} (ha : EvD K A ta σ H (.int i)) : EvD K A (tCB (fun xs H Q => ∃ i, xs = [.int i] ∧ Q (.int (if i < 0 then -i else i)) H) (tCons ta tNil)) σ H (.int (i.natAbs : Int)) := fun H1 e Q q =>
  ed_ev_i ha H1 e _ fun H2 e2 => ⟨i, rfl, q _ H2 e2 (by
    have : (if i < 0 then -i else i) = (i.natAbs : Int) := by split <;> omega
    rw [this]; exact .int _)⟩
abbrev rInt1 : List V → Hp → VK → Prop := fun xs H Q => (∃ i, xs = [.int i] ∧ Q (.int i) H) ∨ ∃ k, xs = [.bl k] ∧ Q (.int (if k then 1 else 0)) H
theorem ed_int1 {i : Int} (ha : EvD K A ta σ H (.int i)) : EvD K A (tCB rInt1 (tCons ta tNil)) σ H (.int i) := fun H1 e Q q =>
  ed_ev_i ha H1 e _ fun H2 e2 => Or.inl ⟨i, rfl, q _ H2 e2 (.int _)⟩
theorem ed_intb {i : Bool} (ha : EvD K A ta σ H (.bool i)) : EvD K A (tCB rInt1 (tCons ta tNil)) σ H (.int (if i then 1 else 0)) := fun H1 e Q q =>
  ed_ev_b ha H1 e _ fun H2 e2 => Or.inr ⟨i, rfl, q _ H2 e2 (.int _)⟩
theorem em_listL (ha : EvD K A ta σ H (.list ds)) : EvM K A (tCB (rListS K) (tCons ta tNil)) σ H ds := fun H1 e Q q =>
  ha H1 e _ fun x H2 e2 gx => by
    obtain ⟨a, xs, rfl, h1, h2⟩ := gx.list_inv
    exact ⟨a, xs, rfl, Or.inl h1.sq, fun p hp => q p _ _ (fresh_back e2 hp) (e2.trans (Ex.new hp)) upd_same ((h2.there.weak (A' := fun a => NewA A H H1 a ∧ a ≠ p) fun a z => ⟨z.1, fun x => z.2 (x ▸ hp)⟩).ex (Ex.new hp))⟩
theorem em_listT (ha : EvD K A ta σ H (.tuple ds)) : EvM K A (tCB (rListS K) (tCons ta tNil)) σ H ds := fun H1 e Q q =>
  ha H1 e _ fun x H2 e2 gx => by
    obtain ⟨a, xs, rfl, h1, h2⟩ := gx.tup_inv
    exact ⟨a, xs, rfl, Or.inr h1, fun p hp => q p _ _ (fresh_back e2 hp) (e2.trans (Ex.new hp)) upd_same ((h2.there.weak (A' := fun a => NewA A H H1 a ∧ a ≠ p) fun a z => ⟨z.1, fun x => z.2 (x ▸ hp)⟩).ex (Ex.new hp))⟩
abbrev rTupOf (K : PySem.W.Frag) : List V → Hp → VK → Prop := fun xs H Q => ∃ p ys, xs = [.ref p] ∧ ((SqL K H p ys ∧ ∀ l, H l = none → Q (.ref l) (upd H l (.tup ys))) ∨ (SqT K H p ys ∧ Q (.ref p) H))
theorem ed_tupL (ha : EvD K A ta σ H (.list ds)) : EvD K A (tCB (rTupOf K) (tCons ta tNil)) σ H (.tuple ds) := fun H1 e Q q =>
  ha H1 e _ fun x H2 e2 gx => by
    obtain ⟨a, xs, rfl, h1, h2⟩ := gx.list_inv
    exact ⟨a, xs, rfl, Or.inl ⟨h1.sq, fun p hp => q _ _ (e2.trans (Ex.new hp)) (.tup upd_same (h2.ex (Ex.new hp)))⟩⟩
theorem ed_tupT (ha : EvD K A ta σ H (.tuple ds)) : EvD K A (tCB (rTupOf K) (tCons ta tNil)) σ H (.tuple ds) := fun H1 e Q q =>
  ha H1 e _ fun x H2 e2 gx => by
    obtain ⟨a, xs, rfl, h1, h2⟩ := gx.tup_at
    exact ⟨a, xs, rfl, Or.inr ⟨st_of h1, q _ H2 e2 (.tup h1 h2)⟩⟩
/-- t + u of tuples -/
theorem ed_catA (ha : EvD K A ta σ H (.tuple ds)) (hb : EvD K A tb σ H (.tuple es)) (hz : ds.length + es.length ≤ 100000) : EvD K A (tOp (rCatA K) ta tb) σ H (.tuple (ds ++ es)) :=
  ed_two ha hb fun x y H1 H3 _ _ gx gy Q q => by
    obtain ⟨a, xs, rfl, h1, h2⟩ := gx.tup_at
    obtain ⟨b, ys, rfl, h3, h4⟩ := gy.tup_at
    refine ⟨a, b, xs, ys, rfl, rfl, st_of h1, st_of h3, sz_of (by rw [h2.len, h4.len]; exact hz), fun e => ?_, fun _ e => ?_, fun _ _ p hp => ?_⟩
    · subst e
      have := h2.len
      cases ds with
      | nil => exact q _ H3 (Ex.refl _) (.tup h3 h4)
      | cons _ _ => simp at this
    · subst e
      have := h4.len
      cases es with
      | nil => exact q _ H3 (Ex.refl _) (.tup h1 (by rw [List.append_nil]; exact h2))
      | cons _ _ => simp at this
    · exact q _ _ (Ex.new hp) (.tup upd_same ((h2.app h4).ex (Ex.new hp)))
/-- a < b < c and its like -/
theorem ed_chain {g g' : Int → Int → Bool} {i j k : Int} (ha : EvD K A ta σ H (.int i)) (hb : EvD K A tb σ H (.int j)) (hc : EvD K A tc σ H (.int k)) :
    EvD K A (tChain (rI0 fun i j => .bl (g i j)) (rI0 fun i j => .bl (g' i j)) ta tb tc) σ H (.bool (g i j && g' j k)) := fun H1 e Q q =>
  ed_ev_i ha H1 e _ fun H2 e2 => ed_ev_i hb H2 (e.trans e2) _ fun H3 e3 => ⟨i, j, rfl, rfl, g i j, rfl, by
    cases hg : g i j with
    | true =>
      refine iteT ?_
      refine ed_ev_i hc H3 ((e.trans e2).trans e3) _ fun H4 e4 => ⟨j, k, rfl, rfl, ?_⟩
      have := q (.bl (g' j k)) H4 ((e2.trans e3).trans e4)
      rw [hg, Bool.true_and] at this
      exact this (.bl _)
    | false =>
      refine iteF ?_
      have := q (.bl false) H3 (e2.trans e3)
      rw [hg, Bool.false_and] at this
      exact this (.bl _)⟩
theorem ed_if {b : Bool} (h : EvT t σ H b) (h1 : b = true → EvD K A ta σ H d) (h2 : b = false → EvD K A tb σ H d) : EvD K A (tIf t ta tb) σ H d := fun H1 e Q q => h H1 e _ fun H2 e2 => by
  cases b with
  | true => exact iteT (h1 rfl H2 (e.trans e2) Q fun v H3 e3 g => q v H3 (e2.trans e3) (dn_back e2 g))
  | false => exact iteF (h2 rfl H2 (e.trans e2) Q fun v H3 e3 g => q v H3 (e2.trans e3) (dn_back e2 g))
theorem ed_and {a b : Bool} (h1 : EvD K A ta σ H (.bool a)) (h2 : a = true → EvD K A tb σ H (.bool b)) : EvD K A (tAndV ta tb) σ H (.bool (a && b)) := ev_ed_b (ev_andV (ed_ev_b h1) fun h => ed_ev_b (h2 h))
theorem ed_or {a b : Bool} (h1 : EvD K A ta σ H (.bool a)) (h2 : a = false → EvD K A tb σ H (.bool b)) : EvD K A (tOrV ta tb) σ H (.bool (a || b)) := ev_ed_b (ev_orV (ed_ev_b h1) fun h => ed_ev_b (h2 h))
theorem ed_not {a : Bool} (h1 : EvD K A ta σ H (.bool a)) : EvD K A (tNotV ta) σ H (.bool (!a)) := ev_ed_b (ev_notV (ed_ev_b h1))
/-- all(..) of truth values -/
theorem ed_all {bs : List Bool} (ha : EvW K ta σ H (.list (bs.map .bool))) : EvD K A (tCB (rAll K) (tCons ta tNil)) σ H (.bool (bs.all id)) := fun H1 e Q q =>
  ha H1 e _ fun x H2 e2 gx => by
    obtain ⟨a, xs, rfl, h1, h2⟩ := gx.list_inv
    cases h2.bools
    exact ⟨a, bs, rfl, h1.sq, q _ H2 e2 (.bl _)⟩
/-- an int in a tuple, a list of ints -/
theorem inV_ints (i : Int) : ∀ ns : List Int, inV (.int i) (ns.map V.int) = decide (i ∈ ns)
  | [] => rfl
  | n :: ns => by
    show ((n == i) || inV (.int i) (ns.map V.int)) = _
    rw [inV_ints i ns]
    by_cases h : n = i
    · subst h
      simp
    · have h' : (n == i) = false := by simpa using h
      have h2 : ¬ i = n := fun x => h x.symm
      simp [h', h2]
theorem flat_ints : ∀ ns : List Int, (ns.map V.int).all flatV = true
  | [] => rfl
  | n :: ns => flat_ints ns
theorem ed_notInT {i : Int} {ns : List Int} (ha : EvD K A ta σ H (.int i)) (hb : EvD K A tb σ H (.tuple (ns.map .int))) : EvD K A (tOp (rIn K true) ta tb) σ H (.bool (!decide (i ∈ ns))) :=
  ed_two ha hb fun x y H1 H3 _ _ gx gy Q q => by
    obtain ⟨a, xs, rfl, h1, h2⟩ := gy.tup_inv
    cases h2.ints
    cases gx
    refine ⟨a, _, rfl, Or.inr h1, rfl, flat_ints ns, q _ H3 (Ex.refl _) ?_⟩
    rw [if_pos rfl, inV_ints]
    exact .bl _
/-- sorted(..) of ints: some arrangement that rises -/
theorem em_sorted {ns ms : List Int} (ha : EvW K ta σ H (.list (ns.map .int))) (hu : ∀ ns' : List Int, ns'.Perm ns → ns'.Pairwise (· ≤ ·) → ns' = ms) : EvM K A (tCB (rSortedI K) (tCons ta tNil)) σ H (ms.map .int) := fun H1 e Q q =>
  ha H1 e _ fun x H2 e2 gx => by
    obtain ⟨a, xs, rfl, h1, h2⟩ := gx.list_inv
    cases h2.ints
    refine ⟨a, ns, rfl, h1.sq, fun ns' p hp hs hn => ?_⟩
    cases hu ns' hp hs
    exact q p _ _ (fresh_back e2 hn) (e2.trans (Ex.new hn)) upd_same (DnAll.of_ints _)
/-- list(range(n)), tuple(range(n)) -/
theorem rgV_data {n : Int} : DnAll K A H (rgV 0 n) (rangeD 0 n.toNat) := by
  have e : rgV 0 n = ((List.range n.toNat).map fun (i : Nat) => (0 + (i : Int))).map V.int := by
    unfold rgV
    rw [Int.sub_zero, List.map_map]
    rfl
  have e' : rangeD 0 n.toNat = ((List.range n.toNat).map fun (i : Nat) => (0 + (i : Int))).map .int := by
    unfold rangeD
    rw [List.map_map]
    rfl
  rw [e, e']
  exact DnAll.of_ints _
theorem em_listRg {n : Int} (ha : EvD K A ta σ H (.int n)) (hn : 0 ≤ n ∧ n ≤ 100000) : EvM K A (tLstRg (tRg1 ta)) σ H (rangeD 0 n.toNat) := fun H1 e Q q =>
  ed_ev_i ha H1 e _ fun H2 e2 => ⟨n, rfl, RgOk.of_le (by omega) (by omega) (by omega) (by omega), fun p hp => q p _ _ (fresh_back e2 hp) (e2.trans (Ex.new hp)) upd_same rgV_data⟩
theorem ed_tupRg {n : Int} (ha : EvD K A ta σ H (.int n)) (hn : 0 ≤ n ∧ n ≤ 100000) : EvD K A (tTupRg (tRg1 ta)) σ H (.tuple (rangeD 0 n.toNat)) := fun H1 e Q q =>
  ed_ev_i ha H1 e _ fun H2 e2 => ⟨n, rfl, RgOk.of_le (by omega) (by omega) (by omega) (by omega), fun p hp => q _ _ (e2.trans (Ex.new hp)) (.tup upd_same rgV_data)⟩
end
/-- // by anything but 0 -/
theorem op_fdG {X : Cx} : OpR X (binaryOp .FloorDiv) (rI (fun _ j => j ≠ 0 ∧ j.natAbs.log2 < 9000) fun i j => .int (i.fdiv j)) := opI fun _ _ _ _ _ _ _ hc q => floordiv_int hc.1 q (.inl (PyProof.noPylong_of_log2 hc.2))
/-- xs[i] by values -/
theorem get_list {X : Cx} : PGet X (rIxL X.K) := by
  intro ps s0 st Hp0 o i ov iv R J ro ri hr
  obtain ⟨a, ys, n, y, rfl, rfl, hsq, hat, done⟩ := hr
  cases ro
  obtain ⟨tk, rfl⟩ := ri
  obtain ⟨us, rel, plain, _⟩ := J.list hsq
  obtain ⟨m, g1, g2, g3, g4, g5⟩ := atI_get hat
  obtain ⟨z, hz, rz⟩ := rel.get g2
  have same := rel.length
  have big := line63
  have goal : EP X ps st R z s0 := ⟨y, Hp0, J, rz, done⟩
  rcases Int.lt_or_le n 0 with neg | pos
  · have em : (n + (us.toArray.size : Int)).toNat = m := by
      rw [seqIndex_neg neg g4, Option.some_inj] at g1
      rw [List.size_toArray, ← same, g1]
    exact wpAny_getItem_list_neg plain.isList (by omega) (by rw [List.size_toArray]; omega) (by omega) (by rw [em]; simpa using hz) goal
  · have em : n.toNat = m := by
      rw [seqIndex_of pos g5, Option.some_inj] at g1
      exact g1
    exact wpAny_getItem_list plain.isList pos (by omega) (by rw [em]; simpa using hz) goal
end GK
set_option Elab.async false
set_option linter.all false
set_option maxRecDepth 100000
set_option maxHeartbeats 4000000
/-! GTop: the text by places, its defs, their calls. -/
namespace GK
open PySem PySem.Spec PyProof.Rows L2 Evl
def topS (i : Nat) : Stmt := PySem.Challenge.pw_gridknot_k34_alexander_by_own_expansion.main.body.getD i (.Pass ⟨0, 0, 0, 0⟩)
abbrev s_stands_between : Stmt := topS 1
abbrev N_stands_between : List Str := ["value", "one", "other"]
abbrev P_stands_between : List Str := ["value", "one", "other"]
theorem sc_stands_between : FnScope N_stands_between P_stands_between (defScope s_stands_between) := ⟨rfl, rfl, rfl, by decide +kernel, rfl, by decide +kernel, by decide +kernel⟩
abbrev s_sign_of : Stmt := topS 2
abbrev N_sign_of : List Str := ["grid", "column", "is_right", "is_up"]
abbrev P_sign_of : List Str := ["grid", "column", "is_right"]
theorem sc_sign_of : FnScope N_sign_of P_sign_of (defScope s_sign_of) := ⟨rfl, rfl, rfl, by decide +kernel, rfl, by decide +kernel, by decide +kernel⟩
abbrev s_passed : Stmt := topS 3
abbrev N_passed : List Str := ["grid", "row", "a", "b", "step", "c"]
abbrev P_passed : List Str := ["grid", "row", "a", "b"]
theorem sc_passed : FnScope N_passed P_passed (defScope s_passed) := ⟨rfl, rfl, rfl, by decide +kernel, rfl, by decide +kernel, by decide +kernel⟩
abbrev s_lines_of : Stmt := topS 4
abbrev N_lines_of : List Str := ["grid", "found", "row", "a", "b", "c"]
abbrev P_lines_of : List Str := ["grid"]
theorem sc_lines_of : FnScope N_lines_of P_lines_of (defScope s_lines_of) := ⟨rfl, rfl, rfl, by decide +kernel, rfl, by decide +kernel, by decide +kernel⟩
abbrev s_trimmed : Stmt := topS 6
abbrev N_trimmed : List Str := ["row", "many"]
abbrev P_trimmed : List Str := ["row"]
theorem sc_trimmed : FnScope N_trimmed P_trimmed (defScope s_trimmed) := ⟨rfl, rfl, rfl, by decide +kernel, rfl, by decide +kernel, by decide +kernel⟩
abbrev s_less : Stmt := topS 7
abbrev N_less : List Str := ["a", "b", "size", "longer", "other", "one", "two"]
abbrev P_less : List Str := ["a", "b"]
theorem sc_less : FnScope N_less P_less (defScope s_less) := ⟨rfl, rfl, rfl, by decide +kernel, rfl, by decide +kernel, by decide +kernel⟩
abbrev s_product : Stmt := topS 8
abbrev N_product : List Str := ["a", "b", "row", "i", "one", "k", "two"]
abbrev P_product : List Str := ["a", "b"]
theorem sc_product : FnScope N_product P_product (defScope s_product) := ⟨rfl, rfl, rfl, by decide +kernel, rfl, by decide +kernel, by decide +kernel⟩
abbrev s_divided : Stmt := topS 9
abbrev N_divided : List Str := ["a", "b", "left", "many", "found", "at", "factor", "k", "number"]
abbrev P_divided : List Str := ["a", "b"]
theorem sc_divided : FnScope N_divided P_divided (defScope s_divided) := ⟨rfl, rfl, rfl, by decide +kernel, rfl, by decide +kernel, by decide +kernel⟩
abbrev s_with_pivot : Stmt := topS 10
abbrev N_with_pivot : List Str := ["matrix", "at", "row", "moved"]
abbrev P_with_pivot : List Str := ["matrix", "at"]
theorem sc_with_pivot : FnScope N_with_pivot P_with_pivot (defScope s_with_pivot) := ⟨rfl, rfl, rfl, by decide +kernel, rfl, by decide +kernel, by decide +kernel⟩
abbrev s_step : Stmt := topS 11
abbrev N_step : List Str := ["matrix", "at", "before", "pivot", "made", "i", "first", "row", "k"]
abbrev P_step : List Str := ["matrix", "at", "before"]
theorem sc_step : FnScope N_step P_step (defScope s_step) := ⟨rfl, rfl, rfl, by decide +kernel, rfl, by decide +kernel, by decide +kernel⟩
abbrev s_determinant : Stmt := topS 12
abbrev N_determinant : List Str := ["matrix", "before", "at", "pivot"]
abbrev P_determinant : List Str := ["matrix"]
theorem sc_determinant : FnScope N_determinant P_determinant (defScope s_determinant) := ⟨rfl, rfl, rfl, by decide +kernel, rfl, by decide +kernel, by decide +kernel⟩
abbrev s_series_of : Stmt := topS 17
abbrev N_series_of : List Str := ["found", "exponent"]
abbrev P_series_of : List Str := ["found"]
theorem sc_series_of : FnScope N_series_of P_series_of (defScope s_series_of) := ⟨rfl, rfl, rfl, by decide +kernel, rfl, by decide +kernel, by decide +kernel⟩
abbrev s_series_plus : Stmt := topS 18
abbrev N_series_plus : List Str := ["a", "b", "found", "exponent", "coefficient"]
abbrev P_series_plus : List Str := ["a", "b"]
theorem sc_series_plus : FnScope N_series_plus P_series_plus (defScope s_series_plus) := ⟨rfl, rfl, rfl, by decide +kernel, rfl, by decide +kernel, by decide +kernel⟩
abbrev s_series_times : Stmt := topS 19
abbrev N_series_times : List Str := ["a", "b", "found", "one", "first", "two", "second"]
abbrev P_series_times : List Str := ["a", "b"]
theorem sc_series_times : FnScope N_series_times P_series_times (defScope s_series_times) := ⟨rfl, rfl, rfl, by decide +kernel, rfl, by decide +kernel, by decide +kernel⟩
abbrev s_line_series : Stmt := topS 21
abbrev N_line_series : List Str := ["line", "size", "a", "b", "over", "row", "c", "sign", "one"]
abbrev P_line_series : List Str := ["line", "size"]
theorem sc_line_series : FnScope N_line_series P_line_series (defScope s_line_series) := ⟨rfl, rfl, rfl, by decide +kernel, rfl, by decide +kernel, by decide +kernel⟩
abbrev s_least_exponent : Stmt := topS 22
abbrev N_least_exponent : List Str := ["row", "one"]
abbrev P_least_exponent : List Str := ["row"]
theorem sc_least_exponent : FnScope N_least_exponent P_least_exponent (defScope s_least_exponent) := ⟨rfl, rfl, rfl, by decide +kernel, rfl, by decide +kernel, by decide +kernel⟩
abbrev s_polynomial : Stmt := topS 23
abbrev N_polynomial : List Str := ["one", "least", "found", "exponent", "coefficient"]
abbrev P_polynomial : List Str := ["one", "least"]
theorem sc_polynomial : FnScope N_polynomial P_polynomial (defScope s_polynomial) := ⟨rfl, rfl, rfl, by decide +kernel, rfl, by decide +kernel, by decide +kernel⟩
abbrev s_polynomials : Stmt := topS 24
abbrev N_polynomials : List Str := ["row", "least", "one"]
abbrev P_polynomials : List Str := ["row"]
theorem sc_polynomials : FnScope N_polynomials P_polynomials (defScope s_polynomials) := ⟨rfl, rfl, rfl, by decide +kernel, rfl, by decide +kernel, by decide +kernel⟩
abbrev s_made_plain : Stmt := topS 25
abbrev N_made_plain : List Str := ["row", "there", "low", "first", "sign", "at", "number"]
abbrev P_made_plain : List Str := ["row"]
theorem sc_made_plain : FnScope N_made_plain P_made_plain (defScope s_made_plain) := ⟨rfl, rfl, rfl, by decide +kernel, rfl, by decide +kernel, by decide +kernel⟩
abbrev s_alexander : Stmt := topS 26
abbrev N_alexander : List Str := ["grid", "size", "rows", "line", "row"]
abbrev P_alexander : List Str := ["grid"]
theorem sc_alexander : FnScope N_alexander P_alexander (defScope s_alexander) := ⟨rfl, rfl, rfl, by decide +kernel, rfl, by decide +kernel, by decide +kernel⟩
abbrev s_is_integer : Stmt := topS 28
abbrev N_is_integer : List Str := ["value"]
abbrev P_is_integer : List Str := ["value"]
theorem sc_is_integer : FnScope N_is_integer P_is_integer (defScope s_is_integer) := ⟨rfl, rfl, rfl, by decide +kernel, rfl, by decide +kernel, by decide +kernel⟩
abbrev s_is_place_below : Stmt := topS 29
abbrev N_is_place_below : List Str := ["value", "most"]
abbrev P_is_place_below : List Str := ["value", "most"]
theorem sc_is_place_below : FnScope N_is_place_below P_is_place_below (defScope s_is_place_below) := ⟨rfl, rfl, rfl, by decide +kernel, rfl, by decide +kernel, by decide +kernel⟩
abbrev s_is_rows : Stmt := topS 35
abbrev N_is_rows : List Str := ["value", "n", "row"]
abbrev P_is_rows : List Str := ["value", "n"]
theorem sc_is_rows : FnScope N_is_rows P_is_rows (defScope s_is_rows) := ⟨rfl, rfl, rfl, by decide +kernel, rfl, by decide +kernel, by decide +kernel⟩
abbrev s_is_pair_of_grid : Stmt := topS 36
abbrev N_is_pair_of_grid : List Str := ["xs", "ohs", "x", "o"]
abbrev P_is_pair_of_grid : List Str := ["xs", "ohs"]
theorem sc_is_pair_of_grid : FnScope N_is_pair_of_grid P_is_pair_of_grid (defScope s_is_pair_of_grid) := ⟨rfl, rfl, rfl, by decide +kernel, rfl, by decide +kernel, by decide +kernel⟩
abbrev s_init : Stmt := inClass (topS 37) 0
abbrev N_init : List Str := ["self", "xs", "ohs"]
abbrev P_init : List Str := ["self", "xs", "ohs"]
theorem sc_init : FnScope N_init P_init (defScope s_init) := ⟨rfl, rfl, rfl, by decide +kernel, rfl, by decide +kernel, by decide +kernel⟩
abbrev s_len : Stmt := inClass (topS 37) 2
abbrev N_len : List Str := ["self"]
abbrev P_len : List Str := ["self"]
theorem sc_len : FnScope N_len P_len (defScope s_len) := ⟨rfl, rfl, rfl, by decide +kernel, rfl, by decide +kernel, by decide +kernel⟩
abbrev s_pair : Stmt := inClass (topS 37) 4
abbrev N_pair : List Str := ["self"]
abbrev P_pair : List Str := ["self"]
theorem sc_pair : FnScope N_pair P_pair (defScope s_pair) := ⟨rfl, rfl, rfl, by decide +kernel, rfl, by decide +kernel, by decide +kernel⟩
abbrev s_law_cell : Stmt := topS 40
abbrev N_law_cell : List Str := ["_law_script", "_law_k", "_law_rest", "_law_number"]
abbrev P_law_cell : List Str := ["_law_script", "_law_k"]
theorem sc_law_cell : FnScope N_law_cell P_law_cell (defScope s_law_cell) := ⟨rfl, rfl, rfl, by decide +kernel, rfl, by decide +kernel, by decide +kernel⟩
abbrev s_law_draws : Stmt := topS 41
abbrev N_law_draws : List Str := ["_law_cell_here", "_law_limits", "_law_rest", "_law_great", "_law_found", "_law_k", "_law_mixed"]
abbrev P_law_draws : List Str := ["_law_cell_here", "_law_limits"]
theorem sc_law_draws : FnScope N_law_draws P_law_draws (defScope s_law_draws) := ⟨rfl, rfl, rfl, by decide +kernel, rfl, by decide +kernel, by decide +kernel⟩
abbrev s_law_mixed_row : Stmt := topS 42
abbrev N_law_mixed_row : List Str := ["_law_draws_here", "_law_n", "_law_left", "_law_row", "_law_k", "_law_at"]
abbrev P_law_mixed_row : List Str := ["_law_draws_here", "_law_n"]
theorem sc_law_mixed_row : FnScope N_law_mixed_row P_law_mixed_row (defScope s_law_mixed_row) := ⟨rfl, rfl, rfl, by decide +kernel, rfl, by decide +kernel, by decide +kernel⟩
abbrev s_law_grid : Stmt := topS 43
abbrev N_law_grid : List Str := ["_law_cell_here", "_law_least", "_law_most", "_law_draws_here", "_law_n", "_law_xs", "_law_zs", "_law_i", "_law_other", "_law_keep", "_law_by", "_law_row"]
abbrev P_law_grid : List Str := ["_law_cell_here", "_law_least", "_law_most"]
theorem sc_law_grid : FnScope N_law_grid P_law_grid (defScope s_law_grid) := ⟨rfl, rfl, rfl, by decide +kernel, rfl, by decide +kernel, by decide +kernel⟩
abbrev s_law_columns : Stmt := topS 44
abbrev N_law_columns : List Str := ["_law_grid_here", "_law_r"]
abbrev P_law_columns : List Str := ["_law_grid_here", "_law_r"]
theorem sc_law_columns : FnScope N_law_columns P_law_columns (defScope s_law_columns) := ⟨rfl, rfl, rfl, by decide +kernel, rfl, by decide +kernel, by decide +kernel⟩
abbrev s_law_between : Stmt := topS 45
abbrev N_law_between : List Str := ["_law_k", "_law_one", "_law_other"]
abbrev P_law_between : List Str := ["_law_k", "_law_one", "_law_other"]
theorem sc_law_between : FnScope N_law_between P_law_between (defScope s_law_between) := ⟨rfl, rfl, rfl, by decide +kernel, rfl, by decide +kernel, by decide +kernel⟩
abbrev s_law_over : Stmt := topS 46
abbrev N_law_over : List Str := ["_law_grid_here", "_law_r", "_law_a", "_law_b", "_law_columns_here", "_law_i"]
abbrev P_law_over : List Str := ["_law_grid_here", "_law_r"]
theorem sc_law_over : FnScope N_law_over P_law_over (defScope s_law_over) := ⟨rfl, rfl, rfl, by decide +kernel, rfl, by decide +kernel, by decide +kernel⟩
abbrev s_law_sign : Stmt := topS 47
abbrev N_law_sign : List Str := ["_law_grid_here", "_law_i", "_law_r", "_law_a", "_law_b"]
abbrev P_law_sign : List Str := ["_law_grid_here", "_law_i", "_law_r"]
theorem sc_law_sign : FnScope N_law_sign P_law_sign (defScope s_law_sign) := ⟨rfl, rfl, rfl, by decide +kernel, rfl, by decide +kernel, by decide +kernel⟩
abbrev s_law_told : Stmt := topS 48
abbrev N_law_told : List Str := ["_law_book", "_law_found", "_law_exponent", "_law_pair"]
abbrev P_law_told : List Str := ["_law_book"]
theorem sc_law_told : FnScope N_law_told P_law_told (defScope s_law_told) := ⟨rfl, rfl, rfl, by decide +kernel, rfl, by decide +kernel, by decide +kernel⟩
abbrev s_law_plus : Stmt := topS 49
abbrev N_law_plus : List Str := ["_law_one", "_law_other", "_law_book", "_law_pair"]
abbrev P_law_plus : List Str := ["_law_one", "_law_other"]
theorem sc_law_plus : FnScope N_law_plus P_law_plus (defScope s_law_plus) := ⟨rfl, rfl, rfl, by decide +kernel, rfl, by decide +kernel, by decide +kernel⟩
abbrev s_law_times : Stmt := topS 50
abbrev N_law_times : List Str := ["_law_one", "_law_other", "_law_book", "_law_pair", "_law_more"]
abbrev P_law_times : List Str := ["_law_one", "_law_other"]
theorem sc_law_times : FnScope N_law_times P_law_times (defScope s_law_times) := ⟨rfl, rfl, rfl, by decide +kernel, rfl, by decide +kernel, by decide +kernel⟩
abbrev s_law_line : Stmt := topS 51
abbrev N_law_line : List Str := ["_law_grid_here", "_law_r", "_law_a", "_law_columns_here", "_law_b", "_law_line_here", "_law_c", "_law_s", "_law_one"]
abbrev P_law_line : List Str := ["_law_grid_here", "_law_r"]
theorem sc_law_line : FnScope N_law_line P_law_line (defScope s_law_line) := ⟨rfl, rfl, rfl, by decide +kernel, rfl, by decide +kernel, by decide +kernel⟩
abbrev s_law_normed : Stmt := topS 52
abbrev N_law_normed : List Str := ["_law_series", "_law_sign_here", "_law_pair"]
abbrev P_law_normed : List Str := ["_law_series"]
theorem sc_law_normed : FnScope N_law_normed P_law_normed (defScope s_law_normed) := ⟨rfl, rfl, rfl, by decide +kernel, rfl, by decide +kernel, by decide +kernel⟩
abbrev s_law_alexander : Stmt := topS 53
abbrev N_law_alexander : List Str := ["_law_grid_here", "_law_n", "_law_lines", "_law_sums", "_law_r", "_law_wider", "_law_used", "_law_c", "_law_sign_here", "_law_more", "_law_key", "_law_one"]
abbrev P_law_alexander : List Str := ["_law_grid_here"]
theorem sc_law_alexander : FnScope N_law_alexander P_law_alexander (defScope s_law_alexander) := ⟨rfl, rfl, rfl, by decide +kernel, rfl, by decide +kernel, by decide +kernel⟩
abbrev s_law : Stmt := topS 54
abbrev N_law : List Str := ["_law_script", "_law_pair", "_law_grid_here", "_law_due"]
abbrev P_law : List Str := ["_law_script"]
theorem sc_law : FnScope N_law P_law (defScope s_law) := ⟨rfl, rfl, rfl, by decide +kernel, rfl, by decide +kernel, by decide +kernel⟩
/-- a def of the text that the module's name x holds -/
def Df (K : PySem.W.Frag) (mg : Str → Option Value) (x : Str) (st : Stmt) (ps : List Str) : Prop := ∃ (f : Addr) (fd : FuncData), Fun K x x st f fd ∧ mg x = some (.ref f) ∧ Binds K fd ps []
/-- .. and what it promises -/
def Fk (P : Program) (w : World) (K : PySem.W.Frag) (mg : Str → Option Value) (base : Heap) (k : Nat) (x : Str) (ps : List Str) (sp : Sp) : Prop :=
  ∃ (f : Addr) (fd : FuncData), mg x = some (.ref f) ∧ PySem.W.keepIn K (.ref f) = true ∧ Binds K fd ps [] ∧ FnOk P w K mg base CX0 k f fd ps sp
/-- the class Grid: itself, __init__, __len__, pair -/
structure GridT (K : PySem.W.Frag) (mg : Str → Option Value) (C fI fL fP : Addr) : Prop where
  cl : Cls K C
  mgC : mg "Grid" = some (.ref C)
  mkI : Mk K C fI
  nX : NoAttr K C "xs"
  nO : NoAttr K C "ohs"
  ln : Meth K C "__len__" fL
  pr : Meth K C "pair" fP
  dI : ∃ fd, Fun K "__init__" "Grid.__init__" s_init fI fd ∧ Binds K fd P_init []
  dL : ∃ fd, Fun K "__len__" "Grid.__len__" s_len fL fd ∧ Binds K fd P_len []
  dP : ∃ fd, Fun K "pair" "Grid.pair" s_pair fP fd ∧ Binds K fd P_pair []
/-- what the top leaves -/
structure Tx (K : PySem.W.Frag) (mg : Str → Option Value) : Prop where
  range : mg "range" = none
  enumerate : mg "enumerate" = none
  zip : mg "zip" = none
  len : mg "len" = none
  min : mg "min" = none
  max : mg "max" = none
  abs : mg "abs" = none
  all : mg "all" = none
  sorted : mg "sorted" = none
  repr : mg "repr" = none
  isinstance : mg "isinstance" = none
  int : mg "int" = none
  tuple : mg "tuple" = none
  list : mg "list" = none
  bool : mg "bool" = none
  LEAST_SIZE : ∃ t, mg "LEAST_SIZE" = some (.int 2 t)
  d_stands_between : Df K mg "stands_between" s_stands_between P_stands_between
  d_sign_of : Df K mg "sign_of" s_sign_of P_sign_of
  d_passed : Df K mg "passed" s_passed P_passed
  d_lines_of : Df K mg "lines_of" s_lines_of P_lines_of
  d_trimmed : Df K mg "trimmed" s_trimmed P_trimmed
  d_less : Df K mg "less" s_less P_less
  d_product : Df K mg "product" s_product P_product
  d_divided : Df K mg "divided" s_divided P_divided
  d_with_pivot : Df K mg "with_pivot" s_with_pivot P_with_pivot
  d_step : Df K mg "step" s_step P_step
  d_determinant : Df K mg "determinant" s_determinant P_determinant
  d_series_of : Df K mg "series_of" s_series_of P_series_of
  d_series_plus : Df K mg "series_plus" s_series_plus P_series_plus
  d_series_times : Df K mg "series_times" s_series_times P_series_times
  d_line_series : Df K mg "line_series" s_line_series P_line_series
  d_least_exponent : Df K mg "least_exponent" s_least_exponent P_least_exponent
  d_polynomial : Df K mg "polynomial" s_polynomial P_polynomial
  d_polynomials : Df K mg "polynomials" s_polynomials P_polynomials
  d_made_plain : Df K mg "made_plain" s_made_plain P_made_plain
  d_alexander : Df K mg "alexander" s_alexander P_alexander
  d_is_integer : Df K mg "is_integer" s_is_integer P_is_integer
  d_is_place_below : Df K mg "is_place_below" s_is_place_below P_is_place_below
  d_is_rows : Df K mg "is_rows" s_is_rows P_is_rows
  d_is_pair_of_grid : Df K mg "is_pair_of_grid" s_is_pair_of_grid P_is_pair_of_grid
  d_law_cell : Df K mg "_law_cell" s_law_cell P_law_cell
  d_law_draws : Df K mg "_law_draws" s_law_draws P_law_draws
  d_law_mixed_row : Df K mg "_law_mixed_row" s_law_mixed_row P_law_mixed_row
  d_law_grid : Df K mg "_law_grid" s_law_grid P_law_grid
  d_law_columns : Df K mg "_law_columns" s_law_columns P_law_columns
  d_law_between : Df K mg "_law_between" s_law_between P_law_between
  d_law_over : Df K mg "_law_over" s_law_over P_law_over
  d_law_sign : Df K mg "_law_sign" s_law_sign P_law_sign
  d_law_told : Df K mg "_law_told" s_law_told P_law_told
  d_law_plus : Df K mg "_law_plus" s_law_plus P_law_plus
  d_law_times : Df K mg "_law_times" s_law_times P_law_times
  d_law_line : Df K mg "_law_line" s_law_line P_law_line
  d_law_normed : Df K mg "_law_normed" s_law_normed P_law_normed
  d_law_alexander : Df K mg "_law_alexander" s_law_alexander P_law_alexander
  d_law : Df K mg "law" s_law P_law
  gr : ∃ C fI fL fP, GridT K mg C fI fL fP
section
variable {P : Program} {w : World} {K : PySem.W.Frag} {mg : Str → Option Value} {base : Heap}
theorem Df.fk {x : Str} {st : Stmt} {N ps : List Str} {k : Nat} {sp : Sp} (D : Df K mg x st ps) (S : FnScope N ps (defScope st)) (len : ∀ vs H Q E, sp vs H Q E → vs.length = ps.length)
    (hb : ∀ (f : Addr) (cdv : Value) (A : Around) (outer : List Env) (s : Shared) (H : Hp) (vs : List V) (Q : VK) (E : XK), Room k (A.deeper (envOfC x (defScope st) s.heap.objs.size f cdv)) → sp vs H Q E →
      ∃ t, PSs (cxOf CX0 P w K mg base N x (defScope st) f cdv A outer s H E).nox (defBody st) t ∧ t { nx := fun _ H' => Q .non H', rt := Q } (start N vs) H) : Fk P w K mg base (k + 1) x ps sp := by
  obtain ⟨f, fd, F, m, b⟩ := D
  exact ⟨f, fd, m, F.kp, b, F.ok S len fun cdv A outer s H vs Q E hr h => hb f cdv A outer s H vs Q E hr h⟩
end
section
variable {X : Cx} {k : Nat} {x : Str} {ps : List Str} {sp : Sp} {e : Expr} {es : List Expr} {t : TA} {te : TE} {p pos : Pos}
theorem pe_cal (F : Fk X.prog X.w X.K X.mg X.base k x ps sp) (hr : Room k X.A) (hg : Gl X x) (ha : PA X (e :: es) t) (hdb : (x == ("__debug__" : Str)) = false := by decide)
    (he : starEach (e :: es) X.env = (false, eval e X.env) :: starEach es X.env := by rfl) (hpl : (backTo pos (starEach es X.env)).any (·.1) = false := by rfl) : PE X (.Call (.Name x p) (e :: es) [] pos) (tCall sp [] E0 t) := by
  obtain ⟨f, fd, m, kp, b, F⟩ := F
  exact pe_call F hr hg m kp b .nil pass0 ha hdb he hpl
end
/-! ### what calls come to -/
/-- the promise: a value that is the data d; one whose lists are new; a new list that may be changed -/
def RetD (K : PySem.W.Frag) (d : PyData) (H : Hp) (Q : VK) : Prop := ∀ v H2, Ex H H2 → Dd K H2 v d → Q v H2
def RetN (K : PySem.W.Frag) (d : PyData) (H : Hp) (Q : VK) : Prop := ∀ v H2, Ex H H2 → Dn K (fun a => H a = none) H2 v d → Q v H2
def RetM (K : PySem.W.Frag) (ds : List PyData) (H : Hp) (Q : VK) : Prop := ∀ p vs H2, H p = none → Ex H H2 → H2 p = some (.lst vs) → DnAll K (fun a => H a = none ∧ a ≠ p) H2 vs ds → Q (.ref p) H2
section
variable {K : PySem.W.Frag} {A : Addr → Prop} {σ : L2.St} {H H' : Hp} {ta : TA} {d : PyData} {ds : List PyData} {sp : Sp} {Q : VK}
theorem ew_call (h : EvWA K ta σ H ds) (hs : ∀ vs H1 Q E, DnAll K Tt H1 vs ds → RetD K d H1 Q → sp vs H1 Q E) : EvW K (tCall sp [] E0 ta) σ H d := fun H1 e Q q =>
  h H1 e _ fun vs H2 e2 g => hs _ H2 Q E0 (by rw [List.append_nil]; exact g) fun v H3 e3 g3 => q v H3 (e2.trans e3) g3
theorem ed_callN (h : EvWA K ta σ H ds) (hs : ∀ vs H1 Q E, DnAll K Tt H1 vs ds → RetN K d H1 Q → sp vs H1 Q E) : EvD K A (tCall sp [] E0 ta) σ H d := fun H1 e Q q =>
  h H1 e _ fun vs H2 e2 g => hs _ H2 Q E0 (by rw [List.append_nil]; exact g) fun v H3 e3 g3 => q v H3 (e2.trans e3) (g3.weak fun a z => Or.inr (fresh_back e2 z))
theorem em_callM {es : List PyData} (h : EvWA K ta σ H ds) (hs : ∀ vs H1 Q E, DnAll K Tt H1 vs ds → RetM K es H1 Q → sp vs H1 Q E) : EvM K A (tCall sp [] E0 ta) σ H es := fun H1 e Q q =>
  h H1 e _ fun vs H2 e2 g => hs _ H2 Q E0 (by rw [List.append_nil]; exact g) fun p ws H3 hp e3 h3 g3 => q p ws H3 (fresh_back e2 hp) (e2.trans e3) h3 (g3.weak fun a z => ⟨Or.inr (fresh_back e2 z.1), z.2⟩)
theorem RetD.go (k : RetD K d H Q) (e : Ex H H') {v : V} (g : Dd K H' v d) : Q v H' := k v H' e g
theorem RetN.go (k : RetN K d H Q) (e : Ex H H') {v : V} (g : Dn K (fun a => H a = none) H' v d) : Q v H' := k v H' e g
end
end GK
/-! GM: the mathematics of the program and of the law, in plain Lean: mirrors of the defs. -/
namespace GM
/-! ### polynomials as lists of ints, the constant one first -/
/-- without noughts at the end -/
def trim : List Int → List Int
  | [] => []
  | c :: r => match trim r with
    | [] => if c = 0 then [] else [c]
    | d :: t => c :: d :: t
theorem trim_snoc0 : ∀ p : List Int, trim (p ++ [0]) = trim p
  | [] => by simp [trim]
  | c :: r => by
    show (match trim (r ++ [0]) with | [] => if c = 0 then [] else [c] | d :: t => c :: d :: t) = trim (c :: r)
    rw [trim_snoc0 r]
    rfl
theorem trim_snoc : ∀ (p : List Int) (x : Int), x ≠ 0 → trim (p ++ [x]) = p ++ [x]
  | [], x, h => by simp [trim, h]
  | c :: r, x, h => by
    show (match trim (r ++ [x]) with | [] => if c = 0 then [] else [c] | d :: t => c :: d :: t) = c :: (r ++ [x])
    rw [trim_snoc r x h]
    cases r with
    | nil => rfl
    | cons d t => rfl
theorem trim_len : ∀ p : List Int, (trim p).length ≤ p.length
  | [] => Nat.le_refl _
  | c :: r => by
    have h := trim_len r
    unfold trim
    cases e : trim r with
    | nil => by_cases hc : c = 0 <;> simp [hc]
    | cons d t =>
      rw [e] at h
      simp only [List.length_cons] at h ⊢
      omega
end GM
/-! GPoly: polynomials as lists of ints by what they come to at each N. -/
namespace GM
def ev : List Int → Int → Int
  | [], _ => 0
  | c :: r, N => c + N * ev r N
theorem ev_nil (N : Int) : ev [] N = 0 := rfl
theorem ev_cons (c : Int) (r : List Int) (N : Int) : ev (c :: r) N = c + N * ev r N := rfl
theorem ev_app : ∀ (p q : List Int) (N : Int), ev (p ++ q) N = ev p N + N ^ p.length * ev q N
  | [], q, N => by simp [ev]
  | c :: p, q, N => by
    show c + N * ev (p ++ q) N = c + N * ev p N + N ^ (p.length + 1) * ev q N
    rw [ev_app p q N, Int.pow_succ]
    grind
theorem ev_rep0 : ∀ (n : Nat) (N : Int), ev (List.replicate n 0) N = 0
  | 0, _ => rfl
  | n + 1, N => by
    rw [List.replicate_succ]
    show 0 + N * ev (List.replicate n 0) N = 0
    rw [ev_rep0 n N]
    omega
theorem ev_trim : ∀ (p : List Int) (N : Int), ev (trim p) N = ev p N
  | [], _ => rfl
  | c :: r, N => by
    have ih := ev_trim r N
    show ev (trim (c :: r)) N = c + N * ev r N
    unfold trim
    cases e : trim r with
    | nil =>
      rw [e, ev_nil] at ih
      rw [← ih]
      by_cases hc : c = 0
      · simp [hc, ev]
      · simp [hc, ev]
    | cons d t =>
      rw [e] at ih
      show c + N * ev (d :: t) N = _
      rw [ih]
/-- a polynomial without noughts at its end -/
def Tr (p : List Int) : Prop := trim p = p
theorem trim_trim : ∀ p : List Int, trim (trim p) = trim p
  | [] => rfl
  | c :: r => by
    have ih := trim_trim r
    cases e : trim r with
    | nil =>
      by_cases hc : c = 0
      · simp [trim, e, hc]
      · simp [trim, e, hc]
    | cons d t =>
      have e2 : trim (c :: r) = c :: d :: t := by simp [trim, e]
      rw [e] at ih
      rw [e2]
      show (match trim (d :: t) with | [] => if c = 0 then [] else [c] | d :: t => c :: d :: t) = _
      rw [ih]
theorem tr_trim (p : List Int) : Tr (trim p) := trim_trim p
theorem tr_nil : Tr [] := rfl
theorem tr_tail {c : Int} {r : List Int} (h : Tr (c :: r)) : Tr r := by
  unfold Tr at h ⊢
  unfold trim at h
  cases e : trim r with
  | nil =>
    rw [e] at h
    by_cases hc : c = 0
    · simp [hc] at h
    · simp [hc] at h
      rw [← h]
  | cons d t =>
    rw [e] at h
    injection h
theorem tr_head {c : Int} (h : Tr [c]) : c ≠ 0 := fun e => by
  subst e
  simp [Tr, trim] at h
theorem tr_last : ∀ {p : List Int} (h : Tr p) (hn : p ≠ []), p.getLast hn ≠ 0
  | [c], h, _ => tr_head h
  | c :: d :: t, h, _ => by
    rw [List.getLast_cons (List.cons_ne_nil d t)]
    exact tr_last (tr_tail h) _
theorem tr_of_last : ∀ {p : List Int} (hn : p ≠ []), p.getLast hn ≠ 0 → Tr p
  | [c], _, h => by simp [Tr, trim]; exact h
  | c :: d :: t, _, h => by
    rw [List.getLast_cons (List.cons_ne_nil d t)] at h
    have ih := tr_of_last (List.cons_ne_nil d t) h
    unfold Tr at ih ⊢
    show (match trim (d :: t) with | [] => if c = 0 then [] else [c] | d :: t => c :: d :: t) = _
    rw [ih]
/-! ### what is 0 at all great N is nothing -/
theorem dvd_small {c N : Int} {k : Int} (h : c + N * k = 0) (hN : (c.natAbs : Int) < N) : c = 0 := by
  rcases Int.lt_trichotomy k 0 with h1 | h1 | h1
  · have : N * k ≤ N * (-1) := Int.mul_le_mul_of_nonneg_left (by omega) (by omega)
    omega
  · subst h1
    omega
  · have : N * 1 ≤ N * k := Int.mul_le_mul_of_nonneg_left (by omega) (by omega)
    omega
theorem ev_zero : ∀ (p : List Int) (B : Int), (∀ N, B < N → ev p N = 0) → ∀ i, p.getD i 0 = 0
  | [], _, _, i => by simp
  | c :: r, B, h, i => by
    have hc : c = 0 := by
      have h1 := h (max B (c.natAbs : Int) + 1) (by omega)
      rw [ev_cons] at h1
      exact dvd_small h1 (by omega)
    cases i with
    | zero => simpa using hc
    | succ i =>
      have : ∀ N, max B 0 < N → ev r N = 0 := fun N hN => by
        have h1 := h N (by omega)
        rw [ev_cons, hc, Int.zero_add] at h1
        rcases Int.mul_eq_zero.mp h1 with h2 | h2
        · omega
        · exact h2
      simpa using ev_zero r _ this i
/-- the difference -/
def subP : List Int → List Int → List Int
  | [], [] => []
  | a :: p, [] => a :: subP p []
  | [], b :: q => (0 - b) :: subP [] q
  | a :: p, b :: q => (a - b) :: subP p q
theorem ev_subP : ∀ (p q : List Int) (N : Int), ev (subP p q) N = ev p N - ev q N
  | [], [], _ => by simp [subP, ev]
  | a :: p, [], N => by
    rw [subP, ev_cons, ev_subP p [] N]
    simp [ev]
  | [], b :: q, N => by
    rw [subP, ev_cons, ev_subP [] q N]
    simp only [ev]
    grind
  | a :: p, b :: q, N => by
    rw [subP, ev_cons, ev_subP p q N]
    simp only [ev]
    grind
theorem getD_subP : ∀ (p q : List Int) (i : Nat), (subP p q).getD i 0 = p.getD i 0 - q.getD i 0
  | [], [], i => by simp [subP]
  | a :: p, [], 0 => by simp [subP]
  | a :: p, [], i + 1 => by simpa [subP] using getD_subP p [] i
  | [], b :: q, 0 => by simp [subP]
  | [], b :: q, i + 1 => by simpa [subP] using getD_subP [] q i
  | a :: p, b :: q, 0 => by simp [subP]
  | a :: p, b :: q, i + 1 => by simpa [subP] using getD_subP p q i
theorem ev_inj {p q : List Int} {B : Int} (h : ∀ N, B < N → ev p N = ev q N) (i : Nat) : p.getD i 0 = q.getD i 0 := by
  have := ev_zero (subP p q) B (fun N hN => by rw [ev_subP, h N hN]; omega) i
  rw [getD_subP] at this
  omega
theorem tr_ext : ∀ {p q : List Int}, Tr p → Tr q → (∀ i, p.getD i 0 = q.getD i 0) → p = q
  | [], [], _, _, _ => rfl
  | a :: p, [], hp, _, h => by
    have := tr_last hp (List.cons_ne_nil a p)
    have h2 := h p.length
    rw [List.getLast_eq_getElem] at this
    simp [List.getD_eq_getElem?_getD] at h2
    simp at this
    exact absurd h2 this
  | [], b :: q, _, hq, h => by
    have := tr_last hq (List.cons_ne_nil b q)
    have h2 := h q.length
    rw [List.getLast_eq_getElem] at this
    simp [List.getD_eq_getElem?_getD] at h2
    simp at this
    exact absurd h2.symm this
  | a :: p, b :: q, hp, hq, h => by
    have h0 := h 0
    simp at h0
    rw [h0, tr_ext (tr_tail hp) (tr_tail hq) fun i => by simpa using h (i + 1)]
theorem tr_evx {p q : List Int} {B : Int} (hp : Tr p) (hq : Tr q) (h : ∀ N, B < N → ev p N = ev q N) : p = q := tr_ext hp hq (ev_inj h)
theorem ev_eq {p q : List Int} (h : ∀ i, p.getD i 0 = q.getD i 0) : ∀ N, ev p N = ev q N := fun N => by
  have e : trim p = trim q := by
    refine tr_ext (tr_trim p) (tr_trim q) fun i => ?_
    have h1 := ev_inj (p := trim p) (q := p) (B := 0) (fun N _ => ev_trim p N) i
    have h2 := ev_inj (p := trim q) (q := q) (B := 0) (fun N _ => ev_trim q N) i
    rw [h1, h2, h i]
  rw [← ev_trim p, ← ev_trim q, e]

/-! ### the product as the program makes it -/
def mulRow (one : Int) : List Int → Nat → List Int → List Int
  | [], _, row => row
  | t :: b, j, row => mulRow one b (j + 1) (row.set j (row.getD j 0 + one * t))
def mulAll : List Int → Nat → List Int → List Int → List Int
  | [], _, _, row => row
  | o :: a, i, b, row => mulAll a (i + 1) b (mulRow o b i row)
def mul (a b : List Int) : List Int := if a = [] ∨ b = [] then [] else mulAll a 0 b (List.replicate (a.length + b.length - 1) 0)
theorem mulRow_len (one : Int) : ∀ (b : List Int) (j : Nat) (row : List Int), (mulRow one b j row).length = row.length
  | [], _, _ => rfl
  | t :: b, j, row => by
    show (mulRow one b (j + 1) (row.set j (row.getD j 0 + one * t))).length = _
    rw [mulRow_len one b, List.length_set]
theorem ev_set : ∀ (row : List Int) (j : Nat) (x N : Int), j < row.length → ev (row.set j (row.getD j 0 + x)) N = ev row N + x * N ^ j
  | [], j, _, _, h => by simp at h
  | c :: r, 0, x, N, _ => by
    simp [ev]
    omega
  | c :: r, j + 1, x, N, h => by
    have ih := ev_set r j x N (by simpa using h)
    show c + N * ev (r.set j ((c :: r).getD (j + 1) 0 + x)) N = c + N * ev r N + x * N ^ (j + 1)
    have e : (c :: r).getD (j + 1) 0 = r.getD j 0 := by simp
    rw [e, ih, Int.pow_succ]
    grind
theorem ev_mulRow (one : Int) : ∀ (b : List Int) (j : Nat) (row : List Int) (N : Int), j + b.length ≤ row.length → ev (mulRow one b j row) N = ev row N + one * N ^ j * ev b N
  | [], j, row, N, _ => by simp [mulRow, ev]
  | t :: b, j, row, N, h => by
    simp only [List.length_cons] at h
    show ev (mulRow one b (j + 1) (row.set j (row.getD j 0 + one * t))) N = _
    rw [ev_mulRow one b (j + 1) _ N (by rw [List.length_set]; omega), ev_set row j (one * t) N (by omega), ev_cons, Int.pow_succ]
    grind
theorem mulAll_len : ∀ (a : List Int) (i : Nat) (b row : List Int), (mulAll a i b row).length = row.length
  | [], _, _, _ => rfl
  | o :: a, i, b, row => by
    show (mulAll a (i + 1) b (mulRow o b i row)).length = _
    rw [mulAll_len a, mulRow_len]
theorem ev_mulAll : ∀ (a : List Int) (i : Nat) (b row : List Int) (N : Int), (a ≠ [] → i + a.length + b.length ≤ row.length + 1) → ev (mulAll a i b row) N = ev row N + N ^ i * ev a N * ev b N
  | [], i, b, row, N, _ => by simp [mulAll, ev]
  | o :: a, i, b, row, N, h => by
    have h := h (List.cons_ne_nil _ _)
    simp only [List.length_cons] at h
    show ev (mulAll a (i + 1) b (mulRow o b i row)) N = _
    rw [ev_mulAll a (i + 1) b _ N (fun _ => by rw [mulRow_len]; omega), ev_mulRow o b i row N (by omega), ev_cons, Int.pow_succ]
    grind
theorem ev_mul (a b : List Int) (N : Int) : ev (mul a b) N = ev a N * ev b N := by
  unfold mul
  by_cases h : a = [] ∨ b = []
  · rw [if_pos h]
    rcases h with h | h <;> subst h <;> simp [ev]
  · rw [if_neg h, ev_mulAll _ _ _ _ _ fun _ => ?_, ev_rep0]
    · simp
    · rw [List.length_replicate]
      omega
theorem mul_len (a b : List Int) : (mul a b).length ≤ a.length + b.length - 1 := by
  unfold mul
  split
  · simp
  · rw [mulAll_len, List.length_replicate]
    exact Nat.le_refl _
/-! ### the difference as the program makes it -/
def pad (n : Nat) (a : List Int) : List Int := a ++ List.replicate (n - a.length) 0
def less (a b : List Int) : List Int := trim (((pad (max a.length b.length) a).zip (pad (max a.length b.length) b)).map fun p => p.1 - p.2)
theorem getD_pad (n : Nat) (a : List Int) (i : Nat) : (pad n a).getD i 0 = a.getD i 0 := by
  unfold pad
  simp only [List.getD_eq_getElem?_getD]
  rcases Nat.lt_or_ge i a.length with h | h
  · rw [List.getElem?_append_left h]
  · rw [List.getElem?_append_right h, List.getElem?_eq_none h, List.getElem?_replicate]
    split <;> rfl
theorem pad_len {n : Nat} {a : List Int} (h : a.length ≤ n) : (pad n a).length = n := by
  unfold pad
  rw [List.length_append, List.length_replicate]
  omega
theorem getD_zipsub : ∀ (p q : List Int), p.length = q.length → ∀ i, ((p.zip q).map fun p => p.1 - p.2).getD i 0 = p.getD i 0 - q.getD i 0
  | [], [], _, i => by simp
  | [], _ :: _, h, _ => by simp at h
  | _ :: _, [], h, _ => by simp at h
  | a :: p, b :: q, h, 0 => by simp
  | a :: p, b :: q, h, i + 1 => by simpa using getD_zipsub p q (by simpa using h) i
theorem ev_less (a b : List Int) (N : Int) : ev (less a b) N = ev a N - ev b N := by
  unfold less
  rw [ev_trim, ← ev_subP a b N]
  refine ev_eq (fun i => ?_) N
  rw [getD_zipsub _ _ (by rw [pad_len (Nat.le_max_left _ _), pad_len (Nat.le_max_right _ _)]), getD_pad, getD_pad, getD_subP]
theorem less_tr (a b : List Int) : Tr (less a b) := tr_trim _
theorem less_len (a b : List Int) : (less a b).length ≤ max a.length b.length := by
  refine Nat.le_trans (trim_len _) ?_
  rw [List.length_map, List.length_zip, pad_len (Nat.le_max_left _ _), pad_len (Nat.le_max_right _ _)]
  exact Nat.min_le_left _ _
/-! ### the highest coefficient of a product -/
def smul (c : Int) (p : List Int) : List Int := p.map (c * ·)
theorem ev_smul (c : Int) : ∀ (p : List Int) (N : Int), ev (smul c p) N = c * ev p N
  | [], _ => by simp [smul, ev]
  | a :: p, N => by
    show c * a + N * ev (smul c p) N = c * (a + N * ev p N)
    rw [ev_smul c p N]
    grind
theorem smul_len (c : Int) (p : List Int) : (smul c p).length = p.length := List.length_map _
theorem subP_len : ∀ p q : List Int, (subP p q).length = max p.length q.length
  | [], [] => by simp [subP]
  | a :: p, [] => by
    rw [subP, List.length_cons, subP_len p []]
    simp
  | [], b :: q => by
    rw [subP, List.length_cons, subP_len [] q]
    simp
  | a :: p, b :: q => by
    rw [subP, List.length_cons, subP_len p q, List.length_cons, List.length_cons]
    omega
def addP (p q : List Int) : List Int := subP p (smul (-1) q)
theorem ev_addP (p q : List Int) (N : Int) : ev (addP p q) N = ev p N + ev q N := by
  unfold addP
  rw [ev_subP, ev_smul]
  omega
theorem addP_len (p q : List Int) : (addP p q).length = max p.length q.length := by
  unfold addP
  rw [subP_len, smul_len]
def shift (m : Nat) (p : List Int) : List Int := List.replicate m 0 ++ p
theorem ev_shift (m : Nat) (p : List Int) (N : Int) : ev (shift m p) N = N ^ m * ev p N := by
  unfold shift
  rw [ev_app, ev_rep0, List.length_replicate]
  omega
theorem shift_len (m : Nat) (p : List Int) : (shift m p).length = m + p.length := by
  unfold shift
  rw [List.length_append, List.length_replicate]
theorem ev_pad (n : Nat) (a : List Int) (N : Int) : ev (pad n a) N = ev a N := by
  unfold pad
  rw [ev_app, ev_rep0]
  omega
theorem ev_snoc (p : List Int) (x N : Int) : ev (p ++ [x]) N = ev p N + N ^ p.length * x := by
  rw [ev_app]
  simp [ev]
theorem conv_top {p q b : List Int} {x y : Int} (h : ∀ N, ev p N = ev (q ++ [x]) N * ev (b ++ [y]) N) : p.getD (q.length + b.length) 0 = x * y ∧ ∀ i, q.length + b.length < i → p.getD i 0 = 0 := by
  have hL : (addP (mul q b) (addP (shift q.length (smul x b)) (shift b.length (smul y q)))).length ≤ q.length + b.length := by
    have := mul_len q b
    rw [addP_len, addP_len, shift_len, shift_len, smul_len, smul_len]
    omega
  generalize hLd : addP (mul q b) (addP (shift q.length (smul x b)) (shift b.length (smul y q))) = L at hL
  have hev : ∀ N, ev p N = ev (pad (q.length + b.length) L ++ [x * y]) N := fun N => by
    rw [ev_snoc, ev_pad, pad_len hL, h N, ev_snoc, ev_snoc, ← hLd, ev_addP, ev_addP, ev_mul, ev_shift, ev_shift, ev_smul, ev_smul, Int.pow_add]
    grind
  have hg := ev_inj (B := 0) fun N _ => hev N
  constructor
  · rw [hg, List.getD_eq_getElem?_getD, List.getElem?_append_right (by rw [pad_len hL]; exact Nat.le_refl _), pad_len hL, Nat.sub_self]
    rfl
  · intro i hi
    rw [hg, List.getD_eq_getElem?_getD, List.getElem?_eq_none (by rw [List.length_append, pad_len hL, List.length_singleton]; omega)]
    rfl
theorem snoc_of {p : List Int} (h : p ≠ []) : ∃ q x, p = q ++ [x] := ⟨p.dropLast, p.getLast h, (List.dropLast_concat_getLast h).symm⟩
/-- the sizes of an exact quotient -/
theorem div_len {a b q : List Int} (ha : Tr a) (hb : Tr b) (hq : Tr q) (hb0 : b ≠ []) (h : ∀ N, ev a N = ev q N * ev b N) : a.length - b.length + 1 = q.length ∧ b.length ≤ a.length ∨ q = [] ∧ a = [] := by
  by_cases hq0 : q = []
  · refine .inr ⟨hq0, ?_⟩
    subst hq0
    exact tr_evx (B := 0) ha tr_nil fun N _ => by rw [h N, ev_nil, Int.zero_mul]
  · refine .inl ?_
    have hl1 := tr_last hq hq0
    have hl2 := tr_last hb hb0
    obtain ⟨q', x, rfl⟩ := snoc_of hq0
    obtain ⟨b', y, rfl⟩ := snoc_of hb0
    have g1 : (q' ++ [x]).getLast hq0 = x := by simp
    have g2 : (b' ++ [y]).getLast hb0 = y := by simp
    rw [g1] at hl1
    rw [g2] at hl2
    obtain ⟨h1, h2⟩ := conv_top h
    have hxy : x * y ≠ 0 := fun z => (Int.mul_eq_zero.mp z).elim hl1 hl2
    have la : q'.length + b'.length < a.length := by
      rcases Nat.lt_or_ge (q'.length + b'.length) a.length with z | z
      · exact z
      · rw [List.getD_eq_getElem?_getD, List.getElem?_eq_none z] at h1
        exact absurd h1.symm hxy
    have la2 : a.length ≤ q'.length + b'.length + 1 := by
      rcases Nat.lt_or_ge (q'.length + b'.length + 1) a.length with z | z
      · have hne : a ≠ [] := fun e => by
          subst e
          simp at z
        have h3 := tr_last ha hne
        have h4 := h2 (a.length - 1) (by omega)
        rw [List.getLast_eq_getElem] at h3
        rw [List.getD_eq_getElem?_getD, List.getElem?_eq_getElem (by omega)] at h4
        exact absurd h4 h3
      · exact z
    simp only [List.length_append, List.length_singleton]
    omega
/-- the coefficient that a step of the division finds -/
theorem div_coef {l b q : List Int} {m : Nat} (hb0 : b ≠ []) (hm : m < q.length) (h : ∀ N, ev l N = ev (q.take (m + 1)) N * ev b N) : l.getD (m + b.length - 1) 0 = q[m] * b.getLast hb0 := by
  obtain ⟨b', y, rfl⟩ := snoc_of hb0
  rw [show (b' ++ [y]).getLast hb0 = y by simp]
  have e : q.take (m + 1) = q.take m ++ [q[m]] := by rw [List.take_add_one, List.getElem?_eq_getElem hm]; rfl
  rw [e] at h
  obtain ⟨h1, _⟩ := conv_top h
  rw [List.length_take, Nat.min_eq_left (by omega)] at h1
  rw [List.length_append, List.length_singleton, show m + (b'.length + 1) - 1 = m + b'.length by omega]
  exact h1
theorem div_next {l b q : List Int} {m : Nat} (hm : m < q.length) (hl : m + b.length ≤ l.length) (h : ∀ N, ev l N = ev (q.take (m + 1)) N * ev b N) : ∀ N, ev (mulRow (-q[m]) b m l) N = ev (q.take m) N * ev b N := fun N => by
  have e : q.take (m + 1) = q.take m ++ [q[m]] := by rw [List.take_add_one, List.getElem?_eq_getElem hm]; rfl
  rw [ev_mulRow _ _ _ _ _ hl, h N, e, ev_snoc, List.length_take, Nat.min_eq_left (by omega)]
  grind
end GM
set_option Elab.async false
set_option linter.all false
set_option maxRecDepth 100000
set_option maxHeartbeats 4000000
/-! GSp: promises by data. -/
namespace GK
open PySem PySem.Spec PyProof.Rows L2 Evl GM
/-! ### promises by data -/
def SpD (K : PySem.W.Frag) {α : Type} (pre : α → Prop) (args : α → List PyData) (res : α → PyData) : Sp := fun vs H Q _ => ∃ x, pre x ∧ DnAll K Tt H vs (args x) ∧ RetD K (res x) H Q
def SpN (K : PySem.W.Frag) {α : Type} (pre : α → Prop) (args : α → List PyData) (res : α → PyData) : Sp := fun vs H Q _ => ∃ x, pre x ∧ DnAll K Tt H vs (args x) ∧ RetN K (res x) H Q
section
variable {K : PySem.W.Frag} {A : Addr → Prop} {σ : L2.St} {H : Hp} {ta : TA} {α : Type} {pre : α → Prop} {args : α → List PyData} {res : α → PyData}
theorem SpD.len {n : Nat} (h : ∀ x, (args x).length = n) : ∀ vs H Q E, SpD K pre args res vs H Q E → vs.length = n := fun vs H Q E ⟨x, _, g, _⟩ => g.len.trans (h x)
theorem SpN.len {n : Nat} (h : ∀ x, (args x).length = n) : ∀ vs H Q E, SpN K pre args res vs H Q E → vs.length = n := fun vs H Q E ⟨x, _, g, _⟩ => g.len.trans (h x)
theorem SpD.ev (x : α) (h : EvWA K ta σ H (args x)) (hp : pre x) : EvW K (tCall (SpD K pre args res) [] E0 ta) σ H (res x) := ew_call h fun vs H1 Q E g q => ⟨x, hp, g, q⟩
theorem SpN.ev (x : α) (h : EvWA K ta σ H (args x)) (hp : pre x) : EvD K A (tCall (SpN K pre args res) [] E0 ta) σ H (res x) := ed_callN h fun vs H1 Q E g q => ⟨x, hp, g, q⟩
theorem dn1 {d1 : PyData} {vs : List V} (h : DnAll K A H vs [d1]) : ∃ v1, vs = [v1] ∧ Dn K A H v1 d1 := by
  obtain ⟨v1, r, rfl, h1, h2⟩ := h.cons_inv
  cases h2.nil_inv
  exact ⟨v1, rfl, h1⟩
theorem dn2 {d1 d2 : PyData} {vs : List V} (h : DnAll K A H vs [d1, d2]) : ∃ v1 v2, vs = [v1, v2] ∧ Dn K A H v1 d1 ∧ Dn K A H v2 d2 := by
  obtain ⟨v1, r, rfl, h1, h2⟩ := h.cons_inv
  obtain ⟨v2, rfl, h3⟩ := dn1 h2
  exact ⟨v1, v2, rfl, h1, h3⟩
theorem dn3 {d1 d2 d3 : PyData} {vs : List V} (h : DnAll K A H vs [d1, d2, d3]) : ∃ v1 v2 v3, vs = [v1, v2, v3] ∧ Dn K A H v1 d1 ∧ Dn K A H v2 d2 ∧ Dn K A H v3 d3 := by
  obtain ⟨v1, r, rfl, h1, h2⟩ := h.cons_inv
  obtain ⟨v2, v3, rfl, h3, h4⟩ := dn2 h2
  exact ⟨v1, v2, v3, rfl, h1, h3, h4⟩
theorem dn4 {d1 d2 d3 d4 : PyData} {vs : List V} (h : DnAll K A H vs [d1, d2, d3, d4]) : ∃ v1 v2 v3 v4, vs = [v1, v2, v3, v4] ∧ Dn K A H v1 d1 ∧ Dn K A H v2 d2 ∧ Dn K A H v3 d3 ∧ Dn K A H v4 d4 := by
  obtain ⟨v1, r, rfl, h1, h2⟩ := h.cons_inv
  obtain ⟨v2, v3, v4, rfl, h3, h4, h5⟩ := dn3 h2
  exact ⟨v1, v2, v3, v4, rfl, h1, h3, h4, h5⟩
end
/-! ### data of the program -/
def dP (p : List Int) : PyData := .list (p.map .int)
def dPr (p : Int × Int) : PyData := .tuple [.int p.1, .int p.2]
def dS (s : List (Int × Int)) : PyData := .tuple (s.map dPr)
theorem noL_dPr (p : Int × Int) : noL (dPr p) = true := rfl
theorem noLs_dPr : ∀ s : List (Int × Int), noLs (s.map dPr) = true
  | [] => rfl
  | p :: s => by
    show (noL (dPr p) && noLs (s.map dPr)) = true
    rw [noL_dPr, noLs_dPr s]
    rfl
theorem noL_dS (s : List (Int × Int)) : noL (dS s) = true := noLs_dPr s
theorem at_int {p : List Int} {i : Nat} (h : i < p.length) : atD (p.map PyData.int) (i : Int) = some (.int (p.getD i 0)) := atD_nat (by
  rw [List.getElem?_map, List.getElem?_eq_getElem h, List.getD_eq_getElem?_getD, List.getElem?_eq_getElem h]
  rfl)
section
variable {K : PySem.W.Frag} {A : Addr → Prop} {σ : L2.St} {H H0 : Hp} {te : TE} {d : PyData} {ds : List PyData} {D : Ends}
theorem sd_retF (h : EvD K (fun _ => False) te σ H d) (e : Ex H0 H) (q : RetN K d H0 D.rt) : tRet te D σ H := sd_retN h fun v H1 e1 g => q v H1 (e.trans e1) (g.weak fun a z => z.elim (fun z => z.1.elim) (fresh_back e))
theorem sd_retW (h : EvW K te σ H d) (e : Ex H0 H) (q : RetD K d H0 D.rt) : tRet te D σ H := sd_ret h fun v H1 e1 g => q v H1 (e.trans e1) g
/-- a new list of ints at p is handed back -/
theorem rtN_ints {p : Addr} {xs : List Int} {H1 : Hp} {Q : VK} (q : RetN K (dP xs) H0 Q) (e : Ex H0 H1) (hp : H0 p = none) (h : H1 p = some (.lst (xs.map V.int))) : Q (.ref p) H1 := q _ _ e (.lst (sqA_at h hp) (DnAll.of_ints _))
theorem atI_int {p : List Int} {i : Nat} (h : i < p.length) : atI (p.map V.int) (i : Int) = some (.int (p.getD i 0)) := atI_nat (by
  rw [List.getElem?_map, List.getElem?_eq_getElem h, List.getD_eq_getElem?_getD, List.getElem?_eq_getElem h]
  rfl)
variable {ta tb : TE} {tz : TS}
/-- xs[j] op= y, xs[j] = y: lists of ints -/
theorem sd_augI {f : Int → Int → Int} {p : Addr} {r : List Int} {j : Nat} {y : Int} (hp : H p = some (.lst (r.map V.int))) (ho : Ev ta σ H (.ref p)) (hi : EvD K Tt tb σ H (.int (j : Int))) (hj : j < r.length) (h : EvD K Tt te σ H (.int y))
    (k : ∀ H1, Ex H H1 → D.nx σ (upd H1 p (.lst ((r.set j (f (r.getD j 0) y)).map V.int)))) : tAugS ta tb te (rIxL K) (ipI f) rSetL D σ H :=
  ho H (Ex.refl H) _ fun H1 e1 => ed_ev_i hi H1 e1 _ fun H2 e2 => ⟨p, r.map V.int, (j : Int), .int (r.getD j 0), rfl, rfl, sq_of ((e1.trans e2) _ _ hp), atI_int hj, ed_ev_i h H2 (e1.trans e2) _ fun H3 e3 =>
    ⟨_, _, rfl, rfl, p, r.map V.int, (j : Int), j, rfl, rfl, ((e1.trans e2).trans e3) _ _ hp, ixN_nat (by rw [List.length_map]; exact hj), by
      rw [← List.map_set]
      exact k H3 ((e1.trans e2).trans e3)⟩⟩
theorem sd_setI {p : Addr} {r : List Int} {j : Nat} {y : Int} (hp : H p = some (.lst (r.map V.int))) (ho : Ev ta σ H (.ref p)) (hi : EvD K Tt tb σ H (.int (j : Int))) (hj : j < r.length) (h : EvD K Tt te σ H (.int y))
    (k : ∀ H1, Ex H H1 → D.nx σ (upd H1 p (.lst ((r.set j y).map V.int)))) : tAsg te (gSub ta tb rSetL) D σ H :=
  sd_set hp h ho (ed_ev_i hi) (by rw [List.length_map]; exact hj) fun v H1 e g => by
    cases g
    rw [← List.map_set]
    exact k H1 e
theorem qd_setI {p : Addr} {r : List Int} {j : Nat} {y : Int} (hp : H p = some (.lst (r.map V.int))) (ho : Ev ta σ H (.ref p)) (hi : EvD K Tt tb σ H (.int (j : Int))) (hj : j < r.length) (h : EvD K Tt te σ H (.int y))
    (k : ∀ H1, Ex H H1 → tz D σ (upd H1 p (.lst ((r.set j y).map V.int)))) : tSeq (tAsg te (gSub ta tb rSetL)) tz D σ H := sd_setI (D := { D with nx := tz D }) hp ho hi hj h k
/-- the parts of a pair that a loop's target takes -/
theorem sd_pair {i j : Nat} {x : V} {d1 d2 : PyData} {R : L2.St → Hp → Prop} (g : Dn K A H x (pairD d1 d2)) (k : ∀ v1 v2, Dn K A H v1 d1 → Dn K A H v2 d2 → R ((σ.set i (some v1)).set j (some v2)) H) : gTup K 2 (gCons (gName i) (gCons (gName j) gNil)) x σ H R := by
  obtain ⟨a, xs, rfl, h1, h2⟩ := g.tup_inv
  obtain ⟨x, y, rfl, h3, h4⟩ := dn2 h2
  exact ⟨a, _, rfl, h1, rfl, x, _, rfl, y, _, rfl, rfl, k x y h3 h4⟩
theorem enum_get {ds : List PyData} {i : Nat} {d : PyData} (h : (ds.mapIdx fun i d => pairD (.int (i : Int)) d)[i]? = some d) : ∃ e, ds[i]? = some e ∧ d = pairD (.int (i : Int)) e := by
  rw [List.getElem?_mapIdx] at h
  cases q : ds[i]? with
  | none => rw [q] at h; cases h
  | some e =>
    rw [q] at h
    exact ⟨e, rfl, (Option.some.inj h).symm⟩
theorem int_get {xs : List Int} {i : Nat} {d : PyData} (h : (xs.map PyData.int)[i]? = some d) : ∃ hi : i < xs.length, d = .int xs[i] := by
  have hi := (List.getElem?_eq_some_iff.mp h).1
  rw [List.length_map] at hi
  refine ⟨hi, ?_⟩
  rw [List.getElem?_map, List.getElem?_eq_getElem hi] at h
  exact (Option.some.inj h).symm
/-- ranges in a for -/
def EvR (K : PySem.W.Frag) (wi : TI) (σ : L2.St) (H : Hp) (n : Nat) (c : Nat → Int) : Prop :=
  ∀ H1, Ex H H1 → ∀ R : It → Hp → Prop, (∀ J H2, Ex H1 H2 → Turns K J (fun _ => True) ((List.range n).map fun i => PyData.int (c i)) → R J H2) → wi σ H1 R
theorem er_1 {n : Int} (h : EvD K Tt ta σ H (.int n)) (hn : 0 ≤ n ∧ n ≤ 100000) : EvR K (iRng1 (tCons ta tNil)) σ H n.toNat (fun i => (i : Int)) := fun H1 e R q => ed_ev_i h H1 e _ fun H2 e2 =>
  ⟨n, rfl, by omega, by omega, q _ H2 e2 (by
    have t := turns_r (K := K) (lo := 0) (n := n.toNat)
    unfold rangeD at t
    simp only [Int.zero_add] at t
    exact t)⟩
theorem er_2 {i n : Int} (h : EvD K Tt ta σ H (.int i)) (h' : EvD K Tt tb σ H (.int n)) (hn : -100000 ≤ i ∧ i ≤ 100000 ∧ -100000 ≤ n ∧ n ≤ 100000) : EvR K (iRng2 (tCons ta (tCons tb tNil))) σ H (n - i).toNat (fun k => i + (k : Int)) := fun H1 e R q =>
  ed_ev_i h H1 e _ fun H2 e2 => ed_ev_i h' H2 (e.trans e2) _ fun H3 e3 => ⟨i, n, rfl, ⟨by omega, by omega, by omega, by omega⟩, q _ H3 (e2.trans e3) turns_r⟩
theorem er_3 {tc : TE} {i n c : Int} {m : Nat} (h : EvD K Tt ta σ H (.int i)) (h' : EvD K Tt tb σ H (.int n)) (h'' : EvD K Tt tc σ H (.int c)) (hn : RgC i n c m) : EvR K (iRng3 (tCons ta (tCons tb (tCons tc tNil)))) σ H m (fun k => i + (k : Int) * c) := fun H1 e R q =>
  ed_ev_i h H1 e _ fun H2 e2 => ed_ev_i h' H2 (e.trans e2) _ fun H3 e3 => ed_ev_i h'' H3 ((e.trans e2).trans e3) _ fun H4 e4 => ⟨i, n, c, m, rfl, hn, q _ H4 ((e2.trans e3).trans e4) turns_c⟩
theorem sd_forR {wi : TI} {g : TG} {tu : TS} {n : Nat} {c : Nat → Int} (h : EvR K wi σ H n c) (Pv : Nat → L2.St → Hp → Prop) (h0 : ∀ H1, Ex H H1 → Pv 0 σ H1)
    (hs : ∀ i σ' H' H2, i < n → Pv i σ' H' → Ex H' H2 → g (.int (c i)) σ' H2 fun σ3 H3 => tu { D with nx := Pv (i + 1), ct := Pv (i + 1), bk := D.nx } σ3 H3) (hd : ∀ σ' H', Pv n σ' H' → D.nx σ' H') : tFor wi g tu D σ H :=
  h H (Ex.refl H) _ fun J H1 e T => loopJ T Pv (h0 H1 e) (fun _ _ _ _ => trivial) (fun i d x σ' H' H2 hd p e2 gx => by
    have hi := (List.getElem?_eq_some_iff.mp hd).1
    rw [List.length_map, List.length_range] at hi
    rw [List.getElem?_map, List.getElem?_range hi] at hd
    cases hd
    cases gx
    exact hs i σ' H' H2 hi p e2) (by rw [List.length_map, List.length_range]; exact hd)
theorem qd_forR {wi : TI} {g : TG} {tu : TS} {n : Nat} {c : Nat → Int} (h : EvR K wi σ H n c) (Pv : Nat → L2.St → Hp → Prop) (h0 : ∀ H1, Ex H H1 → Pv 0 σ H1)
    (hs : ∀ i σ' H' H2, i < n → Pv i σ' H' → Ex H' H2 → g (.int (c i)) σ' H2 fun σ3 H3 => tu { D with nx := Pv (i + 1), ct := Pv (i + 1), bk := tz D } σ3 H3) (hd : ∀ σ' H', Pv n σ' H' → tz D σ' H') : tSeq (tFor wi g tu) tz D σ H :=
  sd_forR (D := { D with nx := tz D }) h Pv h0 hs hd
theorem atD_last {ds : List PyData} {d : PyData} (h : ds[ds.length - 1]? = some d) : atD ds (-1) = some d := by
  have hl := (List.getElem?_eq_some_iff.mp h).1
  unfold atD ixN
  rw [if_neg (by decide), if_pos (by omega)]
  have : ((-1 : Int) + (ds.length : Int)).toNat = ds.length - 1 := by omega
  rw [this]
  exact h
/-- a list at p that may be changed; where its items' lists stand -/
def Lst (K : PySem.W.Frag) (H : Hp) (p : Addr) (A : Addr → Prop) (ds : List PyData) : Prop := ∃ vs, H p = some (.lst vs) ∧ DnAll K A H vs ds
theorem Lst.ex {p : Addr} {H1 : Hp} (h : Lst K H p A ds) (e : Ex H H1) : Lst K H1 p A ds := by
  obtain ⟨vs, h1, h2⟩ := h
  exact ⟨vs, e _ _ h1, h2.ex e⟩
theorem Lst.dd {p : Addr} (h : Lst K H p A ds) : Dd K H (.ref p) (.list ds) := by
  obtain ⟨vs, h1, h2⟩ := h
  exact .lst (sqA_at h1 trivial) h2.dd
theorem Lst.upd {p q : Addr} {o : HO} (h : Lst K H p A ds) (hn : NoT H q) (hq : p ≠ q) (w : ∀ a, A a → a ≠ q) : Lst K (L2.upd H q o) p A ds := by
  obtain ⟨vs, h1, h2⟩ := h
  exact ⟨vs, by rw [upd_ne hq]; exact h1, h2.upd hn w⟩
theorem Lst.weak {p : Addr} {A' : Addr → Prop} (h : Lst K H p A ds) (w : ∀ a, A a → A' a) : Lst K H p A' ds := by
  obtain ⟨vs, h1, h2⟩ := h
  exact ⟨vs, h1, h2.weak w⟩
theorem sd_setM {B : Addr → Prop} {p : Addr} {j : Nat} (hl : Lst K H p A ds) (hA : ∀ a, A a → a ≠ p) (h : EvD K B te σ H d) (hB : ∀ a, NewA B H H a → A a) (ho : Ev ta σ H (.ref p)) (hi : EvD K Tt tb σ H (.int (j : Int))) (hj : j < ds.length)
    (k : ∀ H1 vs ws, Ex H H1 → H1 p = some (.lst vs) → Lst K (L2.upd H1 p (.lst ws)) p A (ds.set j d) → D.nx σ (L2.upd H1 p (.lst ws))) : tAsg te (gSub ta tb rSetL) D σ H := by
  obtain ⟨vs, h1, h2⟩ := hl
  refine sd_set h1 h ho (ed_ev_i hi) (by rw [h2.len]; exact hj) fun v H1 e g => ?_
  have hp := e _ _ h1
  refine k H1 vs _ e hp ⟨_, upd_same, ((h2.ex e).upd (noT_l hp) hA).set j ((g.weak hB).upd (noT_l hp) hA)⟩
theorem qd_setM {B : Addr → Prop} {p : Addr} {j : Nat} (hl : Lst K H p A ds) (hA : ∀ a, A a → a ≠ p) (h : EvD K B te σ H d) (hB : ∀ a, NewA B H H a → A a) (ho : Ev ta σ H (.ref p)) (hi : EvD K Tt tb σ H (.int (j : Int))) (hj : j < ds.length)
    (k : ∀ H1 vs ws, Ex H H1 → H1 p = some (.lst vs) → Lst K (L2.upd H1 p (.lst ws)) p A (ds.set j d) → tz D σ (L2.upd H1 p (.lst ws))) : tSeq (tAsg te (gSub ta tb rSetL)) tz D σ H := sd_setM (D := { D with nx := tz D }) hl hA h hB ho hi hj k
theorem range_set {α : Type} (n : Nat) (f : Nat → α) (j : Nat) (x : α) : ((List.range n).map f).set j x = (List.range n).map fun i => if i = j then x else f i := by
  refine List.ext_getElem? fun i => ?_
  rw [List.getElem?_set, List.getElem?_map, List.getElem?_map, List.length_map, List.length_range]
  by_cases hi : i < n
  · rw [List.getElem?_range hi]
    by_cases hj : j = i
    · subst hj
      simp [hi]
    · simp [hj, Ne.symm hj]
  · rw [List.getElem?_eq_none (by rw [List.length_range]; omega)]
    by_cases hj : j = i
    · subst hj
      simp [hi]
    · simp [hj]
theorem range_get {α : Type} {n : Nat} {f : Nat → α} {i : Nat} (h : i < n) : ((List.range n).map f)[i]? = some (f i) := by
  rw [List.getElem?_map, List.getElem?_range h]
  rfl
theorem et_isN {i : Nat} {v : V} (h : σ[i]? = some (some v)) : EvT (tTest (tOp (fun x y H Q => y = .non ∧ Q (.bl (decide (x = .non))) H) (tVar i) (tC .non))) σ H (decide (v = .non)) := fun H1 e Q q => ⟨v, h, rfl, _, rfl, q H1 (Ex.refl _)⟩
theorem EvI.to {wi : TI} {ds' : List PyData} (h : EvI K wi σ H ds) (e : ds = ds') : EvI K wi σ H ds' := e ▸ h
theorem dd_ints {v : V} {xs : List Int} (h : Dd K H v (dP xs)) : ∃ a, v = .ref a ∧ H a = some (.lst (xs.map V.int)) := by
  obtain ⟨a, ys, rfl, h1, h2⟩ := h.list_inv
  cases h2.ints
  exact ⟨a, rfl, h1.2⟩
theorem ints_dd {a : Addr} {xs : List Int} (h : H a = some (.lst (xs.map V.int))) : Dd K H (.ref a) (dP xs) := .lst (sqA_at h trivial) (DnAll.of_ints _)
end
/-! the rules with the written part said, for a comprehension's block -/
section
variable {X : Cx} {K : PySem.W.Frag}
theorem ix_tupK (h : X.K = K) : IxR X (rIxT K) := by subst h; exact ix_tup
theorem ix_listK (h : X.K = K) : IxR X (rIxL K) := by subst h; exact ix_list
theorem sl_listK (h : X.K = K) : SlR X (rSlL K) := by subst h; exact sl_list
theorem pe_fldK {e : Expr} {f : Str} {pos : Pos} {ta : TE} (h : X.K = K) (he : PE X e ta) (hb : attributeBase e f X.env (eval e X.env) = eval e X.env) : PE X (.Attribute e f pos) (tFld K ta f) := by subst h; exact pe_fld he hb
end
end GK
/-! GSer: series as lists of (exponent, coefficient), by the books in which they are summed. -/
namespace GM
abbrev Ser := List (Int × Int)
def bget (b : Ser) (k : Int) : Int := ((b.find? fun p => decide (p.1 = k)).map (·.2)).getD 0
def bput (b : Ser) (k v : Int) : Ser := if (b.any fun p => decide (p.1 = k)) = true then b.map (fun p => if p.1 = k then (p.1, v) else p) else b ++ [(k, v)]
def badd (b : Ser) (k c : Int) : Ser := bput b k (bget b k + c)
def keys (b : Ser) : List Int := b.map (·.1)
theorem any_key (b : Ser) (k : Int) : (b.any fun p => decide (p.1 = k)) = true ↔ k ∈ keys b := by
  rw [List.any_eq_true]
  unfold keys
  rw [List.mem_map]
  constructor
  · rintro ⟨p, h1, h2⟩
    exact ⟨p, h1, of_decide_eq_true h2⟩
  · rintro ⟨p, h1, h2⟩
    exact ⟨p, h1, decide_eq_true h2⟩
theorem keys_put (b : Ser) (k v : Int) : keys (bput b k v) = if k ∈ keys b then keys b else keys b ++ [k] := by
  unfold bput
  by_cases h : k ∈ keys b
  · rw [if_pos ((any_key b k).mpr h), if_pos h]
    unfold keys
    rw [List.map_map]
    refine List.map_congr_left fun p _ => ?_
    show (if p.1 = k then (p.1, v) else p).1 = p.1
    split <;> rfl
  · rw [if_neg (fun z => h ((any_key b k).mp z)), if_neg h]
    simp [keys]
theorem keys_add (b : Ser) (k c : Int) : keys (badd b k c) = if k ∈ keys b then keys b else keys b ++ [k] := keys_put b k _
theorem nodup_add {b : Ser} {k c : Int} (h : (keys b).Nodup) : (keys (badd b k c)).Nodup := by
  rw [keys_add]
  split
  · exact h
  · rename_i hk
    rw [List.nodup_append]
    refine ⟨h, by simp, fun x hx y hy => ?_⟩
    rw [List.mem_singleton.mp hy]
    rintro rfl
    exact hk hx
theorem mem_keys_add {b : Ser} {k c x : Int} (h : x ∈ keys (badd b k c)) : x ∈ keys b ∨ x = k := by
  rw [keys_add] at h
  split at h
  · exact .inl h
  · rcases List.mem_append.mp h with h | h
    · exact .inl h
    · exact .inr (List.mem_singleton.mp h)
theorem len_add (b : Ser) (k c : Int) : (badd b k c).length ≤ b.length + 1 := by
  have := congrArg List.length (keys_add b k c)
  unfold keys at this
  rw [List.length_map] at this
  rw [this]
  split <;> simp
/-! ### what a series comes to -/
def evS (m : Int) : Ser → Int → Int
  | [], _ => 0
  | p :: s, N => p.2 * N ^ (p.1 + m).toNat + evS m s N
theorem evS_app (m : Int) : ∀ (s t : Ser) (N : Int), evS m (s ++ t) N = evS m s N + evS m t N
  | [], t, N => by simp [evS]
  | p :: s, t, N => by
    show p.2 * N ^ (p.1 + m).toNat + evS m (s ++ t) N = p.2 * N ^ (p.1 + m).toNat + evS m s N + evS m t N
    rw [evS_app m s t N]
    omega
theorem bget_cons_pos {p : Int × Int} {b : Ser} {k : Int} (h : p.1 = k) : bget (p :: b) k = p.2 := by simp [bget, List.find?_cons, h]
theorem bget_cons_neg {p : Int × Int} {b : Ser} {k : Int} (h : ¬ p.1 = k) : bget (p :: b) k = bget b k := by simp [bget, List.find?_cons, h]
theorem bget_none {b : Ser} {k : Int} (h : k ∉ keys b) : bget b k = 0 := by
  induction b with
  | nil => rfl
  | cons p b ih =>
    rw [bget_cons_neg fun e => h (by simp [keys, e]), ih fun z => h (by simpa [keys] using Or.inr (by simpa [keys] using z))]
theorem map_id_of {b : Ser} {k v : Int} (h : k ∉ keys b) : b.map (fun p => if p.1 = k then (p.1, v) else p) = b := by
  conv => rhs; rw [← List.map_id b]
  refine List.map_congr_left fun p hp => ?_
  rw [if_neg]
  · rfl
  · rintro rfl
    exact h (List.mem_map.mpr ⟨p, hp, rfl⟩)
theorem evS_map (m k c N : Int) : ∀ b : Ser, (keys b).Nodup → k ∈ keys b → evS m (b.map fun p => if p.1 = k then (p.1, bget b k + c) else p) N = evS m b N + c * N ^ (k + m).toNat
  | [], _, h => by simp [keys] at h
  | p :: b, hn, hk => by
    have hn' : p.1 ∉ keys b ∧ (keys b).Nodup := by simpa [keys] using hn
    by_cases h : p.1 = k
    · subst h
      rw [List.map_cons, if_pos rfl, bget_cons_pos rfl, map_id_of hn'.1]
      show (p.2 + c) * N ^ (p.1 + m).toNat + evS m b N = p.2 * N ^ (p.1 + m).toNat + evS m b N + c * N ^ (p.1 + m).toNat
      grind
    · have hk' : k ∈ keys b := by
        have : k = p.1 ∨ k ∈ keys b := by simpa [keys] using hk
        exact this.resolve_left fun e => h e.symm
      rw [List.map_cons, if_neg h, bget_cons_neg h]
      show p.2 * N ^ (p.1 + m).toNat + evS m (b.map fun p => if p.1 = k then (p.1, bget b k + c) else p) N = p.2 * N ^ (p.1 + m).toNat + evS m b N + c * N ^ (k + m).toNat
      rw [evS_map m k c N b hn'.2 hk']
      omega
theorem evS_add {b : Ser} (hn : (keys b).Nodup) (m k c N : Int) : evS m (badd b k c) N = evS m b N + c * N ^ (k + m).toNat := by
  unfold badd bput
  by_cases h : k ∈ keys b
  · rw [if_pos ((any_key b k).mpr h), evS_map m k c N b hn h]
  · rw [if_neg (fun z => h ((any_key b k).mp z)), evS_app, bget_none h]
    simp [evS]
/-! ### sums and products -/
def plusB (s : Ser) (b : Ser) : Ser := s.foldl (fun b p => badd b p.1 p.2) b
def timesI (p : Int × Int) (s : Ser) (b : Ser) : Ser := s.foldl (fun b r => badd b (p.1 + r.1) (p.2 * r.2)) b
def timesB (s t : Ser) (b : Ser) : Ser := s.foldl (fun b p => timesI p t b) b
theorem plusB_ok : ∀ (s b : Ser), (keys b).Nodup → (keys (plusB s b)).Nodup ∧ (∀ x ∈ keys (plusB s b), x ∈ keys b ∨ x ∈ keys s) ∧ (plusB s b).length ≤ b.length + s.length ∧ ∀ m N, evS m (plusB s b) N = evS m b N + evS m s N
  | [], b, h => ⟨h, fun x hx => .inl hx, Nat.le_refl _, fun m N => by simp [plusB, evS]⟩
  | p :: s, b, h => by
    obtain ⟨h1, h2, h3, h4⟩ := plusB_ok s (badd b p.1 p.2) (nodup_add h)
    refine ⟨h1, fun x hx => ?_, ?_, fun m N => ?_⟩
    · rcases h2 x hx with z | z
      · rcases mem_keys_add z with z | z
        · exact .inl z
        · exact .inr (by simp [keys, z])
      · exact .inr (by simpa [keys] using Or.inr (by simpa [keys] using z))
    · have := len_add b p.1 p.2
      have h3 : (plusB (p :: s) b).length ≤ (badd b p.1 p.2).length + s.length := h3
      simp only [List.length_cons]
      omega
    · show evS m (plusB s (badd b p.1 p.2)) N = _
      rw [h4, evS_add h]
      show _ = evS m b N + (p.2 * N ^ (p.1 + m).toNat + evS m s N)
      omega
theorem timesI_ok (p : Int × Int) : ∀ (s b : Ser), (keys b).Nodup → (keys (timesI p s b)).Nodup ∧ (∀ x ∈ keys (timesI p s b), x ∈ keys b ∨ ∃ r ∈ s, x = p.1 + r.1) ∧ (timesI p s b).length ≤ b.length + s.length ∧
    ∀ m n N, 0 ≤ p.1 + m → (∀ r ∈ s, 0 ≤ r.1 + n) → evS (m + n) (timesI p s b) N = evS (m + n) b N + p.2 * N ^ (p.1 + m).toNat * evS n s N
  | [], b, h => ⟨h, fun x hx => .inl hx, Nat.le_refl _, fun m n N _ _ => by simp [timesI, evS]⟩
  | r :: s, b, h => by
    obtain ⟨h1, h2, h3, h4⟩ := timesI_ok p s (badd b (p.1 + r.1) (p.2 * r.2)) (nodup_add h)
    refine ⟨h1, fun x hx => ?_, ?_, fun m n N hm hs => ?_⟩
    · rcases h2 x hx with z | ⟨q, hq, z⟩
      · rcases mem_keys_add z with z | z
        · exact .inl z
        · exact .inr ⟨r, List.mem_cons_self, z⟩
      · exact .inr ⟨q, List.mem_cons_of_mem _ hq, z⟩
    · have := len_add b (p.1 + r.1) (p.2 * r.2)
      have h3 : (timesI p (r :: s) b).length ≤ (badd b (p.1 + r.1) (p.2 * r.2)).length + s.length := h3
      simp only [List.length_cons]
      omega
    · show evS (m + n) (timesI p s (badd b (p.1 + r.1) (p.2 * r.2))) N = _
      rw [h4 m n N hm (fun q hq => hs q (List.mem_cons_of_mem _ hq)), evS_add h]
      have hr := hs r List.mem_cons_self
      rw [show (p.1 + r.1 + (m + n)).toNat = (p.1 + m).toNat + (r.1 + n).toNat by omega, Int.pow_add]
      show _ = evS (m + n) b N + p.2 * N ^ (p.1 + m).toNat * (r.2 * N ^ (r.1 + n).toNat + evS n s N)
      grind
theorem timesB_ok (t : Ser) : ∀ (s b : Ser), (keys b).Nodup → (keys (timesB s t b)).Nodup ∧ (∀ x ∈ keys (timesB s t b), x ∈ keys b ∨ ∃ p ∈ s, ∃ r ∈ t, x = p.1 + r.1) ∧ (timesB s t b).length ≤ b.length + s.length * t.length ∧
    ∀ m n N, (∀ p ∈ s, 0 ≤ p.1 + m) → (∀ r ∈ t, 0 ≤ r.1 + n) → evS (m + n) (timesB s t b) N = evS (m + n) b N + evS m s N * evS n t N
  | [], b, h => ⟨h, fun x hx => .inl hx, by simp [timesB], fun m n N _ _ => by simp [timesB, evS]⟩
  | p :: s, b, h => by
    obtain ⟨g1, g2, g3, g4⟩ := timesI_ok p t b h
    obtain ⟨h1, h2, h3, h4⟩ := timesB_ok t s (timesI p t b) g1
    refine ⟨h1, fun x hx => ?_, ?_, fun m n N hm hs => ?_⟩
    · rcases h2 x hx with z | ⟨q, hq, r, hr, z⟩
      · rcases g2 x z with z | ⟨r, hr, z⟩
        · exact .inl z
        · exact .inr ⟨p, List.mem_cons_self, r, hr, z⟩
      · exact .inr ⟨q, List.mem_cons_of_mem _ hq, r, hr, z⟩
    · have h3 : (timesB (p :: s) t b).length ≤ (timesI p t b).length + s.length * t.length := h3
      rw [List.length_cons, Nat.add_mul, Nat.one_mul]
      omega
    · show evS (m + n) (timesB s t (timesI p t b)) N = _
      rw [h4 m n N (fun q hq => hm q (List.mem_cons_of_mem _ hq)) hs, g4 m n N (hm p List.mem_cons_self) hs]
      show _ = evS (m + n) b N + (p.2 * N ^ (p.1 + m).toNat + evS m s N) * evS n t N
      grind
/-! ### a book told -/
def Srt (s : Ser) : Prop := s.Pairwise fun p q => p.1 < q.1
def insS (f : Ser) (p : Int × Int) : Ser := f.take (f.filter fun q => decide (q.1 < p.1)).length ++ [p] ++ f.drop (f.filter fun q => decide (q.1 < p.1)).length
def insR (p : Int × Int) : Ser → Ser
  | [] => [p]
  | q :: f => if q.1 < p.1 then q :: insR p f else p :: q :: f
theorem insS_eq (p : Int × Int) : ∀ f : Ser, Srt f → insS f p = insR p f
  | [], _ => rfl
  | q :: f, h => by
    have hc := List.pairwise_cons.mp h
    unfold insS insR
    by_cases hq : q.1 < p.1
    · rw [if_pos hq, List.filter_cons, if_pos (decide_eq_true hq), List.length_cons, List.take_succ_cons, List.drop_succ_cons, ← insS_eq p f hc.2]
      rfl
    · have he : (q :: f).filter (fun q => decide (q.1 < p.1)) = [] := List.filter_eq_nil_iff.mpr fun x hx => by
        rw [decide_eq_true_eq]
        rcases List.mem_cons.mp hx with rfl | hx
        · exact hq
        · have := hc.1 x hx
          omega
      rw [if_neg hq, he]
      rfl
theorem insR_perm (p : Int × Int) : ∀ f : Ser, (insR p f).Perm (p :: f)
  | [] => List.Perm.refl _
  | q :: f => by
    unfold insR
    split
    · exact ((insR_perm p f).cons q).trans (List.Perm.swap p q f)
    · exact List.Perm.refl _
theorem insR_srt (p : Int × Int) : ∀ f : Ser, Srt f → p.1 ∉ keys f → Srt (insR p f)
  | [], _, _ => List.pairwise_singleton _ _
  | q :: f, h, hp => by
    have hc := List.pairwise_cons.mp h
    have hp' : p.1 ≠ q.1 ∧ p.1 ∉ keys f := by simpa [keys] using hp
    unfold insR
    split
    · rename_i hq
      refine List.pairwise_cons.mpr ⟨fun x hx => ?_, insR_srt p f hc.2 hp'.2⟩
      rcases List.mem_cons.mp ((insR_perm p f).mem_iff.mp hx) with rfl | hx
      · exact hq
      · exact hc.1 x hx
    · rename_i hq
      have hlt : p.1 < q.1 := by omega
      refine List.pairwise_cons.mpr ⟨fun x hx => ?_, h⟩
      rcases List.mem_cons.mp hx with rfl | hx
      · exact hlt
      · have := hc.1 x hx
        omega
def told (b : Ser) : Ser := b.foldl (fun f p => if p.2 ≠ 0 then insS f p else f) []
theorem told_go : ∀ (b f : Ser), Srt f → (keys f ++ keys b).Nodup → Srt (b.foldl (fun f p => if p.2 ≠ 0 then insS f p else f) f) ∧ (b.foldl (fun f p => if p.2 ≠ 0 then insS f p else f) f).Perm (f ++ b.filter fun p => decide (p.2 ≠ 0))
  | [], f, h, _ => ⟨h, by simp⟩
  | p :: b, f, h, hn => by
    have hn' : keys f ++ keys (p :: b) = keys f ++ (p.1 :: keys b) := rfl
    rw [hn'] at hn
    have hpf : p.1 ∉ keys f := fun z => (List.nodup_append.mp hn).2.2 _ z _ List.mem_cons_self rfl
    rw [List.foldl_cons, List.filter_cons]
    by_cases hp : p.2 ≠ 0
    · rw [if_pos hp, if_pos (decide_eq_true hp), insS_eq p f h]
      obtain ⟨h1, h2⟩ := told_go b (insR p f) (insR_srt p f h hpf) (by
        have hperm : (keys (insR p f) ++ keys b).Perm (keys f ++ (p.1 :: keys b)) := by
          refine (((insR_perm p f).map (·.1)).append_right _).trans ?_
          exact (List.perm_middle (l₁ := keys f) (a := p.1) (l₂ := keys b)).symm
        exact hperm.nodup_iff.mpr hn)
      refine ⟨h1, h2.trans ?_⟩
      exact ((insR_perm p f).append_right _).trans List.perm_middle.symm
    · rw [if_neg hp, if_neg (fun z => hp (of_decide_eq_true z))]
      exact told_go b f h (by
        have := hn
        rw [List.nodup_append] at this ⊢
        refine ⟨this.1, (List.nodup_cons.mp this.2.1).2, fun x hx y hy => this.2.2 x hx y (List.mem_cons_of_mem _ hy)⟩)
theorem told_srt {b : Ser} (h : (keys b).Nodup) : Srt (told b) := (told_go b [] List.Pairwise.nil (by simpa [keys] using h)).1
theorem told_perm {b : Ser} (h : (keys b).Nodup) : (told b).Perm (b.filter fun p => decide (p.2 ≠ 0)) := by
  have := (told_go b [] List.Pairwise.nil (by simpa [keys] using h)).2
  rw [List.nil_append] at this
  exact this
theorem evS_perm (m N : Int) {s t : Ser} (h : s.Perm t) : evS m s N = evS m t N := by
  induction h with
  | nil => rfl
  | cons p _ ih => simp only [evS, ih]
  | swap p q s =>
    simp only [evS]
    omega
  | trans _ _ h1 h2 => rw [h1, h2]
theorem evS_filter (m N : Int) : ∀ s : Ser, evS m (s.filter fun p => decide (p.2 ≠ 0)) N = evS m s N
  | [] => rfl
  | p :: s => by
    rw [List.filter_cons]
    by_cases h : p.2 ≠ 0
    · rw [if_pos (decide_eq_true h)]
      simp only [evS, evS_filter m N s]
    · rw [if_neg (fun z => h (of_decide_eq_true z)), evS_filter m N s]
      have h0 : p.2 = 0 := by omega
      simp [evS, h0]
theorem evS_told {b : Ser} (h : (keys b).Nodup) (m N : Int) : evS m (told b) N = evS m b N := by rw [evS_perm m N (told_perm h), evS_filter]
theorem told_len {b : Ser} (h : (keys b).Nodup) : (told b).length ≤ b.length := by
  rw [(told_perm h).length_eq]
  exact List.length_filter_le _ _
theorem told_mem {b : Ser} (h : (keys b).Nodup) {p : Int × Int} : p ∈ told b ↔ p ∈ b ∧ p.2 ≠ 0 := by
  rw [(told_perm h).mem_iff, List.mem_filter, decide_eq_true_eq]
theorem srt_nodup {s : Ser} (h : Srt s) : s.Nodup := h.imp fun {p q} hpq e => by
  rw [e] at hpq
  exact Int.lt_irrefl _ hpq
theorem srt_keys {s : Ser} (h : Srt s) : (keys s).Nodup := by
  unfold keys List.Nodup
  rw [List.pairwise_map]
  exact h.imp fun {p q} hpq e => by
    rw [e] at hpq
    exact Int.lt_irrefl _ hpq
/-- two rising series with the same terms are one -/
theorem srt_ext {s t : Ser} (hs : Srt s) (ht : Srt t) (h : ∀ p, p ∈ s ↔ p ∈ t) : s = t :=
  List.Perm.eq_of_pairwise (le := fun p q : Int × Int => p.1 < q.1) (fun a b _ _ h1 h2 => by omega) hs ht ((List.perm_ext_iff_of_nodup (srt_nodup hs) (srt_nodup ht)).mpr h)
theorem mem_book {b : Ser} (h : (keys b).Nodup) {e c : Int} : (e, c) ∈ b ↔ e ∈ keys b ∧ bget b e = c := by
  induction b with
  | nil => simp [keys]
  | cons p b ih =>
    have hn' : p.1 ∉ keys b ∧ (keys b).Nodup := by simpa [keys] using h
    by_cases hp : p.1 = e
    · rw [bget_cons_pos hp]
      constructor
      · intro hm
        rcases List.mem_cons.mp hm with z | z
        · rw [← z]
          exact ⟨by simp [keys], rfl⟩
        · exact absurd (List.mem_map.mpr ⟨_, z, rfl⟩) (hp ▸ hn'.1)
      · rintro ⟨_, rfl⟩
        rw [← hp]
        exact List.mem_cons_self
    · rw [bget_cons_neg hp]
      have h1 : (e, c) ∈ p :: b ↔ (e, c) ∈ b := by
        rw [List.mem_cons]
        constructor
        · rintro (z | z)
          · rw [← z] at hp
            exact absurd rfl hp
          · exact z
        · exact .inr
      have h2 : e ∈ keys (p :: b) ↔ e ∈ keys b := by
        show e ∈ p.1 :: keys b ↔ _
        rw [List.mem_cons]
        constructor
        · rintro (z | z)
          · exact absurd z.symm hp
          · exact z
        · exact .inr
      rw [h1, h2, ih hn'.2]
/-- as the program tells a book: the keys sorted -/
def sof (ks : List Int) (b : Ser) : Ser := (ks.filter fun e => !decide (bget b e = 0)).map fun e => (e, bget b e)
theorem sof_eq {b : Ser} {ks : List Int} (h : (keys b).Nodup) (hp : ks.Perm (keys b)) (hs : ks.Pairwise (· ≤ ·)) : sof ks b = told b := by
  have hnd : ks.Nodup := hp.nodup_iff.mpr h
  have hlt : ks.Pairwise (· < ·) := (hs.and hnd).imp fun {a b} h => by have := h.1; have := h.2; omega
  refine srt_ext ?_ (told_srt h) fun p => ?_
  · unfold sof Srt
    rw [List.pairwise_map]
    exact (hlt.filter _).imp fun h => h
  · obtain ⟨e, c⟩ := p
    rw [told_mem h, mem_book h]
    unfold sof
    rw [List.mem_map]
    constructor
    · rintro ⟨x, hx, hxe⟩
      obtain ⟨h1, h2⟩ := List.mem_filter.mp hx
      cases hxe
      refine ⟨⟨hp.mem_iff.mp h1, rfl⟩, fun z => ?_⟩
      rw [show (e, bget b e).2 = bget b e from rfl] at z
      simp [z] at h2
    · rintro ⟨⟨h1, rfl⟩, h2⟩
      refine ⟨e, List.mem_filter.mpr ⟨hp.mem_iff.mpr h1, ?_⟩, rfl⟩
      have h2 : ¬ bget b e = 0 := h2
      simp [h2]
def sPlus (a b : Ser) : Ser := told (plusB (a ++ b) [])
def sTimes (a b : Ser) : Ser := told (timesB a b [])
end GM
namespace GM
/-! ### sizes -/
def nS : Ser → Nat
  | [] => 0
  | p :: s => p.2.natAbs + nS s
theorem nS_app : ∀ s t : Ser, nS (s ++ t) = nS s + nS t
  | [], t => by simp [nS]
  | p :: s, t => by
    show p.2.natAbs + nS (s ++ t) = p.2.natAbs + nS s + nS t
    rw [nS_app s t]
    omega
theorem nS_mem : ∀ {s : Ser} {p : Int × Int}, p ∈ s → p.2.natAbs ≤ nS s
  | q :: s, p, h => by
    rcases List.mem_cons.mp h with rfl | h
    · exact Nat.le_add_right _ _
    · exact Nat.le_trans (nS_mem h) (Nat.le_add_left _ _)
theorem nS_map (k c : Int) : ∀ b : Ser, (keys b).Nodup → nS (b.map fun p => if p.1 = k then (p.1, bget b k + c) else p) ≤ nS b + c.natAbs
  | [], _ => by simp [nS]
  | p :: b, hn => by
    have hn' : p.1 ∉ keys b ∧ (keys b).Nodup := by simpa [keys] using hn
    by_cases h : p.1 = k
    · subst h
      rw [List.map_cons, if_pos rfl, bget_cons_pos rfl, map_id_of hn'.1]
      show (p.2 + c).natAbs + nS b ≤ p.2.natAbs + nS b + c.natAbs
      omega
    · have ih := nS_map k c b hn'.2
      rw [List.map_cons, if_neg h, bget_cons_neg h]
      show p.2.natAbs + nS _ ≤ p.2.natAbs + nS b + c.natAbs
      omega
theorem nS_add {b : Ser} (hn : (keys b).Nodup) (k c : Int) : nS (badd b k c) ≤ nS b + c.natAbs := by
  unfold badd bput
  by_cases h : k ∈ keys b
  · rw [if_pos ((any_key b k).mpr h)]
    exact nS_map k c b hn
  · rw [if_neg (fun z => h ((any_key b k).mp z)), nS_app, bget_none h]
    simp [nS]
theorem nS_plusB : ∀ (s b : Ser), (keys b).Nodup → nS (plusB s b) ≤ nS b + nS s
  | [], b, _ => Nat.le_refl _
  | p :: s, b, h => by
    have h1 := nS_plusB s (badd b p.1 p.2) (nodup_add h)
    have h2 := nS_add h p.1 p.2
    show nS (plusB s (badd b p.1 p.2)) ≤ nS b + (p.2.natAbs + nS s)
    omega
theorem nS_timesI (p : Int × Int) : ∀ (s b : Ser), (keys b).Nodup → nS (timesI p s b) ≤ nS b + p.2.natAbs * nS s
  | [], b, _ => Nat.le_refl _
  | r :: s, b, h => by
    have h1 := nS_timesI p s (badd b (p.1 + r.1) (p.2 * r.2)) (nodup_add h)
    have h2 := nS_add h (p.1 + r.1) (p.2 * r.2)
    rw [Int.natAbs_mul] at h2
    show nS (timesI p s (badd b (p.1 + r.1) (p.2 * r.2))) ≤ nS b + p.2.natAbs * (r.2.natAbs + nS s)
    rw [Nat.mul_add]
    omega
theorem nS_timesB (t : Ser) : ∀ (s b : Ser), (keys b).Nodup → nS (timesB s t b) ≤ nS b + nS s * nS t
  | [], b, _ => by simp [timesB, nS]
  | p :: s, b, h => by
    have h1 := nS_timesB t s (timesI p t b) (timesI_ok p t b h).1
    have h2 := nS_timesI p t b h
    show nS (timesB s t (timesI p t b)) ≤ nS b + (p.2.natAbs + nS s) * nS t
    rw [Nat.add_mul]
    omega
theorem nS_perm {s t : Ser} (h : s.Perm t) : nS s = nS t := by
  induction h with
  | nil => rfl
  | cons p _ ih => simp only [nS, ih]
  | swap p q s =>
    simp only [nS]
    omega
  | trans _ _ h1 h2 => rw [h1, h2]
theorem nS_filter (f : Int × Int → Bool) : ∀ s : Ser, nS (s.filter f) ≤ nS s
  | [] => Nat.le_refl _
  | p :: s => by
    have := nS_filter f s
    rw [List.filter_cons]
    split
    · show p.2.natAbs + nS (s.filter f) ≤ p.2.natAbs + nS s
      omega
    · show nS (s.filter f) ≤ p.2.natAbs + nS s
      omega
theorem nS_told {b : Ser} (h : (keys b).Nodup) : nS (told b) ≤ nS b := by
  rw [nS_perm (told_perm h)]
  exact nS_filter _ _
/-- a series as the package makes them -/
structure Can (s : Ser) : Prop where
  srt : Srt s
  nz : ∀ p ∈ s, p.2 ≠ 0
theorem can_told {b : Ser} (h : (keys b).Nodup) : Can (told b) := ⟨told_srt h, fun p hp => ((told_mem h).mp hp).2⟩
/-- what is needed of a sum, of a product -/
theorem plus_nd (a b : Ser) : (keys (plusB (a ++ b) [])).Nodup := (plusB_ok (a ++ b) [] List.nodup_nil).1
theorem times_nd (a b : Ser) : (keys (timesB a b [])).Nodup := (timesB_ok b a [] List.nodup_nil).1
theorem can_plus (a b : Ser) : Can (sPlus a b) := can_told (plus_nd a b)
theorem can_times (a b : Ser) : Can (sTimes a b) := can_told (times_nd a b)
theorem evS_plus (a b : Ser) (m N : Int) : evS m (sPlus a b) N = evS m a N + evS m b N := by
  unfold sPlus
  rw [evS_told (plus_nd a b), (plusB_ok (a ++ b) [] List.nodup_nil).2.2.2, evS_app]
  simp [evS]
theorem evS_times {a b : Ser} {m n : Int} (ha : ∀ p ∈ a, 0 ≤ p.1 + m) (hb : ∀ r ∈ b, 0 ≤ r.1 + n) (N : Int) : evS (m + n) (sTimes a b) N = evS m a N * evS n b N := by
  unfold sTimes
  rw [evS_told (times_nd a b), (timesB_ok b a [] List.nodup_nil).2.2.2 m n N ha hb]
  simp [evS]
theorem nS_plus (a b : Ser) : nS (sPlus a b) ≤ nS a + nS b := by
  refine Nat.le_trans (nS_told (plus_nd a b)) ?_
  have := nS_plusB (a ++ b) [] List.nodup_nil
  rw [nS_app] at this
  simpa [nS] using this
theorem nS_times (a b : Ser) : nS (sTimes a b) ≤ nS a * nS b := by
  refine Nat.le_trans (nS_told (times_nd a b)) ?_
  have := nS_timesB b a [] List.nodup_nil
  simpa [nS] using this
theorem len_plus (a b : Ser) : (sPlus a b).length ≤ a.length + b.length := by
  refine Nat.le_trans (told_len (plus_nd a b)) ?_
  have := (plusB_ok (a ++ b) [] List.nodup_nil).2.2.1
  simpa using this
theorem len_times (a b : Ser) : (sTimes a b).length ≤ a.length * b.length := by
  refine Nat.le_trans (told_len (times_nd a b)) ?_
  have := (timesB_ok b a [] List.nodup_nil).2.2.1
  simpa using this
/-- where exponents lie -/
def Rg (lo hi : Int) (s : Ser) : Prop := ∀ p ∈ s, lo ≤ p.1 ∧ p.1 ≤ hi
theorem mem_key {s : Ser} {p : Int × Int} (h : p ∈ s) : p.1 ∈ keys s := List.mem_map.mpr ⟨p, h, rfl⟩
theorem rg_plus {a b : Ser} {lo hi : Int} (ha : Rg lo hi a) (hb : Rg lo hi b) : Rg lo hi (sPlus a b) := fun p hp => by
  have h1 := ((told_mem (plus_nd a b)).mp hp).1
  rcases (plusB_ok (a ++ b) [] List.nodup_nil).2.1 _ (mem_key h1) with h2 | h2
  · simp [keys] at h2
  · obtain ⟨q, hq, e⟩ := List.mem_map.mp h2
    rw [← e]
    rcases List.mem_append.mp hq with z | z
    · exact ha q z
    · exact hb q z
theorem rg_times {a b : Ser} {lo hi lo' hi' : Int} (ha : Rg lo hi a) (hb : Rg lo' hi' b) : Rg (lo + lo') (hi + hi') (sTimes a b) := fun p hp => by
  have h1 := ((told_mem (times_nd a b)).mp hp).1
  rcases (timesB_ok b a [] List.nodup_nil).2.1 _ (mem_key h1) with h2 | ⟨q, hq, r, hr, e⟩
  · simp [keys] at h2
  · have := ha q hq
    have := hb r hr
    omega
theorem rg_mono {a : Ser} {lo hi lo' hi' : Int} (h : Rg lo hi a) (h1 : lo' ≤ lo) (h2 : hi ≤ hi') : Rg lo' hi' a := fun p hp => by
  have := h p hp
  omega
theorem nodup_range_len {l : List Int} {lo : Int} {n : Nat} (hn : l.Nodup) (h : ∀ x ∈ l, lo ≤ x ∧ x < lo + n) : l.length ≤ n := by
  have := List.Nodup.length_le_of_subset (l₂ := (List.range n).map fun (i : Nat) => lo + (i : Int)) hn fun x hx => by
    have := h x hx
    exact List.mem_map.mpr ⟨(x - lo).toNat, List.mem_range.mpr (by omega), by omega⟩
  simpa using this
theorem rg_len {s : Ser} {lo hi : Int} (hs : Can s) (h : Rg lo hi s) (hle : lo ≤ hi + 1) : s.length ≤ (hi - lo + 1).toNat := by
  have := nodup_range_len (l := keys s) (lo := lo) (n := (hi - lo + 1).toNat) (srt_keys hs.srt) fun x hx => by
    obtain ⟨p, hp, e⟩ := List.mem_map.mp hx
    have := h p hp
    omega
  simpa [keys] using this
/-! ### lines -/
def lstep (r : List Ser) (c : Nat) (s : Int) : List Ser := (r.map (sTimes [(s, 1)])).set c (sPlus ((r.map (sTimes [(s, 1)])).getD c []) (sPlus [(0, 1)] [(s, -1)]))
def lfold (over : List (Nat × Int)) (r : List Ser) : List Ser := over.foldl (fun r p => lstep r p.1 p.2) r
def lend (b : Nat) (r : List Ser) : List Ser := r.set b (sPlus (r.getD b []) [(0, -1)])
def lineS (n a b : Nat) (over : List (Nat × Int)) : List Ser := lend b (lfold over ((List.replicate n ([] : Ser)).set a [(0, 1)]))
theorem lstep_len (r : List Ser) (c : Nat) (s : Int) : (lstep r c s).length = r.length := by simp [lstep]
theorem getD_mem {r : List Ser} {c : Nat} (h : c < r.length) : r.getD c [] ∈ r := by
  rw [List.getD_eq_getElem?_getD, List.getElem?_eq_getElem h]
  exact List.getElem_mem h
/-- sizes along a line -/
def Lb (k : Nat) (r : List Ser) : Prop := ∀ s ∈ r, s.length ≤ k ∧ nS s ≤ k
theorem lb_times {k : Nat} {r : List Ser} (h : Lb k r) (s : Int) : Lb k (r.map (sTimes [(s, 1)])) := fun t ht => by
  obtain ⟨q, hq, rfl⟩ := List.mem_map.mp ht
  have h1 := h q hq
  have h2 := len_times [(s, 1)] q
  have h3 := nS_times [(s, 1)] q
  have e1 : ([(s, 1)] : Ser).length = 1 := rfl
  have e2 : nS [(s, 1)] = 1 := rfl
  rw [e1, Nat.one_mul] at h2
  rw [e2, Nat.one_mul] at h3
  omega
theorem lb_one (s : Int) : (sPlus [(0, 1)] [(s, -1)]).length ≤ 2 ∧ nS (sPlus [(0, 1)] [(s, -1)]) ≤ 2 := ⟨len_plus _ _, nS_plus _ _⟩
theorem lb_set {k j : Nat} {r : List Ser} (h : Lb k r) {c : Nat} {t : Ser} (ht : t.length ≤ k + j ∧ nS t ≤ k + j) : Lb (k + j) (r.set c t) := fun s hs => by
  rcases List.mem_or_eq_of_mem_set hs with z | z
  · have := h s z
    omega
  · rw [z]
    exact ht
theorem lb_getD {k : Nat} {r : List Ser} (h : Lb k r) (c : Nat) : (r.getD c []).length ≤ k ∧ nS (r.getD c []) ≤ k := by
  by_cases hc : c < r.length
  · exact h _ (getD_mem hc)
  · rw [List.getD_eq_getElem?_getD, List.getElem?_eq_none (by omega)]
    exact ⟨Nat.zero_le _, Nat.zero_le _⟩
theorem lb_plus {k j : Nat} {a b : Ser} (h : a.length ≤ k ∧ nS a ≤ k) (h' : b.length ≤ j ∧ nS b ≤ j) : (sPlus a b).length ≤ k + j ∧ nS (sPlus a b) ≤ k + j := by
  have h1 := len_plus a b
  have h2 := nS_plus a b
  omega
theorem lb_step {k : Nat} {r : List Ser} (h : Lb k r) (c : Nat) (s : Int) : Lb (k + 2) (lstep r c s) := lb_set (lb_times h s) (lb_plus (lb_getD (lb_times h s) c) (lb_one s))
theorem lb_start (n a : Nat) : Lb 1 ((List.replicate n ([] : Ser)).set a [(0, 1)]) := fun s hs => by
  rcases List.mem_or_eq_of_mem_set hs with z | z
  · rw [(List.mem_replicate.mp z).2]
    exact ⟨Nat.zero_le _, Nat.zero_le _⟩
  · rw [z]
    exact ⟨Nat.le_refl _, Nat.le_refl _⟩
end GM
set_option Elab.async false
set_option linter.all false
set_option maxRecDepth 100000
set_option maxHeartbeats 4000000
/-! GRul: own rules. -/
namespace GK
open PySem PySem.Spec PyProof.Rows L2 Evl GM
/-! ### min(xs, default=c) of ints -/
def minL (c : Int) : List Int → Int
  | [] => c
  | n :: ns => ns.foldl min n
def rMinDef (K : PySem.W.Frag) : List V → List V → Hp → VK → Prop := fun vs zs H Q => ∃ (a : Addr) (ns : List Int) (c : Int), vs = [V.ref a] ∧ zs = [.int c] ∧ SqL K H a (ns.map V.int) ∧ Q (.int (minL c ns)) H
theorem dpA_ints {K : PySem.W.Frag} {H : Hp} (ns : List Int) : DpAll K H (ns.map V.int) (ns.map PyData.int) := DnAll.dp (A := Tt) _ _ (DnAll.of_ints ns)
theorem depth_ints : ∀ ns : List Int, PyData.depthAll (ns.map PyData.int) ≤ 1
  | [] => by simp [PyData.depthAll]
  | n :: ns => by
    have := depth_ints ns
    simp only [List.map_cons, PyData.depthAll, PyData.depth]
    omega
theorem alike_ints (ns : List Int) : PySem.W.AlikeAll (ns.map PyData.int) := by
  refine ⟨fun x hx y hy => ?_, fun x hx => ?_⟩
  · obtain ⟨a, _, rfl⟩ := List.mem_map.mp hx
    obtain ⟨b, _, rfl⟩ := List.mem_map.mp hy
    rfl
  · obtain ⟨a, _, rfl⟩ := List.mem_map.mp hx
    intro h
    cases h
theorem lay_ints : ∀ ns : List Int, PyData.canLayAll0 (ns.map PyData.int) = true
  | [] => by simp [PyData.canLayAll0]
  | n :: ns => by simp [PyData.canLayAll0, PyData.canLay0, lay_ints ns]
theorem shaped_ints (ns : List Int) : SeqAt.shaped (.list (ns.map PyData.int)) = true := by
  unfold SeqAt.shaped
  rw [Bool.and_eq_true, decide_eq_true_eq]
  have := depth_ints ns
  exact ⟨by simp [PyData.canLay0, lay_ints ns], by simp only [PyData.depth]; omega⟩
theorem lay_dS : ∀ s : Ser, PyData.canLayAll0 (s.map dPr) = true
  | [] => by simp [PyData.canLayAll0]
  | p :: s => by simp [PyData.canLayAll0, PyData.canLay0, dPr, lay_dS s]
theorem depth_prs : ∀ s : Ser, PyData.depthAll (s.map dPr) ≤ 2
  | [] => by simp [PyData.depthAll]
  | p :: s => by
    have := depth_prs s
    simp only [List.map_cons, PyData.depthAll, PyData.depth, dPr]
    omega
theorem depth_dS (s : Ser) : (dS s).depth ≤ 3 := by
  have := depth_prs s
  unfold dS
  simp only [PyData.depth]
  omega
theorem shaped_dS (s : Ser) : SeqAt.shaped (dS s) = true := by
  unfold SeqAt.shaped
  rw [Bool.and_eq_true, decide_eq_true_eq]
  exact ⟨by simp [PyData.canLay0, dS, lay_dS s], by have := depth_dS s; omega⟩
section
variable {X : Cx}
theorem cr_minDef (hc : X.calm = true) (hu : X.A.units + 64 < cLine) : CallRK X (.builtin "min") [Str.ofString "default"] (rMinDef X.K) := by
  intro pins s σ H vs zs us ws Q I r rz h
  obtain ⟨a, ns, c, rfl, rfl, hs, q⟩ := h
  obtain rfl := Vals.ref1 r
  obtain ⟨w1, rfl, t1, rfl⟩ := vals1 rz
  obtain ⟨its, rv, hl, hz⟩ := I.list hs
  obtain ⟨as, ra⟩ := Dp.readsAll I _ _ _ (dpA_ints ns) rv
  refine PySem.W.min_list_default (I.ok.hd hc) hl.isList (by rw [List.toList_toArray]; exact ra) (alike_ints ns) (by have := depth_ints ns; omega) (fun h0 h' tk hk => ?_) (fun y ys i v h' tk bs hy hv hrd hk => ?_)
  · have : ns = [] := List.map_eq_nil_iff.mp h0
    subst this
    exact ⟨.int c, H, I.kept hk, ⟨_, rfl⟩, q⟩
  · cases ns with
    | nil => cases hy
    | cons n ns =>
      cases hy
      rw [PySem.W.minD_ints] at hrd
      cases hrd
      exact ⟨.int (ns.foldl min n), H, I.kept hk, ⟨_, rfl⟩, q⟩
end
section
variable {K : PySem.W.Frag} {A : Addr → Prop} {σ : L2.St} {H : Hp} {te tc : TE}
theorem ed_minDef {ns : List Int} {c : Int} (h : EvW K te σ H (.list (ns.map .int))) (hc : EvD K Tt tc σ H (.int c)) : EvD K A (tCKw (rMinDef K) (tCons te tNil) (tCons tc tNil)) σ H (.int (minL c ns)) := fun H1 e Q q =>
  h H1 e _ fun x H2 e2 gx => ed_ev_i hc H2 (e.trans e2) _ fun H3 e3 => by
    obtain ⟨a, xs, rfl, h1, h2⟩ := (gx.ex e3).list_inv
    cases h2.ints
    exact ⟨a, ns, c, rfl, rfl, h1.sq, q _ H3 (e2.trans e3) (.int _)⟩
end
theorem call_len_seqK {X : Cx} {K : PySem.W.Frag} (h : X.K = K) : CallR X (.builtin "len") (rLenS K) := by
  subst h
  exact call_len_seq
/-! ### tuples of which the one object is known: t.index(k) -/
abbrev FTup (H : Hp) (t : Addr) (ns : List Int) : Prop := ∃ o : Obj, H t = some (.frz o (.tup (ns.map V.int))) ∧ o.dict = none
def rTupF (K : PySem.W.Frag) : List V → Hp → VK → Prop := fun xs H Q => ∃ p ys, xs = [.ref p] ∧ SqL K H p ys ∧ ∀ (l : Addr) (o : Obj), H l = none → o.dict = none → Q (.ref l) (upd H l (.frz o (.tup ys)))
def tIdx (to : TE) (ta : TA) : TE := fun σ H Q => to σ H fun x H1 => ∃ (t : Addr) (ns : List Int), x = .ref t ∧ FTup H1 t ns ∧ ta σ H1 fun ys H2 => ∃ k, ys = [.int k] ∧ k ∈ ns ∧ FTup H2 t ns ∧ Q (.int (ns.idxOf k : Nat)) H2
section
variable {X : Cx}
theorem call_tupF : CallR X (.type "tuple") (rTupF X.K) := by
  intro pins s σ H xs us Q I rv ⟨p, ys, ex, hq, q⟩
  subst ex
  obtain ⟨u, eu, ru⟩ := vals1 rv
  subst eu
  cases ru
  have ⟨its, vi, pl, hz⟩ := I.list hq
  have hn : its.length = ys.length := vi.length.symm
  refine call_tuple_list pl.isList (fun h' kp => ?_) (by rw [List.size_toArray, hn]; exact hz)
  have J := I.kept (t' := s.toks) kp
  refine ⟨.ref h'.objs.size, _, J.laid (a := h'.objs.size) (o := .frz { cls := .type "tuple", data := .seq its.toArray } (.tup ys)) (h' := h'.push { cls := .type "tuple", data := .seq its.toArray }) (t' := s.toks) (fun _ _ => Heap.get?_push_of_some _) (Nat.le_refl _) ?_, rfl, q _ _ (J.hok.fresh (Nat.le_refl _)) rfl⟩
  exact ⟨Heap.get?_push_size _ rfl, hz, its, vi, IsTup.new _ _⟩
theorem ftup_get {pins : List (Addr × Obj)} {σ : L2.St} {H : Hp} {s : Shared} {t : Addr} {ns : List Int} (I : Inv X pins σ H s) (h : FTup H t ns) : ∃ (its : List Value) (ob : Obj) (n : Nat), IntsAre its ns ∧ s.heap.get? t = some ob ∧ ob.cls = .type "tuple" ∧ ob.dict = none ∧ ob.data = .seq its.toArray n := by
  obtain ⟨o, ho, hd⟩ := h
  obtain ⟨g, _, its, vi, ⟨ob, gb, c, n, dt⟩⟩ := (show ObjOk X.prog X.w H s.heap t (.frz o (.tup (ns.map V.int))) from I.hok t _ ho)
  rw [g] at gb
  cases gb
  exact ⟨its, o, n, vi.ints, g, c, hd, dt⟩
theorem pe_idx {o e : Expr} {to : TE} {ta : TA} {apos cpos : Pos} (ho : PE X o to) (ha : PA X [e] ta) (hbase : attributeBase o "index" X.env (eval o X.env) = eval o X.env := by rfl) (hline : (apos.endLine == cpos.line) = true := by rfl)
    (hs : starEach [e] X.env = [(false, eval e X.env)] := by rfl) : PE X (.Call (.Attribute o "index" apos) [e] [] cpos) (tIdx to ta) := by
  refine ⟨fun pins s σ H Q I h => wpAny_Call_method_late hbase ?_ hline rfl (thn (ho.run pins s σ H _ I h) fun v s1 ⟨x, H1, I1, r1, t, ns, ex, ft, q1⟩ => ?_)⟩
  · rw [hs]
    rfl
  subst ex
  cases (show v = Value.ref t from r1)
  have ⟨_, ob, n, _, g, c, hd, _⟩ := ftup_get I1 ft
  have A1 := ha.run cpos pins s1 σ H1 _ I1 q1
  rw [hs] at A1 ⊢
  refine ⟨"tuple", "tuple.index", PySem.F.plainAttrs_tuple, PySem.F.slot_tuple_index, PySem.F.type_tuple_index, ⟨ob, g, c⟩, fun a ea => ?_, Calls.callWith_builtin rfl (Calls.evalArgs_plain (thn A1 fun us s2 ⟨vs, H2, I2, r2, k, ek, hk, ft2, q2⟩ => ?_))⟩
  · cases ea
    exact ⟨ob, g, hd⟩
  · subst ek
    obtain ⟨u, eu, tk, eu2⟩ := vals1 r2
    subst eu eu2
    obtain ⟨its, ob2, n2, hi, g2, c2, d2, dt2⟩ := ftup_get I2 ft2
    exact SeqAt.tuple_index_ints ⟨ob2, g2, c2, n2, dt2⟩ hi hk ⟨.int (ns.idxOf k : Nat), H2, I2.tok _, ⟨_, rfl⟩, q2⟩
/-! ### len(grid) -/
def rLenG (C : Addr) (sp : Sp) : List V → Hp → VK → Prop := fun xs H Q => ∃ a dx fs, xs = [.ref a] ∧ H a = some (.ins C dx fs) ∧ sp [.ref a] H (fun v H2 => ∃ n : Nat, v = .int n ∧ n ≤ 100000 ∧ Q v H2) E0
theorem call_lenG {C f : Addr} {fd : FuncData} {ps : List Str} {sp : Sp} {k : Nat} (M : Meth X.K C "__len__" f) (F : FnOk X.prog X.w X.K X.mg X.base CX0 k f fd ps sp) (hb : Binds X.K fd ps []) (hr : Room (k + 1) X.A) : CallR X (.builtin "len") (rLenG C sp) := by
  intro pins s σ H xs us Q I rv ⟨a, dx, fs, ex, ha, h⟩
  subst ex
  obtain ⟨u, eu, ru⟩ := vals1 rv
  subst eu
  cases ru
  have ⟨mA, O, _⟩ := ins_get I.hok ha
  have ⟨od, J, _⟩ := O.look
  have ⟨m, hns, _⟩ := I.loc
  have hl := F.len _ _ _ _ h
  refine PySem.W.len_K (h₀ := X.base) (L := X.env.locals) (m := m) ⟨hns, fun b o e => (I.bs b o e).1, Nat.le_trans I.ok.bsz I.ok.above⟩ I.ok.mod.kin J M.at_ M.fn ?_
  refine wpAny_call (codeAny_mono (F.run X.A.in1 X.stack s H ⟨[.ref a], []⟩ [.ref a] [.ref a] _ E0 hr.in1 I.env0.in1 (hb s [.ref a] I.kIn hl) (.cons rfl .nil) h) fun r s' hq => ?_)
  rcases r with e | fl
  · exact absurd hq id
  · cases fl with
    | ret u =>
      obtain ⟨v, H2, J2, rv2, n, en, hn, q⟩ := I.after hq
      subst en
      obtain ⟨t2, rfl⟩ := rv2
      exact ⟨⟨by omega, by omega⟩, .int n, H2, J2.tok _, ⟨_, rfl⟩, q⟩
    | next => exact hq.elim
    | brk => exact hq.elim
    | cont => exact hq.elim
/-! ### f(k = v) -/
theorem pe_calK1 {k : Nat} {x : Str} {f : Addr} {fd : FuncData} {ps ks : List Str} {sp : Sp} {g : List Value → List Value → List Value} {gV : List V → List V → List V} {kws : List Keyword} {p pos : Pos} {tk : TA} (F : FnOk X.prog X.w X.K X.mg X.base CX0 k f fd ps sp) (hr : Room k X.A) (hg : Gl X x) (hm : X.mg x = some (.ref f)) (hk : PySem.W.keepIn X.K (.ref f) = true)
    (hb : KBinds X.K fd ps ks g gV) (hkw : PK X kws tk) (hall : (backToKw pos (keywordEach kws X.env)).all (·.1.isSome) = true := by rfl) (hks : (backToKw pos (keywordEach kws X.env)).filterMap (·.1) = ks := by rfl) (hdb : (x == ("__debug__" : Str)) = false := by decide)
    (hpl : ((backTo pos (starEach [] X.env)).any (·.1) || (backToKw pos (keywordEach kws X.env)).any (·.1.isNone)) = false := by rfl) : PE X (.Call (.Name x p) [] kws pos) (tCallK sp gV E0 tNil tk) :=
  ⟨fun pins s σ H Q I h => wpAny_Call_Name_kw (ld_glob I hg hm (PySem.W.callWith_KW0 (h₀ := X.base) I.ok.mod.kin hk hall (thn (hkw.run pos pins s σ H _ I h) fun ws s2 ⟨zs, H2, I2, rz, q2⟩ => ⟨I2.kIn, by
    rw [hks]
    exact run_fnk F hr hb pass0 I2 .nil rz q2⟩) hpl) hdb)⟩
/-! ### repr of data -/
def rReprD (K : PySem.W.Frag) : List V → Hp → VK → Prop := fun xs H Q => ∃ (a : Addr) (d : PyData), xs = [.ref a] ∧ Dp K H (.ref a) d ∧ d.showable = true ∧ d.hasDict = false ∧ d.depth ≤ 50 ∧ d.shown.length ≤ sizeLine ∧ Q (.str d.shown) H
theorem call_reprD (hg : X.A.guards = some []) (hu : X.A.units + 64 < cLine) : CallR X (.builtin "repr") (rReprD X.K) := by
  intro pins s σ H xs us Q I rv ⟨a, d, ex, hd, hs, hdc, hdp, hz, q⟩
  subst ex
  obtain ⟨u, eu, ru⟩ := vals1 rv
  subst eu
  cases ru
  have ⟨as, rd⟩ := Dp.reads I d _ _ hd (show RelV (.ref a) (.ref a) from rfl)
  exact repr_of_reads' (h₀ := s.heap) rd hs (fun z => absurd z (by rw [hdc]; decide)) hg (by omega) (fun _ _ e => e) (fun h' u tk hk => ⟨.str d.shown, H, I.kept hk, ⟨_, rfl⟩, q⟩) hz
end
end GK
set_option Elab.async false
set_option linter.all false
set_option maxRecDepth 100000
set_option maxHeartbeats 4000000
/-! GF2: the defs of core_rows. -/
namespace GK
open PySem PySem.Spec PyProof.Rows L2 Evl GM
section
variable {P : Program} {w : World} {K : PySem.W.Frag} {mg : Str → Option Value} {base : Heap}
/-! ### trimmed -/
abbrev spTrim (K : PySem.W.Frag) : Sp := SpN K (fun p : List Int => p.length ≤ 50000) (fun p => [dP p]) (fun p => dP (trim p))
theorem fk_trimmed (T : Tx K mg) : Fk P w K mg base 1 "trimmed" P_trimmed (spTrim K) := by
  refine T.d_trimmed.fk sc_trimmed (SpN.len fun _ => rfl) fun f cdv A outer s H vs Q E hr h => ?_
  obtain ⟨p, hp, g, q⟩ := h
  obtain ⟨v, rfl, gv⟩ := dn1 g
  refine ⟨_, (pss_cons (ps_set (i := 1) sc_trimmed.nd rfl (Or.inl rfl) (pe_callB call_len_seq (by rfl) T.len (by decide +kernel) (pa_cons (pv 0) pa_nil)))
      (pss_cons (ps_while PassesOwn.never (PW.pt (pw_and (pt_cmpR op_gt (pv 1) pe_int (nomark _)) (pw_and1 (pt_cmpR op_eq (pe_ix (ix_listK (K := K) rfl) (pv 0) (pe_op op_sub (pv 1) pe_int) (fun _ _ => rfl)) pe_int (nomark _)))))
      (pss_one (ps_aug (i := 1) sc_trimmed.nd rfl (Or.inl rfl) pe_int ip_sub)))
      (pss_one (ps_ret (pe_slice (sl_listK (K := K) rfl) (pv 0) po_none (po_some (pv 1))))))), ?_⟩
  refine qd_asgI (n := (p.length : Int)) ((ed_lenL (ew_v rfl gv)).to (by rw [List.length_map])) fun H1 e1 => ?_
  refine q_while (fun m σ' H' => m ≤ p.length ∧ σ' = [some v, some (.int (m : Int))] ∧ Ex H H' ∧ trim p = trim (p.take m)) p.length ⟨Nat.le_refl _, rfl, e1, by rw [List.take_length]⟩ ?_
  rintro m σ' H' ⟨hm, rfl, e2, ht⟩
  have g' := gv.ex e2
  have i0 : EvD K Tt (tVar 1) [some v, some (.int (m : Int))] H' (.int (m : Int)) := ed_v rfl (.int _)
  refine ⟨_, et_and (etD (ed_b0 i0 ed_int)) fun hpos => etD (ed_eqI (ed_ixL (i := ((m - 1 : Nat) : Int)) (d := .int (p.getD (m - 1) 0)) (ed_v rfl g') ((ed_i0 i0 ed_int).to ?_) (at_int ?_)) ed_int), fun hb H2 e3 => ?_, fun hb H2 e3 => ?_⟩
  · have : (0 : Int) < (m : Int) := of_decide_eq_true hpos
    congr 1
    omega
  · have : (0 : Int) < (m : Int) := of_decide_eq_true hpos
    omega
  · rw [Bool.and_eq_true] at hb
    have h1 : (0 : Int) < (m : Int) := of_decide_eq_true hb.1
    have h2 := of_decide_eq_true hb.2
    refine ⟨fun σ2 H2 => m - 1 < m ∧ σ2 = [some v, some (.int ((m - 1 : Nat) : Int))] ∧ Ex H H2, fun σ2 H2 hn => ⟨m - 1, hn.1, by omega, hn.2.1, hn.2.2, ?_⟩, ?_⟩
    · rw [ht]
      have : p.take m = p.take (m - 1) ++ [0] := by
        have hlt : m - 1 < p.length := by omega
        have e : p.take (m - 1 + 1) = p.take (m - 1) ++ [p[m - 1]] := by rw [List.take_add_one, List.getElem?_eq_getElem hlt]; rfl
        rw [show m - 1 + 1 = m by omega] at e
        rw [e]
        congr 2
        rw [List.getD_eq_getElem?_getD, List.getElem?_eq_getElem hlt] at h2
        exact h2
      rw [this, trim_snoc0]
    · refine s_aug (a := (m : Int)) (b := 1) rfl ev_c fun H3 e4 => ⟨by show m - 1 < m; omega, ?_, (e2.trans e3).trans e4⟩
      show [some v, some (V.int ((m : Int) - 1))] = [some v, some (V.int ((m - 1 : Nat) : Int))]
      rw [show (m : Int) - 1 = ((m - 1 : Nat) : Int) by omega]
  · have e : trim p = p.take m := by
      rw [ht]
      rcases Nat.eq_zero_or_pos m with h0 | h0
      · subst h0
        rfl
      · have hlt : m - 1 < p.length := by omega
        have e : p.take (m - 1 + 1) = p.take (m - 1) ++ [p[m - 1]] := by rw [List.take_add_one, List.getElem?_eq_getElem hlt]; rfl
        rw [show m - 1 + 1 = m by omega] at e
        rw [e]
        refine trim_snoc _ _ fun z => ?_
        rw [List.getD_eq_getElem?_getD, List.getElem?_eq_getElem hlt] at hb
        have hp1 : (decide ((0 : Int) < (m : Int))) = true := decide_eq_true (by omega)
        rw [hp1, Bool.true_and] at hb
        exact of_decide_eq_false hb z
    refine sd_retM (em_slTo (A := Tt) (ed_v rfl (g'.ex e3)) (ed_v rfl (.int _))) fun r vs H3 hr3 e4 h4 g4 => ?_
    rw [← List.map_take, ← e] at g4
    cases g4.ints
    exact q _ _ ((e2.trans e3).trans e4) (.lst (sqA_at h4 (fresh_back (e2.trans e3) hr3)) (DnAll.of_ints _))
/-! ### less -/
abbrev spLess (K : PySem.W.Frag) : Sp := SpN K (fun x : List Int × List Int => x.1.length ≤ 10000 ∧ x.2.length ≤ 10000) (fun x => [dP x.1, dP x.2]) (fun x => dP (less x.1 x.2))
theorem pad_data (n : Nat) (a : List Int) : a.map PyData.int ++ List.replicate (n - a.length) (PyData.int 0) = (pad n a).map PyData.int := by
  unfold pad
  rw [List.map_append, List.map_replicate]
theorem fk_less (T : Tx K mg) : Fk P w K mg base 2 "less" P_less (spLess K) := by
  refine T.d_less.fk sc_less (SpN.len fun _ => rfl) fun f cdv A outer s H vs Q E hr h => ?_
  obtain ⟨⟨a, b⟩, ⟨ha, hb⟩, g, q⟩ := h
  obtain ⟨v1, v2, rfl, g1, g2⟩ := dn2 g
  dsimp only at ha hb q g1 g2
  refine ⟨_, (pss_cons (ps_set (i := 2) sc_less.nd rfl (Or.inl rfl) (pe_callB (call_max2 rfl) (by rfl) T.max (by decide +kernel) (pa_cons (pe_callB call_len_seq (by rfl) T.len (by decide +kernel) (pa_cons (pv 0) pa_nil)) (pa_cons (pe_callB call_len_seq (by rfl) T.len (by decide +kernel) (pa_cons (pv 1) pa_nil)) pa_nil))))
      (pss_cons (ps_set (i := 3) sc_less.nd rfl (Or.inl rfl) (pe_op op_cat (pv 0) (pe_op op_rep (pe_lst (pa_cons pe_int pa_nil)) (pe_op op_sub (pv 2) (pe_callB call_len_seq (by rfl) T.len (by decide +kernel) (pa_cons (pv 0) pa_nil))))))
      (pss_cons (ps_set (i := 4) sc_less.nd rfl (Or.inl rfl) (pe_op op_cat (pv 1) (pe_op op_rep (pe_lst (pa_cons pe_int pa_nil)) (pe_op op_sub (pv 2) (pe_callB call_len_seq (by rfl) T.len (by decide +kernel) (pa_cons (pv 1) pa_nil))))))
      (pss_one (ps_ret (pe_cal (fk_trimmed T) (hr.mono (by decide)) (by rfl) (pa_cons (pe_lc (own := [("one", 5), ("two", 6)]) (g := (gTup K 2 (gCons (gName 5) (gCons (gName 6) gNil)))) rfl sc_less.nd (pi_zip (by rfl) T.zip (pa_cons (pv 3) (pa_cons (pv 4) pa_nil))) (blkOk_by (own := [("one", 5), ("two", 6)]) (N := N_less) (sc := defScope s_less) (by decide +kernel)) (fun _ _ _ _ _ => (pg_tup rfl (pgs_cons (pg_name (i := 5) (hf := Or.inr rfl) sc_less.nd rfl (Or.inl rfl)) (pgs_cons (pg_name (i := 6) (hf := Or.inr rfl) sc_less.nd rfl (Or.inl rfl)) pgs_nil)))) (fun _ _ _ _ _ => pts_nil) (fun _ _ _ _ _ => (pe_op op_sub (pv 5) (pv 6)))) pa_nil))))))), ?_⟩
  refine qd_asgI (n := ((max a.length b.length : Nat) : Int)) ((ed_max2 (ed_lenL (ew_v rfl g1)) (ed_lenL (ew_v rfl g2))).to ?_) fun H1 e1 => ?_
  · rw [List.length_map, List.length_map]
    congr 1
    omega
  have padE : ∀ (i : Nat) (c : List Int) (v : V) (σ : L2.St) (H2 : Hp), c.length ≤ max a.length b.length → σ[i]? = some (some v) → σ[2]? = some (some (.int ((max a.length b.length : Nat) : Int))) → Dd K H2 v (dP c) →
      EvD K Tt (tOp rCat (tVar i) (tOp rRep (tLst (tCons (tC (.int 0)) tNil)) (tOp (rI0 fun i j => .int (i - j)) (tVar 2) (tCB (rLenS K) (tCons (tVar i) tNil))))) σ H2 (dP (pad (max a.length b.length) c)) := fun i c v σ H2 hc h1 h2 g => by
    refine (em_cat (ed_v h1 g) (em_rep1 (k := ((max a.length b.length - c.length : Nat) : Int)) (em_lst (eda_cons ed_int eda_nil) (by show 1 ≤ 100000; omega)).lst ((ed_i0 (ed_v h2 (.int _)) (ed_lenL (ew_v h1 g))).to ?_) (by omega) (by omega)).lst ?_).lst.to ?_
    · rw [List.length_map]
      congr 1
      omega
    · rw [List.length_map, List.length_replicate]
      omega
    · rw [Int.toNat_natCast, pad_data]
      rfl
  refine qd_asg (padE 0 a v1 _ H1 (Nat.le_max_left _ _) rfl rfl (g1.ex e1)).w fun v3 H2 e2 g3 => ?_
  refine qd_asg (padE 1 b v2 _ H2 (Nat.le_max_right _ _) rfl rfl (g2.ex (e1.trans e2))).w fun v4 H3 e3 g4 => ?_
  refine sd_retF (SpN.ev (((pad (max a.length b.length) a).zip (pad (max a.length b.length) b)).map fun p => p.1 - p.2) (ewa_cons ((em_lc2 (A := Tt) (l := (pad (max a.length b.length) a).zip (pad (max a.length b.length) b)) (e1 := fun p => .int p.1) (e2 := fun p => .int p.2) ((ei_z (ew_v rfl (g3.ex e3)) (ew_v rfl g4)).to ?_) ?_ (fun _ => true) (fun p => .int (p.1 - p.2)) (fun x y => rfl) (fun _ _ _ _ _ _ _ _ => et_yes)
      (fun d hd x y H4 e4 g5 g6 _ => ed_i0 (ed_v rfl (g5.any rfl)) (ed_v rfl (g6.any rfl)))).w.to ?_) ewa_nil) ?_) ((e1.trans e2).trans e3) q
  · rw [List.zip_map, List.map_map]
    rfl
  · rw [List.length_zip, pad_len (Nat.le_max_left _ _), pad_len (Nat.le_max_right _ _)]
    omega
  · rw [all_true]
    unfold dP
    rw [List.map_map]
    rfl
  · show (List.map _ _).length ≤ 50000
    rw [List.length_map, List.length_zip, pad_len (Nat.le_max_left _ _), pad_len (Nat.le_max_right _ _)]
    omega
/-! ### product -/
def Sm (b : Nat) (p : List Int) : Prop := ∀ x ∈ p, x.natAbs < 2 ^ b
theorem sm_mul {a b : Nat} {p q : List Int} (h : Sm a p) (h' : Sm b q) {i j : Nat} (hi : i < p.length) (hj : j < q.length) (h0 : 0 < a) (h1 : 0 < b) (hab : a + b ≤ 1000000) : CMulW p[i] q[j] :=
  wide_mul (h _ (List.getElem_mem hi)) (h' _ (List.getElem_mem hj)) h0 h1 hab
abbrev spProd (K : PySem.W.Frag) : Sp := SpN K (fun x : List Int × List Int => x.1.length ≤ 10000 ∧ x.2.length ≤ 10000 ∧ Sm 5000 x.1 ∧ Sm 5000 x.2) (fun x => [dP x.1, dP x.2]) (fun x => dP (mul x.1 x.2))
theorem mulAll_step (a b r : List Int) (i : Nat) (h : i < a.length) : mulAll (a.drop i) i b r = mulAll (a.drop (i + 1)) (i + 1) b (mulRow a[i] b i r) := by
  rw [List.drop_eq_getElem_cons h]
  rfl
theorem mulRow_step (one : Int) (b r : List Int) (i k : Nat) (h : k < b.length) : mulRow one (b.drop k) (i + k) r = mulRow one (b.drop (k + 1)) (i + (k + 1)) (r.set (i + k) (r.getD (i + k) 0 + one * b[k])) := by
  rw [List.drop_eq_getElem_cons h]
  rfl
theorem fk_product (T : Tx K mg) : Fk P w K mg base 1 "product" P_product (spProd K) := by
  refine T.d_product.fk sc_product (SpN.len fun _ => rfl) fun f cdv A outer s H vs Q E hr h => ?_
  obtain ⟨⟨a, b⟩, ⟨ha, hb, sa, sb⟩, g, q⟩ := h
  obtain ⟨v1, v2, rfl, g1, g2⟩ := dn2 g
  dsimp only at ha hb sa sb q g1 g2
  refine ⟨_, (pss_cons (ps_if (PW.pt (pw_or (pt_cmpR op_eq (pe_callB call_len_seq (by rfl) T.len (by decide +kernel) (pa_cons (pv 0) pa_nil)) pe_int (nomark _)) (pw_or1 (pt_cmpR op_eq (pe_callB call_len_seq (by rfl) T.len (by decide +kernel) (pa_cons (pv 1) pa_nil)) pe_int (nomark _)))))
      (pss_one (ps_ret (pe_lst pa_nil)))
      pss_nil)
      (pss_cons (ps_set (i := 2) sc_product.nd rfl (Or.inl rfl) (pe_op op_rep (pe_lst (pa_cons pe_int pa_nil)) (pe_op op_sub (pe_op op_add (pe_callB call_len_seq (by rfl) T.len (by decide +kernel) (pa_cons (pv 0) pa_nil)) (pe_callB call_len_seq (by rfl) T.len (by decide +kernel) (pa_cons (pv 1) pa_nil))) pe_int)))
      (pss_cons (ps_for PassesOwn.never rfl (pi_enum (by rfl) T.enumerate (pa_cons (pv 0) pa_nil)) (pg_tup rfl (pgs_cons (pg_name (i := 3) (hf := Or.inl rfl) sc_product.nd rfl (Or.inl rfl)) (pgs_cons (pg_name (i := 4) (hf := Or.inl rfl) sc_product.nd rfl (Or.inl rfl)) pgs_nil)))
      (pss_one (ps_for PassesOwn.never rfl (pi_enum (by rfl) T.enumerate (pa_cons (pv 1) pa_nil)) (pg_tup rfl (pgs_cons (pg_name (i := 5) (hf := Or.inl rfl) sc_product.nd rfl (Or.inl rfl)) (pgs_cons (pg_name (i := 6) (hf := Or.inl rfl) sc_product.nd rfl (Or.inl rfl)) pgs_nil)))
      (pss_one (ps_augS (pv 2) (pe_op op_add (pv 3) (pv 5)) get_list (pe_op op_mulW (pv 4) (pv 6)) ip_add set_list)))))
      (pss_one (ps_ret (pv 2)))))), ?_⟩
  have l1 : ∀ {σ : L2.St} {H2 : Hp}, Ex H H2 → σ[0]? = some (some v1) → EvD K Tt (tCB (rLenS K) (tCons (tVar 0) tNil)) σ H2 (.int (a.length : Int)) := fun e h => (ed_lenL (ew_v h (g1.ex e))).to (by rw [List.length_map])
  have l2 : ∀ {σ : L2.St} {H2 : Hp}, Ex H H2 → σ[1]? = some (some v2) → EvD K Tt (tCB (rLenS K) (tCons (tVar 1) tNil)) σ H2 (.int (b.length : Int)) := fun e h => (ed_lenL (ew_v h (g2.ex e))).to (by rw [List.length_map])
  refine q_when (et_or (etD (ed_eqI (l1 (Ex.refl H) rfl) ed_int)) fun _ => etD (ed_eqI (l2 (Ex.refl H) rfl) ed_int)) (fun hc H1 e1 => ?_) (fun hc H1 e1 => ?_)
  · have em : mul a b = [] := by
      unfold mul
      refine if_pos ?_
      rw [Bool.or_eq_true] at hc
      refine hc.imp (fun h => ?_) fun h => ?_
      · have := of_decide_eq_true h
        exact List.eq_nil_of_length_eq_zero (by omega)
      · have := of_decide_eq_true h
        exact List.eq_nil_of_length_eq_zero (by omega)
    rw [em] at q
    exact sd_retF (em_lst eda_nil (Nat.zero_le _)).lst e1 q
  · rw [Bool.or_eq_false_iff] at hc
    have ha0 : 0 < a.length := by
      have := of_decide_eq_false hc.1
      omega
    have hb0 : 0 < b.length := by
      have := of_decide_eq_false hc.2
      omega
    refine qd_asgM (K := K) (A := Tt) (ds := (List.replicate (a.length + b.length - 1) (0 : Int)).map .int) ((em_rep1 (k := ((a.length + b.length - 1 : Nat) : Int)) (em_lst (eda_cons ed_int eda_nil) (by show 1 ≤ 100000; omega)).lst ((ed_i0 (ed_i0 (l1 e1 rfl) (l2 e1 rfl)) ed_int).to ?_) (by omega) (by omega)).to ?_) fun p ws H2 hp e2 h2 g3 => ?_
    · congr 1
      omega
    · rw [Int.toNat_natCast, List.map_replicate]
    cases g3.ints
    have hpH : H p = none := fresh_back e1 hp
    have em : mul a b = mulAll (a.drop 0) 0 b (List.replicate (a.length + b.length - 1) 0) := by
      unfold mul
      rw [if_neg, List.drop_zero]
      rintro (h | h)
      · rw [h] at ha0
        exact absurd ha0 (Nat.lt_irrefl _)
      · rw [h] at hb0
        exact absurd hb0 (Nat.lt_irrefl _)
    refine sd_forEv (D := { nx := _, rt := Q }) (v := v1) (ds := a.map .int) (ev_v rfl) (g1.ex (e1.trans e2)) (fun i σ' H' => ∃ r x3 x4 x5 x6, σ' = [some v1, some v2, some (.ref p), x3, x4, x5, x6] ∧ Ex H H' ∧ H' p = some (.lst (r.map V.int)) ∧ r.length = a.length + b.length - 1 ∧ mul a b = mulAll (a.drop i) i b r)
      (fun H3 e3 => ⟨_, none, none, none, none, rfl, (e1.trans e2).trans e3, e3 _ _ h2, by rw [List.length_replicate], em⟩) (fun i σ' H' ⟨r, _, _, _, _, _, e, _⟩ => g1.ex e) ?_ ?_
    · rintro i d x σ' H' H3 hd ⟨r, x3, x4, x5, x6, rfl, e3, h3, hl, hm⟩ e4 gx
      obtain ⟨d1, h5, rfl⟩ := enum_get hd
      obtain ⟨hi, rfl⟩ := int_get h5
      refine sd_pair gx fun w1 w2 gw1 gw2 => ?_
      cases gw1
      cases gw2
      refine sd_forEv (v := v2) (ds := b.map .int) (ev_v rfl) (g2.ex (e3.trans e4)) (fun k σ' H' => ∃ r x5 x6, σ' = [some v1, some v2, some (.ref p), some (.int (i : Int)), some (.int a[i]), x5, x6] ∧ Ex H H' ∧ H' p = some (.lst (r.map V.int)) ∧ r.length = a.length + b.length - 1 ∧ mul a b = mulAll (a.drop (i + 1)) (i + 1) b (mulRow a[i] (b.drop k) (i + k) r))
        (fun H4 e5 => ⟨r, x5, x6, rfl, (e3.trans e4).trans e5, (e4.trans e5) _ _ h3, hl, by rw [hm, mulAll_step _ _ _ _ hi]; rfl⟩) (fun i σ' H' ⟨r, _, _, _, e, _⟩ => g2.ex e) ?_ ?_
      · rintro k d x σ' H' H4 hd ⟨r, x5, x6, rfl, e5, h5, hl, hm⟩ e6 gx
        obtain ⟨d1, h6, rfl⟩ := enum_get hd
        obtain ⟨hk, rfl⟩ := int_get h6
        refine sd_pair gx fun w1 w2 gw1 gw2 => ?_
        cases gw1
        cases gw2
        refine sd_augI (r := r) (j := i + k) (y := a[i] * b[k]) (e6 _ _ h5) (ev_v rfl) ((ed_i0 (ed_v rfl (.int _)) (ed_v rfl (.int _))).to rfl) (by omega) (ed_iC (ed_v rfl (.int _)) (ed_v rfl (.int _)) (sm_mul sa sb hi hk (by omega) (by omega) (by omega))) fun H5 e7 => ?_
        exact ⟨_, _, _, rfl, Ex.mut ((e5.trans e6).trans e7) hpH, upd_same, by rw [List.length_set]; exact hl, by rw [hm, mulRow_step _ _ _ _ _ hk]⟩
      · rintro σ' H' ⟨r, x5, x6, rfl, e5, h5, hl, hm⟩
        refine ⟨r, _, _, _, _, rfl, e5, h5, hl, ?_⟩
        rw [List.length_map, List.drop_length] at hm
        exact hm
    · rintro σ' H' ⟨r, x3, x4, x5, x6, rfl, e3, h3, hl, hm⟩
      rw [List.length_map, List.drop_length] at hm
      have hm : mul a b = r := hm
      rw [hm] at q
      exact ⟨_, rfl, rtN_ints q e3 hpH h3⟩
/-! ### divided -/
structure DivOk (a b q : List Int) : Prop where
  la : a.length ≤ 10000
  lb : b.length ≤ 10000
  lq : q.length ≤ 10000
  ta : Tr a
  tb : Tr b
  tq : Tr q
  b0 : b ≠ []
  sb : Sm 5000 b
  sq : Sm 5000 q
  ex : ∀ N, ev a N = ev q N * ev b N
abbrev spDiv (K : PySem.W.Frag) : Sp := SpN K (fun x : List Int × List Int × List Int => DivOk x.1 x.2.1 x.2.2) (fun x => [dP x.1, dP x.2.1]) (fun x => dP x.2.2)
theorem set_rep (q : List Int) (m : Nat) (h : m < q.length) : (List.replicate (m + 1) 0 ++ q.drop (m + 1)).set m q[m] = List.replicate m 0 ++ q.drop m := by
  rw [List.replicate_succ', List.append_assoc, List.set_append_right _ _ (by rw [List.length_replicate]; exact Nat.le_refl _), List.length_replicate, Nat.sub_self, List.drop_eq_getElem_cons h]
  rfl
theorem fk_divided (T : Tx K mg) : Fk P w K mg base 2 "divided" P_divided (spDiv K) := by
  refine T.d_divided.fk sc_divided (SpN.len fun _ => rfl) fun f cdv A outer s H vs Q E hr h => ?_
  obtain ⟨⟨a, b, q⟩, ⟨la, lb, lq, ta, tb, tq, b0, sb, sq, ex⟩, g, k⟩ := h
  obtain ⟨v1, v2, rfl, g1, g2⟩ := dn2 g
  dsimp only at la lb lq ta tb tq b0 sb sq ex k g1 g2
  refine ⟨_, (pss_cons (ps_set (i := 2) sc_divided.nd rfl (Or.inl rfl) (pe_callTy call_list_of (by rfl) T.list (by decide +kernel) (pa_cons (pv 0) pa_nil)))
      (pss_cons (ps_set (i := 3) sc_divided.nd rfl (Or.inl rfl) (pe_callB (call_max2 rfl) (by rfl) T.max (by decide +kernel) (pa_cons (pe_op op_add (pe_op op_sub (pe_callB call_len_seq (by rfl) T.len (by decide +kernel) (pa_cons (pv 0) pa_nil)) (pe_callB call_len_seq (by rfl) T.len (by decide +kernel) (pa_cons (pv 1) pa_nil))) pe_int) (pa_cons pe_int pa_nil))))
      (pss_cons (ps_set (i := 4) sc_divided.nd rfl (Or.inl rfl) (pe_op op_rep (pe_lst (pa_cons pe_int pa_nil)) (pv 3)))
      (pss_cons (ps_for PassesOwn.never rfl (pi_range3 (by rfl) T.range (pa_cons (pe_op op_sub (pv 3) pe_int) (pa_cons (pe_un un_neg pe_int) (pa_cons (pe_un un_neg pe_int) pa_nil)))) (pg_name (i := 5) (hf := Or.inl rfl) sc_divided.nd rfl (Or.inl rfl))
      (pss_cons (ps_set (i := 6) sc_divided.nd rfl (Or.inl rfl) (pe_op op_fdG (pe_ix (ix_listK (K := K) rfl) (pv 2) (pe_op op_sub (pe_op op_add (pv 5) (pe_callB call_len_seq (by rfl) T.len (by decide +kernel) (pa_cons (pv 1) pa_nil))) pe_int) (fun _ _ => rfl)) (pe_ix (ix_listK (K := K) rfl) (pv 1) (pe_un un_neg pe_int) (fun _ _ => rfl))))
      (pss_cons (ps_asg (pv 6) (pg_sub (pv 4) (pv 5) set_list))
      (pss_one (ps_for PassesOwn.never rfl (pi_enum (by rfl) T.enumerate (pa_cons (pv 1) pa_nil)) (pg_tup rfl (pgs_cons (pg_name (i := 7) (hf := Or.inl rfl) sc_divided.nd rfl (Or.inl rfl)) (pgs_cons (pg_name (i := 8) (hf := Or.inl rfl) sc_divided.nd rfl (Or.inl rfl)) pgs_nil)))
      (pss_one (ps_augS (pv 2) (pe_op op_add (pv 5) (pv 7)) get_list (pe_op op_mulW (pv 6) (pv 8)) ip_sub set_list)))))))
      (pss_one (ps_ret (pe_cal (fk_trimmed T) (hr.mono (by decide)) (by rfl) (pa_cons (pv 4) pa_nil)))))))), ?_⟩
  have hb1 : 0 < b.length := List.length_pos_iff.mpr b0
  have hdl := div_len ta tb tq b0 ex
  have hmany : ((max ((a.length : Int) - (b.length : Int) + 1) 0 : Int)) = (q.length : Int) := by
    rcases hdl with ⟨h1, h2⟩ | ⟨h1, h2⟩
    · omega
    · subst h1 h2
      simp only [List.length_nil]
      omega
  -- left = list(a); many; found
  refine qd_asgM (K := K) (A := Tt) (em_listL (ed_v rfl g1)) fun pl ws H1 hpl e1 h1 gl => ?_
  cases gl.ints
  refine qd_asgI (n := (q.length : Int)) ((ed_max2 (ed_i0 (ed_i0 (ed_lenL (ew_v rfl (g1.ex e1))) (ed_lenL (ew_v rfl (g2.ex e1)))) ed_int) ed_int).to ?_) fun H2 e2 => ?_
  · rw [List.length_map, List.length_map, hmany]
  refine qd_asgM (K := K) (A := Tt) (ds := (List.replicate q.length (0 : Int)).map .int) ((em_rep1 (em_lst (eda_cons ed_int eda_nil) (by show 1 ≤ 100000; omega)).lst (ed_v rfl (.int _)) (by omega) (by omega)).to ?_) fun pf ws H3 hpf e3 h3 g3 => ?_
  · rw [Int.toNat_natCast, List.map_replicate]
  cases g3.ints
  have hplH : H pl = none := hpl
  have hpfH : H pf = none := fresh_back (e1.trans e2) hpf
  have hpp : pl ≠ pf := fun e => by
    rw [← e, e2 _ _ h1] at hpf
    cases hpf
  refine qd_forR (K := K) (n := q.length) (c := fun t => (q.length : Int) - 1 + (t : Int) * (-1)) (er_3 (ed_i0 (ed_v rfl (.int _)) ed_int) (ed_neg ed_int) (ed_neg ed_int) ?_)
    (fun t σ' H' => ∃ l x5 x6 x7 x8, σ' = [some v1, some v2, some (.ref pl), some (.int (q.length : Int)), some (.ref pf), x5, x6, x7, x8] ∧ Ex H H' ∧ H' pl = some (.lst (l.map V.int)) ∧ l.length = a.length ∧ (∀ N, ev l N = ev (q.take (q.length - t)) N * ev b N) ∧
      H' pf = some (.lst ((List.replicate (q.length - t) 0 ++ q.drop (q.length - t)).map V.int)))
    (fun H4 e4 => ⟨a, none, none, none, none, rfl, ((e1.trans e2).trans e3).trans e4, ((e2.trans e3).trans e4) _ _ h1, rfl, by rw [Nat.sub_zero, List.take_length]; exact ex, by rw [Nat.sub_zero, List.drop_length, List.append_nil]; exact e4 _ _ h3⟩) ?_ ?_
  · have := RgC.neg (i := (q.length : Int) - 1) (j := -1) (by omega) (by omega) (by omega) (by omega)
    rw [show ((q.length : Int) - 1 - -1).toNat = q.length by omega] at this
    exact this
  · rintro t σ' H' H4 ht ⟨l, x5, x6, x7, x8, rfl, e4, h4, hl, hev, h5⟩ e5
    -- the place
    obtain ⟨m, hm⟩ : ∃ m, q.length - t = m + 1 := ⟨q.length - t - 1, by omega⟩
    have hc : (q.length : Int) - 1 + (t : Int) * (-1) = (m : Int) := by omega
    have hmq : m < q.length := by omega
    have hlen : m + b.length ≤ l.length := by
      rcases hdl with ⟨h1, h2⟩ | ⟨h1, h2⟩
      · omega
      · subst h1
        simp at hmq
    rw [hm] at hev h5
    show tSeq _ _ _ [some v1, some v2, some (.ref pl), some (.int (q.length : Int)), some (.ref pf), some (.int ((q.length : Int) - 1 + (t : Int) * (-1))), x6, x7, x8] H4
    rw [hc]
    have hbl : b.getLast b0 ≠ 0 := tr_last tb b0
    -- factor
    have gl4 : Dd K H4 (.ref pl) (dP l) := ints_dd (e5 _ _ h4)
    have hlog : (b.getLast b0).natAbs.log2 < 9000 := by
      have hz := sb _ (List.getLast_mem b0)
      exact Nat.lt_of_lt_of_le (PySem.Flt.log2_lt_of (by decide : 0 < 5000) hz) (by decide)
    have hlast : atD (b.map PyData.int) (-1) = some (.int (b.getLast b0)) := by
      refine atD_last ?_
      rw [List.getElem?_map, List.length_map, List.getLast_eq_getElem, List.getElem?_eq_getElem (by omega)]
      rfl
    have hidx : PyData.int ((m : Int) + ((b.map PyData.int).length : Int) - 1) = .int ((m + b.length - 1 : Nat) : Int) := by
      rw [List.length_map]
      congr 1
      omega
    refine qd_asgI (n := q[m]) ((ed_iC (ed_ixL (ed_v rfl gl4) ((ed_i0 (ed_i0 (ed_v rfl (.int _)) (ed_lenL (ew_v rfl (g2.ex (e4.trans e5))))) ed_int).to hidx) (at_int (by omega))) (ed_ixL (ed_v rfl (g2.ex (e4.trans e5))) (ed_neg ed_int) hlast) ⟨hbl, hlog⟩).to (by rw [div_coef b0 hmq hev, Int.mul_fdiv_cancel _ hbl])) fun H5 e6 => ?_
    -- found[at] = factor
    refine qd_setI (K := K) (r := List.replicate (m + 1) 0 ++ q.drop (m + 1)) (j := m) (y := q[m]) ((e5.trans e6) _ _ h5) (ev_v rfl) (ed_v rfl (.int _)) (by rw [List.length_append, List.length_replicate]; omega) (ed_v rfl (.int _)) fun H6 e7 => ?_
    rw [set_rep q m hmq]
    have eH6 : Ex H (upd H6 pf (.lst ((List.replicate m 0 ++ q.drop m).map V.int))) := Ex.mut (((e4.trans e5).trans e6).trans e7) hpfH
    have h7 : (upd H6 pf (.lst ((List.replicate m 0 ++ q.drop m).map V.int))) pl = some (.lst (l.map V.int)) := by
      rw [upd_ne hpp]
      exact ((e5.trans e6).trans e7) _ _ h4
    refine sd_forEv (v := v2) (ds := b.map .int) (ev_v rfl) (g2.ex eH6) (fun k σ' H' => ∃ r x7 x8, σ' = [some v1, some v2, some (.ref pl), some (.int (q.length : Int)), some (.ref pf), some (.int (m : Int)), some (.int q[m]), x7, x8] ∧ Ex H H' ∧ H' pl = some (.lst (r.map V.int)) ∧ r.length = a.length ∧
        mulRow (-q[m]) b m l = mulRow (-q[m]) (b.drop k) (m + k) r ∧ H' pf = some (.lst ((List.replicate m 0 ++ q.drop m).map V.int)))
      (fun H7 e8 => ⟨l, x7, x8, rfl, eH6.trans e8, e8 _ _ h7, hl, rfl, e8 _ _ upd_same⟩) (fun i σ' H' ⟨r, _, _, _, e, _⟩ => g2.ex e) ?_ ?_
    · rintro k d x σ' H' H7 hd ⟨r, x7, x8, rfl, e8, h8, hl8, hm8, h9⟩ e9 gx
      obtain ⟨d1, h10, rfl⟩ := enum_get hd
      obtain ⟨hk, rfl⟩ := int_get h10
      refine sd_pair gx fun w1 w2 gw1 gw2 => ?_
      cases gw1
      cases gw2
      refine sd_augI (f := fun i j => i - j) (r := r) (j := m + k) (y := q[m] * b[k]) (e9 _ _ h8) (ev_v rfl) ((ed_i0 (ed_v rfl (.int _)) (ed_v rfl (.int _))).to rfl) (by omega) (ed_iC (ed_v rfl (.int _)) (ed_v rfl (.int _)) (sm_mul sq sb hmq hk (by omega) (by omega) (by omega))) fun H8 e10 => ?_
      refine ⟨_, _, _, rfl, Ex.mut ((e8.trans e9).trans e10) hplH, upd_same, by rw [List.length_set]; exact hl8, ?_, by rw [upd_ne hpp.symm]; exact (e9.trans e10) _ _ h9⟩
      rw [hm8, mulRow_step _ _ _ _ _ hk, Int.neg_mul]
      rfl
    · rintro σ' H' ⟨r, x7, x8, rfl, e8, h8, hl8, hm8, h9⟩
      rw [List.length_map, List.drop_length] at hm8
      have hm8 : mulRow (-q[m]) b m l = r := hm8
      refine ⟨r, _, _, _, _, rfl, e8, h8, hl8, ?_, ?_⟩
      · rw [show q.length - (t + 1) = m by omega, ← hm8]
        exact div_next hmq hlen hev
      · rw [show q.length - (t + 1) = m by omega]
        exact h9
  · rintro σ' H' ⟨l, x5, x6, x7, x8, rfl, e4, h4, hl, hev, h5⟩
    rw [Nat.sub_self, List.drop_zero, List.replicate_zero, List.nil_append] at h5
    refine sd_retF ((SpN.ev q (ewa_cons (ew_v rfl (ints_dd h5)) ewa_nil) (by omega)).to ?_) e4 k
    unfold Tr at tq
    rw [tq]
end
end GK
set_option Elab.async false
set_option linter.all false
set_option maxRecDepth 100000
set_option maxHeartbeats 4000000
/-! GF3: with_pivot, step, determinant. -/
namespace GK
open PySem PySem.Spec PyProof.Rows L2 Evl GM
/-- a square matrix of polynomials -/
def dRow (n : Nat) (r : Nat → List Int) : PyData := .list ((List.range n).map fun k => dP (r k))
def dM (n : Nat) (M : Nat → Nat → List Int) : PyData := .list ((List.range n).map fun i => dRow n (M i))
theorem dM_at {n : Nat} {M : Nat → Nat → List Int} {i : Nat} (h : i < n) : atD ((List.range n).map fun i => dRow n (M i)) (i : Int) = some (dRow n (M i)) := atD_nat (range_get h)
theorem dRow_at {n : Nat} {r : Nat → List Int} {i : Nat} (h : i < n) : atD ((List.range n).map fun k => dP (r k)) (i : Int) = some (dP (r i)) := atD_nat (range_get h)
theorem dM_len (n : Nat) (M : Nat → Nat → List Int) : ((List.range n).map fun i => dRow n (M i)).length = n := by simp
section
variable {P : Program} {w : World} {K : PySem.W.Frag} {mg : Str → Option Value} {base : Heap}
section
variable {A : Addr → Prop} {σ : L2.St} {H : Hp} {ti tj : TE} {n : Nat} {M : Nat → Nat → List Int} {i j x : Nat} {v : V}
/-- matrix[i], matrix[i][j] -/
theorem ed_row (hv : σ[x]? = some (some v)) (g : Dn K A H v (dM n M)) (hi : EvD K A ti σ H (.int (i : Int))) (h : i < n) : EvD K A (tOp (rIxL K) (tVar x) ti) σ H (dRow n (M i)) := ed_ixL (ed_v hv g) hi (dM_at h)
theorem ed_ent (hv : σ[x]? = some (some v)) (g : Dn K A H v (dM n M)) (hi : EvD K A ti σ H (.int (i : Int))) (h : i < n) (hj : EvD K A tj σ H (.int (j : Int))) (h' : j < n) : EvD K A (tOp (rIxL K) (tOp (rIxL K) (tVar x) ti) tj) σ H (dP (M i j)) := ed_ixL (ed_row hv g hi h) hj (dRow_at h')
theorem ed_dim (hv : σ[x]? = some (some v)) (g : Dd K H v (dM n M)) : EvD K A (tCB (rLenS K) (tCons (tVar x) tNil)) σ H (.int (n : Int)) := (ed_lenL (ew_v hv g)).to (by rw [dM_len])
end
/-! ### with_pivot -/
def swp (M : Nat → Nat → List Int) (a r : Nat) : Nat → Nat → List Int := fun i => if i = r then M a else if i = a then M r else M i
/-- the first row from a on whose place is not nothing -/
inductive Piv (n : Nat) (M : Nat → Nat → List Int) (a : Nat) : Option Nat → Prop
  | no : (∀ r, a ≤ r → r < n → M r a = []) → Piv n M a none
  | yes {r : Nat} : a ≤ r → r < n → M r a ≠ [] → (∀ s, a ≤ s → s < r → M s a = []) → Piv n M a (some r)
def pivD (n : Nat) (M : Nat → Nat → List Int) (a : Nat) : Option Nat → PyData
  | none => .none
  | some r => dM n (swp M a r)
abbrev spPiv (K : PySem.W.Frag) : Sp := SpD K (fun x : Nat × (Nat → Nat → List Int) × Nat × Option Nat => x.2.2.1 < x.1 ∧ x.1 ≤ 100 ∧ Piv x.1 x.2.1 x.2.2.1 x.2.2.2) (fun x => [dM x.1 x.2.1, .int (x.2.2.1 : Int)]) (fun x => pivD x.1 x.2.1 x.2.2.1 x.2.2.2)
theorem fk_with_pivot (T : Tx K mg) : Fk P w K mg base 1 "with_pivot" P_with_pivot (spPiv K) := by
  refine T.d_with_pivot.fk sc_with_pivot (SpD.len fun _ => rfl) fun f cdv A outer s H vs Q E hr h => ?_
  obtain ⟨⟨n, M, a, o⟩, ⟨han, hn, hpv⟩, g, q⟩ := h
  obtain ⟨v1, v2, rfl, g1, g2⟩ := dn2 g
  dsimp only at han hn hpv q g1 g2
  cases g2
  refine ⟨_, (pss_cons (ps_for PassesOwn.never rfl (pi_range2 (by rfl) T.range (pa_cons (pv 1) (pa_cons (pe_callB call_len_seq (by rfl) T.len (by decide +kernel) (pa_cons (pv 0) pa_nil)) pa_nil))) (pg_name (i := 2) (hf := Or.inl rfl) sc_with_pivot.nd rfl (Or.inl rfl))
      (pss_one (ps_if (pt_truth (pe_ix (ix_listK (K := K) rfl) (pe_ix (ix_listK (K := K) rfl) (pv 0) (pv 2) (fun _ _ => rfl)) (pv 1) (fun _ _ => rfl)) (by intro _; rfl))
      (pss_cons (ps_set (i := 3) sc_with_pivot.nd rfl (Or.inl rfl) (pe_callTy call_list_of (by rfl) T.list (by decide +kernel) (pa_cons (pv 0) pa_nil)))
      (pss_cons (ps_asg (pe_ix (ix_listK (K := K) rfl) (pv 0) (pv 2) (fun _ _ => rfl)) (pg_sub (pv 3) (pv 1) set_list))
      (pss_cons (ps_asg (pe_ix (ix_listK (K := K) rfl) (pv 0) (pv 1) (fun _ _ => rfl)) (pg_sub (pv 3) (pv 2) set_list))
      (pss_one (ps_ret (pv 3))))))
      pss_nil)))
      (pss_one (ps_ret pe_non))), ?_⟩
  refine qd_forR (K := K) (n := n - a) (c := fun t => (a : Int) + (t : Int)) ?_ (fun t σ' H' => ∃ x2 x3, σ' = [some v1, some (.int (a : Int)), x2, x3] ∧ Ex H H' ∧ ∀ r, a ≤ r → r < a + t → M r a = []) (fun H1 e1 => ⟨none, none, rfl, e1, fun r h1 h2 => by omega⟩) ?_ ?_
  · have := er_2 (K := K) (σ := [some v1, some (.int (a : Int)), none, none]) (H := H) (ta := tVar 1) (tb := tCB (rLenS K) (tCons (tVar 0) tNil)) (i := (a : Int)) (n := (n : Int)) (ed_v rfl (.int _)) (ed_dim rfl g1) (by omega)
    rw [show ((n : Int) - (a : Int)).toNat = n - a by omega] at this
    exact this
  · rintro t σ' H' H1 ht ⟨x2, x3, rfl, e1, hz⟩ e2
    have hrn : a + t < n := by omega
    have gH := g1.ex (e1.trans e2)
    have ei : ((a : Int) + (t : Int)) = ((a + t : Nat) : Int) := by omega
    rw [ei]
    refine s_if (etTrL (ed_ent rfl gH (ed_v rfl (.int _)) hrn (ed_v rfl (.int _)) han).w) (fun hb H2 e3 => ?_) (fun hb H2 e3 => ?_)
    · have hne : M (a + t) a ≠ [] := fun z => by
        rw [z] at hb
        cases hb
      obtain rfl : o = some (a + t) := by
        cases hpv with
        | no h => exact absurd (h _ (by omega) hrn) hne
        | yes h1 h2 h3 h4 =>
          rename_i r
          congr 1
          rcases Nat.lt_trichotomy r (a + t) with z | z | z
          · exact absurd (hz _ h1 z) h3
          · exact z
          · exact absurd (h4 _ (by omega) z) hne
      -- moved = list(matrix)
      have gH2 := gH.ex e3
      refine qd_asgM (K := K) (A := fun a => H2 a ≠ none) (em_listL (ed_v rfl (gH2.there.weak fun _ z => z.2))) fun p ws H3 hp e4 h4 g4 => ?_
      have L0 : Lst K H3 p (fun a => a ≠ p) ((List.range n).map fun i => dRow n (M i)) := ⟨ws, h4, g4.weak fun _ z => z.2⟩
      have hH2p : ∀ a, H2 a ≠ none → a ≠ p := fun a z x => z (x ▸ hp)
      have hNew : ∀ (Hx : Hp), Hx p ≠ none → ∀ a, NewA (fun a => H2 a ≠ none) Hx Hx a → a ≠ p := fun Hx hx a z => z.elim (fun z => hH2p a z.1) fun z x => hx (x ▸ z)
      have hpe : H p = none := fresh_back ((e1.trans e2).trans e3) hp
      refine qd_setM (K := K) (j := a) L0 (fun _ z => z) (ed_row (A := fun a => H2 a ≠ none) rfl ((gH2.there.weak fun _ z => z.2).ex e4) (ed_v rfl (.int _)) hrn) (hNew H3 (by rw [h4]; simp)) (ev_v rfl) (ed_v rfl (.int _)) (by simpa using han) fun H4 vs4 ws4 e5 h5 L1 => ?_
      have gH5 : Dn K (fun a => H2 a ≠ none) (upd H4 p (.lst ws4)) v1 (dM n M) := ((gH2.there.weak fun _ z => z.2).ex (e4.trans e5)).upd (noT_l h5) hH2p
      have eH5 : Ex H (upd H4 p (.lst ws4)) := Ex.mut (((((e1.trans e2).trans e3).trans e4).trans e5)) hpe
      refine qd_setM (K := K) (j := a + t) L1 (fun _ z => z) (ed_row (A := fun a => H2 a ≠ none) rfl gH5 (ed_v rfl (.int _)) han) (hNew _ (by rw [upd_same]; simp)) (ev_v rfl) (ed_v rfl (.int _)) (by simpa using hrn) fun H5 vs5 ws5 e6 h6 L2 => ?_
      rw [range_set, range_set] at L2
      refine sd_ret (ew_v rfl L2.dd) fun v H6 e7 g7 => q v H6 ((Ex.mut (eH5.trans e6) hpe).trans e7) ?_
      have : pivD n M a (some (a + t)) = .list ((List.range n).map fun i => if i = a + t then dRow n (M a) else if i = a then dRow n (M (a + t)) else dRow n (M i)) := by
        show PyData.list _ = _
        congr 1
        refine List.map_congr_left fun i _ => ?_
        unfold swp
        by_cases h1 : i = a + t
        · rw [if_pos h1, if_pos h1]
        · rw [if_neg h1, if_neg h1]
          by_cases h2 : i = a
          · rw [if_pos h2, if_pos h2]
          · rw [if_neg h2, if_neg h2]
      rw [this]
      exact g7
    · refine ⟨_, _, rfl, (e1.trans e2).trans e3, fun r h1 h2 => ?_⟩
      rcases Nat.lt_or_ge r (a + t) with z | z
      · exact hz r h1 z
      · obtain rfl : r = a + t := by omega
        cases hM : M (a + t) a with
        | nil => rfl
        | cons c l =>
          rw [hM] at hb
          cases hb
  · rintro σ' H' ⟨x2, x3, rfl, e1, hz⟩
    obtain rfl : o = none := by
      cases hpv with
      | no h => rfl
      | yes h1 h2 h3 h4 => exact absurd (hz _ h1 (by omega)) h3
    exact sd_ret (ed_non (A := Tt)).w fun v H2 e2 g => q v H2 (e1.trans e2) g
/-! ### step -/
structure StepOk (n : Nat) (M : Nat → Nat → List Int) (a : Nat) (before : List Int) (Qt : Nat → Nat → List Int) : Prop where
  ln : ∀ i k, i < n → k < n → (M i k).length ≤ 2000
  sm : ∀ i k, i < n → k < n → Sm 5000 (M i k)
  dv : ∀ i k, a < i → i < n → a < k → k < n → DivOk (less (mul (M i k) (M a a)) (mul (M i a) (M a k))) before (Qt i k)
def nxt (M : Nat → Nat → List Int) (Qt : Nat → Nat → List Int) (a : Nat) : Nat → Nat → List Int := fun i k => if a < i then (if k = a then [] else if a < k then Qt i k else M i k) else M i k
abbrev spStep (K : PySem.W.Frag) : Sp := SpD K (fun x : Nat × (Nat → Nat → List Int) × Nat × List Int × (Nat → Nat → List Int) => x.2.2.1 < x.1 ∧ x.1 ≤ 100 ∧ StepOk x.1 x.2.1 x.2.2.1 x.2.2.2.1 x.2.2.2.2)
  (fun x => [dM x.1 x.2.1, .int (x.2.2.1 : Int), dP x.2.2.2.1]) (fun x => dM x.1 (nxt x.2.1 x.2.2.2.2 x.2.2.1))
theorem map_range_congr {α : Type} {n : Nat} {f g : Nat → α} (h : ∀ i, i < n → f i = g i) : (List.range n).map f = (List.range n).map g := List.map_congr_left fun i hi => h i (List.mem_range.mp hi)
theorem fk_step (T : Tx K mg) : Fk P w K mg base 3 "step" P_step (spStep K) := by
  refine T.d_step.fk sc_step (SpD.len fun _ => rfl) fun f cdv A outer s H vs Q E hr h => ?_
  obtain ⟨⟨n, M, a, before, Qt⟩, ⟨han, hn, ok⟩, g, q⟩ := h
  obtain ⟨v1, v2, v3, rfl, g1, g2, g3⟩ := dn3 g
  dsimp only at han hn ok q g1 g2 g3
  cases g2
  refine ⟨_, (pss_cons (ps_set (i := 3) sc_step.nd rfl (Or.inl rfl) (pe_ix (ix_listK (K := K) rfl) (pe_ix (ix_listK (K := K) rfl) (pv 0) (pv 1) (fun _ _ => rfl)) (pv 1) (fun _ _ => rfl)))
      (pss_cons (ps_set (i := 4) sc_step.nd rfl (Or.inl rfl) (pe_callTy call_list_of (by rfl) T.list (by decide +kernel) (pa_cons (pv 0) pa_nil)))
      (pss_cons (ps_for PassesOwn.never rfl (pi_range2 (by rfl) T.range (pa_cons (pe_op op_add (pv 1) pe_int) (pa_cons (pe_callB call_len_seq (by rfl) T.len (by decide +kernel) (pa_cons (pv 0) pa_nil)) pa_nil))) (pg_name (i := 5) (hf := Or.inl rfl) sc_step.nd rfl (Or.inl rfl))
      (pss_cons (ps_set (i := 6) sc_step.nd rfl (Or.inl rfl) (pe_ix (ix_listK (K := K) rfl) (pe_ix (ix_listK (K := K) rfl) (pv 0) (pv 5) (fun _ _ => rfl)) (pv 1) (fun _ _ => rfl)))
      (pss_cons (ps_set (i := 7) sc_step.nd rfl (Or.inl rfl) (pe_callTy call_list_of (by rfl) T.list (by decide +kernel) (pa_cons (pe_ix (ix_listK (K := K) rfl) (pv 0) (pv 5) (fun _ _ => rfl)) pa_nil)))
      (pss_cons (ps_for PassesOwn.never rfl (pi_range2 (by rfl) T.range (pa_cons (pe_op op_add (pv 1) pe_int) (pa_cons (pe_callB call_len_seq (by rfl) T.len (by decide +kernel) (pa_cons (pv 0) pa_nil)) pa_nil))) (pg_name (i := 8) (hf := Or.inl rfl) sc_step.nd rfl (Or.inl rfl))
      (pss_one (ps_asg (pe_cal (fk_divided T) (hr.mono (by decide)) (by rfl) (pa_cons (pe_cal (fk_less T) (hr.mono (by decide)) (by rfl) (pa_cons (pe_cal (fk_product T) (hr.mono (by decide)) (by rfl) (pa_cons (pe_ix (ix_listK (K := K) rfl) (pe_ix (ix_listK (K := K) rfl) (pv 0) (pv 5) (fun _ _ => rfl)) (pv 8) (fun _ _ => rfl)) (pa_cons (pv 3) pa_nil))) (pa_cons (pe_cal (fk_product T) (hr.mono (by decide)) (by rfl) (pa_cons (pv 6) (pa_cons (pe_ix (ix_listK (K := K) rfl) (pe_ix (ix_listK (K := K) rfl) (pv 0) (pv 1) (fun _ _ => rfl)) (pv 8) (fun _ _ => rfl)) pa_nil))) pa_nil))) (pa_cons (pv 2) pa_nil))) (pg_sub (pv 7) (pv 8) set_list))))
      (pss_cons (ps_asg (pe_lst pa_nil) (pg_sub (pv 7) (pv 1) set_list))
      (pss_one (ps_asg (pv 7) (pg_sub (pv 4) (pv 5) set_list))))))))
      (pss_one (ps_ret (pv 4)))))), ?_⟩
  -- pivot = matrix[at][at]
  refine qd_asg (K := K) (ed_ent (A := Tt) rfl g1 (ed_v rfl (.int _)) han (ed_v rfl (.int _)) han).w fun vp H1 e1 gp => ?_
  -- made = list(matrix)
  have gM1 : Dn K (fun a => H1 a ≠ none) H1 v1 (dM n M) := (g1.ex e1).there.weak fun _ z => z.2
  refine qd_asgM (K := K) (A := fun a => H1 a ≠ none) (em_listL (ed_v rfl gM1)) fun p ws H2 hp e2 h2 g4 => ?_
  have hpH : H p = none := fresh_back e1 hp
  have hH1p : ∀ a, H1 a ≠ none → a ≠ p := fun a z x => z (x ▸ hp)
  have L0 : Lst K H2 p (fun a => a ≠ p) ((List.range n).map fun i => dRow n (M i)) := ⟨ws, h2, g4.weak fun _ z => z.2⟩
  have rng : ∀ (σ : L2.St) (H' : Hp), Ex H H' → σ[0]? = some (some v1) → σ[1]? = some (some (.int (a : Int))) →
      EvR K (iRng2 (tCons (tOp (rI0 fun i j => .int (i + j)) (tVar 1) (tC (.int 1))) (tCons (tCB (rLenS K) (tCons (tVar 0) tNil)) tNil))) σ H' (n - (a + 1)) (fun t => (a : Int) + 1 + (t : Int)) := fun σ H' e h0 h1 => by
    have := er_2 (K := K) (σ := σ) (H := H') (i := (a : Int) + 1) (n := (n : Int)) (ed_i0 (g := fun i j => i + j) (ed_v h1 (.int _)) (ed_int (i := 1))) (ed_dim h0 (g1.ex e)) (by omega)
    rw [show ((n : Int) - ((a : Int) + 1)).toNat = n - (a + 1) by omega] at this
    exact this
  refine qd_forR (K := K) (rng _ _ (e1.trans e2) rfl rfl) (fun t σ' H' => ∃ x5 x6 x7 x8, σ' = [some v1, some (.int (a : Int)), some v3, some vp, some (.ref p), x5, x6, x7, x8] ∧ Ex H1 H' ∧ Lst K H' p (fun a => a ≠ p) ((List.range n).map fun i => if a < i ∧ i ≤ a + t then dRow n (nxt M Qt a i) else dRow n (M i)))
    (fun H3 e3 => ⟨none, none, none, none, rfl, e2.trans e3, ?_⟩) ?_ ?_
  · rw [map_range_congr (g := fun i => dRow n (M i)) fun i hi => if_neg (by omega)]
    exact L0.ex e3
  · rintro t σ' H' H3 ht ⟨x5, x6, x7, x8, rfl, e3, L⟩ e4
    obtain ⟨i, hi⟩ : ∃ i, i = a + 1 + t := ⟨_, rfl⟩
    have hin : i < n := by omega
    rw [show (a : Int) + 1 + (t : Int) = (i : Int) by omega]
    have eH3 := e3.trans e4
    have gM3 := gM1.ex eH3
    -- first = matrix[i][at]
    refine qd_asg (K := K) (ed_ent (A := Tt) rfl gM3.dd (ed_v rfl (.int _)) hin (ed_v rfl (.int _)) han).w fun vf H4 e5 gf => ?_
    -- row = list(matrix[i])
    refine qd_asgM (K := K) (A := fun a => H1 a ≠ none) (em_listL (ed_row rfl (gM3.ex e5) (ed_v rfl (.int _)) hin)) fun r ws3 H5 hr5 e6 h6 g6 => ?_
    have hp4 : H4 p ≠ none := fun z => by
      obtain ⟨vs, z1, _⟩ := L.ex (e4.trans e5)
      rw [z1] at z
      cases z
    have hrp : r ≠ p := fun z => hp4 (z ▸ hr5)
    have hrH1 : H1 r = none := fresh_back (eH3.trans e5) hr5
    have nw : ∀ a, NewA (fun a => H1 a ≠ none) H4 H4 a → a ≠ p := fun a z => z.elim (fun z => hH1p a z.1) fun z x => hp4 (x ▸ z)
    have R0 : Lst K H5 r (fun a => a ≠ r ∧ a ≠ p) ((List.range n).map fun k => dP (M i k)) := ⟨ws3, h6, g6.weak fun a z => ⟨z.2, nw a z.1⟩⟩
    have L5 := L.ex ((e4.trans e5).trans e6)
    have eH5 : Ex H1 H5 := (eH3.trans e5).trans e6
    refine qd_forR (K := K) (rng _ _ (e1.trans eH5) rfl rfl) (fun t' σ' H' => ∃ x8, σ' = [some v1, some (.int (a : Int)), some v3, some vp, some (.ref p), some (.int (i : Int)), some vf, some (.ref r), x8] ∧ Ex H4 H' ∧
        Lst K H' r (fun a => a ≠ r ∧ a ≠ p) ((List.range n).map fun k => if a < k ∧ k ≤ a + t' then dP (Qt i k) else dP (M i k)))
      (fun H6 e7 => ⟨x8, rfl, e6.trans e7, ?_⟩) ?_ ?_
    · rw [map_range_congr (g := fun k => dP (M i k)) fun k hk => if_neg (by omega)]
      exact R0.ex e7
    · rintro t' σ' H' H6 ht' ⟨y8, rfl, e7, R⟩ e8
      obtain ⟨k, hk⟩ : ∃ k, k = a + 1 + t' := ⟨_, rfl⟩
      have hkn : k < n := by omega
      rw [show (a : Int) + 1 + (t' : Int) = (k : Int) by omega]
      have eH6 : Ex H1 H6 := (eH3.trans e5).trans (e7.trans e8)
      have gM6 := (gM1.ex eH6).dd
      have dvo := ok.dv i k (by omega) hin (by omega) hkn
      have ml : ∀ {i k i' k' : Nat}, i < n → k < n → i' < n → k' < n → (mul (M i k) (M i' k')).length ≤ 10000 := fun h1 h2 h3 h4 => by
        refine Nat.le_trans (mul_len _ _) ?_
        have l1 := ok.ln _ _ h1 h2
        have l2 := ok.ln _ _ h3 h4
        omega
      have p1 := SpN.ev (K := K) (A := Tt) (H := H6) (σ := [some v1, some (.int (a : Int)), some v3, some vp, some (.ref p), some (.int (i : Int)), some vf, some (.ref r), some (.int (k : Int))])
        (pre := fun x : List Int × List Int => x.1.length ≤ 10000 ∧ x.2.length ≤ 10000 ∧ Sm 5000 x.1 ∧ Sm 5000 x.2) (args := fun x => [dP x.1, dP x.2]) (res := fun x => dP (mul x.1 x.2)) (M i k, M a a)
        (ewa_cons (ed_ent (A := Tt) (x := 0) rfl gM6 (ti := tVar 5) (ed_v rfl (.int _)) hin (tj := tVar 8) (ed_v rfl (.int _)) hkn).w (ewa_cons (ew_v (i := 3) rfl (gp.ex eH6)) ewa_nil))
        ⟨by have := ok.ln i k hin hkn; dsimp only; omega, by have := ok.ln a a han han; dsimp only; omega, ok.sm i k hin hkn, ok.sm a a han han⟩
      have p2 := SpN.ev (K := K) (A := Tt) (H := H6) (σ := [some v1, some (.int (a : Int)), some v3, some vp, some (.ref p), some (.int (i : Int)), some vf, some (.ref r), some (.int (k : Int))])
        (pre := fun x : List Int × List Int => x.1.length ≤ 10000 ∧ x.2.length ≤ 10000 ∧ Sm 5000 x.1 ∧ Sm 5000 x.2) (args := fun x => [dP x.1, dP x.2]) (res := fun x => dP (mul x.1 x.2)) (M i a, M a k)
        (ewa_cons (ew_v (i := 6) rfl (gf.ex (e5.trans (e7.trans e8) |> fun _ => e7.trans e8))) (ewa_cons (ed_ent (A := Tt) (x := 0) rfl gM6 (ti := tVar 1) (ed_v rfl (.int _)) han (tj := tVar 8) (ed_v rfl (.int _)) hkn).w ewa_nil))
        ⟨by have := ok.ln i a hin han; dsimp only; omega, by have := ok.ln a k han hkn; dsimp only; omega, ok.sm i a hin han, ok.sm a k han hkn⟩
      have p3 := SpN.ev (K := K) (A := Tt) (H := H6) (pre := fun x : List Int × List Int => x.1.length ≤ 10000 ∧ x.2.length ≤ 10000) (args := fun x => [dP x.1, dP x.2]) (res := fun x => dP (less x.1 x.2)) (mul (M i k) (M a a), mul (M i a) (M a k))
        (ewa_cons p1.w (ewa_cons p2.w ewa_nil)) ⟨ml hin hkn han han, ml hin han han hkn⟩
      have p4 := SpN.ev (K := K) (A := fun _ => False) (H := H6) (pre := fun x : List Int × List Int × List Int => DivOk x.1 x.2.1 x.2.2) (args := fun x => [dP x.1, dP x.2.1]) (res := fun x => dP x.2.2) (less (mul (M i k) (M a a)) (mul (M i a) (M a k)), before, Qt i k)
        (ewa_cons p3.w (ewa_cons (ew_v (i := 2) rfl (g3.ex (e1.trans eH6))) ewa_nil)) dvo
      have R6 := R.ex e8
      obtain ⟨vs6, hr6, _⟩ := id R6
      have hp6 : H6 p ≠ none := ex_there (e7.trans e8) hp4
      refine sd_setM (K := K) (j := k) R6 (fun _ z => z.1) p4 (fun a z => z.elim (fun z => z.1.elim) fun z => ⟨fun x => (by rw [x, hr6] at z; cases z), fun x => hp6 (x ▸ z)⟩) (ev_v rfl) (ed_v rfl (.int _)) (by simpa using hkn) fun H7 vs7 ws7 e9 h9 R7 => ?_
      refine ⟨_, rfl, Ex.mut ((e7.trans e8).trans e9) hr5, ?_⟩
      rw [range_set, map_range_congr (g := fun x => if a < x ∧ x ≤ a + (t' + 1) then dP (Qt i x) else dP (M i x))] at R7
      · exact R7
      · intro x hx
        by_cases h1 : x = k
        · rw [if_pos h1, h1, if_pos (by omega)]
        · rw [if_neg h1]
          by_cases h2 : a < x ∧ x ≤ a + t'
          · rw [if_pos h2, if_pos (by omega)]
          · rw [if_neg h2, if_neg (by omega)]
    · rintro σ' H' ⟨y8, rfl, e7, R⟩
      -- row[at] = []
      have hp7 : H' p ≠ none := ex_there e7 hp4
      obtain ⟨vs6, hr6, _⟩ := id R
      refine qd_setM (K := K) (j := a) R (fun _ z => z.1) (em_lst (A := fun _ => False) eda_nil (Nat.zero_le _)).lst (fun a z => z.elim (fun z => z.1.elim) fun z => ⟨fun x => (by rw [x, hr6] at z; cases z), fun x => hp7 (x ▸ z)⟩) (ev_v rfl) (ed_v rfl (.int _)) (by simpa using han) fun H7 vs7 ws7 e8 h8 R7 => ?_
      have eq : ∀ x, x < n → (if x = a then PyData.list [] else if a < x ∧ x ≤ a + (n - (a + 1)) then dP (Qt i x) else dP (M i x)) = dP (nxt M Qt a i x) := fun x hx => by
        unfold nxt
        rw [if_pos (show a < i by omega)]
        by_cases h1 : x = a
        · rw [if_pos h1, if_pos h1]
          rfl
        · rw [if_neg h1, if_neg h1]
          by_cases h2 : a < x
          · rw [if_pos (by omega), if_pos h2]
          · rw [if_neg (by omega), if_neg h2]
      rw [range_set, map_range_congr eq] at R7
      -- made[i] = row
      have L7 : Lst K (upd H7 r (.lst ws7)) p (fun a => a ≠ p) ((List.range n).map fun i => if a < i ∧ i ≤ a + t then dRow n (nxt M Qt a i) else dRow n (M i)) := by
        obtain ⟨vs4, z1, z2⟩ := L.ex (e4.trans e5)
        have L4 : Lst K H4 p (fun a => a ≠ p ∧ H4 a ≠ none) ((List.range n).map fun i => if a < i ∧ i ≤ a + t then dRow n (nxt M Qt a i) else dRow n (M i)) := ⟨vs4, z1, z2.there⟩
        exact ((L4.ex (e7.trans e8)).upd (noT_l h8) (Ne.symm hrp) fun a z x => z.2 (x ▸ hr5)).weak fun a z => z.1
      obtain ⟨us7, hr7, dr7⟩ := R7
      have gr : Dn K (fun a => a ≠ p) (upd H7 r (.lst ws7)) (.ref r) (dRow n (nxt M Qt a i)) := .lst (sqA_at hr7 hrp) (dr7.weak fun a z => z.2)
      have eH7 : Ex H1 (upd H7 r (.lst ws7)) := Ex.mut ((eH3.trans e5).trans (e7.trans e8)) hrH1
      have hp8 : (upd H7 r (.lst ws7)) p ≠ none := by
        obtain ⟨us, z, _⟩ := L7
        rw [z]
        simp
      refine sd_setM (K := K) (j := i) L7 (fun _ z => z) (ed_v (A := fun a => a ≠ p) rfl gr) (fun a z => z.elim (fun z => z.1) fun z x => hp8 (x ▸ z)) (ev_v rfl) (ed_v rfl (.int _)) (by simpa using hin) fun H8 vs8 ws8 e9 h9 L8 => ?_
      refine ⟨_, _, _, _, rfl, Ex.mut (eH7.trans e9) hp, ?_⟩
      rw [range_set, map_range_congr (g := fun x => if a < x ∧ x ≤ a + (t + 1) then dRow n (nxt M Qt a x) else dRow n (M x))] at L8
      · exact L8
      · intro x hx
        by_cases h1 : x = i
        · rw [if_pos h1, h1, if_pos (by omega)]
        · rw [if_neg h1]
          by_cases h2 : a < x ∧ x ≤ a + t
          · rw [if_pos h2, if_pos (by omega)]
          · rw [if_neg h2, if_neg (by omega)]
  · rintro σ' H' ⟨x5, x6, x7, x8, rfl, e3, L⟩
    rw [map_range_congr (g := fun x => dRow n (nxt M Qt a x))] at L
    · exact sd_retW (ew_v rfl L.dd) (e1.trans e3) q
    · intro x hx
      by_cases h2 : a < x
      · rw [if_pos (by omega)]
      · rw [if_neg (by omega)]
        congr 1
        funext k
        unfold nxt
        rw [if_neg h2]
/-! ### determinant -/
/-- the run of the elimination -/
inductive Run (n : Nat) : Nat → (Nat → Nat → List Int) → List Int → List Int → Prop
  | done {M before} : Run n n M before before
  | zero {a M before} : a < n → Piv n M a none → Run n a M before []
  | next {a M before r Qt d} : a < n → Piv n M a (some r) → StepOk n (swp M a r) a before Qt → Run n (a + 1) (nxt (swp M a r) Qt a) (swp M a r a a) d → Run n a M before d
theorem Run.le {n a : Nat} {M : Nat → Nat → List Int} {b d : List Int} (h : Run n a M b d) : a ≤ n := by
  cases h <;> omega
abbrev spDet (K : PySem.W.Frag) : Sp := SpD K (fun x : Nat × (Nat → Nat → List Int) × List Int => x.1 ≤ 100 ∧ Run x.1 0 x.2.1 [1] x.2.2) (fun x => [dM x.1 x.2.1]) (fun x => dP x.2.2)
theorem fk_determinant (T : Tx K mg) : Fk P w K mg base 4 "determinant" P_determinant (spDet K) := by
  refine T.d_determinant.fk sc_determinant (SpD.len fun _ => rfl) fun f cdv A outer s H vs Q E hr h => ?_
  obtain ⟨⟨n, M, d⟩, ⟨hn, run⟩, g, q⟩ := h
  obtain ⟨v1, rfl, g1⟩ := dn1 g
  dsimp only at hn run q g1
  refine ⟨_, (pss_cons (ps_set (i := 1) sc_determinant.nd rfl (Or.inl rfl) (pe_lst (pa_cons pe_int pa_nil)))
      (pss_cons (ps_for PassesOwn.never rfl (pi_range1 (by rfl) T.range (pa_cons (pe_callB call_len_seq (by rfl) T.len (by decide +kernel) (pa_cons (pv 0) pa_nil)) pa_nil)) (pg_name (i := 2) (hf := Or.inl rfl) sc_determinant.nd rfl (Or.inl rfl))
      (pss_cons (ps_set (i := 0) sc_determinant.nd rfl (Or.inl rfl) (pe_cal (fk_with_pivot T) (hr.mono (by decide)) (by rfl) (pa_cons (pv 0) (pa_cons (pv 2) pa_nil))))
      (pss_cons (ps_if (pt_cmpR op_isN (pv 0) pe_non (nomark _))
      (pss_one (ps_ret (pe_lst pa_nil)))
      pss_nil)
      (pss_cons (ps_set (i := 3) sc_determinant.nd rfl (Or.inl rfl) (pe_ix (ix_listK (K := K) rfl) (pe_ix (ix_listK (K := K) rfl) (pv 0) (pv 2) (fun _ _ => rfl)) (pv 2) (fun _ _ => rfl)))
      (pss_cons (ps_set (i := 0) sc_determinant.nd rfl (Or.inl rfl) (pe_cal (fk_step T) (hr.mono (by decide)) (by rfl) (pa_cons (pv 0) (pa_cons (pv 2) (pa_cons (pv 1) pa_nil)))))
      (pss_one (ps_set (i := 1) sc_determinant.nd rfl (Or.inl rfl) (pv 3))))))))
      (pss_one (ps_ret (pv 1))))), ?_⟩
  refine qd_asg (K := K) (em_lst (A := Tt) (eda_cons ed_int eda_nil) (by show 1 ≤ 100000; omega)).w fun vb H1 e1 gb => ?_
  refine qd_forR (K := K) (n := n) (c := fun t => (t : Int)) ?_ (fun a σ' H' => ∃ vm vb x2 x3 M b, σ' = [some vm, some vb, x2, x3] ∧ Ex H H' ∧ Dd K H' vm (dM n M) ∧ Dd K H' vb (dP b) ∧ Run n a M b d)
    (fun H2 e2 => ⟨v1, vb, none, none, M, [1], rfl, e1.trans e2, g1.ex (e1.trans e2), gb.ex e2, run⟩) ?_ ?_
  · have := er_1 (K := K) (σ := [some v1, some vb, none, none]) (H := H1) (n := (n : Int)) (ed_dim (x := 0) rfl (g1.ex e1)) (by omega)
    rw [Int.toNat_natCast] at this
    exact this
  · rintro a σ' H' H2 ha ⟨vm, vb, x2, x3, M, b, rfl, e2, gm, gb, run⟩ e3
    cases run with
    | done => omega
    | zero _ hp =>
      refine qd_asg (K := K) (SpD.ev (n, M, a, none) (ewa_cons (ew_v rfl (gm.ex e3)) (ewa_cons (ew_v (d := .int (a : Int)) rfl (.int _)) ewa_nil)) ⟨ha, hn, hp⟩) fun v H3 e4 gv => ?_
      cases gv
      refine q_when (et_isN rfl) (fun _ H4 e5 => ?_) (fun hb => ?_)
      · exact sd_retW (em_lst (A := Tt) eda_nil (Nat.zero_le _)).w (((e2.trans e3).trans e4).trans e5) q
      · cases hb
    | @next _ _ _ r Qt _ _ hp ok run' =>
      refine qd_asg (K := K) (SpD.ev (n, M, a, some r) (ewa_cons (ew_v rfl (gm.ex e3)) (ewa_cons (ew_v (d := .int (a : Int)) rfl (.int _)) ewa_nil)) ⟨ha, hn, hp⟩) fun v H3 e4 gv => ?_
      have gv : Dd K H3 v (dM n (swp M a r)) := gv
      refine q_when (et_isN rfl) (fun hb => ?_) (fun _ H4 e5 => ?_)
      · obtain ⟨p, xs, rfl, _⟩ := gv.list_inv
        cases hb
      · refine qd_asg (K := K) (ed_ent (A := Tt) (i := a) (j := a) rfl (gv.ex e5) (ed_v rfl (.int _)) ha (ed_v rfl (.int _)) ha).w fun vp H5 e6 gp => ?_
        refine qd_asg (K := K) (SpD.ev (n, swp M a r, a, b, Qt) (ewa_cons (ew_v rfl (gv.ex (e5.trans e6))) (ewa_cons (ew_v (d := .int (a : Int)) rfl (.int _)) (ewa_cons (ew_v (d := dP b) rfl (gb.ex (((e3.trans e4).trans e5).trans e6))) ewa_nil))) ⟨ha, hn, ok⟩) fun vn H6 e7 gn => ?_
        refine sd_asg (K := K) (ew_v rfl (gp.ex e7)) fun vq H7 e8 gq => ?_
        exact ⟨vn, vq, _, _, _, _, rfl, (((((e2.trans e3).trans e4).trans e5).trans e6).trans e7).trans e8, gn.ex e8, gq, run'⟩
  · rintro σ' H' ⟨vm, vb, x2, x3, M, b, rfl, e2, gm, gb, run⟩
    cases run with
    | done => exact sd_retW (ew_v rfl gb) e2 q
    | zero h _ => omega
    | next h _ _ _ => omega
end
end GK
set_option Elab.async false
set_option linter.all false
set_option maxRecDepth 100000
set_option maxHeartbeats 4000000
/-! GF4: the defs of series, and the law's own. -/
namespace GK
open PySem PySem.Spec PyProof.Rows L2 Evl GM
/-! ### dicts from ints to ints -/
def bk (b : Ser) : List (Key × V) := b.map fun p => (Sum.inl p.1, V.int p.2)
theorem valV_bk (k : Int) : ∀ b : Ser, valV (bk b) (Sum.inl k : Key) = if k ∈ keys b then some (V.int (bget b k)) else none
  | [] => rfl
  | p :: b => by
    have ih := valV_bk k b
    by_cases h : p.1 = k
    · rw [bget_cons_pos h, if_pos (by simp [keys, h])]
      exact valV_pos (p := (Sum.inl p.1, V.int p.2)) (r := bk b) (congrArg Sum.inl h)
    · rw [bget_cons_neg h]
      refine (valV_neg (p := (Sum.inl p.1, V.int p.2)) (r := bk b) (fun e => h (Sum.inl.inj e))).trans (ih.trans ?_)
      have h' : ¬ k = p.1 := fun e => h e.symm
      have hc : (k ∈ keys (p :: b)) = (k ∈ keys b) := propext ⟨fun z => (List.mem_cons.mp (show k ∈ p.1 :: keys b from z)).elim (fun e => absurd e h') id, fun z => List.mem_cons_of_mem _ z⟩
      simp only [hc]
theorem any_bk (b : Ser) (k : Int) : ((bk b).any fun kv => decide (kv.1 = (Sum.inl k : Key))) = b.any fun p => decide (p.1 = k) := by
  unfold bk
  rw [List.any_map]
  congr 1
  funext p
  show decide ((Sum.inl p.1 : Key) = Sum.inl k) = decide (p.1 = k)
  by_cases h : p.1 = k
  · rw [decide_eq_true h, decide_eq_true (congrArg Sum.inl h)]
  · rw [decide_eq_false h, decide_eq_false fun e => h (Sum.inl.inj e)]
theorem putK_bk (b : Ser) (k v : Int) : putK (bk b) (Sum.inl k : Key) (V.int v) = bk (bput b k v) := by
  unfold putK bput
  rw [any_bk]
  by_cases h : (b.any fun p => decide (p.1 = k)) = true
  · rw [if_pos h, if_pos h]
    unfold bk
    rw [List.map_map, List.map_map]
    refine List.map_congr_left fun p _ => ?_
    show (if (Sum.inl p.1 : Key) = Sum.inl k then ((Sum.inl p.1 : Key), V.int v) else (Sum.inl p.1, V.int p.2)) = ((Sum.inl (if p.1 = k then (p.1, v) else p).1 : Key), V.int (if p.1 = k then (p.1, v) else p).2)
    by_cases hp : p.1 = k
    · rw [if_pos hp, if_pos (congrArg Sum.inl hp)]
    · rw [if_neg hp, if_neg fun e => hp (Sum.inl.inj e)]
  · rw [if_neg h, if_neg h]
    unfold bk
    rw [List.map_append]
    rfl
section
variable {K : PySem.W.Frag} {A : Addr → Prop} {σ : L2.St} {H : Hp} {td ty te : TE} {p : Addr} {b : Ser} {k c : Int} {D : Ends}
theorem dget_bk (hp : Rd H p (.dK (bk b))) : DGet H p (.int k) (if k ∈ keys b then some (V.int (bget b k)) else none) := .inl ⟨bk b, Sum.inl k, hp, rfl, (valV_bk k b).symm⟩
/-- found[k], the key there -/
theorem ed_dget (hp : Rd H p (.dK (bk b))) (ho : Ev td σ H (.ref p)) (hk : EvD K A ty σ H (.int k)) (hm : k ∈ keys b) : EvD K A (tDGet td ty) σ H (.int (bget b k)) := fun H1 e Q q =>
  ho H1 e _ fun H2 e2 => ed_ev_i hk H2 (e.trans e2) _ fun H3 e3 => ⟨p, V.int (bget b k), rfl, (by
    have := dget_bk (H := H3) (k := k) (ex_rd ((e.trans e2).trans e3) hp)
    rw [if_pos hm] at this
    exact this), q _ H3 (e2.trans e3) (.int _)⟩
/-- found.get(k, 0) -/
theorem ed_dget2 (hp : H p = some (.dK (bk b))) (ho : Ev td σ H (.ref p)) (hk : EvD K A ty σ H (.int k)) : EvD K A (tDGet2 td ty (tC (.int 0))) σ H (.int (bget b k)) := fun H1 e Q q =>
  ho H1 e _ fun H2 e2 => ⟨p, rfl, .inl ⟨bk b, .inl ((e.trans e2) _ _ hp)⟩, ed_ev_i hk H2 (e.trans e2) _ fun H3 e3 => ⟨_, dget_bk (k := k) (.inl (((e.trans e2).trans e3) _ _ hp)), (by
    by_cases hm : k ∈ keys b
    · rw [if_pos hm]
      exact q _ H3 (e2.trans e3) (.int _)
    · rw [if_neg hm]
      have := q (.int 0) H3 (e2.trans e3)
      rw [bget_none hm] at this
      exact this (.int _))⟩⟩
/-- found[k] = found.get(k, 0) + c -/
theorem sd_badd (hp : H p = some (.dK (bk b))) (ho : Ev td σ H (.ref p)) (hk : EvD K Tt ty σ H (.int k)) (hc : EvD K Tt te σ H (.int c)) (hl : b.length ≤ 1000000) (kn : ∀ H1, Ex H H1 → D.nx σ (upd H1 p (.dK (bk (badd b k c))))) :
    sDPut td ty (tOp (rI0 fun i j => .int (i + j)) (tDGet2 td ty (tC (.int 0))) te) D σ H :=
  ed_ev_i (ed_i0 (ed_dget2 hp ho hk) hc) H (Ex.refl H) _ fun H1 e1 => ho H1 e1 _ fun H2 e2 => ed_ev_i hk H2 (e1.trans e2) _ fun H3 e3 => ⟨p, _, rfl, DPut.k (k := Sum.inl k) (((e1.trans e2).trans e3) _ _ hp) (Nat.lt_of_le_of_lt (by unfold bk; rw [List.length_map]; exact hl) (by decide)), (by
    rw [putK_bk]
    exact kn H3 ((e1.trans e2).trans e3))⟩
theorem em_keys (hp : H p = some (.dK (bk b))) (ho : Ev td σ H (.ref p)) : EvM K A (tCB rListD (tCons td tNil)) σ H ((keys b).map .int) := fun H1 e Q q =>
  ho H1 e _ fun H2 e2 => ⟨p, bk b, rfl, (e.trans e2) _ _ hp, fun r hr => q r _ _ (fresh_back e2 hr) (e2.trans (Ex.new hr)) upd_same (by
    have : (bk b).map (fun kv => kV kv.1) = (keys b).map V.int := by
      unfold bk keys
      rw [List.map_map, List.map_map]
      rfl
    rw [this]
    exact DnAll.of_ints _)⟩
end
section
variable {P : Program} {w : World} {K : PySem.W.Frag} {mg : Str → Option Value} {base : Heap}
/-! ### series_of -/
def spSof (K : PySem.W.Frag) : Sp := fun vs H Q _ => ∃ (p : Addr) (b : Ser), vs = [.ref p] ∧ H p = some (.dK (bk b)) ∧ (keys b).Nodup ∧ b.length ≤ 50000 ∧ RetD K (dS (told b)) H Q
theorem keys_len (b : Ser) : (keys b).length = b.length := List.length_map _
theorem fk_series_of (T : Tx K mg) : Fk P w K mg base 1 "series_of" P_series_of (spSof K) := by
  refine T.d_series_of.fk sc_series_of (fun vs H Q E ⟨p, b, h, _⟩ => by rw [h]; rfl) fun f cdv A outer s H vs Q E hr h => ?_
  obtain ⟨p, b, rfl, hp, hn, hl, q⟩ := h
  have hu := hu_of hr
  refine ⟨_, (pss_one (ps_ret (pe_callTy call_tuple_of (by rfl) T.tuple (by decide +kernel) (pa_cons (pe_lc (own := [("exponent", 1)]) (g := (gName 1)) rfl sc_series_of.nd (pi_list (pe_callB cr_sortedI (by rfl) T.sorted (by decide +kernel) (pa_cons (pe_callTy (call_list_dK rfl) (by rfl) T.list (by decide +kernel) (pa_cons (pv 0) pa_nil)) pa_nil))) (blkOk_by (own := [("exponent", 1)]) (N := N_series_of) (sc := defScope s_series_of) (by decide +kernel)) (fun _ _ _ _ _ => (pg_name (i := 1) (hf := Or.inr rfl) sc_series_of.nd rfl (Or.inl rfl))) (fun _ _ _ _ _ => pts_one (pt_cmpR op_ne (pe_dget hu (pv 0) (pv 1) (fun _ _ => rfl)) pe_int (nomark _))) (fun _ _ _ _ _ => (pe_tup (pa_cons (pv 1) (pa_cons (pe_dget hu (pv 0) (pv 1) (fun _ _ => rfl)) pa_nil))))) pa_nil)))), ?_⟩
  obtain ⟨ks, hks⟩ : ∃ ks, ks = (keys b).mergeSort (fun a b => decide (a ≤ b)) := ⟨_, rfl⟩
  have hkp : ks.Perm (keys b) := hks ▸ List.mergeSort_perm _ _
  have hksrt : ks.Pairwise (· ≤ ·) := by
    have := List.pairwise_mergeSort (le := fun a b : Int => decide (a ≤ b)) (fun a b c h1 h2 => by simp at *; omega) (fun a b => by simp; omega) (keys b)
    rw [← hks] at this
    exact this.imp fun h => of_decide_eq_true h
  have hsrc : EvW K (tCB (rSortedI K) (tCons (tCB rListD (tCons (tVar 0) tNil)) tNil)) (L2.start N_series_of [V.ref p]) H (.list (ks.map .int)) :=
    (em_sorted (A := Tt) (ns := keys b) (ms := ks) (em_keys (A := Tt) hp (ev_v rfl)).w fun ns' h1 h2 => (h1.trans hkp.symm).eq_of_pairwise (fun a b _ _ h1 h2 => Int.le_antisymm h1 h2) h2 hksrt).w
  refine sd_retW ((ed_tupL (em_lc1 (A := Tt) (l := ks) (enc := PyData.int) (ei_l hsrc) (by rw [hkp.length_eq, keys_len]; exact hl) (fun e => !decide (bget b e = 0)) (fun e => dPr (e, bget b e)) (fun x => rfl) (fun e he x H1 e1 gx => ?_) (fun e he x H1 e1 gx hf => ?_)).lst).w.to ?_) (Ex.refl H) q
  · cases gx
    exact etD (K := K) (ed_neI (ed_dget (.inl (e1 _ _ hp)) (ev_v rfl) (ed_v rfl (.int _)) (hkp.mem_iff.mp he)) ed_int)
  · cases gx
    exact ed_tup (eda_cons (ed_v rfl (.int _)) (eda_cons (ed_dget (.inl (e1 _ _ hp)) (ev_v rfl) (ed_v rfl (.int _)) (hkp.mem_iff.mp he)) eda_nil)) (by show 2 ≤ 100000; omega)
  · rw [← sof_eq hn hkp hksrt]
    unfold dS sof
    rw [List.map_map]
    rfl
/-! ### series_plus, series_times -/
theorem pr_get {l : Ser} {i : Nat} {d : PyData} (h : (l.map dPr)[i]? = some d) : ∃ hi : i < l.length, d = dPr l[i] := by
  have hi := (List.getElem?_eq_some_iff.mp h).1
  rw [List.length_map] at hi
  refine ⟨hi, ?_⟩
  rw [List.getElem?_map, List.getElem?_eq_getElem hi] at h
  exact (Option.some.inj h).symm
theorem plusB_step (l b : Ser) (i : Nat) (h : i < l.length) : plusB (l.drop i) b = plusB (l.drop (i + 1)) (badd b l[i].1 l[i].2) := by
  rw [List.drop_eq_getElem_cons h]
  rfl
theorem timesI_step (p : Int × Int) (l b : Ser) (i : Nat) (h : i < l.length) : timesI p (l.drop i) b = timesI p (l.drop (i + 1)) (badd b (p.1 + l[i].1) (p.2 * l[i].2)) := by
  rw [List.drop_eq_getElem_cons h]
  rfl
theorem timesB_step (l t b : Ser) (i : Nat) (h : i < l.length) : timesB (l.drop i) t b = timesB (l.drop (i + 1)) t (timesI l[i] t b) := by
  rw [List.drop_eq_getElem_cons h]
  rfl
def SmS (n : Nat) (s : Ser) : Prop := ∀ p ∈ s, p.2.natAbs < 2 ^ n
abbrev spPlus (K : PySem.W.Frag) : Sp := SpD K (fun x : Ser × Ser => x.1.length ≤ 20000 ∧ x.2.length ≤ 20000) (fun x => [dS x.1, dS x.2]) (fun x => dS (sPlus x.1 x.2))
abbrev spTimes (K : PySem.W.Frag) : Sp := SpD K (fun x : Ser × Ser => x.1.length ≤ 200 ∧ x.2.length ≤ 200 ∧ SmS 5000 x.1 ∧ SmS 5000 x.2) (fun x => [dS x.1, dS x.2]) (fun x => dS (sTimes x.1 x.2))
theorem sms_mul {s t : Ser} (hs : SmS 5000 s) (ht : SmS 5000 t) {i j : Nat} (hi : i < s.length) (hj : j < t.length) : CMulW s[i].2 t[j].2 :=
  wide_mul (hs _ (List.getElem_mem hi)) (ht _ (List.getElem_mem hj)) (by decide) (by decide) (by decide)
theorem fk_series_plus (T : Tx K mg) : Fk P w K mg base 2 "series_plus" P_series_plus (spPlus K) := by
  refine T.d_series_plus.fk sc_series_plus (SpD.len fun _ => rfl) fun f cdv A outer s H vs Q E hr h => ?_
  obtain ⟨⟨a, b⟩, ⟨ha, hb⟩, g, q⟩ := h
  obtain ⟨v1, v2, rfl, g1, g2⟩ := dn2 g
  dsimp only at ha hb q g1 g2
  have hu := hu_of hr
  refine ⟨_, (pss_cons (ps_set (i := 2) sc_series_plus.nd rfl (Or.inl rfl) (pe_dnewK))
      (pss_cons (ps_for PassesOwn.never rfl (pi_tup (pe_op op_catA (pe_callTy call_tuple_of (by rfl) T.tuple (by decide +kernel) (pa_cons (pv 0) pa_nil)) (pe_callTy call_tuple_of (by rfl) T.tuple (by decide +kernel) (pa_cons (pv 1) pa_nil)))) (pg_tup rfl (pgs_cons (pg_name (i := 3) (hf := Or.inl rfl) sc_series_plus.nd rfl (Or.inl rfl)) (pgs_cons (pg_name (i := 4) (hf := Or.inl rfl) sc_series_plus.nd rfl (Or.inl rfl)) pgs_nil)))
      (pss_one (ps_dput hu (pv 2) (pv 3) (pe_op op_add (pe_dget2 hu (pv 2) (pv 3) pe_int ⟨rfl, rfl, rfl, rfl⟩) (pv 4)) rfl)))
      (pss_one (ps_ret (pe_cal (fk_series_of T) (hr.mono (by decide)) (by rfl) (pa_cons (pv 2) pa_nil)))))), ?_⟩
  intro p hp
  have e0 : Ex H (upd H p (.dK [])) := Ex.new hp
  refine sd_forT (K := K) (D := { nx := _, rt := Q }) (ds := (a ++ b).map dPr) ((ed_catA (A := Tt) (ed_tupT (ed_v rfl (g1.ex e0))) (ed_tupT (ed_v rfl (g2.ex e0))) ?_).to (by rw [List.map_append])).w
    (fun v i σ' H' => ∃ x3 x4, σ' = [some v1, some v2, some (.ref p), x3, x4] ∧ Ex H H' ∧ Dd K H' v (dS (a ++ b)) ∧ ∃ bb, H' p = some (.dK (bk bb)) ∧ (keys bb).Nodup ∧ bb.length ≤ i ∧ plusB (a ++ b) [] = plusB ((a ++ b).drop i) bb)
    (fun v H1 e1 gv => ⟨none, none, rfl, e0.trans e1, gv, [], e1 _ _ upd_same, List.nodup_nil, Nat.le_refl _, by rw [List.drop_zero]⟩) (fun v i σ' H' ⟨_, _, _, _, gv, _⟩ => gv) ?_ ?_
  · rw [List.length_map, List.length_map]
    omega
  · rintro v i d x σ' H' H2 hd ⟨x3, x4, rfl, e1, gv, bb, hb1, hnd, hlb, hpl⟩ e2 gx
    obtain ⟨hi, rfl⟩ := pr_get hd
    refine sd_pair gx fun w1 w2 gw1 gw2 => ?_
    cases gw1
    cases gw2
    rw [List.length_append] at hi
    refine sd_badd (K := K) (e2 _ _ hb1) (ev_v rfl) (ed_v rfl (.int _)) (ed_v rfl (.int _)) (by omega) fun H3 e3 => ?_
    refine ⟨_, _, rfl, Ex.mut ((e1.trans e2).trans e3) hp, (gv.ex (e2.trans e3)).updN (noL_dS _) (noT_k ((e2.trans e3) _ _ hb1)), _, upd_same, nodup_add hnd, ?_, ?_⟩
    · have := len_add bb (a ++ b)[i].1 (a ++ b)[i].2
      omega
    · rw [hpl, plusB_step _ _ _ (by rw [List.length_append]; exact hi)]
  · rintro v σ' H' ⟨x3, x4, rfl, e1, gv, bb, hb1, hnd, hlb, hpl⟩
    rw [List.length_map, List.drop_length] at hpl
    have hpl : plusB (a ++ b) [] = bb := hpl
    rw [List.length_map, List.length_append] at hlb
    refine ⟨_, rfl, p, bb, rfl, hb1, hnd, by omega, fun v H2 e2 g2 => q v H2 (e1.trans e2) ?_⟩
    show Dd K H2 v (dS (sPlus a b))
    unfold sPlus
    rw [hpl]
    exact g2
theorem fk_series_times (T : Tx K mg) : Fk P w K mg base 2 "series_times" P_series_times (spTimes K) := by
  refine T.d_series_times.fk sc_series_times (SpD.len fun _ => rfl) fun f cdv A outer s H vs Q E hr h => ?_
  obtain ⟨⟨a, b⟩, ⟨ha, hb, sa, sb⟩, g, q⟩ := h
  obtain ⟨v1, v2, rfl, g1, g2⟩ := dn2 g
  dsimp only at ha hb sa sb q g1 g2
  have hu := hu_of hr
  refine ⟨_, (pss_cons (ps_set (i := 2) sc_series_times.nd rfl (Or.inl rfl) (pe_dnewK))
      (pss_cons (ps_for PassesOwn.never rfl (pi_tup (pv 0)) (pg_tup rfl (pgs_cons (pg_name (i := 3) (hf := Or.inl rfl) sc_series_times.nd rfl (Or.inl rfl)) (pgs_cons (pg_name (i := 4) (hf := Or.inl rfl) sc_series_times.nd rfl (Or.inl rfl)) pgs_nil)))
      (pss_one (ps_for PassesOwn.never rfl (pi_tup (pv 1)) (pg_tup rfl (pgs_cons (pg_name (i := 5) (hf := Or.inl rfl) sc_series_times.nd rfl (Or.inl rfl)) (pgs_cons (pg_name (i := 6) (hf := Or.inl rfl) sc_series_times.nd rfl (Or.inl rfl)) pgs_nil)))
      (pss_one (ps_dput hu (pv 2) (pe_op op_add (pv 3) (pv 5)) (pe_op op_add (pe_dget2 hu (pv 2) (pe_op op_add (pv 3) (pv 5)) pe_int ⟨rfl, rfl, rfl, rfl⟩) (pe_op op_mulW (pv 4) (pv 6))) rfl)))))
      (pss_one (ps_ret (pe_cal (fk_series_of T) (hr.mono (by decide)) (by rfl) (pa_cons (pv 2) pa_nil)))))), ?_⟩
  intro p hp
  have e0 : Ex H (upd H p (.dK [])) := Ex.new hp
  have hab : a.length * b.length ≤ 40000 := Nat.mul_le_mul ha hb
  refine sd_forTv (K := K) (D := { nx := _, rt := Q }) (v := v1) (ds := a.map dPr) (ev_v rfl) (g1.ex e0)
    (fun i σ' H' => ∃ x3 x4 x5 x6, σ' = [some v1, some v2, some (.ref p), x3, x4, x5, x6] ∧ Ex H H' ∧ ∃ bb, H' p = some (.dK (bk bb)) ∧ (keys bb).Nodup ∧ bb.length ≤ i * b.length ∧ timesB a b [] = timesB (a.drop i) b bb)
    (fun H1 e1 => ⟨none, none, none, none, rfl, e0.trans e1, [], e1 _ _ upd_same, List.nodup_nil, Nat.zero_le _, by rw [List.drop_zero]⟩) (fun i σ' H' ⟨_, _, _, _, _, e, _⟩ => g1.ex e) ?_ ?_
  · rintro i d x σ' H' H2 hd ⟨x3, x4, x5, x6, rfl, e1, bb, hb1, hnd, hlb, hpl⟩ e2 gx
    obtain ⟨hi, rfl⟩ := pr_get hd
    refine sd_pair gx fun w1 w2 gw1 gw2 => ?_
    cases gw1
    cases gw2
    have hi1 : (i + 1) * b.length ≤ a.length * b.length := Nat.mul_le_mul_right _ hi
    rw [Nat.add_mul, Nat.one_mul] at hi1
    refine sd_forTv (K := K) (v := v2) (ds := b.map dPr) (ev_v rfl) (g2.ex (e1.trans e2))
      (fun j σ' H' => ∃ x5 x6, σ' = [some v1, some v2, some (.ref p), some (.int a[i].1), some (.int a[i].2), x5, x6] ∧ Ex H H' ∧ ∃ bb, H' p = some (.dK (bk bb)) ∧ (keys bb).Nodup ∧ bb.length ≤ i * b.length + j ∧ timesB a b [] = timesB (a.drop (i + 1)) b (timesI a[i] (b.drop j) bb))
      (fun H3 e3 => ⟨x5, x6, rfl, (e1.trans e2).trans e3, bb, (e2.trans e3) _ _ hb1, hnd, by omega, by rw [hpl, timesB_step _ _ _ _ hi]; rfl⟩) (fun i σ' H' ⟨_, _, _, e, _⟩ => g2.ex e) ?_ ?_
    · rintro j d x σ' H' H3 hd ⟨x5, x6, rfl, e3, bb, hb1, hnd, hlb, hpl⟩ e4 gx
      obtain ⟨hj, rfl⟩ := pr_get hd
      refine sd_pair gx fun w1 w2 gw1 gw2 => ?_
      cases gw1
      cases gw2
      refine sd_badd (K := K) (k := a[i].1 + b[j].1) (c := a[i].2 * b[j].2) (e4 _ _ hb1) (ev_v rfl) (ed_i0 (ed_v rfl (.int _)) (ed_v rfl (.int _))) (ed_iC (ed_v rfl (.int _)) (ed_v rfl (.int _)) (sms_mul sa sb hi hj)) (by omega) fun H4 e5 => ?_
      refine ⟨_, _, rfl, Ex.mut ((e3.trans e4).trans e5) hp, _, upd_same, nodup_add hnd, ?_, ?_⟩
      · have := len_add bb (a[i].1 + b[j].1) (a[i].2 * b[j].2)
        omega
      · rw [hpl, timesI_step _ _ _ _ hj]
    · rintro σ' H' ⟨x5, x6, rfl, e3, bb, hb1, hnd, hlb, hpl⟩
      refine ⟨_, _, _, _, rfl, e3, bb, hb1, hnd, ?_, ?_⟩
      · rw [List.length_map] at hlb
        rw [Nat.add_mul, Nat.one_mul]
        exact hlb
      · rw [List.length_map, List.drop_length] at hpl
        exact hpl
  · rintro σ' H' ⟨x3, x4, x5, x6, rfl, e1, bb, hb1, hnd, hlb, hpl⟩
    rw [List.length_map, List.drop_length] at hpl
    have hpl : timesB a b [] = bb := hpl
    rw [List.length_map] at hlb
    refine ⟨_, rfl, p, bb, rfl, hb1, hnd, by omega, fun v H2 e2 g2 => q v H2 (e1.trans e2) ?_⟩
    show Dd K H2 v (dS (sTimes a b))
    unfold sTimes
    rw [hpl]
    exact g2
/-! ### the law's own: told, plus, times -/
abbrev spTold (K : PySem.W.Frag) : Sp := spSof K
theorem turns_k {d : Addr} {o : Obj} {b : Ser} : Turns K (Itk d o (bk b)) (fun H => H d = some (.frz o (.dK (bk b)))) ((keys b).map .int) := fun H g => by
  have hl : (bk b).length = (keys b).length := by unfold bk keys; rw [List.length_map, List.length_map]
  refine ⟨⟨g, by rw [List.length_map, hl]; exact Nat.le_refl _⟩, fun i e hi => ?_⟩
  obtain ⟨h1, rfl⟩ := int_get hi
  refine ⟨⟨g, by rw [hl]; exact h1⟩, fun x H' y => ?_⟩
  obtain ⟨rfl, k, v, e1, rfl⟩ := y
  have hb : i < b.length := by rw [← keys_len]; exact h1
  have e2 : (bk b)[i]? = some (Sum.inl b[i].1, V.int b[i].2) := by
    unfold bk
    rw [List.getElem?_map, List.getElem?_eq_getElem hb]
    rfl
  rw [e2] at e1
  cases e1
  have e3 : (keys b)[i] = b[i].1 := by simp [keys]
  rw [e3]
  exact ⟨Ex.refl _, .int _⟩
theorem told_step (b f : Ser) (i : Nat) (h : i < b.length) : (b.drop i).foldl (fun f p => if p.2 ≠ 0 then insS f p else f) f = (b.drop (i + 1)).foldl (fun f p => if p.2 ≠ 0 then insS f p else f) (if b[i].2 ≠ 0 then insS f b[i] else f) := by
  rw [List.drop_eq_getElem_cons h]
  rfl
theorem bget_at {b : Ser} (hn : (keys b).Nodup) {i : Nat} (h : i < b.length) : bget b b[i].1 = b[i].2 := ((mem_book hn (e := b[i].1) (c := b[i].2)).mp (List.getElem_mem h)).2
theorem fk_law_told (T : Tx K mg) : Fk P w K mg base 1 "_law_told" P_law_told (spTold K) := by
  refine T.d_law_told.fk sc_law_told (fun vs H Q E ⟨p, b, h, _⟩ => by rw [h]; rfl) fun f cdv A outer s H vs Q E hr h => ?_
  obtain ⟨d, b, rfl, hd, hn, hl, q⟩ := h
  have hu := hu_of hr
  refine ⟨_, (pss_cons (ps_set (i := 1) sc_law_told.nd rfl (Or.inl rfl) (pe_lst pa_nil))
      (pss_cons (ps_lock (ps_for PassesOwn.never rfl (pi_keys (pv 0)) (pg_name (i := 2) (hf := Or.inl rfl) sc_law_told.nd rfl (Or.inr rfl))
      (pss_one (ps_if (pt_cmpR op_ne (pe_dget hu (pv 0) (pv 2) (fun _ _ => rfl)) pe_int (nomark _))
      (pss_one (ps_expr (pe_bm PySem.F.plainAttrs_list PySem.F.slot_list_insert PySem.F.type_list_insert mt_insert (pv 1) (pa_cons (pe_callB call_len_seq (by rfl) T.len (by decide +kernel) (pa_cons (pe_lc (own := [("_law_pair", 3)]) (g := (gName 3)) rfl sc_law_told.nd (pi_list (pv 1)) (blkOk_by (own := [("_law_pair", 3)]) (N := N_law_told) (sc := defScope s_law_told) (by decide +kernel)) (fun _ _ _ _ _ => (pg_name (i := 3) (hf := Or.inr rfl) sc_law_told.nd rfl (Or.inl rfl))) (fun _ _ _ _ _ => pts_one (pt_cmpR op_lt (pe_ix (ix_tupK (K := K) rfl) (pv 3) pe_int (fun _ _ => rfl)) (pv 2) (nomark _))) (fun _ _ _ _ _ => (pv 3))) pa_nil)) (pa_cons (pe_tup (pa_cons (pv 2) (pa_cons (pe_dget hu (pv 0) (pv 2) (fun _ _ => rfl)) pa_nil))) pa_nil)))))
      pss_nil))))
      (pss_one (ps_ret (pe_callTy call_tuple_of (by rfl) T.tuple (by decide +kernel) (pa_cons (pv 1) pa_nil)))))), ?_⟩
  refine qd_asgM (K := K) (A := Tt) (em_lst eda_nil (Nat.zero_le _)) fun l ws H1 hl0 e1 h1 g1 => ?_
  cases g1.nil_inv
  have hld : l ≠ d := fun e => by
    rw [e, hd] at hl0
    cases hl0
  refine ⟨d, .dK (bk b), e1 _ _ hd, trivial, fun od => ?_⟩
  -- the base: the heap ahead of the list, the dict locked
  have hB : ∀ {H' : Hp}, Ex (upd H d (.frz od (.dK (bk b)))) H' → H' d = some (.frz od (.dK (bk b))) := fun e => e _ _ upd_same
  have hlB : (upd H d (.frz od (.dK (bk b)))) l = none := by rw [upd_ne hld]; exact hl0
  have e2 : Ex (upd H d (.frz od (.dK (bk b)))) (upd H1 d (.frz od (.dK (bk b)))) := fun a o ha => by
    by_cases h : a = d
    · rw [h, upd_same] at ha ⊢
      exact ha
    · rw [upd_ne h] at ha ⊢
      exact e1 a o ha
  refine ⟨_, rfl, d, od, rfl, .inl ⟨bk b, upd_same, ?_⟩⟩
  refine loopJ (K := K) turns_k (fun i σ' H' => ∃ x2 x3, σ' = [some (.ref d), some (.ref l), x2, x3] ∧ Ex (upd H d (.frz od (.dK (bk b)))) H' ∧ ∃ vs fs, H' l = some (.lst vs) ∧ DnAll K Tt H' vs (fs.map dPr) ∧ fs.length ≤ i ∧ told b = (b.drop i).foldl (fun f p => if p.2 ≠ 0 then insS f p else f) fs)
    ⟨none, none, rfl, e2, [], [], by rw [upd_ne hld]; exact h1, .nil, Nat.le_refl _, by rw [List.drop_zero]; rfl⟩ (fun i σ' H' ⟨_, _, _, e, _⟩ => hB e) ?_ ?_
  · rintro i dd x σ' H' H2 hdd ⟨x2, x3, rfl, e3, vs, fs, hv, gv, hfl, htl⟩ e4 gx
    obtain ⟨hi, rfl⟩ := int_get hdd
    cases gx
    rw [keys_len] at hi
    have hk : (keys b)[i]'(by rw [keys_len]; exact hi) = b[i].1 := by simp [keys]
    rw [hk]
    have hmem : b[i].1 ∈ keys b := List.mem_map.mpr ⟨b[i], List.getElem_mem hi, rfl⟩
    have hrd : ∀ {H' : Hp}, Ex (upd H d (.frz od (.dK (bk b)))) H' → Rd H' d (.dK (bk b)) := fun e => .inr ⟨od, hB e⟩
    rw [told_step _ _ _ hi] at htl
    have g2 : ∀ {A : Addr → Prop} {σ : L2.St} {H3 : Hp}, Ex (upd H d (.frz od (.dK (bk b)))) H3 → σ[0]? = some (some (.ref d)) → σ[2]? = some (some (.int b[i].1)) → EvD K A (tDGet (tVar 0) (tVar 2)) σ H3 (.int b[i].2) := fun e s0 s2 =>
      (ed_dget (hrd e) (ev_v s0) (ed_v s2 (.int _)) hmem).to (by rw [bget_at hn hi])
    refine s_when (etD (K := K) (ed_neI (g2 (e3.trans e4) rfl rfl) ed_int)) (fun hb H3 e5 => ?_) (fun hb H3 e5 => ?_)
    · have hne : b[i].2 ≠ 0 := fun z => by
        rw [z] at hb
        cases hb
      rw [if_pos hne] at htl
      have eH3 := (e3.trans e4).trans e5
      have hv3 := (e4.trans e5) _ _ hv
      have gv3 := gv.ex (e4.trans e5)
      refine ⟨_, rfl, .inl ⟨rfl, _, sq_of hv3⟩, ?_⟩
      have cmp := em_lc1 (K := K) (A := Tt) (σ := [some (.ref d), some (.ref l), some (.int b[i].1), x3]) (H := H3) (vs := [3]) (j := 3) (l := fs) (enc := dPr) (wi := iList K (tVar 1)) (t := tTest (tOp (rI0 fun i j => .bl (decide (i < j))) (tOp (rIxT K) (tVar 3) (tC (.int 0))) (tVar 2))) (te := tVar 3)
        (ei_l (ew_v rfl (.lst (sqA_at hv3 trivial) gv3))) (by omega) (fun p => decide (p.1 < b[i].1)) dPr (fun x => rfl)
        (fun p _ x H4 e6 gx => etD (K := K) (ed_b0 (ed_ixT (ds := [.int p.1, .int p.2]) (d := .int p.1) (ed_v rfl (gx.any (noL_dPr p))) ed_int rfl) (ed_v rfl (.int _)))) (fun p _ x H4 e6 gx _ => ed_v rfl (gx.any (noL_dPr p)))
      refine (ed_lenL (A := Tt) cmp.w) H3 (Ex.refl _) _ fun vn H4 e6 gn => ?_
      have gn := gn.int_inv
      subst gn
      refine (ed_tup (A := Tt) (ds := [.int b[i].1, .int b[i].2]) (eda_cons (ed_v rfl (.int _)) (eda_cons (g2 (eH3.trans e6) rfl rfl) eda_nil)) (by show 2 ≤ 100000; omega)) H4 (Ex.refl _) _ fun vt H5 e7 gt => ?_
      have hv5 := (e6.trans e7) _ _ hv3
      have gv5 := gv3.ex (e6.trans e7)
      rw [List.length_map]
      refine ⟨l, vs, _, vt, rfl, rfl, hv5, ?_, by omega, ?_, ?_⟩
      · rw [gv5.len, List.length_map]
        exact sz_lt (by omega)
      · have := List.length_filter_le (fun p : Int × Int => decide (p.1 < b[i].1)) fs
        omega
      · rw [Int.toNat_natCast]
        refine ⟨_, _, rfl, Ex.mut ((eH3.trans e6).trans e7) hlB, _, insS fs b[i], upd_same, ?_, ?_, htl⟩
        · have key : DnAll K Tt H5 (vs.take (fs.filter fun p => decide (p.1 < b[i].1)).length ++ [vt] ++ vs.drop (fs.filter fun p => decide (p.1 < b[i].1)).length) ((insS fs b[i]).map dPr) := by
            unfold insS
            rw [List.map_append, List.map_append, List.map_take, List.map_drop]
            exact ((gv5.take _).app (.one (gt.any (noL_dPr b[i])))).app (gv5.drop _)
          exact key.updN (noLs_dPr _) (noT_l hv5)
        · unfold insS
          simp only [List.length_append, List.length_take, List.length_drop, List.length_singleton]
          omega
    · have hz : ¬ b[i].2 ≠ 0 := fun z => by
        rw [Bool.not_eq_false', decide_eq_true_eq] at hb
        exact z hb
      rw [if_neg hz] at htl
      exact ⟨_, _, rfl, (e3.trans e4).trans e5, vs, fs, (e4.trans e5) _ _ hv, gv.ex (e4.trans e5), by omega, htl⟩
  · rintro σ' H' ⟨x2, x3, rfl, e3, vs, fs, hv, gv, hfl, htl⟩
    rw [List.length_map, keys_len, List.drop_length] at htl
    have htl : told b = fs := htl
    refine ⟨hB e3, ?_⟩
    have eF : Ex H (upd H' d (.dK (bk b))) := fun a o ha => by
      by_cases h : a = d
      · rw [h] at ha ⊢
        rw [upd_same, ← ha, hd]
      · rw [upd_ne h]
        refine e3 a o ?_
        rw [upd_ne h]
        exact ha
    have hv' : (upd H' d (.dK (bk b))) l = some (.lst vs) := by
      rw [upd_ne hld]
      exact hv
    have gv' : DnAll K Tt (upd H' d (.dK (bk b))) vs (fs.map dPr) := gv.updN (noLs_dPr fs) (noT_f (hB e3))
    rw [htl] at q
    exact sd_retW (K := K) (ed_tupL (A := Tt) (ed_v rfl (.lst (sqA_at hv' trivial) gv'))).w eF q
theorem fk_law_plus (T : Tx K mg) : Fk P w K mg base 2 "_law_plus" P_law_plus (spPlus K) := by
  refine T.d_law_plus.fk sc_law_plus (SpD.len fun _ => rfl) fun f cdv A outer s H vs Q E hr h => ?_
  obtain ⟨⟨a, b⟩, ⟨ha, hb⟩, g, q⟩ := h
  obtain ⟨v1, v2, rfl, g1, g2⟩ := dn2 g
  dsimp only at ha hb q g1 g2
  have hu := hu_of hr
  refine ⟨_, (pss_cons (ps_set (i := 2) sc_law_plus.nd rfl (Or.inl rfl) (pe_dnewK))
      (pss_cons (ps_for PassesOwn.never rfl (pi_tup (pe_op op_catA (pv 0) (pv 1))) (pg_name (i := 3) (hf := Or.inl rfl) sc_law_plus.nd rfl (Or.inl rfl))
      (pss_one (ps_dput hu (pv 2) (pe_ix (ix_tupK (K := K) rfl) (pv 3) pe_int (fun _ _ => rfl)) (pe_op op_add (pe_dget2 hu (pv 2) (pe_ix (ix_tupK (K := K) rfl) (pv 3) pe_int (fun _ _ => rfl)) pe_int ⟨rfl, rfl, rfl, rfl⟩) (pe_ix (ix_tupK (K := K) rfl) (pv 3) pe_int (fun _ _ => rfl))) rfl)))
      (pss_one (ps_ret (pe_cal (fk_law_told T) (hr.mono (by decide)) (by rfl) (pa_cons (pv 2) pa_nil)))))), ?_⟩
  intro p hp
  have e0 : Ex H (upd H p (.dK [])) := Ex.new hp
  refine sd_forT (K := K) (D := { nx := _, rt := Q }) (ds := (a ++ b).map dPr) ((ed_catA (A := Tt) (ed_v rfl (g1.ex e0)) (ed_v rfl (g2.ex e0)) ?_).to (by rw [List.map_append])).w
    (fun v i σ' H' => ∃ x3, σ' = [some v1, some v2, some (.ref p), x3] ∧ Ex H H' ∧ Dd K H' v (dS (a ++ b)) ∧ ∃ bb, H' p = some (.dK (bk bb)) ∧ (keys bb).Nodup ∧ bb.length ≤ i ∧ plusB (a ++ b) [] = plusB ((a ++ b).drop i) bb)
    (fun v H1 e1 gv => ⟨none, rfl, e0.trans e1, gv, [], e1 _ _ upd_same, List.nodup_nil, Nat.le_refl _, by rw [List.drop_zero]⟩) (fun v i σ' H' ⟨_, _, _, gv, _⟩ => gv) ?_ ?_
  · rw [List.length_map, List.length_map]
    omega
  · rintro v i d x σ' H' H2 hd ⟨x3, rfl, e1, gv, bb, hb1, hnd, hlb, hpl⟩ e2 gx
    obtain ⟨hi, rfl⟩ := pr_get hd
    have gx0 : Dn K Tt H2 x (dPr (a ++ b)[i]) := gx.any (noL_dPr _)
    rw [List.length_append] at hi
    have it : ∀ (j : Int) (c : Int), atD [PyData.int (a ++ b)[i].1, .int (a ++ b)[i].2] j = some (.int c) → EvD K Tt (tOp (rIxT K) (tVar 3) (tC (.int j))) [some v1, some v2, some (.ref p), some x] H2 (.int c) := fun j c h => ed_ixT (ed_v rfl gx0) ed_int h
    refine sd_badd (K := K) (k := (a ++ b)[i].1) (c := (a ++ b)[i].2) (e2 _ _ hb1) (ev_v rfl) (it 0 _ rfl) (it 1 _ rfl) (by omega) fun H3 e3 => ?_
    refine ⟨_, rfl, Ex.mut ((e1.trans e2).trans e3) hp, (gv.ex (e2.trans e3)).updN (noL_dS _) (noT_k ((e2.trans e3) _ _ hb1)), _, upd_same, nodup_add hnd, ?_, ?_⟩
    · have := len_add bb (a ++ b)[i].1 (a ++ b)[i].2
      omega
    · rw [hpl, plusB_step _ _ _ (by rw [List.length_append]; exact hi)]
  · rintro v σ' H' ⟨x3, rfl, e1, gv, bb, hb1, hnd, hlb, hpl⟩
    rw [List.length_map, List.drop_length] at hpl
    have hpl : plusB (a ++ b) [] = bb := hpl
    rw [List.length_map, List.length_append] at hlb
    refine ⟨_, rfl, p, bb, rfl, hb1, hnd, by omega, fun v H2 e2 g2 => q v H2 (e1.trans e2) ?_⟩
    show Dd K H2 v (dS (sPlus a b))
    unfold sPlus
    rw [hpl]
    exact g2
theorem fk_law_times (T : Tx K mg) : Fk P w K mg base 2 "_law_times" P_law_times (spTimes K) := by
  refine T.d_law_times.fk sc_law_times (SpD.len fun _ => rfl) fun f cdv A outer s H vs Q E hr h => ?_
  obtain ⟨⟨a, b⟩, ⟨ha, hb, sa, sb⟩, g, q⟩ := h
  obtain ⟨v1, v2, rfl, g1, g2⟩ := dn2 g
  dsimp only at ha hb sa sb q g1 g2
  have hu := hu_of hr
  refine ⟨_, (pss_cons (ps_set (i := 2) sc_law_times.nd rfl (Or.inl rfl) (pe_dnewK))
      (pss_cons (ps_for PassesOwn.never rfl (pi_tup (pv 0)) (pg_name (i := 3) (hf := Or.inl rfl) sc_law_times.nd rfl (Or.inl rfl))
      (pss_one (ps_for PassesOwn.never rfl (pi_tup (pv 1)) (pg_name (i := 4) (hf := Or.inl rfl) sc_law_times.nd rfl (Or.inl rfl))
      (pss_one (ps_dput hu (pv 2) (pe_op op_add (pe_ix (ix_tupK (K := K) rfl) (pv 3) pe_int (fun _ _ => rfl)) (pe_ix (ix_tupK (K := K) rfl) (pv 4) pe_int (fun _ _ => rfl))) (pe_op op_add (pe_dget2 hu (pv 2) (pe_op op_add (pe_ix (ix_tupK (K := K) rfl) (pv 3) pe_int (fun _ _ => rfl)) (pe_ix (ix_tupK (K := K) rfl) (pv 4) pe_int (fun _ _ => rfl))) pe_int ⟨rfl, rfl, rfl, rfl⟩) (pe_op op_mulW (pe_ix (ix_tupK (K := K) rfl) (pv 3) pe_int (fun _ _ => rfl)) (pe_ix (ix_tupK (K := K) rfl) (pv 4) pe_int (fun _ _ => rfl)))) rfl)))))
      (pss_one (ps_ret (pe_cal (fk_law_told T) (hr.mono (by decide)) (by rfl) (pa_cons (pv 2) pa_nil)))))), ?_⟩
  intro p hp
  have e0 : Ex H (upd H p (.dK [])) := Ex.new hp
  have hab : a.length * b.length ≤ 40000 := Nat.mul_le_mul ha hb
  refine sd_forTv (K := K) (D := { nx := _, rt := Q }) (v := v1) (ds := a.map dPr) (ev_v rfl) (g1.ex e0)
    (fun i σ' H' => ∃ x3 x4, σ' = [some v1, some v2, some (.ref p), x3, x4] ∧ Ex H H' ∧ ∃ bb, H' p = some (.dK (bk bb)) ∧ (keys bb).Nodup ∧ bb.length ≤ i * b.length ∧ timesB a b [] = timesB (a.drop i) b bb)
    (fun H1 e1 => ⟨none, none, rfl, e0.trans e1, [], e1 _ _ upd_same, List.nodup_nil, Nat.zero_le _, by rw [List.drop_zero]⟩) (fun i σ' H' ⟨_, _, _, e, _⟩ => g1.ex e) ?_ ?_
  · rintro i d x σ' H' H2 hd ⟨x3, x4, rfl, e1, bb, hb1, hnd, hlb, hpl⟩ e2 gx
    obtain ⟨hi, rfl⟩ := pr_get hd
    have gx0 : Dn K Tt H2 x (dPr a[i]) := gx.any (noL_dPr _)
    have hi1 : (i + 1) * b.length ≤ a.length * b.length := Nat.mul_le_mul_right _ hi
    rw [Nat.add_mul, Nat.one_mul] at hi1
    refine sd_forTv (K := K) (v := v2) (ds := b.map dPr) (ev_v rfl) (g2.ex (e1.trans e2))
      (fun j σ' H' => ∃ x4, σ' = [some v1, some v2, some (.ref p), some x, x4] ∧ Ex H H' ∧ Dd K H' x (dPr a[i]) ∧ ∃ bb, H' p = some (.dK (bk bb)) ∧ (keys bb).Nodup ∧ bb.length ≤ i * b.length + j ∧ timesB a b [] = timesB (a.drop (i + 1)) b (timesI a[i] (b.drop j) bb))
      (fun H3 e3 => ⟨x4, rfl, (e1.trans e2).trans e3, gx0.ex e3, bb, (e2.trans e3) _ _ hb1, hnd, by omega, by rw [hpl, timesB_step _ _ _ _ hi]; rfl⟩) (fun i σ' H' ⟨_, _, e, _⟩ => g2.ex e) ?_ ?_
    · rintro j d y σ' H' H3 hd ⟨x4, rfl, e3, gx1, bb, hb1, hnd, hlb, hpl⟩ e4 gy
      obtain ⟨hj, rfl⟩ := pr_get hd
      have gy0 : Dn K Tt H3 y (dPr b[j]) := gy.any (noL_dPr _)
      have gx3 := gx1.ex e4
      have it : ∀ (k : Int) (c : Int), atD [PyData.int a[i].1, .int a[i].2] k = some (.int c) → EvD K Tt (tOp (rIxT K) (tVar 3) (tC (.int k))) [some v1, some v2, some (.ref p), some x, some y] H3 (.int c) := fun k c h => ed_ixT (ed_v rfl gx3) ed_int h
      have jt : ∀ (k : Int) (c : Int), atD [PyData.int b[j].1, .int b[j].2] k = some (.int c) → EvD K Tt (tOp (rIxT K) (tVar 4) (tC (.int k))) [some v1, some v2, some (.ref p), some x, some y] H3 (.int c) := fun k c h => ed_ixT (ed_v rfl gy0) ed_int h
      refine sd_badd (K := K) (k := a[i].1 + b[j].1) (c := a[i].2 * b[j].2) (e4 _ _ hb1) (ev_v rfl) (ed_i0 (it 0 _ rfl) (jt 0 _ rfl)) (ed_iC (it 1 _ rfl) (jt 1 _ rfl) (sms_mul sa sb hi hj)) (by omega) fun H4 e5 => ?_
      refine ⟨_, rfl, Ex.mut ((e3.trans e4).trans e5) hp, (gx3.ex e5).updN (noL_dPr _) (noT_k ((e4.trans e5) _ _ hb1)), _, upd_same, nodup_add hnd, ?_, ?_⟩
      · have := len_add bb (a[i].1 + b[j].1) (a[i].2 * b[j].2)
        omega
      · rw [hpl, timesI_step _ _ _ _ hj]
    · rintro σ' H' ⟨x4, rfl, e3, gx1, bb, hb1, hnd, hlb, hpl⟩
      refine ⟨_, _, rfl, e3, bb, hb1, hnd, ?_, ?_⟩
      · rw [List.length_map] at hlb
        rw [Nat.add_mul, Nat.one_mul]
        exact hlb
      · rw [List.length_map, List.drop_length] at hpl
        exact hpl
  · rintro σ' H' ⟨x3, x4, rfl, e1, bb, hb1, hnd, hlb, hpl⟩
    rw [List.length_map, List.drop_length] at hpl
    have hpl : timesB a b [] = bb := hpl
    rw [List.length_map] at hlb
    refine ⟨_, rfl, p, bb, rfl, hb1, hnd, by omega, fun v H2 e2 g2 => q v H2 (e1.trans e2) ?_⟩
    show Dd K H2 v (dS (sTimes a b))
    unfold sTimes
    rw [hpl]
    exact g2
end
end GK
set_option Elab.async false
set_option linter.all false
set_option maxRecDepth 100000
set_option maxHeartbeats 4000000
/-! GF5: alexander's parts without a grid. -/
namespace GK
open PySem PySem.Spec PyProof.Rows L2 Evl GM
section
variable {P : Program} {w : World} {K : PySem.W.Frag} {mg : Str → Option Value} {base : Heap}
/-! ### line_series -/
def dL (r : List Ser) : PyData := .list (r.map dS)
def eOv (p : Nat × Int) : PyData := pairD (.int (p.1 : Int)) (.int p.2)
def dOv (over : List (Nat × Int)) : PyData := .list (over.map eOv)
def dLn (a b : Nat) (over : List (Nat × Int)) : PyData := .tuple [.int (a : Int), .int (b : Int), dOv over]
structure LnOk (n a b : Nat) (over : List (Nat × Int)) : Prop where
  hn : n ≤ 100
  ha : a < n
  hb : b < n
  k : over.length ≤ 40
  c : ∀ p ∈ over, p.1 < n
abbrev spLine (K : PySem.W.Frag) : Sp := SpN K (fun x : Nat × Nat × Nat × List (Nat × Int) => LnOk x.1 x.2.1 x.2.2.1 x.2.2.2) (fun x => [dLn x.2.1 x.2.2.1 x.2.2.2, .int (x.1 : Int)]) (fun x => dL (lineS x.1 x.2.1 x.2.2.1 x.2.2.2))
theorem rep_set_map (n a : Nat) (t : Ser) : (List.replicate n (PyData.tuple [])).set a (dS t) = ((List.replicate n ([] : Ser)).set a t).map dS := by
  rw [List.map_set, List.map_replicate]
  rfl
/-- a row of series at p -/
def Row (K : PySem.W.Frag) (H : Hp) (p : Addr) (r : List Ser) : Prop := Lst K H p (fun _ => False) (r.map dS)
theorem noLs_row : ∀ r : List Ser, noLs (r.map dS) = true
  | [] => rfl
  | s :: r => by
    show (noL (dS s) && noLs (r.map dS)) = true
    rw [noL_dS, noLs_row r]
    rfl
section
variable {A : Addr → Prop} {σ : L2.St} {H H1 : Hp} {tx ty te to ti : TE} {p : Addr} {r : List Ser} {D : Ends} {tz : TS}
theorem Row.ex (h : Row K H p r) (e : Ex H H1) : Row K H1 p r := Lst.ex h e
theorem Row.dd (h : Row K H p r) : Dd K H (.ref p) (dL r) := Lst.dd h
theorem row_of {vs : List V} (h : H p = some (.lst vs)) (g : DnAll K A H vs (r.map dS)) : Row K H p r := ⟨vs, h, g.any (noLs_row r)⟩
theorem sd_setR {j : Nat} {t : Ser} (hl : Row K H p r) (h : EvW K te σ H (dS t)) (ho : Ev to σ H (.ref p)) (hi : EvD K Tt ti σ H (.int (j : Int))) (hj : j < r.length)
    (k : ∀ H1 vs, Ex H H1 → (∃ us, H1 p = some (.lst us)) → Row K (L2.upd H1 p (.lst vs)) p (r.set j t) → D.nx σ (L2.upd H1 p (.lst vs))) : tAsg te (gSub to ti rSetL) D σ H := by
  refine sd_setM (K := K) (B := fun _ => False) (A := fun a => a ≠ p) (p := p) (ds := r.map dS) (Lst.weak hl fun _ z => z.elim) (fun _ z => z) (h.nl (noL_dS t)) (fun a z => ?_) ho hi (by rw [List.length_map]; exact hj) fun H1 us ws e h1 L => ?_
  · rcases z with z | z
    · exact z.1.elim
    · obtain ⟨vs, hv, _⟩ := hl
      exact fun x => by
        rw [x, hv] at z
        cases z
  · rw [← List.map_set] at L
    obtain ⟨vs, hv, gv⟩ := L
    exact k H1 ws e ⟨us, h1⟩ (row_of hv gv)
theorem qd_setR {j : Nat} {t : Ser} (hl : Row K H p r) (h : EvW K te σ H (dS t)) (ho : Ev to σ H (.ref p)) (hi : EvD K Tt ti σ H (.int (j : Int))) (hj : j < r.length)
    (k : ∀ H1 vs, Ex H H1 → (∃ us, H1 p = some (.lst us)) → Row K (L2.upd H1 p (.lst vs)) p (r.set j t) → tz D σ (L2.upd H1 p (.lst vs))) : tSeq (tAsg te (gSub to ti rSetL)) tz D σ H := sd_setR (D := { D with nx := tz D }) hl h ho hi hj k
/-- ((x, y),) -/
theorem ed_s1 {x y : Int} (hx : EvD K A tx σ H (.int x)) (hy : EvD K A ty σ H (.int y)) : EvD K A (tTup (tCons (tTup (tCons tx (tCons ty tNil))) tNil)) σ H (dS [(x, y)]) :=
  ed_tup (eda_cons (ed_tup (eda_cons hx (eda_cons hy eda_nil)) (by show 2 ≤ 100000; omega)) eda_nil) (by show 1 ≤ 100000; omega)
theorem qd_forLv {tl : TE} {g : TG} {tu : TS} {ds : List PyData} {v : V} (h : Ev tl σ H v) (g0 : Dd K H v (.list ds)) (Pv : Nat → L2.St → Hp → Prop) (h0 : ∀ H1, Ex H H1 → Pv 0 σ H1) (hS : ∀ i σ H, Pv i σ H → Dd K H v (.list ds))
    (hs : ∀ i d x σ' H' H2, ds[i]? = some d → Pv i σ' H' → Ex H' H2 → Dn K (fun a => H' a ≠ none) H2 x d → g x σ' H2 fun σ3 H3 => tu { D with nx := Pv (i + 1), ct := Pv (i + 1), bk := tz D } σ3 H3) (hd : ∀ σ' H', Pv ds.length σ' H' → tz D σ' H') : tSeq (tFor (iList K tl) g tu) tz D σ H :=
  sd_forLv (D := { D with nx := tz D }) h g0 Pv h0 hS hs hd
theorem qd_forTv {tl : TE} {g : TG} {tu : TS} {ds : List PyData} {v : V} (h : Ev tl σ H v) (g0 : Dd K H v (.tuple ds)) (Pv : Nat → L2.St → Hp → Prop) (h0 : ∀ H1, Ex H H1 → Pv 0 σ H1) (hS : ∀ i σ H, Pv i σ H → Dd K H v (.tuple ds))
    (hs : ∀ i d x σ' H' H2, ds[i]? = some d → Pv i σ' H' → Ex H' H2 → Dn K (fun a => H' a ≠ none) H2 x d → g x σ' H2 fun σ3 H3 => tu { D with nx := Pv (i + 1), ct := Pv (i + 1), bk := tz D } σ3 H3) (hd : ∀ σ' H', Pv ds.length σ' H' → tz D σ' H') : tSeq (tFor (iTup K tl) g tu) tz D σ H :=
  sd_forTv (D := { D with nx := tz D }) h g0 Pv h0 hS hs hd
theorem ew_ixL {ta tb : TE} {ds : List PyData} {d : PyData} {i : Int} (ha : EvW K ta σ H (.list ds)) (hb : EvD K Tt tb σ H (.int i)) (hi : atD ds i = some d) : EvW K (tOp (rIxL K) ta tb) σ H d := fun H1 e Q q =>
  ha H1 e _ fun x H2 e2 gx => ed_ev_i hb H2 (e.trans e2) _ fun H3 e3 => by
    obtain ⟨a, xs, rfl, hs, hd⟩ := (gx.ex e3).list_inv
    obtain ⟨v, e1, e2'⟩ := hd.at hi
    exact ⟨a, xs, i, v, rfl, rfl, hs.sq, e1, q v H3 (e2.trans e3) e2'⟩
theorem ew_ixT {ta tb : TE} {ds : List PyData} {d : PyData} {i : Int} (ha : EvW K ta σ H (.tuple ds)) (hb : EvD K Tt tb σ H (.int i)) (hi : atD ds i = some d) : EvW K (tOp (rIxT K) ta tb) σ H d := fun H1 e Q q =>
  ha H1 e _ fun x H2 e2 gx => ed_ev_i hb H2 (e.trans e2) _ fun H3 e3 => by
    obtain ⟨a, xs, rfl, hs, hd⟩ := (gx.ex e3).tup_inv
    obtain ⟨v, e1, e2'⟩ := hd.at hi
    exact ⟨a, xs, i, v, rfl, rfl, hs, e1, q v H3 (e2.trans e3) e2'⟩
theorem row_at {j : Nat} (hj : j < r.length) : atD (r.map dS) (j : Int) = some (dS (r.getD j [])) := atD_nat (by
  rw [List.getElem?_map, List.getElem?_eq_getElem hj, List.getD_eq_getElem?_getD, List.getElem?_eq_getElem hj]
  rfl)
theorem ed_rowat {j : Nat} (ho : EvW K to σ H (dL r)) (hi : EvD K Tt ti σ H (.int (j : Int))) (hj : j < r.length) : EvD K A (tOp (rIxL K) to ti) σ H (dS (r.getD j [])) := (ew_ixL ho hi (row_at hj)).nl (noL_dS _)
end
theorem lfold_len : ∀ (over : List (Nat × Int)) (r : List Ser), (lfold over r).length = r.length
  | [], r => rfl
  | p :: over, r => (lfold_len over _).trans (lstep_len r p.1 p.2)
theorem lb_fold : ∀ (over : List (Nat × Int)) (k : Nat) (r : List Ser), Lb k r → Lb (k + 2 * over.length) (lfold over r)
  | [], k, r, h => h
  | p :: over, k, r, h => by
    have := lb_fold over (k + 2) _ (lb_step h p.1 p.2)
    rw [List.length_cons, show k + 2 * (over.length + 1) = k + 2 + 2 * over.length by omega]
    exact this
theorem lfold_snoc (over : List (Nat × Int)) (p : Nat × Int) (r : List Ser) : lfold (over ++ [p]) r = lstep (lfold over r) p.1 p.2 := by
  unfold lfold
  rw [List.foldl_append]
  rfl
theorem lb_sms {k : Nat} {s : Ser} (h : nS s ≤ k) (hk : k ≤ 1000) : SmS 5000 s := fun p hp => by
  have := nS_mem hp
  refine Nat.lt_of_le_of_lt (Nat.le_trans this (Nat.le_trans h hk)) ?_
  exact Nat.lt_of_lt_of_le (by decide : 1000 < 2 ^ 10) (Nat.pow_le_pow_right (by decide) (by decide))
theorem fk_line_series (T : Tx K mg) : Fk P w K mg base 3 "line_series" P_line_series (spLine K) := by
  refine T.d_line_series.fk sc_line_series (SpN.len fun _ => rfl) fun f cdv A outer s H vs Q E hr h => ?_
  obtain ⟨⟨n, a, b, over⟩, ok, g, q⟩ := h
  obtain ⟨v1, v2, rfl, g1, g2⟩ := dn2 g
  dsimp only at ok q g1 g2
  cases g2
  refine ⟨_, (pss_cons (ps_asg (pv 0) (pg_tup rfl (pgs_cons (pg_name (i := 2) (hf := Or.inl rfl) sc_line_series.nd rfl (Or.inl rfl)) (pgs_cons (pg_name (i := 3) (hf := Or.inl rfl) sc_line_series.nd rfl (Or.inl rfl)) (pgs_cons (pg_name (i := 4) (hf := Or.inl rfl) sc_line_series.nd rfl (Or.inl rfl)) pgs_nil)))))
      (pss_cons (ps_set (i := 5) sc_line_series.nd rfl (Or.inl rfl) (pe_op op_rep (pe_lst (pa_cons (pe_tup pa_nil) pa_nil)) (pv 1)))
      (pss_cons (ps_asg (pe_tup (pa_cons (pe_tup (pa_cons pe_int (pa_cons pe_int pa_nil))) pa_nil)) (pg_sub (pv 5) (pv 2) set_list))
      (pss_cons (ps_for PassesOwn.never rfl (pi_list (pv 4)) (pg_tup rfl (pgs_cons (pg_name (i := 6) (hf := Or.inl rfl) sc_line_series.nd rfl (Or.inl rfl)) (pgs_cons (pg_name (i := 7) (hf := Or.inl rfl) sc_line_series.nd rfl (Or.inr rfl)) pgs_nil)))
      (pss_cons (ps_setLc (i := 5) (own := [("one", 8)]) (g := (gName 8)) rfl sc_line_series.nd rfl rfl (sw_true rfl rfl rfl (by decide +kernel)) (pi_list (pv 5)) (blkOk_by (own := [("one", 8)]) (N := N_line_series) (sc := defScope s_line_series) (by decide +kernel)) (fun _ _ _ _ _ => (pg_name (i := 8) (hf := Or.inr rfl) sc_line_series.nd rfl (Or.inl rfl))) (fun _ _ _ _ _ => pts_nil) (fun _ _ _ _ _ => (pe_cal (fk_series_times T) (hr.mono (by decide)) (by rfl) (pa_cons (pe_tup (pa_cons (pe_tup (pa_cons (pv 7) (pa_cons pe_int pa_nil))) pa_nil)) (pa_cons (pv 8) pa_nil)))))
      (pss_one (ps_asg (pe_cal (fk_series_plus T) (hr.mono (by decide)) (by rfl) (pa_cons (pe_ix (ix_listK (K := K) rfl) (pv 5) (pv 6) (fun _ _ => rfl)) (pa_cons (pe_cal (fk_series_plus T) (hr.mono (by decide)) (by rfl) (pa_cons (pe_tup (pa_cons (pe_tup (pa_cons pe_int (pa_cons pe_int pa_nil))) pa_nil)) (pa_cons (pe_tup (pa_cons (pe_tup (pa_cons (pv 7) (pa_cons (pe_un un_neg pe_int) pa_nil))) pa_nil)) pa_nil))) pa_nil))) (pg_sub (pv 5) (pv 6) set_list)))))
      (pss_cons (ps_asg (pe_cal (fk_series_plus T) (hr.mono (by decide)) (by rfl) (pa_cons (pe_ix (ix_listK (K := K) rfl) (pv 5) (pv 3) (fun _ _ => rfl)) (pa_cons (pe_tup (pa_cons (pe_tup (pa_cons pe_int (pa_cons (pe_un un_neg pe_int) pa_nil))) pa_nil)) pa_nil))) (pg_sub (pv 5) (pv 3) set_list))
      (pss_one (ps_ret (pv 5)))))))), ?_⟩
  -- a, b, over = line
  refine qd_unp (K := K) (ew_v rfl g1) rfl fun vs H1 e1 g3 => ?_
  obtain ⟨va, vb, vo, rfl, ga, gb, go⟩ := dn3 g3
  cases ga
  cases gb
  refine ⟨_, _, rfl, _, _, rfl, _, _, rfl, rfl, ?_⟩
  refine qd_asgM (K := K) (A := Tt) ((em_rep1 (d := .tuple []) (em_lst (eda_cons (ed_tup eda_nil (Nat.zero_le _)) eda_nil) (by show 1 ≤ 100000; omega)).lst (ed_v rfl (.int _)) (by have := ok.hn; omega) (by omega))) fun p ws H2 hp e2 h2 g4 => ?_
  rw [Int.toNat_natCast] at g4
  have R0 : Row K H2 p (List.replicate n []) := row_of h2 (by rw [List.map_replicate]; exact g4)
  have hp0 : H p = none := fresh_back e1 hp
  refine qd_setR R0 (ed_s1 (A := Tt) ed_int ed_int).w (ev_v rfl) (ed_v rfl (.int _)) (by rw [List.length_replicate]; exact ok.ha) fun H3 vs3 e3 _ R1 => ?_
  have eH3 : Ex H (upd H3 p (.lst vs3)) := Ex.mut ((e1.trans e2).trans e3) hp0
  have eH3' : Ex H1 (upd H3 p (.lst vs3)) := Ex.mut (e2.trans e3) hp
  obtain ⟨r0, hr0⟩ : ∃ r0, r0 = (List.replicate n ([] : Ser)).set a [(0, 1)] := ⟨_, rfl⟩
  have hr0l : r0.length = n := by rw [hr0]; simp
  have hb0 : Lb 1 r0 := hr0 ▸ lb_start n a
  rw [← hr0] at R1
  refine qd_forLv (K := K) (v := vo) (ds := over.map eOv) (ev_v rfl) (go.ex eH3')
    (fun i σ' H' => ∃ p x6 x7, σ' = [some v1, some (.int (n : Int)), some (.int (a : Int)), some (.int (b : Int)), some vo, some (.ref p), x6, x7, none] ∧ Ex H1 H' ∧ H p = none ∧ Row K H' p (lfold (over.take i) r0))
    (fun H4 e4 => ⟨p, none, none, rfl, eH3'.trans e4, hp0, R1.ex e4⟩) (fun i σ' H' ⟨_, _, _, _, e, _⟩ => go.ex e) ?_ ?_
  · rintro i d x σ' H' H2 hd ⟨p, x6, x7, rfl, e4, hp, R⟩ e5 gx
    have hd' : d = eOv (over[i]'(by have := (List.getElem?_eq_some_iff.mp hd).1; rwa [List.length_map] at this)) := by
      have hi := (List.getElem?_eq_some_iff.mp hd).1
      rw [List.length_map] at hi
      rw [List.getElem?_map, List.getElem?_eq_getElem hi] at hd
      exact (Option.some.inj hd).symm
    have hi : i < over.length := by
      have := (List.getElem?_eq_some_iff.mp hd).1
      rwa [List.length_map] at this
    obtain ⟨c, hc⟩ : ∃ c, c = over[i].1 := ⟨_, rfl⟩
    obtain ⟨sg, hsg⟩ : ∃ sg, sg = over[i].2 := ⟨_, rfl⟩
    have gx : Dn K (fun a => H' a ≠ none) H2 x (pairD (.int (c : Int)) (.int sg)) := by
      rw [hd'] at gx
      rw [hc, hsg]
      exact gx
    have hcn : c < n := hc ▸ ok.c _ (List.getElem_mem hi)
    obtain ⟨r, hr⟩ : ∃ r, r = lfold (over.take i) r0 := ⟨_, rfl⟩
    have hrl : r.length = n := by rw [hr, lfold_len, hr0l]
    have hk := ok.k
    have hlen : (over.take i).length ≤ 40 := by rw [List.length_take]; omega
    have hlb : Lb 81 r := hr ▸ fun s hs => by
      have := lb_fold (over.take i) 1 r0 hb0 s hs
      omega
    rw [← hr] at R
    refine sd_pair gx fun w1 w2 gw1 gw2 => ?_
    cases gw1
    cases gw2
    have eH2 := e4.trans e5
    have R2 := R.ex e5
    -- row = [series_times(((sign, 1),), one) for one in row]
    refine qd_asgM (K := K) (A := Tt) (em_lc1 (K := K) (A := Tt) (l := r) (enc := dS) (vs := [8]) (j := 8) (wi := iList K (tVar 5)) (t := tYes) (ei_l (ew_v rfl R2.dd)) (by rw [hrl]; have := ok.hn; omega) (fun _ => true) (fun s => dS (sTimes [(sg, 1)] s)) (fun x => rfl)
      (fun s hs x H1 _ _ => et_yes) (fun s hs x H1 e gx _ => (SpD.ev ([(sg, 1)], s) (ewa_cons (ed_s1 (A := Tt) (ed_v rfl (.int _)) ed_int).w (ewa_cons (ew_v rfl gx.dd) ewa_nil))
        ⟨by show 1 ≤ 200; omega, by have := hlb s hs; dsimp only; omega, lb_sms (k := 1) (Nat.le_refl _) (by omega), lb_sms (hlb s hs).2 (by omega)⟩).nl (noL_dS _))) fun p2 ws2 H4 hp2 e6 h4 g5 => ?_
    rw [all_true] at g5
    have R4 : Row K H4 p2 (r.map (sTimes [(sg, 1)])) := row_of h4 (by rw [List.map_map]; exact g5)
    have hp20 : H p2 = none := fresh_back (e1.trans eH2) hp2
    have hlb2 := lb_times hlb sg
    -- row[c] = ..
    refine sd_setR R4 (SpD.ev ((r.map (sTimes [(sg, 1)])).getD c [], sPlus [(0, 1)] [(sg, -1)]) (ewa_cons (ed_rowat (A := Tt) (ew_v rfl R4.dd) (ed_v rfl (.int _)) (by rw [List.length_map, hrl]; exact hcn)).w
        (ewa_cons (SpD.ev ([(0, 1)], [(sg, -1)]) (ewa_cons (ed_s1 (A := Tt) ed_int ed_int).w (ewa_cons (ed_s1 (A := Tt) (ed_v rfl (.int _)) (ed_neg ed_int)).w ewa_nil)) ⟨by show 1 ≤ 20000; omega, by show 1 ≤ 20000; omega⟩) ewa_nil))
        ⟨by have := lb_getD hlb2 c; dsimp only; omega, by have := lb_one sg; dsimp only; omega⟩) (ev_v rfl) (ed_v rfl (.int _)) (by rw [List.length_map, hrl]; exact hcn) fun H5 vs5 e7 _ R5 => ?_
    refine ⟨p2, _, _, rfl, Ex.mut ((eH2.trans e6).trans e7) (fresh_back eH2 hp2), hp20, ?_⟩
    have : lfold (over.take (i + 1)) r0 = lstep r c sg := by
      rw [List.take_add_one, List.getElem?_eq_getElem hi, hc, hsg, hr]
      exact lfold_snoc _ _ _
    rw [this]
    exact R5
  · rintro σ' H' ⟨p, x6, x7, rfl, e4, hp, R⟩
    rw [List.length_map, List.take_length] at R
    have hk := ok.k
    have hlb : Lb 81 (lfold over r0) := fun s hs => by
      have := lb_fold over 1 r0 hb0 s hs
      omega
    have hrl : (lfold over r0).length = n := by rw [lfold_len, hr0l]
    refine qd_setR R (SpD.ev ((lfold over r0).getD b [], [(0, -1)]) (ewa_cons (ed_rowat (A := Tt) (ew_v rfl R.dd) (ed_v rfl (.int _)) (by rw [hrl]; exact ok.hb)).w
        (ewa_cons (ed_s1 (A := Tt) ed_int (ed_neg ed_int)).w ewa_nil)) ⟨by have := lb_getD hlb b; dsimp only; omega, by show 1 ≤ 20000; omega⟩) (ev_v rfl) (ed_v rfl (.int _)) (by rw [hrl]; exact ok.hb) fun H5 vs5 e5 _ R5 => ?_
    have eF : Ex H (upd H5 p (.lst vs5)) := Ex.mut ((e1.trans e4).trans e5) hp
    obtain ⟨us, hu, gu⟩ := R5
    refine ⟨_, rfl, q _ _ eF (.lst (sqA_at hu hp) ?_)⟩
    rw [hr0] at gu
    exact gu.any (noLs_row _)
/-! ### polynomial, polynomials, made_plain -/
/-- the terms put into a row of noughts, from least on -/
def putT (least : Int) (s : Ser) (row : List Int) : List Int := s.foldl (fun r p => r.set (p.1 - least).toNat p.2) row
def polyS (s : Ser) (least : Int) : List Int := match s.getLast? with
  | none => []
  | some l => trim (putT least s (List.replicate (l.1 - least + 1).toNat 0))
structure PyOk (s : Ser) (least : Int) : Prop where
  n : s.length ≤ 1000
  lo : ∀ p ∈ s, least ≤ p.1
  hi : ∀ p ∈ s, ∀ h : s ≠ [], p.1 ≤ (s.getLast h).1
  sz : ∀ h : s ≠ [], (s.getLast h).1 - least ≤ 1000
abbrev spPoly (K : PySem.W.Frag) : Sp := SpN K (fun x : Ser × Int => PyOk x.1 x.2) (fun x => [dS x.1, .int x.2]) (fun x => dP (polyS x.1 x.2))
theorem putT_len (least : Int) : ∀ (s : Ser) (row : List Int), (putT least s row).length = row.length
  | [], row => rfl
  | p :: s, row => (putT_len least s _).trans (List.length_set ..)
theorem putT_snoc (least : Int) (s : Ser) (p : Int × Int) (row : List Int) : putT least (s ++ [p]) row = (putT least s row).set (p.1 - least).toNat p.2 := by
  unfold putT
  rw [List.foldl_append]
  rfl
theorem fk_polynomial (T : Tx K mg) : Fk P w K mg base 2 "polynomial" P_polynomial (spPoly K) := by
  refine T.d_polynomial.fk sc_polynomial (SpN.len fun _ => rfl) fun f cdv A outer s H vs Q E hr h => ?_
  obtain ⟨⟨r, least⟩, ok, g, q⟩ := h
  obtain ⟨v1, v2, rfl, g1, g2⟩ := dn2 g
  dsimp only at ok q g1 g2
  cases g2
  refine ⟨_, (pss_cons (ps_if (pt_cmpR op_eq (pe_callB (call_len_seqK (K := K) rfl) (by rfl) T.len (by decide +kernel) (pa_cons (pv 0) pa_nil)) pe_int (nomark _))
      (pss_one (ps_ret (pe_lst pa_nil)))
      pss_nil)
      (pss_cons (ps_set (i := 2) sc_polynomial.nd rfl (Or.inl rfl) (pe_op op_rep (pe_lst (pa_cons pe_int pa_nil)) (pe_op op_add (pe_op op_sub (pe_ix (ix_tupK (K := K) rfl) (pe_ix (ix_tupK (K := K) rfl) (pv 0) (pe_un un_neg pe_int) (fun _ _ => rfl)) pe_int (fun _ _ => rfl)) (pv 1)) pe_int)))
      (pss_cons (ps_for PassesOwn.never rfl (pi_tup (pv 0)) (pg_tup rfl (pgs_cons (pg_name (i := 3) (hf := Or.inl rfl) sc_polynomial.nd rfl (Or.inl rfl)) (pgs_cons (pg_name (i := 4) (hf := Or.inl rfl) sc_polynomial.nd rfl (Or.inl rfl)) pgs_nil)))
      (pss_one (ps_asg (pv 4) (pg_sub (pv 2) (pe_op op_sub (pv 3) (pv 1)) set_list))))
      (pss_one (ps_ret (pe_cal (fk_trimmed T) (hr.mono (by decide)) (by rfl) (pa_cons (pv 2) pa_nil))))))), ?_⟩
  have hlen : EvD K Tt (tCB (rLenS K) (tCons (tVar 0) tNil)) (L2.start N_polynomial [v1, .int least]) H (.int (r.length : Int)) := (ed_lenT (ew_v rfl g1)).to (by rw [List.length_map])
  by_cases hne : r = []
  · subst hne
    refine q_when (etD (ed_eqI hlen ed_int)) (fun _ H1 e1 => ?_) (fun hb => by cases hb)
    exact sd_retF (em_lst (A := fun _ => False) eda_nil (Nat.zero_le _)).lst e1 q
  · have hpos : 0 < r.length := List.length_pos_iff.mpr hne
    refine q_when (etD (ed_eqI hlen ed_int)) (fun hb => ?_) (fun _ H1 e1 => ?_)
    · have := of_decide_eq_true hb
      omega
    obtain ⟨l, hl⟩ : ∃ l, l = r.getLast hne := ⟨_, rfl⟩
    have hsz := ok.sz hne
    have hlo := ok.lo _ (List.getLast_mem hne)
    rw [← hl] at hsz hlo
    obtain ⟨m, hm⟩ : ∃ m, m = (l.1 - least + 1).toNat := ⟨_, rfl⟩
    have hlast : (r.map dPr)[(r.map dPr).length - 1]? = some (dPr l) := by
      rw [List.length_map, List.getElem?_map, ← List.getLast?_eq_getElem?, List.getLast?_eq_some_getLast hne, ← hl]
      rfl
    refine qd_asgM (K := K) (A := Tt) (em_rep1 (k := l.1 - least + 1) (d := .int 0) (em_lst (eda_cons ed_int eda_nil) (by show 1 ≤ 100000; omega)).lst
      (ed_i0 (ed_i0 (ed_ixT (ds := [.int l.1, .int l.2]) (d := .int l.1) (ed_ixT (ed_v rfl (g1.ex e1)) (ed_neg ed_int) (atD_last hlast)) ed_int rfl) (ed_v rfl (.int _))) ed_int) (by omega) (by omega)) fun p ws H2 hp e2 h2 g4 => ?_
    have h2' : H2 p = some (.lst ((List.replicate m (0 : Int)).map V.int)) := by
      rw [← hm, show List.replicate m (PyData.int 0) = (List.replicate m (0 : Int)).map .int by rw [List.map_replicate]] at g4
      cases g4.ints
      exact h2
    have hp0 : H p = none := fresh_back e1 hp
    refine qd_forTv (K := K) (v := v1) (ds := r.map dPr) (ev_v rfl) (g1.ex (e1.trans e2))
      (fun i σ' H' => ∃ x3 x4, σ' = [some v1, some (.int least), some (.ref p), x3, x4] ∧ Ex H H' ∧ H' p = some (.lst ((putT least (r.take i) (List.replicate m 0)).map V.int)))
      (fun H3 e3 => ⟨none, none, rfl, (e1.trans e2).trans e3, by rw [List.take_zero]; exact e3 _ _ h2'⟩) (fun i σ' H' ⟨_, _, _, e, _⟩ => g1.ex e) ?_ ?_
    · rintro i d x σ' H' H3 hd ⟨x3, x4, rfl, e3, h3⟩ e4 gx
      obtain ⟨hi, rfl⟩ := pr_get hd
      refine sd_pair gx fun w1 w2 gw1 gw2 => ?_
      cases gw1
      cases gw2
      have hlo' := ok.lo _ (List.getElem_mem hi)
      have hhi' := ok.hi _ (List.getElem_mem hi) hne
      rw [← hl] at hhi'
      refine sd_setI (K := K) (j := (r[i].1 - least).toNat) (e4 _ _ h3) (ev_v rfl) ((ed_i0 (ed_v (d := .int r[i].1) rfl (.int _)) (ed_v (d := .int least) rfl (.int _))).to (by congr 1; omega)) (by rw [putT_len, List.length_replicate]; omega) (ed_v (d := .int r[i].2) rfl (.int _)) fun H4 e5 => ?_
      refine ⟨_, _, rfl, Ex.mut ((e3.trans e4).trans e5) hp0, ?_⟩
      rw [upd_same, List.take_add_one, List.getElem?_eq_getElem hi]
      exact congrArg (fun z => some (HO.lst (List.map V.int z))) (putT_snoc _ _ _ _).symm
    · rintro σ' H' ⟨x3, x4, rfl, e3, h3⟩
      rw [List.length_map, List.take_length] at h3
      have he : polyS r least = trim (putT least r (List.replicate m 0)) := by
        unfold polyS
        rw [List.getLast?_eq_some_getLast hne, ← hl, hm]
      rw [he] at q
      refine sd_retF (SpN.ev (A := fun _ => False) (putT least r (List.replicate m 0)) (ewa_cons (ew_v rfl (ints_dd h3)) ewa_nil) ?_) e3 q
      rw [putT_len, List.length_replicate]
      omega
/-! ### made_plain -/
def termsP (row : List Int) : Ser := (row.mapIdx fun i c => ((i : Int), c)).filter fun p => !decide (p.2 = 0)
def sgn1 (c : Int) : Int := if c > 0 then 1 else -1
def plainT (t : Ser) : Ser := match t with
  | [] => []
  | f :: _ => t.map fun p => (p.1 - f.1, sgn1 f.2 * p.2)
def plainS (row : List Int) : Ser := plainT (termsP row)
abbrev spPlain (K : PySem.W.Frag) : Sp := SpD K (fun x : List Int => x.length ≤ 10000 ∧ Sm 5000 x) (fun x => [dP x]) (fun x => dS (plainS x))
theorem enum_ints (row : List Int) : ((row.map PyData.int).mapIdx fun i d => pairD (.int (i : Int)) d) = (row.mapIdx fun i c => ((i : Int), c)).map dPr := by
  refine List.ext_getElem? fun i => ?_
  rw [List.getElem?_mapIdx, List.getElem?_map, List.getElem?_map, List.getElem?_mapIdx]
  cases row[i]? <;> rfl
theorem terms_mem {row : List Int} {p : Int × Int} (h : p ∈ termsP row) : p.2 ∈ row := by
  obtain ⟨h1, _⟩ := List.mem_filter.mp h
  obtain ⟨i, hi, e⟩ := List.getElem_of_mem h1
  rw [List.getElem_mapIdx] at e
  rw [← e]
  exact List.getElem_mem _
theorem sgn1_small (c : Int) : (sgn1 c).natAbs < 2 ^ 1 := by
  unfold sgn1
  split <;> decide
theorem fk_made_plain (T : Tx K mg) : Fk P w K mg base 1 "made_plain" P_made_plain (spPlain K) := by
  refine T.d_made_plain.fk sc_made_plain (SpD.len fun _ => rfl) fun f cdv A outer s H vs Q E hr h => ?_
  obtain ⟨row, ⟨hn, hs⟩, g, q⟩ := h
  obtain ⟨v1, rfl, g1⟩ := dn1 g
  dsimp only at q g1
  refine ⟨_, (pss_cons (ps_setLc (i := 1) (own := [("at", 5), ("number", 6)]) (g := (gTup K 2 (gCons (gName 5) (gCons (gName 6) gNil)))) rfl sc_made_plain.nd rfl rfl (sw_true rfl rfl rfl (by decide +kernel)) (pi_enum (by rfl) T.enumerate (pa_cons (pv 0) pa_nil)) (blkOk_by (own := [("at", 5), ("number", 6)]) (N := N_made_plain) (sc := defScope s_made_plain) (by decide +kernel)) (fun _ _ _ _ _ => (pg_tup rfl (pgs_cons (pg_name (i := 5) (hf := Or.inr rfl) sc_made_plain.nd rfl (Or.inl rfl)) (pgs_cons (pg_name (i := 6) (hf := Or.inr rfl) sc_made_plain.nd rfl (Or.inl rfl)) pgs_nil)))) (fun _ _ _ _ _ => pts_one (pt_cmpR op_ne (pv 6) pe_int (nomark _))) (fun _ _ _ _ _ => (pe_tup (pa_cons (pv 5) (pa_cons (pv 6) pa_nil)))))
      (pss_cons (ps_if (pt_cmpR op_eq (pe_callB (call_len_seqK (K := K) rfl) (by rfl) T.len (by decide +kernel) (pa_cons (pv 1) pa_nil)) pe_int (nomark _))
      (pss_one (ps_ret (pe_tup pa_nil)))
      pss_nil)
      (pss_cons (ps_asg (pe_ix (ix_listK (K := K) rfl) (pv 1) pe_int (fun _ _ => rfl)) (pg_tup rfl (pgs_cons (pg_name (i := 2) (hf := Or.inl rfl) sc_made_plain.nd rfl (Or.inr rfl)) (pgs_cons (pg_name (i := 3) (hf := Or.inl rfl) sc_made_plain.nd rfl (Or.inl rfl)) pgs_nil))))
      (pss_cons (ps_set (i := 4) sc_made_plain.nd rfl (Or.inr rfl) (pe_ifExp (pt_cmpR op_gt (pv 3) pe_int (nomark _)) pe_int (pe_un un_neg pe_int)))
      (pss_one (ps_ret (pe_callTy call_tuple_of (by rfl) T.tuple (by decide +kernel) (pa_cons (pe_lc (own := [("at", 5), ("number", 6)]) (g := (gTup K 2 (gCons (gName 5) (gCons (gName 6) gNil)))) rfl sc_made_plain.nd (pi_list (pv 1)) (blkOk_by (own := [("at", 5), ("number", 6)]) (N := N_made_plain) (sc := defScope s_made_plain) (by decide +kernel)) (fun _ _ _ _ _ => (pg_tup rfl (pgs_cons (pg_name (i := 5) (hf := Or.inr rfl) sc_made_plain.nd rfl (Or.inl rfl)) (pgs_cons (pg_name (i := 6) (hf := Or.inr rfl) sc_made_plain.nd rfl (Or.inl rfl)) pgs_nil)))) (fun _ _ _ _ _ => pts_nil) (fun _ _ _ _ _ => (pe_tup (pa_cons (pe_op op_sub (pv 5) (pv 2)) (pa_cons (pe_op op_mulW (pv 4) (pv 6)) pa_nil))))) pa_nil)))))))), ?_⟩
  have hsrc : EvI K (iEnum K (tCons (tVar 0) tNil)) (L2.start N_made_plain [v1]) H ((row.mapIdx fun i c => ((i : Int), c)).map fun p => pairD (.int p.1) (.int p.2)) := (ei_e (ew_v (σ := L2.start N_made_plain [v1]) (i := 0) rfl g1)).to (enum_ints row)
  refine qd_asgM (K := K) (A := Tt) (em_lc2 (K := K) (A := Tt) (l := row.mapIdx fun i c => ((i : Int), c)) (e1 := fun p => .int p.1) (e2 := fun p => .int p.2) (vs := [5, 6]) (j1 := 5) (j2 := 6) (t := tTest (tOp rNe (tVar 6) (tC (.int 0)))) (te := tTup (tCons (tVar 5) (tCons (tVar 6) tNil)))
    hsrc (by rw [List.length_mapIdx]; omega) (fun p => !decide (p.2 = 0)) dPr (fun x y => rfl)
    (fun p hp x y H1 e gx gy => by cases gx; cases gy; exact etD (K := K) (ed_neI (ed_v rfl (.int _)) ed_int))
    (fun p hp x y H1 e gx gy _ => by cases gx; cases gy; exact ed_tup (eda_cons (ed_v rfl (.int _)) (eda_cons (ed_v rfl (.int _)) eda_nil)) (by show 2 ≤ 100000; omega))) fun pa ws H1 hp e1 h1 gw => ?_
  have gt : Dd K H1 (.ref pa) (.list ((termsP row).map dPr)) := .lst (sqA_at h1 trivial) gw.dd
  have hlen : EvD K Tt (tCB (rLenS K) (tCons (tVar 1) tNil)) ((L2.start N_made_plain [v1]).set 1 (some (.ref pa))) H1 (.int ((termsP row).length : Int)) := (ed_lenL (ew_v rfl gt)).to (by rw [List.length_map])
  cases ht : termsP row with
  | nil =>
    rw [show plainS row = [] by unfold plainS; rw [ht]; rfl] at q
    rw [ht] at hlen
    refine q_when (etD (ed_eqI hlen ed_int)) (fun _ H2 e2 => ?_) (fun hb => by cases hb)
    exact sd_retW (ed_tup (A := Tt) eda_nil (Nat.zero_le _)).w (e1.trans e2) q
  | cons l r' =>
    refine q_when (etD (ed_eqI hlen ed_int)) (fun hb => ?_) (fun _ H2 e2 => ?_)
    · rw [ht, List.length_cons] at hb
      have := of_decide_eq_true hb
      omega
    refine qd_unp (K := K) (ew_ixL (ds := (termsP row).map dPr) (d := dPr l) (ew_v rfl (gt.ex e2)) (ed_int (i := ((0 : Nat) : Int))) (atD_nat (by rw [ht]; rfl))) rfl fun vs H3 e3 g3 => ?_
    obtain ⟨va, vb, rfl, ga, gb⟩ := dn2 g3
    cases ga
    cases gb
    refine ⟨_, _, rfl, _, _, rfl, rfl, ?_⟩
    refine qd_asgI (K := K) (n := sgn1 l.2) (ed_if (d := .int (sgn1 l.2)) (etD (K := K) (ed_b0 (g := fun i j => decide (j < i)) (i := l.2) (j := 0) (ed_v rfl (.int _)) ed_int)) (fun hb => ?_) (fun hb => ?_)) fun H4 e4 => ?_
    · exact ed_int.to (by unfold sgn1; rw [if_pos (of_decide_eq_true hb)])
    · exact (ed_neg ed_int).to (by unfold sgn1; rw [if_neg (of_decide_eq_false hb)])
    have gt4 := gt.ex ((e2.trans e3).trans e4)
    refine sd_retW (EvW.to (ed_tupL (A := Tt) (em_lc2 (K := K) (A := Tt) (l := termsP row) (e1 := fun p => .int p.1) (e2 := fun p => .int p.2) (vs := [5, 6]) (j1 := 5) (j2 := 6) (t := tYes)
      (ei_l (ew_v rfl gt4)) ?_ (fun _ => true) (fun p => dPr (p.1 - l.1, sgn1 l.2 * p.2)) (fun x y => rfl) (fun p hp x y H1 e gx gy => et_yes)
      (fun p hp x y H1 e gx gy _ => ?_)).lst).w ?_) ((((e1.trans e2).trans e3).trans e4)) q
    · refine Nat.le_trans (List.length_filter_le _ _) ?_
      rw [List.length_mapIdx]
      omega
    · cases gx
      cases gy
      exact ed_tup (eda_cons (ed_i0 (ed_v (d := .int p.1) rfl (.int _)) (ed_v (d := .int l.1) rfl (.int _))) (eda_cons (ed_iC (ed_v (d := .int (sgn1 l.2)) rfl (.int _)) (ed_v (d := .int p.2) rfl (.int _)) (wide_mul (sgn1_small _) (hs _ (terms_mem hp)) (by decide) (by decide) (by decide))) eda_nil)) (by show 2 ≤ 100000; omega)
    · rw [all_true]
      unfold plainS
      rw [ht]
      show _ = PyData.tuple (((l :: r').map fun p => (p.1 - l.1, sgn1 l.2 * p.2)).map dPr)
      rw [List.map_map]
      rfl
/-! ### least_exponent, polynomials -/
def firstE (s : Ser) : Int := match s with
  | [] => 0
  | p :: _ => p.1
def leastE (r : List Ser) : Int := minL 0 ((r.filter fun s => decide (0 < s.length)).map firstE)
abbrev spLeast (K : PySem.W.Frag) : Sp := SpD K (fun r : List Ser => r.length ≤ 1000) (fun r => [dL r]) (fun r => .int (leastE r))
theorem fk_least_exponent (T : Tx K mg) : Fk P w K mg base 1 "least_exponent" P_least_exponent (spLeast K) := by
  refine T.d_least_exponent.fk sc_least_exponent (SpD.len fun _ => rfl) fun f cdv A outer s H vs Q E hr h => ?_
  obtain ⟨r, hn, g, q⟩ := h
  obtain ⟨v1, rfl, g1⟩ := dn1 g
  dsimp only at hn q g1
  refine ⟨_, (pss_one (ps_ret (pe_callBK (cr_minDef rfl hr.units) (by rfl) T.min (by decide +kernel) (pa_cons (pe_lc (own := [("one", 1)]) (g := (gName 1)) rfl sc_least_exponent.nd (pi_list (pv 0)) (blkOk_by (own := [("one", 1)]) (N := N_least_exponent) (sc := defScope s_least_exponent) (by decide +kernel)) (fun _ _ _ _ _ => (pg_name (i := 1) (hf := Or.inr rfl) sc_least_exponent.nd rfl (Or.inl rfl))) (fun _ _ _ _ _ => pts_one (pt_cmpR op_gt (pe_callB (call_len_seqK (K := K) rfl) (by rfl) T.len (by decide +kernel) (pa_cons (pv 1) pa_nil)) pe_int (nomark _))) (fun _ _ _ _ _ => (pe_ix (ix_tupK (K := K) rfl) (pe_ix (ix_tupK (K := K) rfl) (pv 1) pe_int (fun _ _ => rfl)) pe_int (fun _ _ => rfl)))) pa_nil) (pk_cons pe_int pk_nil)))), ?_⟩
  refine sd_retW (EvD.w (A := Tt) (ed_minDef (ns := (r.filter fun s : Ser => decide (0 < s.length)).map firstE) (EvW.to (em_lc1 (K := K) (A := Tt) (l := r) (enc := dS) (vs := [1]) (j := 1) (ei_l (ew_v rfl g1)) (by omega) (fun s => decide (0 < s.length)) (fun s => .int (firstE s)) (fun x => rfl)
    (fun s hs x H1 e gx => ?_) (fun s hs x H1 e gx hf => ?_)).w (by rw [List.map_map]; rfl)) ed_int)) (Ex.refl H) q
  · exact etD (K := K) ((ed_b0 (g := fun i j => decide (j < i)) ((ed_lenT (A := Tt) (ew_v rfl gx.dd)).to (by rw [List.length_map])) (ed_int (i := 0))).to (by congr 1; simp))
  · cases s with
    | nil => cases hf
    | cons p s =>
      exact ed_ixT (ds := [.int p.1, .int p.2]) (d := .int p.1) (ed_ixT (ds := (p :: s).map dPr) (d := dPr p) (ed_v rfl (gx.any (noL_dS _))) (ed_int (i := ((0 : Nat) : Int))) (atD_nat rfl)) (ed_int (i := 0)) rfl
def polysS (r : List Ser) : List (List Int) := r.map fun s => polyS s (leastE r)
abbrev spPolys (K : PySem.W.Frag) : Sp := SpN K (fun r : List Ser => r.length ≤ 1000 ∧ ∀ s ∈ r, PyOk s (leastE r)) (fun r => [dL r]) (fun r => .list ((polysS r).map dP))
theorem fk_polynomials (T : Tx K mg) : Fk P w K mg base 3 "polynomials" P_polynomials (spPolys K) := by
  refine T.d_polynomials.fk sc_polynomials (SpN.len fun _ => rfl) fun f cdv A outer s H vs Q E hr h => ?_
  obtain ⟨r, ⟨hn, hok⟩, g, q⟩ := h
  obtain ⟨v1, rfl, g1⟩ := dn1 g
  dsimp only at q g1
  refine ⟨_, (pss_cons (ps_set (i := 1) sc_polynomials.nd rfl (Or.inr rfl) (pe_cal (fk_least_exponent T) (hr.mono (by decide)) (by rfl) (pa_cons (pv 0) pa_nil)))
      (pss_one (ps_ret (pe_lc (own := [("one", 2)]) (g := (gName 2)) rfl sc_polynomials.nd (pi_list (pv 0)) (blkOk_by (own := [("one", 2)]) (N := N_polynomials) (sc := defScope s_polynomials) (by decide +kernel)) (fun _ _ _ _ _ => (pg_name (i := 2) (hf := Or.inr rfl) sc_polynomials.nd rfl (Or.inl rfl))) (fun _ _ _ _ _ => pts_nil) (fun _ _ _ _ _ => (pe_cal (fk_polynomial T) (hr.mono (by decide)) (by rfl) (pa_cons (pv 2) (pa_cons (pv 1) pa_nil)))))))), ?_⟩
  refine qd_asgI (K := K) (n := leastE r) ((SpD.ev r (ewa_cons (ew_v rfl g1) ewa_nil) hn).nl rfl) fun H1 e1 => ?_
  refine sd_retF ((em_lc1 (K := K) (A := fun _ => False) (l := r) (enc := dS) (vs := [2]) (j := 2) (t := tYes) (ei_l (ew_v rfl (g1.ex e1))) (by omega) (fun _ => true) (fun s => dP (polyS s (leastE r))) (fun x => rfl)
    (fun s hs x H1 e gx => et_yes) (fun s hs x H1 e gx _ => ?_)).lst.to ?_) e1 q
  · exact (SpN.ev (A := fun _ => False) (s, leastE r) (ewa_cons (ew_v rfl gx.dd) (ewa_cons (ew_v (d := .int (leastE r)) rfl (.int _)) ewa_nil)) (hok s hs)).weak fun _ z => z.elim
  · rw [all_true]
    unfold polysS
    rw [List.map_map]
    rfl
end
end GK
set_option Elab.async false
set_option linter.all false
set_option maxRecDepth 100000
set_option maxHeartbeats 4000000
/-! GG1: is the pair a grid? the class Grid. -/
namespace GK
open PySem PySem.Spec PyProof.Rows L2 Evl GM
/-! ### grids and pairs -/
def PairI (H : Hp) (v : V) (xs zs : List Int) : Prop := ∃ p t u, v = .ref p ∧ H p = some (.tup [.ref t, .ref u]) ∧ FTup H t xs ∧ FTup H u zs
structure GridF (fs : List (Str × V)) (t u : Addr) : Prop where
  x : fs.lookup (Str.ofString "xs") = some (.ref t)
  o : fs.lookup (Str.ofString "ohs") = some (.ref u)
  p : fs.lookup (Str.ofString "pair") = none
def GridI (C : Addr) (H : Hp) (v : V) (xs zs : List Int) : Prop := ∃ a dx fs t u, v = .ref a ∧ H a = some (.ins C dx fs) ∧ GridF fs t u ∧ FTup H t xs ∧ FTup H u zs
theorem FTup.ex {H H' : Hp} {t : Addr} {ns : List Int} (h : FTup H t ns) (e : Ex H H') : FTup H' t ns := by
  obtain ⟨o, h1, h2⟩ := h
  exact ⟨o, e _ _ h1, h2⟩
theorem PairI.ex {H H' : Hp} {v : V} {xs zs : List Int} (h : PairI H v xs zs) (e : Ex H H') : PairI H' v xs zs := by
  obtain ⟨p, t, u, h1, h2, h3, h4⟩ := h
  exact ⟨p, t, u, h1, e _ _ h2, h3.ex e, h4.ex e⟩
theorem GridI.ex {C : Addr} {H H' : Hp} {v : V} {xs zs : List Int} (h : GridI C H v xs zs) (e : Ex H H') : GridI C H' v xs zs := by
  obtain ⟨a, dx, fs, t, u, h1, h2, h3, h4, h5⟩ := h
  exact ⟨a, dx, fs, t, u, h1, e _ _ h2, h3, h4.ex e, h5.ex e⟩
theorem FTup.sq {K : PySem.W.Frag} {H : Hp} {t : Addr} {ns : List Int} (h : FTup H t ns) : SqT K H t (ns.map V.int) := by
  obtain ⟨o, h1, _⟩ := h
  exact .inl (.inr ⟨o, h1⟩)
theorem FTup.dp {K : PySem.W.Frag} {H : Hp} {t : Addr} {ns : List Int} (h : FTup H t ns) : Dp K H (.ref t) (.tuple (ns.map .int)) := .tup h.sq (dpA_ints ns)
section
variable {K : PySem.W.Frag} {A : Addr → Prop} {σ : L2.St} {H : Hp} {to ti te : TE} {t : Addr} {ns : List Int}
/-- t[i], len(t), t.index(k), for x in t -/
theorem ed_fix {i : Nat} (ho : Ev to σ H (.ref t)) (h : FTup H t ns) (hi : EvD K Tt ti σ H (.int (i : Int))) (hl : i < ns.length) : EvD K A (tOp (rIxT K) to ti) σ H (.int (ns.getD i 0)) := fun H1 e Q q =>
  ho H1 e _ fun H2 e2 => ed_ev_i hi H2 (e.trans e2) _ fun H3 e3 => ⟨t, _, (i : Int), _, rfl, rfl, (h.ex ((e.trans e2).trans e3)).sq, atI_int hl, q _ H3 (e2.trans e3) (.int _)⟩
theorem ed_flen (ho : Ev to σ H (.ref t)) (h : FTup H t ns) : EvD K A (tCB (rLenS K) (tCons to tNil)) σ H (.int (ns.length : Int)) := fun H1 e Q q =>
  ho H1 e _ fun H2 e2 => ⟨t, _, rfl, .inr (h.ex (e.trans e2)).sq, q _ H2 e2 (by rw [List.length_map]; exact .int _)⟩
theorem ed_fidx {k : Int} (ho : Ev to σ H (.ref t)) (h : FTup H t ns) (hk : EvD K Tt ti σ H (.int k)) (hm : k ∈ ns) : EvD K A (tIdx to (tCons ti tNil)) σ H (.int (ns.idxOf k : Nat)) := fun H1 e Q q =>
  ho H1 e _ fun H2 e2 => ⟨t, ns, rfl, h.ex (e.trans e2), ed_ev_i hk H2 (e.trans e2) _ fun H3 e3 => ⟨k, rfl, hm, h.ex ((e.trans e2).trans e3), q _ H3 (e2.trans e3) (.int _)⟩⟩
theorem turns_f {a : Addr} : Turns K (Itt K a) (fun H => FTup H a ns) (ns.map .int) := fun H g => by
  refine ⟨⟨_, g.sq, by rw [List.length_map, List.length_map]; exact Nat.le_refl _⟩, fun i d hi => ?_⟩
  obtain ⟨h1, rfl⟩ := int_get hi
  have e1 : (ns.map V.int)[i]? = some (V.int ns[i]) := by rw [List.getElem?_map, List.getElem?_eq_getElem h1]; rfl
  refine ⟨⟨_, _, g.sq, e1⟩, fun x H' y => ?_⟩
  obtain ⟨rfl, y⟩ := y
  have e3 := y _ g.sq
  rw [e1] at e3
  cases e3
  exact ⟨Ex.refl _, .int _⟩
theorem ei_f (ho : Ev to σ H (.ref t)) (h : FTup H t ns) : EvI K (iTup K to) σ H (ns.map .int) := fun H1 e R q => ho H1 e _ fun H2 e2 => ⟨t, rfl, ⟨_, (h.ex (e.trans e2)).sq⟩, q _ H2 _ e2 (h.ex (e.trans e2)) (fun H3 e3 => (h.ex (e.trans e2)).ex e3) turns_f⟩
theorem turns_zf {a b : Addr} {ms : List Int} : Turns K (RZ.ItzT K a b) (fun H => FTup H a ns ∧ FTup H b ms) (((ns.map PyData.int).zip (ms.map .int)).map fun p => pairD p.1 p.2) := fun H g => by
  refine ⟨⟨_, _, g.1.sq, g.2.sq, by simp only [List.length_map, List.length_zip]; omega⟩, fun i d hi => ?_⟩
  obtain ⟨d1, d2, h1, h2, rfl⟩ := zip_get hi
  obtain ⟨i1, rfl⟩ := int_get h1
  obtain ⟨i2, rfl⟩ := int_get h2
  have e1 : (ns.map V.int)[i]? = some (V.int ns[i]) := by rw [List.getElem?_map, List.getElem?_eq_getElem i1]; rfl
  have f1 : (ms.map V.int)[i]? = some (V.int ms[i]) := by rw [List.getElem?_map, List.getElem?_eq_getElem i2]; rfl
  refine ⟨⟨_, _, _, _, g.1.sq, g.2.sq, e1, f1⟩, fun x H' y => ?_⟩
  obtain ⟨T, z, z', rfl, hT, rfl, y, y'⟩ := y
  have e3 := y _ g.1.sq
  rw [e1] at e3
  cases e3
  have e4 := y' _ g.2.sq
  rw [f1] at e4
  cases e4
  exact ex_tup hT (.cons (.int _) (.one (.int _)))
theorem ei_zf {ta tb : TE} {u : Addr} {ms : List Int} (h : Ev ta σ H (.ref t)) (f : FTup H t ns) (h' : Ev tb σ H (.ref u)) (f' : FTup H u ms) : EvI K (RZ.iZipA K (tCons ta (tCons tb tNil))) σ H (((ns.map PyData.int).zip (ms.map .int)).map fun p => pairD p.1 p.2) := fun H1 e R q =>
  h H1 e _ fun H2 e2 => h' H2 (e.trans e2) _ fun H3 e3 => by
    have f := f.ex ((e.trans e2).trans e3)
    have f' := f'.ex ((e.trans e2).trans e3)
    exact ⟨t, u, _, _, rfl, Or.inr ⟨f.sq, f'.sq, q _ H3 _ (e2.trans e3) ⟨f, f'⟩ (fun H3 e3 => ⟨f.ex e3, f'.ex e3⟩) turns_zf⟩⟩
/-- isinstance(x, (list, tuple)) -/
theorem ed_isLT (ho : Ev to σ H (.ref t)) (h : FTup H t ns) : EvD K A (tCB (rIsiT K) (tCons to (tCons (tTup (tCons (tC (.ty "list")) (tCons (tC (.ty "tuple")) tNil))) tNil))) σ H (.bool true) := fun H1 e Q q =>
  ho H1 e _ fun H2 e2 => ⟨sz_of (by show 2 ≤ 100000; omega), fun p hp => by
    have h2 := (h.ex (e.trans e2)).ex (Ex.new hp (o := .tup [.ty "list", .ty "tuple"]))
    obtain ⟨o, ho, _⟩ := h2
    exact ⟨.ref t, p, [.ty "list", .ty "tuple"], .type "tuple", [.type "list", .type "tuple"], true, rfl, upd_same, .cons (.ty _) (.cons (.ty _) .nil), .fTuple ho, kitAny_cons (b := false) (kit_ty (by decide +kernel)) (fun _ => kitAny_cons (b := true) (kit_ty (by decide +kernel)) (fun z => by cases z) (fun _ => rfl)) (fun z => by cases z), q _ _ (e2.trans (Ex.new hp)) (.bl _)⟩⟩
theorem ed_isInt {i : Int} (ho : EvD K Tt to σ H (.int i)) : EvD K A (tCB (rIsi K) (tCons to (tCons (tC (.ty "int")) tNil))) σ H (.bool true) := fun H1 e Q q =>
  ed_ev_i ho H1 e _ fun H2 e2 => ⟨.int i, .ty "int", .type "int", .type "int", true, rfl, .ty _, .base (.int _), kit_ty (by decide +kernel), q _ H2 e2 (.bl _)⟩
theorem ed_isBool {i : Int} (ho : EvD K Tt to σ H (.int i)) : EvD K A (tCB (rIsi K) (tCons to (tCons (tC (.ty "bool")) tNil))) σ H (.bool false) := fun H1 e Q q =>
  ed_ev_i ho H1 e _ fun H2 e2 => ⟨.int i, .ty "bool", .type "int", .type "bool", false, rfl, .ty _, .base (.int _), kit_ty (by decide +kernel), q _ H2 e2 (.bl _)⟩
end
section
variable {P : Program} {w : World} {K : PySem.W.Frag} {mg : Str → Option Value} {base : Heap}
abbrev spIsI (K : PySem.W.Frag) : Sp := SpN K (fun _ : Int => True) (fun i => [.int i]) (fun _ => .bool true)
theorem fk_is_integer (T : Tx K mg) : Fk P w K mg base 1 "is_integer" P_is_integer (spIsI K) := by
  refine T.d_is_integer.fk sc_is_integer (SpN.len fun _ => rfl) fun f cdv A outer s H vs Q E hr h => ?_
  obtain ⟨i, _, g, q⟩ := h
  obtain ⟨v1, rfl, g1⟩ := dn1 g
  dsimp only at q g1
  cases g1
  refine ⟨_, (pss_one (ps_ret (pe_and (pe_callB call_isi (by rfl) T.isinstance (by decide +kernel) (pa_cons (pv 0) (pa_cons (pe_bltn (v := .ty "int") (u := .type "int") (by rfl) T.int (by decide +kernel) rfl) pa_nil))) (pe_one (pe_not (pe_callB call_isi (by rfl) T.isinstance (by decide +kernel) (pa_cons (pv 0) (pa_cons (pe_bltn (v := .ty "bool") (u := .type "bool") (by rfl) T.bool (by decide +kernel) rfl) pa_nil)))))))), ?_⟩
  exact sd_retF (ed_and (a := true) (b := !false) (ed_isInt (ed_v rfl (.int _))) fun _ => ed_not (ed_isBool (ed_v rfl (.int _)))) (Ex.refl H) q
abbrev spPlace (K : PySem.W.Frag) : Sp := SpN K (fun x : Int × Int => 0 ≤ x.1 ∧ x.1 < x.2) (fun x => [.int x.1, .int x.2]) (fun _ => .bool true)
theorem fk_is_place_below (T : Tx K mg) : Fk P w K mg base 2 "is_place_below" P_is_place_below (spPlace K) := by
  refine T.d_is_place_below.fk sc_is_place_below (SpN.len fun _ => rfl) fun f cdv A outer s H vs Q E hr h => ?_
  obtain ⟨⟨i, n⟩, ⟨h1, h2⟩, g, q⟩ := h
  obtain ⟨v1, v2, rfl, g1, g2⟩ := dn2 g
  dsimp only at h1 h2 q g1 g2
  cases g1
  cases g2
  refine ⟨_, (pss_one (ps_ret (pe_and (pe_cal (fk_is_integer T) (hr.mono (by decide)) (by rfl) (pa_cons (pv 0) pa_nil)) (pe_one (pe_chain op_le op_lt pe_int (pv 0) (pv 1)))))), ?_⟩
  refine sd_retF ((ed_and (a := true) (b := (decide (0 ≤ i) && decide (i < n))) (SpN.ev (A := fun _ => False) i (ewa_cons (ew_v (d := .int i) rfl (.int _)) ewa_nil) trivial) fun _ => ed_chain (ed_int (i := 0)) (ed_v rfl (.int _)) (ed_v rfl (.int _))).to ?_) (Ex.refl H) q
  rw [decide_eq_true h1, decide_eq_true h2]
  rfl
/-! ### is_rows, is_pair_of_grid -/
def kD (ns : List Int) : List (Key × V) := ns.map fun n => (Sum.inl n, V.bl true)
theorem putK_new {ns : List Int} {n : Int} (h : n ∉ ns) : putK (kD ns) (Sum.inl n : Key) (V.bl true) = kD (ns ++ [n]) := by
  unfold putK
  rw [if_neg]
  · unfold kD
    rw [List.map_append]
    rfl
  · intro z
    obtain ⟨p, hp, e⟩ := List.any_eq_true.mp z
    obtain ⟨m, hm, rfl⟩ := List.mem_map.mp hp
    have := of_decide_eq_true e
    cases this
    exact h hm
theorem ed_lenDc {A : Addr → Prop} {σ : L2.St} {H : Hp} {to : TE} {t : Addr} {ns : List Int} {j : Nat} (ho : Ev to σ H (.ref t)) (h : FTup H t ns) (hnd : ns.Nodup) (hsz : ns.length ≤ 100000) (hw : ∀ x, wipe ((wipe σ [j]).set j (some x)) [j] = wipe σ [j]) (hj : ∀ x, ((wipe σ [j]).set j (some x))[j]? = some (some x)) :
    EvD K A (tCB (fun xs H Q => ∃ a kvs, xs = [V.ref a] ∧ H a = some (.dK kvs) ∧ Q (V.int kvs.length) H) (tCons (tDc (iTup K to) (gName j) tYes (tVar j) (tC (.bl true)) [j]) tNil)) σ H (.int (ns.length : Int)) := fun H1 e Q q =>
  ho H1 e _ fun H2 e2 => ⟨t, rfl, ⟨_, (h.ex (e.trans e2)).sq⟩, fun D hD => by
    have f2 := h.ex (e.trans e2)
    refine ⟨fun i m H' => m = ns.length - i ∧ i ≤ ns.length ∧ Ex H2 H' ∧ H' D = some (.dK (kD (ns.take i))), ⟨_, rfl, Nat.zero_le _, Ex.new hD, upd_same⟩, ?_⟩
    rintro i m H' ⟨rfl, hi, e3, hd⟩
    obtain ⟨t1, t2⟩ := turns_f (K := K) H' (f2.ex e3)
    rw [List.length_map] at t1
    by_cases hlt : i < ns.length
    · obtain ⟨t3, t4⟩ := t2 i (.int ns[i]) (by rw [List.getElem?_map, List.getElem?_eq_getElem hlt]; rfl)
      refine .inr ⟨t3, fun H' => Ex H2 H' ∧ H' D = some (.dK (kD (ns.take (i + 1)))), fun H' p => ⟨ns.length - (i + 1), by omega, rfl, hlt, p⟩, fun x H3 y => ?_⟩
      obtain ⟨e4, gx⟩ := t4 x H3 y
      cases gx
      refine ⟨hw _, iteT (B := (fun H' => Ex H2 H' ∧ H' D = some (.dK (kD (ns.take (i + 1))))) H3) ?_⟩
      refine ⟨_, hj _, kD (ns.take i), Sum.inl ns[i], rfl, e4 _ _ hd, ?_, Ex.mut (e3.trans e4) hD, ?_⟩
      · unfold kD
        rw [List.length_map, List.length_take]
        exact sz_lt (by omega)
      · rw [upd_same, putK_new]
        · rw [List.take_add_one, List.getElem?_eq_getElem hlt]
          rfl
        · intro hm
          obtain ⟨k, hk, ek⟩ := List.getElem_of_mem hm
          rw [List.length_take] at hk
          rw [List.getElem_take] at ek
          exact List.pairwise_iff_getElem.mp hnd k i (by omega) hlt (by omega) ek
    · have ei : i = ns.length := by omega
      subst ei
      refine .inl ⟨t1, D, _, rfl, hd, q _ H' (e2.trans e3) ?_⟩
      rw [List.take_length]
      unfold kD
      rw [List.length_map]
      exact .int _⟩
structure RowsOk (ns : List Int) (n : Nat) : Prop where
  len : ns.length = n
  sz : n ≤ 100
  rng : ∀ x ∈ ns, 0 ≤ x ∧ x < n
  nd : ns.Nodup
def spRows (K : PySem.W.Frag) : Sp := fun vs H Q _ => ∃ t ns n, vs = [.ref t, .int ((n : Nat) : Int)] ∧ FTup H t ns ∧ RowsOk ns n ∧ RetN K (.bool true) H Q
theorem spRows.ev {A : Addr → Prop} {σ : L2.St} {H : Hp} {to ti : TE} {t : Addr} {ns : List Int} {n : Nat} (ho : Ev to σ H (.ref t)) (h : FTup H t ns) (hi : EvD K Tt ti σ H (.int (n : Int))) (ok : RowsOk ns n) : EvD K A (tCall (spRows K) [] E0 (tCons to (tCons ti tNil))) σ H (.bool true) := fun H1 e Q q =>
  ho H1 e _ fun H2 e2 => ed_ev_i hi H2 (e.trans e2) _ fun H3 e3 => ⟨t, ns, n, rfl, h.ex ((e.trans e2).trans e3), ok, fun v H4 e4 g => q v H4 ((e2.trans e3).trans e4) (g.any rfl)⟩
theorem fk_is_rows (T : Tx K mg) : Fk P w K mg base 3 "is_rows" P_is_rows (spRows K) := by
  refine T.d_is_rows.fk sc_is_rows (fun vs H Q E ⟨t, ns, n, h, _⟩ => by rw [h]; rfl) fun f cdv A outer s H vs Q E hr h => ?_
  obtain ⟨t, ns, n, rfl, ft, ok, q⟩ := h
  refine ⟨_, (pss_cons (ps_if (PW.pt (pw_or (pt_not (pt_val (pe_callB call_isiT (by rfl) T.isinstance (by decide +kernel) (pa_cons (pv 0) (pa_cons (pe_tup (pa_cons (pe_bltn (v := .ty "list") (u := .type "list") (by rfl) T.list (by decide +kernel) rfl) (pa_cons (pe_bltn (v := .ty "tuple") (u := .type "tuple") (by rfl) T.tuple (by decide +kernel) rfl) pa_nil))) pa_nil))))) (pw_or1 (pt_cmpR op_ne (pe_callB (call_len_seqK (K := K) rfl) (by rfl) T.len (by decide +kernel) (pa_cons (pv 0) pa_nil)) (pv 1) (nomark _)))))
      (pss_one (ps_ret pe_bl))
      pss_nil)
      (pss_cons (ps_if (pt_not (pt_val (pe_callB (cr_all rfl) (by rfl) T.all (by decide +kernel) (pa_cons (pe_lc (own := [("row", 2)]) (g := (gName 2)) rfl sc_is_rows.nd (pi_tup (pv 0)) (blkOk_by (own := [("row", 2)]) (N := N_is_rows) (sc := defScope s_is_rows) (by decide +kernel)) (fun _ _ _ _ _ => (pg_name (i := 2) (hf := Or.inr rfl) sc_is_rows.nd rfl (Or.inl rfl))) (fun _ _ _ _ _ => pts_nil) (fun _ _ _ _ _ => (pe_cal (fk_is_place_below T) (hr.mono (by decide)) (by rfl) (pa_cons (pv 2) (pa_cons (pv 1) pa_nil))))) pa_nil))))
      (pss_one (ps_ret pe_bl))
      pss_nil)
      (pss_one (ps_ret (pe_cmpR op_eq (pe_callB call_lenD (by rfl) T.len (by decide +kernel) (pa_cons (pe_dc (own := [("row", 2)]) (g := (gName 2)) rfl sc_is_rows.nd (pi_tup (pv 0)) (blkOk_by (own := [("row", 2)]) (N := N_is_rows) (sc := defScope s_is_rows) (by decide +kernel)) (fun _ _ _ _ _ => (pg_name (i := 2) (hf := Or.inr rfl) sc_is_rows.nd rfl (Or.inl rfl))) (fun _ _ _ _ _ => pts_nil) (fun _ _ _ _ _ => (pv 2)) (fun _ _ _ _ _ => pe_bl)) pa_nil)) (pv 1) (nomark _)))))), ?_⟩
  refine q_when (et_or (a := false) (b := false) (et_not (etB (ed_isLT (K := K) (ev_v rfl) ft))) fun _ => etD (b := false) ((ed_neI (K := K) (ed_flen (ev_v rfl) ft) (ed_v rfl (.int _))).to (by rw [ok.len]; simp))) (fun hb => by cases hb) (fun _ H1 e1 => ?_)
  refine q_when (et_not (etB (ed_all (K := K) (A := Tt) (bs := ns.map fun _ => true) (EvW.to (em_lc1 (K := K) (A := Tt) (l := ns) (enc := PyData.int) (vs := [2]) (j := 2) (ei_f (ev_v rfl) (ft.ex e1)) (by have := ok.len; have := ok.sz; omega) (fun _ => true) (fun _ => .bool true) (fun x => rfl)
    (fun s hs x H1 e gx => et_yes) (fun s hs x H1 e gx _ => ?_)).w ?_)))) (fun hb => ?_) (fun _ H2 e2 => ?_)
  · cases gx
    exact SpN.ev (s, (n : Int)) (ewa_cons (ew_v (d := .int s) rfl (.int _)) (ewa_cons (ew_v (d := .int (n : Int)) rfl (.int _)) ewa_nil)) (ok.rng s hs)
  · rw [all_true, List.map_map]
    rfl
  · have : ((ns.map fun _ => true).all id) = true := by simp
    rw [this] at hb
    cases hb
  · refine sd_retF ((ed_eqI (K := K) (ed_lenDc (K := K) (ev_v rfl) (ft.ex (e1.trans e2)) ok.nd (by have := ok.len; have := ok.sz; omega) (fun x => rfl) (fun x => rfl)) (ed_v rfl (.int _))).to ?_) (e1.trans e2) q
    rw [ok.len]
    simp
/-- a pair of rows that is a grid -/
structure Grd (xs zs : List Int) (n : Nat) : Prop where
  rx : RowsOk xs n
  rz : RowsOk zs n
  lo : 2 ≤ n
  hi : n ≤ 6
  ne : ∀ i, i < n → xs.getD i 0 ≠ zs.getD i 0
def spPair (K : PySem.W.Frag) : Sp := fun vs H Q _ => ∃ t u xs zs n, vs = [.ref t, .ref u] ∧ FTup H t xs ∧ FTup H u zs ∧ Grd xs zs n ∧ RetN K (.bool true) H Q
theorem zip_ints : ∀ xs zs : List Int, ((xs.map PyData.int).zip (zs.map .int)).map (fun p => pairD p.1 p.2) = (xs.zip zs).map fun p => pairD (.int p.1) (.int p.2)
  | [], _ => by simp
  | _ :: _, [] => by simp
  | x :: xs, z :: zs => by
    simp only [List.map_cons, List.zip_cons_cons]
    rw [zip_ints xs zs]
theorem Grd.zne {xs zs : List Int} {n : Nat} (g : Grd xs zs n) : ∀ p ∈ xs.zip zs, p.1 ≠ p.2 := fun p hp => by
  obtain ⟨i, hi, e⟩ := List.getElem_of_mem hp
  have l1 := g.rx.len
  have l2 := g.rz.len
  rw [List.length_zip] at hi
  have := g.ne i (by omega)
  rw [List.getD_eq_getElem?_getD, List.getD_eq_getElem?_getD, List.getElem?_eq_getElem (by omega), List.getElem?_eq_getElem (by omega)] at this
  rw [List.getElem_zip] at e
  rw [← e]
  exact this
theorem fk_is_pair_of_grid (T : Tx K mg) : Fk P w K mg base 4 "is_pair_of_grid" P_is_pair_of_grid (spPair K) := by
  refine T.d_is_pair_of_grid.fk sc_is_pair_of_grid (fun vs H Q E ⟨t, u, xs, zs, n, h, _⟩ => by rw [h]; rfl) fun f cdv A outer s H vs Q E hr h => ?_
  obtain ⟨t, u, xs, zs, n, rfl, ft, fu, ok, q⟩ := h
  refine ⟨_, (pss_cons (ps_if (PW.pt (pw_or (pt_not (pt_val (pe_callB call_isiT (by rfl) T.isinstance (by decide +kernel) (pa_cons (pv 0) (pa_cons (pe_tup (pa_cons (pe_bltn (v := .ty "list") (u := .type "list") (by rfl) T.list (by decide +kernel) rfl) (pa_cons (pe_bltn (v := .ty "tuple") (u := .type "tuple") (by rfl) T.tuple (by decide +kernel) rfl) pa_nil))) pa_nil))))) (pw_or1 (pt_cmpR op_lt (pe_callB (call_len_seqK (K := K) rfl) (by rfl) T.len (by decide +kernel) (pa_cons (pv 0) pa_nil)) (pe_glob (v := .int 2) rfl T.LEAST_SIZE.choose_spec ⟨_, rfl⟩) (nomark _)))))
      (pss_one (ps_ret pe_bl))
      pss_nil)
      (pss_cons (ps_if (PW.pt (pw_or (pt_not (pt_val (pe_cal (fk_is_rows T) (hr.mono (by decide)) (by rfl) (pa_cons (pv 0) (pa_cons (pe_callB (call_len_seqK (K := K) rfl) (by rfl) T.len (by decide +kernel) (pa_cons (pv 0) pa_nil)) pa_nil))))) (pw_or1 (pt_not (pt_val (pe_cal (fk_is_rows T) (hr.mono (by decide)) (by rfl) (pa_cons (pv 1) (pa_cons (pe_callB (call_len_seqK (K := K) rfl) (by rfl) T.len (by decide +kernel) (pa_cons (pv 0) pa_nil)) pa_nil))))))))
      (pss_one (ps_ret pe_bl))
      pss_nil)
      (pss_one (ps_ret (pe_callB (cr_all rfl) (by rfl) T.all (by decide +kernel) (pa_cons (pe_lc (own := [("x", 2), ("o", 3)]) (g := (gTup K 2 (gCons (gName 2) (gCons (gName 3) gNil)))) rfl sc_is_pair_of_grid.nd (RZ.pi_zipA (by rfl) T.zip (pa_cons (pv 0) (pa_cons (pv 1) pa_nil))) (blkOk_by (own := [("x", 2), ("o", 3)]) (N := N_is_pair_of_grid) (sc := defScope s_is_pair_of_grid) (by decide +kernel)) (fun _ _ _ _ _ => (pg_tup rfl (pgs_cons (pg_name (i := 2) (hf := Or.inr rfl) sc_is_pair_of_grid.nd rfl (Or.inl rfl)) (pgs_cons (pg_name (i := 3) (hf := Or.inr rfl) sc_is_pair_of_grid.nd rfl (Or.inl rfl)) pgs_nil)))) (fun _ _ _ _ _ => pts_nil) (fun _ _ _ _ _ => (pe_cmpR op_ne (pv 2) (pv 3) (nomark _)))) pa_nil)))))), ?_⟩
  have hl := ok.rx.len
  have hl2 := ok.rz.len
  have hn := ok.hi
  refine q_when (et_or (a := false) (b := false) (et_not (etB (ed_isLT (K := K) (ev_v rfl) ft))) fun _ => etD (b := false) ((ed_b0 (K := K) (g := fun i j => decide (i < j)) (i := (xs.length : Int)) (j := 2) (ed_flen (ev_v rfl) ft) (ed_int (i := 2))).to (by rw [hl, decide_eq_false (by have := ok.lo; omega)]))) (fun hb => by cases hb) (fun _ H1 e1 => ?_)
  refine q_when (et_or (a := false) (b := false) (et_not (etB (spRows.ev (K := K) (ev_v rfl) (ft.ex e1) ((ed_flen (ev_v rfl) (ft.ex e1)).to (by rw [hl])) ok.rx))) fun _ => et_not (etB (spRows.ev (K := K) (ev_v rfl) (fu.ex e1) ((ed_flen (ev_v rfl) (ft.ex e1)).to (by rw [hl])) ok.rz))) (fun hb => by cases hb) (fun _ H2 e2 => ?_)
  have f2 := ft.ex (e1.trans e2)
  have g2 := fu.ex (e1.trans e2)
  refine sd_retF ((ed_all (K := K) (A := fun _ => False) (bs := (xs.zip zs).map fun p => !decide (p.1 = p.2)) (EvW.to (em_lc2 (K := K) (A := Tt) (l := xs.zip zs) (e1 := fun p => .int p.1) (e2 := fun p => .int p.2) (vs := [2, 3]) (j1 := 2) (j2 := 3) ((ei_zf (ev_v rfl) f2 (ev_v rfl) g2).to (zip_ints xs zs)) ?_ (fun _ => true) (fun p => .bool (!decide (p.1 = p.2))) (fun x y => rfl)
    (fun p hp x y H1 e gx gy => et_yes) (fun p hp x y H1 e gx gy _ => ?_)).w ?_)).to ?_) (e1.trans e2) q
  · rw [List.length_zip]
    omega
  · cases gx
    cases gy
    exact ed_neI (ed_v rfl (.int _)) (ed_v rfl (.int _))
  · rw [all_true, List.map_map]
    rfl
  · congr 1
    rw [List.all_map, List.all_eq_true]
    intro p hp
    have := ok.zne p hp
    simp [this]
/-! ### the class -/
def spInit (K : PySem.W.Frag) (C : Addr) : Sp := fun vs H Q _ => ∃ a dx t u xs zs n, vs = [.ref a, .ref t, .ref u] ∧ H a = some (.ins C dx []) ∧ FTup H t xs ∧ FTup H u zs ∧ Grd xs zs n ∧
  ∀ H2 fs, (∀ b o, b ≠ a → H b = some o → H2 b = some o) → H2 a = some (.ins C dx fs) → GridF fs t u → Q .non H2
theorem ft_ne {H : Hp} {a t C dx : Addr} {fs : List (Str × V)} {ns : List Int} (h : FTup H t ns) (ha : H a = some (.ins C dx fs)) : t ≠ a := fun e => by
  obtain ⟨o, h1, _⟩ := h
  rw [e, ha] at h1
  cases h1
theorem ft_upd {H : Hp} {a t : Addr} {o : HO} {ns : List Int} (h : FTup H t ns) (ne : t ≠ a) : FTup (upd H a o) t ns := by
  obtain ⟨o, h1, h2⟩ := h
  exact ⟨o, by rw [upd_ne ne]; exact h1, h2⟩
theorem ok_init (T : Tx K mg) {C fI fL fP : Addr} (G : GridT K mg C fI fL fP) : ∃ fd, Binds K fd P_init [] ∧ FnOk P w K mg base CX0 5 fI fd P_init (spInit K C) := by
  obtain ⟨fd, F, b⟩ := G.dI
  refine ⟨fd, b, F.ok sc_init (fun vs H Q E ⟨a, dx, t, u, xs, zs, n, h, _⟩ => by rw [h]; rfl) fun cdv A outer s H vs Q E hr h => ?_⟩
  obtain ⟨a, dx, t, u, xs, zs, n, rfl, ha, ft, fu, ok, q⟩ := h
  refine ⟨_, (pss_cons (ps_if (pt_not (pt_val (pe_cal (fk_is_pair_of_grid T) (hr.mono (by decide)) (by rfl) (pa_cons (pv 1) (pa_cons (pv 2) pa_nil)))))
      (pss_one ps_never)
      pss_nil)
      (pss_cons (ps_fld (pv 0) (pe_callTy call_tuple_of (by rfl) T.tuple (by decide +kernel) (pa_cons (pv 1) pa_nil)) rfl)
      (pss_one (ps_fld (pv 0) (pe_callTy call_tuple_of (by rfl) T.tuple (by decide +kernel) (pa_cons (pv 2) pa_nil)) rfl)))), ?_⟩
  have hev : EvT (tNot (tB (tCall (spPair K) [] E0 (tCons (tVar 1) (tCons (tVar 2) tNil))))) (L2.start N_init [.ref a, .ref t, .ref u]) H false := et_not (etB (K := K) (te := tCall (spPair K) [] E0 (tCons (tVar 1) (tCons (tVar 2) tNil))) (b := true) fun H1 e Q q =>
    ⟨_, rfl, ⟨_, rfl, ⟨t, u, xs, zs, n, rfl, ft.ex e, fu.ex e, ok, fun v H4 e4 g => q v H4 e4 (g.any rfl)⟩⟩⟩)
  refine q_when hev (fun hb => by cases hb) (fun _ H1 e1 => ?_)
  have hta := ft_ne ft ha
  have hua := ft_ne fu ha
  refine ⟨_, rfl, t, _, rfl, .inr ⟨(ft.ex e1).sq, _, rfl, a, C, dx, [], rfl, e1 _ _ ha, G.cl, G.nX, (by show 0 < 1000; omega), ?_⟩⟩
  refine ⟨_, rfl, u, _, rfl, .inr ⟨(ft_upd (fu.ex e1) hua).sq, _, rfl, a, C, dx, _, rfl, upd_same, G.cl, G.nO, (by show 1 < 1000; omega), ?_⟩⟩
  exact q _ _ (fun b o hb ho => by rw [upd_ne hb, upd_ne hb]; exact e1 _ _ ho) upd_same ⟨rfl, rfl, rfl⟩
def spLen (C : Addr) : Sp := fun vs H Q _ => ∃ v xs zs, vs = [v] ∧ GridI C H v xs zs ∧ ∀ H2, Ex H H2 → Q (.int (xs.length : Int)) H2
theorem ok_len (T : Tx K mg) {C fI fL fP : Addr} (G : GridT K mg C fI fL fP) : ∃ fd, Binds K fd P_len [] ∧ FnOk P w K mg base CX0 1 fL fd P_len (spLen C) := by
  obtain ⟨fd, F, b⟩ := G.dL
  refine ⟨fd, b, F.ok sc_len (fun vs H Q E ⟨v, xs, zs, h, _⟩ => by rw [h]; rfl) fun cdv A outer s H vs Q E hr h => ?_⟩
  obtain ⟨v, xs, zs, rfl, ⟨a, dx, fs, t, u, rfl, ha, gf, ft, fu⟩, q⟩ := h
  refine ⟨_, (pss_one (ps_ret (pe_callB (call_len_seqK (K := K) rfl) (by rfl) T.len (by decide +kernel) (pa_cons (pe_fldK (K := K) rfl (pv 0) rfl) pa_nil)))), ?_⟩
  exact ⟨_, rfl, a, C, dx, fs, _, rfl, ha, G.cl, G.nX, gf.x, t, _, rfl, .inr ft.sq, by rw [List.length_map]; exact q H (Ex.refl H)⟩
def spGPair (C : Addr) : Sp := fun vs H Q _ => ∃ v xs zs, vs = [v] ∧ GridI C H v xs zs ∧ ∀ v2 H2, Ex H H2 → PairI H2 v2 xs zs → Q v2 H2
theorem ok_pair (T : Tx K mg) {C fI fL fP : Addr} (G : GridT K mg C fI fL fP) : ∃ fd, Binds K fd P_pair [] ∧ FnOk P w K mg base CX0 1 fP fd P_pair (spGPair C) := by
  obtain ⟨fd, F, b⟩ := G.dP
  refine ⟨fd, b, F.ok sc_pair (fun vs H Q E ⟨v, xs, zs, h, _⟩ => by rw [h]; rfl) fun cdv A outer s H vs Q E hr h => ?_⟩
  obtain ⟨v, xs, zs, rfl, ⟨a, dx, fs, t, u, rfl, ha, gf, ft, fu⟩, q⟩ := h
  refine ⟨_, (pss_one (ps_ret (pe_tup (pa_cons (pe_fldK (K := K) rfl (pv 0) rfl) (pa_cons (pe_fldK (K := K) rfl (pv 0) rfl) pa_nil))))), ?_⟩
  refine ⟨_, rfl, a, C, dx, fs, _, rfl, ha, G.cl, G.nX, gf.x, _, rfl, a, C, dx, fs, _, rfl, ha, G.cl, G.nO, gf.o, sz_of (by show 2 ≤ 100000; omega), fun p hp => ?_⟩
  have e := Ex.new hp (o := .tup [.ref t, .ref u])
  exact q _ _ e ⟨p, t, u, rfl, upd_same, ft.ex e, fu.ex e⟩
end
end GK
set_option Elab.async false
set_option linter.all false
set_option maxRecDepth 100000
set_option maxHeartbeats 4000000
/-! GG2: the program's lines of a grid. -/
namespace GK
open PySem PySem.Spec PyProof.Rows L2 Evl GM
/-! ### mirrors -/
def btw (v a b : Int) : Bool := decide (min a b < v) && decide (v < max a b)
def sgnC (xs zs : List Int) (c : Nat) (right : Bool) : Int := if decide (xs.getD c 0 < zs.getD c 0) = right then -1 else 1
def upto (a b : Nat) : List Nat := if a < b then (List.range (b - (a + 1))).map (fun i => a + 1 + i) else (List.range (a - (b + 1))).map (fun i => a - 1 - i)
def passN (xs zs : List Int) (row a b : Nat) : List Nat := (upto a b).filter fun c => btw row (xs.getD c 0) (zs.getD c 0)
def overN (xs zs : List Int) (row a b : Nat) : List (Nat × Int) := (passN xs zs row a b).map fun c => (c, sgnC xs zs c (decide (a < b)))
def lineD (xs zs : List Int) (row : Nat) : PyData := dLn (zs.idxOf (row : Int)) (xs.idxOf (row : Int)) (overN xs zs row (zs.idxOf (row : Int)) (xs.idxOf (row : Int)))
theorem upto_lt {a b n c : Nat} (ha : a < n) (hb : b < n) (h : c ∈ upto a b) : c < n := by
  unfold upto at h
  split at h
  · obtain ⟨i, hi, rfl⟩ := List.mem_map.mp h
    have := List.mem_range.mp hi
    omega
  · obtain ⟨i, hi, rfl⟩ := List.mem_map.mp h
    omega
theorem upto_len (a b : Nat) : (upto a b).length ≤ a + b := by
  unfold upto
  split <;> rw [List.length_map, List.length_range] <;> omega
theorem pass_len (xs zs : List Int) (row a b : Nat) : (passN xs zs row a b).length ≤ a + b := Nat.le_trans (List.length_filter_le _ _) (upto_len a b)
/-! ### promises over a grid -/
def SpG (R : Hp → V → List Int → List Int → Prop) (K : PySem.W.Frag) {α : Type} (pre : List Int → List Int → α → Prop) (args : α → List PyData) (res : List Int → List Int → α → PyData) : Sp := fun vs H Q _ =>
  ∃ v ws xs zs x, vs = v :: ws ∧ R H v xs zs ∧ pre xs zs x ∧ DnAll K Tt H ws (args x) ∧ RetN K (res xs zs x) H Q
section
variable {K : PySem.W.Frag} {A : Addr → Prop} {σ : L2.St} {H : Hp} {to te : TE} {tr : TA} {α : Type} {R : Hp → V → List Int → List Int → Prop} {pre : List Int → List Int → α → Prop} {args : α → List PyData} {res : List Int → List Int → α → PyData} {v : V} {xs zs : List Int}
theorem SpG.ev (hR : ∀ {H H' v xs zs}, R H v xs zs → Ex H H' → R H' v xs zs) (x : α) (ho : Ev to σ H v) (r : R H v xs zs) (h : EvWA K tr σ H (args x)) (hp : pre xs zs x) : EvD K A (tCall (SpG R K pre args res) [] E0 (tCons to tr)) σ H (res xs zs x) := fun H1 e Q q =>
  ho H1 e _ fun H2 e2 => h H2 (e.trans e2) _ fun ws H3 e3 g => ⟨v, ws, xs, zs, x, by rw [List.append_nil], hR r ((e.trans e2).trans e3), hp, g, fun v H4 e4 g4 => q v H4 ((e2.trans e3).trans e4) (g4.weak fun a z => .inr (fresh_back (e2.trans e3) z))⟩
theorem SpG.len {n : Nat} (h : ∀ x, (args x).length = n) : ∀ vs H Q E, SpG R K pre args res vs H Q E → vs.length = n + 1 := fun vs H Q E ⟨v, ws, xs, zs, x, e, _, _, g, _⟩ => by
  rw [e, List.length_cons, g.len, h]
theorem ev_fld {a C dx : Addr} {fs : List (Str × V)} {f : Str} (ho : Ev to σ H (.ref a)) (ha : H a = some (.ins C dx fs)) (c : Cls K C) (n : NoAttr K C f) (l : fs.lookup f = some v) : Ev (tFld K to f) σ H v := fun H1 e Q q =>
  ho H1 e _ fun H2 e2 => ⟨a, C, dx, fs, v, rfl, (e.trans e2) _ _ ha, c, n, l, q H2 e2⟩
theorem ed_lenG {C : Addr} (ho : Ev to σ H v) (g : GridI C H v xs zs) (hl : xs.length ≤ 100000) : EvD K A (tCB (rLenG C (spLen C)) (tCons to tNil)) σ H (.int (xs.length : Int)) := fun H1 e Q q =>
  ho H1 e _ fun H2 e2 => by
    have g2 := g.ex (e.trans e2)
    obtain ⟨a, dx, fs, t, u, rfl, ha, gf, ft, fu⟩ := id g2
    exact ⟨a, dx, fs, rfl, ha, _, xs, zs, rfl, g2, fun H3 e3 => ⟨xs.length, rfl, hl, q _ H3 (e2.trans e3) (.int _)⟩⟩
theorem sd_appM {B : Addr → Prop} {p : Addr} {ds : List PyData} {d : PyData} {D : Ends} (hl : Lst K H p A ds) (hA : ∀ a, A a → a ≠ p) (ho : Ev to σ H (.ref p)) (h : EvD K B te σ H d) (hB : ∀ a, NewA B H H a → A a) (hz : ds.length < 100000)
    (k : ∀ H1 vs ws, Ex H H1 → H1 p = some (.lst vs) → Lst K (L2.upd H1 p (.lst ws)) p A (ds ++ [d]) → D.nx σ (L2.upd H1 p (.lst ws))) : tDrop (tBM K "list" rAppend to (tCons te tNil)) D σ H := by
  obtain ⟨vs, h1, h2⟩ := hl
  refine sd_app h1 ho h (by rw [h2.len]; exact hz) fun v H1 e g => ?_
  have hp := e _ _ h1
  exact k H1 vs _ e hp ⟨_, upd_same, ((h2.ex e).upd (noT_l hp) hA).app (.one ((g.weak hB).upd (noT_l hp) hA))⟩
end
section
variable {P : Program} {w : World} {K : PySem.W.Frag} {mg : Str → Option Value} {base : Heap}
abbrev spBetw (K : PySem.W.Frag) : Sp := SpN K (fun _ : Int × Int × Int => True) (fun x => [.int x.1, .int x.2.1, .int x.2.2]) (fun x => .bool (btw x.1 x.2.1 x.2.2))
theorem fk_stands_between (T : Tx K mg) : Fk P w K mg base 1 "stands_between" P_stands_between (spBetw K) := by
  refine T.d_stands_between.fk sc_stands_between (SpN.len fun _ => rfl) fun f cdv A outer s H vs Q E hr h => ?_
  obtain ⟨⟨v, a, b⟩, _, g, q⟩ := h
  obtain ⟨v1, v2, v3, rfl, g1, g2, g3⟩ := dn3 g
  dsimp only at q g1 g2 g3
  cases g1
  cases g2
  cases g3
  refine ⟨_, (pss_one (ps_ret (pe_chain op_lt op_lt (pe_callB (call_min2 rfl) (by rfl) T.min (by decide +kernel) (pa_cons (pv 1) (pa_cons (pv 2) pa_nil))) (pv 0) (pe_callB (call_max2 rfl) (by rfl) T.max (by decide +kernel) (pa_cons (pv 1) (pa_cons (pv 2) pa_nil)))))), ?_⟩
  exact sd_retF (ed_chain (ed_min2 (ed_v rfl (.int _)) (ed_v rfl (.int _))) (ed_v rfl (.int _)) (ed_max2 (ed_v rfl (.int _)) (ed_v rfl (.int _)))) (Ex.refl H) q
abbrev spSign (C : Addr) (K : PySem.W.Frag) : Sp := SpG (GridI C) K (fun xs zs x => x.1 < xs.length ∧ x.1 < zs.length) (fun x : Nat × Bool => [.int (x.1 : Int), .bool x.2]) (fun xs zs x => .int (sgnC xs zs x.1 x.2))
theorem fk_sign_of (T : Tx K mg) {C fI fL fP : Addr} (G : GridT K mg C fI fL fP) : Fk P w K mg base 1 "sign_of" P_sign_of (spSign C K) := by
  refine T.d_sign_of.fk sc_sign_of (SpG.len fun _ => rfl) fun f cdv A outer s H vs Q E hr h => ?_
  obtain ⟨v, ws, xs, zs, ⟨c, r⟩, rfl, ⟨a, dx, fs, t, u, rfl, ha, gf, ft, fu⟩, ⟨h1, h2⟩, g, q⟩ := h
  obtain ⟨v1, v2, rfl, g1, g2⟩ := dn2 g
  dsimp only at h1 h2 q g1 g2
  cases g1
  cases g2
  refine ⟨_, (pss_cons (ps_set (i := 3) sc_sign_of.nd rfl (Or.inl rfl) (pe_cmpR op_gt (pe_ix (ix_tupK (K := K) rfl) (pe_fldK (K := K) rfl (pv 0) rfl) (pv 1) (fun _ _ => rfl)) (pe_ix (ix_tupK (K := K) rfl) (pe_fldK (K := K) rfl (pv 0) rfl) (pv 1) (fun _ _ => rfl)) (nomark _)))
      (pss_one (ps_ret (pe_ifExp (pt_cmpR op_eq (pv 3) (pv 2) (nomark _)) (pe_un un_neg pe_int) pe_int)))), ?_⟩
  refine qd_asgB (K := K) (ed_b0 (g := fun i j => decide (j < i)) (ed_fix (ev_fld (ev_v rfl) ha G.cl G.nO gf.o) fu (ed_v rfl (.int _)) h2) (ed_fix (ev_fld (ev_v rfl) ha G.cl G.nX gf.x) ft (ed_v rfl (.int _)) h1)) fun H1 e1 => ?_
  refine sd_retF (K := K) (ed_if (etD (K := K) (ed_eqB (ed_v rfl (.bl _)) (ed_v rfl (.bl _)))) (fun hb => (ed_neg ed_int).to ?_) (fun hb => ed_int.to ?_)) e1 q
  · unfold sgnC
    rw [if_pos (of_decide_eq_true hb)]
  · unfold sgnC
    rw [if_neg (of_decide_eq_false hb)]
structure PasOk (xs zs : List Int) (a b : Nat) : Prop where
  lx : xs.length ≤ 100
  lz : zs.length = xs.length
  a : a < xs.length
  b : b < xs.length
abbrev spPass (C : Addr) (K : PySem.W.Frag) : Sp := SpG (GridI C) K (fun xs zs x => PasOk xs zs x.2.1 x.2.2) (fun x : Nat × Nat × Nat => [.int (x.1 : Int), .int (x.2.1 : Int), .int (x.2.2 : Int)]) (fun xs zs x => .list ((passN xs zs x.1 x.2.1 x.2.2).map fun c : Nat => .int (c : Int)))
theorem fk_passed (T : Tx K mg) {C fI fL fP : Addr} (G : GridT K mg C fI fL fP) : Fk P w K mg base 2 "passed" P_passed (spPass C K) := by
  refine T.d_passed.fk sc_passed (SpG.len fun _ => rfl) fun f cdv A outer s H vs Q E hr h => ?_
  obtain ⟨v, ws, xs, zs, ⟨row, a, b⟩, rfl, gr, ok, g, q⟩ := h
  obtain ⟨v1, v2, v3, rfl, g1, g2, g3⟩ := dn3 g
  dsimp only at ok q g1 g2 g3
  cases g1
  cases g2
  cases g3
  have h1 := ok.lx
  have h2 := ok.lz
  have h3 := ok.a
  have h4 := ok.b
  refine ⟨_, (pss_cons (ps_set (i := 4) sc_passed.nd rfl (Or.inl rfl) (pe_ifExp (pt_cmpR op_lt (pv 2) (pv 3) (nomark _)) pe_int (pe_un un_neg pe_int)))
      (pss_one (ps_ret (pe_lc (own := [("c", 5)]) (g := (gName 5)) rfl sc_passed.nd (pi_range3 (by rfl) T.range (pa_cons (pe_op op_add (pv 2) (pv 4)) (pa_cons (pv 3) (pa_cons (pv 4) pa_nil)))) (blkOk_by (own := [("c", 5)]) (N := N_passed) (sc := defScope s_passed) (by decide +kernel)) (fun _ _ _ _ _ => (pg_name (i := 5) (hf := Or.inr rfl) sc_passed.nd rfl (Or.inl rfl))) (fun _ _ _ _ _ => pts_one (pt_val (pe_cal (fk_stands_between T) (hr.mono (by decide)) (by rfl) (pa_cons (pv 1) (pa_cons (pe_ix (ix_tupK (K := K) rfl) (pe_fldK (K := K) rfl (pv 0) rfl) (pv 5) (fun _ _ => rfl)) (pa_cons (pe_ix (ix_tupK (K := K) rfl) (pe_fldK (K := K) rfl (pv 0) rfl) (pv 5) (fun _ _ => rfl)) pa_nil)))))) (fun _ _ _ _ _ => (pv 5)))))), ?_⟩
  refine qd_asgI (K := K) (n := if a < b then 1 else -1) (ed_if (etD (K := K) (ed_b0 (g := fun i j => decide (i < j)) (ed_v (d := .int (a : Int)) rfl (.int _)) (ed_v (d := .int (b : Int)) rfl (.int _)))) (fun hb => ed_int.to ?_) (fun hb => (ed_neg ed_int).to ?_)) fun H1 e1 => ?_
  · have := of_decide_eq_true hb
    rw [if_pos (by omega)]
  · have := of_decide_eq_false hb
    rw [if_neg (by omega)]
  obtain ⟨sg, hsg⟩ : ∃ sg : Int, sg = if a < b then 1 else -1 := ⟨_, rfl⟩
  rw [← hsg]
  have hsrc : EvI K (iRng3 (tCons (tOp (rI0 fun i j => V.int (i + j)) (tVar 2) (tVar 4)) (tCons (tVar 3) (tCons (tVar 4) tNil)))) ((L2.start N_passed [v, .int (row : Int), .int (a : Int), .int (b : Int)]).set 4 (some (.int sg))) H1 ((upto a b).map fun c : Nat => PyData.int (c : Int)) := by
    refine (ei_r3 (A := Tt) (i := (a : Int) + sg) (n := (b : Int)) (c := sg) (m := (upto a b).length) (ed_i0 (ed_v (d := .int (a : Int)) rfl (.int _)) (ed_v (d := .int sg) rfl (.int _))) (ed_v rfl (.int _)) (ed_v rfl (.int _)) ?_).to ?_
    · by_cases hab : a < b
      · rw [if_pos hab] at hsg
        subst hsg
        have e : (upto a b).length = ((b : Int) - ((a : Int) + 1)).toNat := by
          unfold upto
          rw [if_pos hab, List.length_map, List.length_range]
          omega
        rw [e]
        exact ⟨by decide, by decide, small_one (by omega) (by omega) (by omega) (by omega), rangeSize_nat _ _⟩
      · rw [if_neg hab] at hsg
        subst hsg
        have e : (upto a b).length = (((a : Int) + -1) - (b : Int)).toNat := by
          unfold upto
          rw [if_neg hab, List.length_map, List.length_range]
          omega
        rw [e]
        exact RgC.neg (by omega) (by omega) (by omega) (by omega)
    · unfold rangeC upto
      by_cases hab : a < b
      · rw [if_pos hab] at hsg
        subst hsg
        rw [if_pos hab, List.length_map, List.length_range, List.map_map]
        refine List.map_congr_left fun i _ => ?_
        show PyData.int ((a : Int) + 1 + (i : Int) * 1) = .int ((a + 1 + i : Nat) : Int)
        congr 1
        omega
      · rw [if_neg hab] at hsg
        subst hsg
        rw [if_neg hab, List.length_map, List.length_range, List.map_map]
        refine List.map_congr_left fun i hi => ?_
        have := List.mem_range.mp hi
        show PyData.int ((a : Int) + -1 + (i : Int) * -1) = .int ((a - 1 - i : Nat) : Int)
        congr 1
        omega
  obtain ⟨ag, dx, fs, t, u, rfl, ha, gf, ft, fu⟩ := gr
  refine sd_retF ((em_lc1 (K := K) (A := fun _ => False) (l := upto a b) (enc := fun c : Nat => .int (c : Int)) (vs := [5]) (j := 5) hsrc (Nat.le_trans (upto_len a b) (by omega)) (fun c => btw row (xs.getD c 0) (zs.getD c 0)) (fun c => .int (c : Int)) (fun x => rfl)
    (fun c hc x H2 e2 gx => ?_) (fun c hc x H2 e2 gx _ => ?_)).lst) e1 q
  · cases gx
    have hlt := upto_lt h3 h4 hc
    refine etB (K := K) (SpN.ev ((row : Int), xs.getD c 0, zs.getD c 0) (ewa_cons (ew_v (d := .int (row : Int)) rfl (.int _)) (ewa_cons (ed_fix (A := Tt) (ev_fld (ev_v rfl) ((e1.trans e2) _ _ ha) G.cl G.nX gf.x) (ft.ex (e1.trans e2)) (ed_v rfl (.int _)) hlt).w
      (ewa_cons (ed_fix (A := Tt) (ev_fld (ev_v rfl) ((e1.trans e2) _ _ ha) G.cl G.nO gf.o) (fu.ex (e1.trans e2)) (ed_v rfl (.int _)) (by omega)).w ewa_nil))) trivial)
  · cases gx
    exact ed_v rfl (.int _)
/-! ### lines_of -/
structure LinOk (xs zs : List Int) (n : Nat) : Prop where
  lx : xs.length = n
  lz : zs.length = n
  hn : n ≤ 100
  mx : ∀ r : Nat, r < n → (r : Int) ∈ xs
  mz : ∀ r : Nat, r < n → (r : Int) ∈ zs
abbrev spLines (C : Addr) (K : PySem.W.Frag) : Sp := SpG (GridI C) K (fun xs zs n => LinOk xs zs n) (fun _ : Nat => []) (fun xs zs n => .list ((List.range n).map (lineD xs zs)))
theorem fk_lines_of (T : Tx K mg) {C fI fL fP : Addr} (G : GridT K mg C fI fL fP) : Fk P w K mg base 3 "lines_of" P_lines_of (spLines C K) := by
  obtain ⟨fdL, bL, FL⟩ := ok_len (P := P) (w := w) (base := base) T G
  refine T.d_lines_of.fk sc_lines_of (SpG.len fun _ => rfl) fun f cdv A outer s H vs Q E hr h => ?_
  obtain ⟨v, ws, xs, zs, n, rfl, gr, ok, g, q⟩ := h
  cases g.nil_inv
  refine ⟨_, (pss_cons (ps_set (i := 1) sc_lines_of.nd rfl (Or.inl rfl) (pe_lst pa_nil))
      (pss_cons (ps_for PassesOwn.never rfl (pi_range1 (by rfl) T.range (pa_cons (pe_callB (call_lenG G.ln FL bL (hr.mono (by decide))) (by rfl) T.len (by decide +kernel) (pa_cons (pv 0) pa_nil)) pa_nil)) (pg_name (i := 2) (hf := Or.inl rfl) sc_lines_of.nd rfl (Or.inl rfl))
      (pss_cons (ps_set (i := 3) sc_lines_of.nd rfl (Or.inr rfl) (pe_idx (pe_fldK (K := K) rfl (pv 0) rfl) (pa_cons (pv 2) pa_nil)))
      (pss_cons (ps_set (i := 4) sc_lines_of.nd rfl (Or.inr rfl) (pe_idx (pe_fldK (K := K) rfl (pv 0) rfl) (pa_cons (pv 2) pa_nil)))
      (pss_one (ps_expr (pe_bm PySem.F.plainAttrs_list PySem.F.slot_list_append PySem.F.type_list_append mt_append (pv 1) (pa_cons (pe_tup (pa_cons (pv 3) (pa_cons (pv 4) (pa_cons (pe_lc (own := [("c", 5)]) (g := (gName 5)) rfl sc_lines_of.nd (pi_list (pe_cal (fk_passed T G) (hr.mono (by decide)) (by rfl) (pa_cons (pv 0) (pa_cons (pv 2) (pa_cons (pv 3) (pa_cons (pv 4) pa_nil)))))) (blkOk_by (own := [("c", 5)]) (N := N_lines_of) (sc := defScope s_lines_of) (by decide +kernel)) (fun _ _ _ _ _ => (pg_name (i := 5) (hf := Or.inr rfl) sc_lines_of.nd rfl (Or.inl rfl))) (fun _ _ _ _ _ => pts_nil) (fun _ _ _ _ _ => (pe_tup (pa_cons (pv 5) (pa_cons (pe_cal (fk_sign_of T G) (hr.mono (by decide)) (by rfl) (pa_cons (pv 0) (pa_cons (pv 5) (pa_cons (pe_cmpR op_lt (pv 3) (pv 4) (nomark _)) pa_nil)))) pa_nil))))) pa_nil)))) pa_nil)))))))
      (pss_one (ps_ret (pv 1))))), ?_⟩
  have hn := ok.hn
  have lx := ok.lx
  refine qd_asgM (K := K) (A := fun _ => False) (em_lst eda_nil (Nat.zero_le _)) fun p ws H1 hp e1 h1 g1 => ?_
  have er := er_1 (K := K) (σ := (L2.start N_lines_of [v]).set 1 (some (.ref p))) (H := H1) (n := (n : Int)) ((ed_lenG (K := K) (C := C) (A := Tt) (to := tVar 0) (ev_v rfl) (gr.ex e1) (by omega)).to (by rw [lx])) (by omega)
  rw [Int.toNat_natCast] at er
  refine qd_forR (K := K) er (fun i σ' H' => ∃ x2 x3 x4, σ' = [some v, some (.ref p), x2, x3, x4, none] ∧ Ex H H' ∧ Lst K H' p (fun a => H a = none ∧ a ≠ p) ((List.range i).map (lineD xs zs)))
    (fun H2 e2 => ⟨none, none, none, rfl, e1.trans e2, ⟨ws, e2 _ _ h1, (g1.ex e2).weak fun a z => ⟨z.1.elim (fun z => z.1.elim) id, z.2⟩⟩⟩) ?_ ?_
  · rintro i σ' H' H2 hi ⟨x2, x3, x4, rfl, e2, L⟩ e3
    have gr2 := gr.ex (e2.trans e3)
    obtain ⟨ag, dx, fs, t, u, rfl, ha, gf, ft, fu⟩ := id gr2
    have mz := List.idxOf_lt_length_of_mem (ok.mz i hi)
    have mx := List.idxOf_lt_length_of_mem (ok.mx i hi)
    rw [ok.lz] at mz
    rw [lx] at mx
    obtain ⟨a, ea⟩ : ∃ a, a = zs.idxOf (i : Int) := ⟨_, rfl⟩
    obtain ⟨b, eb⟩ : ∃ b, b = xs.idxOf (i : Int) := ⟨_, rfl⟩
    rw [← ea] at mz
    rw [← eb] at mx
    refine qd_asgI (K := K) (n := (a : Int)) ((ed_fidx (k := (i : Int)) (ev_fld (ev_v rfl) ha G.cl G.nO gf.o) fu (ed_v rfl (.int _)) (ok.mz i hi)).to (by rw [ea])) fun H3 e4 => ?_
    refine qd_asgI (K := K) (n := (b : Int)) ((ed_fidx (k := (i : Int)) (ev_fld (ev_v rfl) (e4 _ _ ha) G.cl G.nX gf.x) (ft.ex e4) (ed_v rfl (.int _)) (ok.mx i hi)).to (by rw [eb])) fun H4 e5 => ?_
    have gr4 := gr2.ex (e4.trans e5)
    have L4 := L.ex ((e3.trans e4).trans e5)
    have pas : PasOk xs zs a b := ⟨by omega, by rw [lx, ok.lz], by omega, by omega⟩
    refine sd_appM (K := K) (B := fun _ => False) L4 (fun _ z => z.2) (ev_v rfl) (ed_tup (ds := [.int (a : Int), .int (b : Int), dOv (overN xs zs i a b)]) (eda_cons (ed_v (d := .int (a : Int)) rfl (.int _)) (eda_cons (ed_v (d := .int (b : Int)) rfl (.int _)) (eda_cons
      ((em_lc1 (K := K) (l := passN xs zs i a b) (enc := fun c : Nat => .int (c : Int)) (vs := [5]) (j := 5) (ei_l (SpG.ev (R := GridI C) (hR := GridI.ex) (A := Tt) (i, a, b) (ev_v rfl) gr4 (ewa_cons (ew_v (d := .int (i : Int)) rfl (.int _)) (ewa_cons (ew_v (d := .int (a : Int)) rfl (.int _)) (ewa_cons (ew_v (d := .int (b : Int)) rfl (.int _)) ewa_nil))) pas).w)
        (by have := pass_len xs zs i a b; omega) (fun _ => true) (fun c : Nat => pairD (.int (c : Int)) (.int (sgnC xs zs c (decide (a < b))))) (fun x => rfl) (fun c hc x H1 e gx => et_yes) (fun c hc x H5 e6 gx _ => ?_)).lst.to ?_) eda_nil))) (by show 3 ≤ 100000; omega)) (fun a z => ?_) (by rw [List.length_map, List.length_range]; omega) fun H5 vs ws e6 h5 L5 => ?_
    · cases gx
      have hc' := upto_lt mz mx (List.mem_filter.mp hc).1
      exact ed_tup (eda_cons (ed_v rfl (.int _)) (eda_cons ((SpG.ev (R := GridI C) (hR := GridI.ex) (c, decide (a < b)) (ev_v rfl) (gr4.ex e6) (ewa_cons (ew_v (d := .int (c : Int)) rfl (.int _)) (ewa_cons ((ed_b0 (A := Tt) (g := fun i j => decide (i < j)) (ed_v (d := .int (a : Int)) rfl (.int _)) (ed_v (d := .int (b : Int)) rfl (.int _))).to (by congr 1; simp)).w ewa_nil)) ⟨by rw [lx]; exact hc', by rw [ok.lz]; exact hc'⟩)) eda_nil)) (by show 2 ≤ 100000; omega)
    · rw [all_true]
      unfold dOv overN
      rw [List.map_map]
      rfl
    · rcases z with z | z
      · exact z.1.elim
      · refine ⟨fresh_back ((((e2.trans e3).trans e4).trans e5)) z, fun x => ?_⟩
        obtain ⟨vs, hv, _⟩ := L4
        rw [x, hv] at z
        cases z
    · refine ⟨_, _, _, rfl, Ex.mut (((((e2.trans e3).trans e4).trans e5).trans e6)) hp, ?_⟩
      · rw [List.range_succ, List.map_append]
        have : lineD xs zs i = .tuple [.int (a : Int), .int (b : Int), dOv (overN xs zs i a b)] := by
          unfold lineD dLn
          rw [← ea, ← eb]
        show Lst K _ p _ (_ ++ [lineD xs zs i])
        rw [this]
        exact L5
  · rintro σ' H' ⟨x2, x3, x4, rfl, e2, vs, hv, gv⟩
    exact ⟨_, rfl, q _ _ e2 (.lst (sqA_at hv hp) (gv.weak fun a z => z.1))⟩
end
end GK
set_option Elab.async false
set_option linter.all false
set_option maxRecDepth 100000
set_option maxHeartbeats 4000000
/-! GG3: alexander. -/
namespace GK
open PySem PySem.Spec PyProof.Rows L2 Evl GM
def rowS (xs zs : List Int) (n r : Nat) : List Ser := lineS n (zs.idxOf (r : Int)) (xs.idxOf (r : Int)) (overN xs zs r (zs.idxOf (r : Int)) (xs.idxOf (r : Int)))
def headS (xs zs : List Int) (n r : Nat) : List Ser := (rowS xs zs n r).take (n - 1)
def MxP (xs zs : List Int) (n : Nat) : Nat → Nat → List Int := fun i k => polyS ((headS xs zs n i).getD k []) (leastE (headS xs zs n i))
theorem rowS_len (xs zs : List Int) (n r : Nat) : (rowS xs zs n r).length = n := by
  unfold rowS lineS lend
  rw [List.length_set, lfold_len]
  simp
theorem headS_len (xs zs : List Int) (n r : Nat) : (headS xs zs n r).length = n - 1 := by
  unfold headS
  rw [List.length_take, rowS_len]
  omega
structure AlxOk (xs zs : List Int) (n : Nat) (d : List Int) : Prop where
  lin : LinOk xs zs n
  n1 : 1 ≤ n
  n6 : n ≤ 6
  run : Run (n - 1) 0 (MxP xs zs n) [1] d
  py : ∀ r, r < n - 1 → ∀ s ∈ headS xs zs n r, PyOk s (leastE (headS xs zs n r))
  dl : d.length ≤ 10000
  ds : Sm 5000 d
abbrev spAlx (C : Addr) (K : PySem.W.Frag) : Sp := SpG (GridI C) K (fun xs zs x => AlxOk xs zs x.1 x.2) (fun _ : Nat × List Int => []) (fun _ _ x => dS (plainS x.2))
theorem list_as_range {α β : Type} (l : List α) (d : α) (f : α → β) : l.map f = (List.range l.length).map fun k => f (l.getD k d) := by
  refine List.ext_getElem? fun i => ?_
  rw [List.getElem?_map, List.getElem?_map]
  by_cases hi : i < l.length
  · rw [List.getElem?_eq_getElem hi, List.getElem?_range hi]
    simp [hi]
  · rw [List.getElem?_eq_none (by omega), List.getElem?_eq_none (by rw [List.length_range]; omega)]
    rfl
section
variable {P : Program} {w : World} {K : PySem.W.Frag} {mg : Str → Option Value} {base : Heap}
theorem ok_alexander (T : Tx K mg) {C fI fL fP : Addr} (G : GridT K mg C fI fL fP) : ∃ (f : Addr) (fd : FuncData), Fun K "alexander" "alexander" s_alexander f fd ∧ mg "alexander" = some (.ref f) ∧ Binds K fd P_alexander [] ∧ FnOk P w K mg base CX0 5 f fd P_alexander (spAlx C K) := by
  obtain ⟨fdL, bL, FL⟩ := ok_len (P := P) (w := w) (base := base) T G
  obtain ⟨f, fd, F, hmg, hbd⟩ := T.d_alexander
  refine ⟨f, fd, F, hmg, hbd, F.ok sc_alexander (SpG.len fun _ => rfl) fun cdv A outer s H vs Q E hr h => ?_⟩
  obtain ⟨v, ws, xs, zs, ⟨n, d⟩, rfl, gr, ok, g, q⟩ := h
  cases g.nil_inv
  dsimp only at ok q
  have lin := ok.lin
  have lx := lin.lx
  have n6 := ok.n6
  have n1 := ok.n1
  refine ⟨_, (pss_cons (ps_set (i := 1) sc_alexander.nd rfl (Or.inr rfl) (pe_callB (call_lenG G.ln FL bL (hr.mono (by decide))) (by rfl) T.len (by decide +kernel) (pa_cons (pv 0) pa_nil)))
      (pss_cons (ps_setLc (i := 2) (own := [("line", 3)]) (g := (gName 3)) rfl sc_alexander.nd rfl rfl (sw_true rfl rfl rfl (by decide +kernel)) (pi_list (pe_cal (fk_lines_of T G) (hr.mono (by decide)) (by rfl) (pa_cons (pv 0) pa_nil))) (blkOk_by (own := [("line", 3)]) (N := N_alexander) (sc := defScope s_alexander) (by decide +kernel)) (fun _ _ _ _ _ => (pg_name (i := 3) (hf := Or.inr rfl) sc_alexander.nd rfl (Or.inl rfl))) (fun _ _ _ _ _ => pts_nil) (fun _ _ _ _ _ => (pe_cal (fk_line_series T) (hr.mono (by decide)) (by rfl) (pa_cons (pv 3) (pa_cons (pv 1) pa_nil)))))
      (pss_one (ps_ret (pe_cal (fk_made_plain T) (hr.mono (by decide)) (by rfl) (pa_cons (pe_cal (fk_determinant T) (hr.mono (by decide)) (by rfl) (pa_cons (pe_lc (own := [("row", 4)]) (g := (gName 4)) rfl sc_alexander.nd (pi_list (pe_slice (sl_listK (K := K) rfl) (pv 2) po_none (po_some (pe_op op_sub (pv 1) pe_int)))) (blkOk_by (own := [("row", 4)]) (N := N_alexander) (sc := defScope s_alexander) (by decide +kernel)) (fun _ _ _ _ _ => (pg_name (i := 4) (hf := Or.inr rfl) sc_alexander.nd rfl (Or.inl rfl))) (fun _ _ _ _ _ => pts_nil) (fun _ _ _ _ _ => (pe_cal (fk_polynomials T) (hr.mono (by decide)) (by rfl) (pa_cons (pe_slice (sl_listK (K := K) rfl) (pv 4) po_none (po_some (pe_op op_sub (pv 1) pe_int))) pa_nil)))) pa_nil)) pa_nil)))))), ?_⟩
  refine qd_asgI (K := K) (n := (n : Int)) ((ed_lenG (K := K) (C := C) (A := Tt) (to := tVar 0) (ev_v rfl) gr (by omega)).to (by rw [lx])) fun H1 e1 => ?_
  have hln : ∀ r : Nat, r < n → LnOk n (zs.idxOf (r : Int)) (xs.idxOf (r : Int)) (overN xs zs r (zs.idxOf (r : Int)) (xs.idxOf (r : Int))) := fun r hr => by
    have mz := List.idxOf_lt_length_of_mem (lin.mz r hr)
    have mx := List.idxOf_lt_length_of_mem (lin.mx r hr)
    rw [lin.lz] at mz
    rw [lx] at mx
    refine ⟨lin.hn, mz, mx, ?_, fun p hp => ?_⟩
    · unfold overN
      rw [List.length_map]
      have := pass_len xs zs r (zs.idxOf (r : Int)) (xs.idxOf (r : Int))
      omega
    · obtain ⟨c, hc, rfl⟩ := List.mem_map.mp hp
      exact upto_lt mz mx (List.mem_filter.mp hc).1
  refine qd_asgM (K := K) (A := fun _ => False) (em_lc1 (K := K) (l := List.range n) (enc := lineD xs zs) (vs := [3]) (j := 3) (ei_l (SpG.ev (R := GridI C) (hR := GridI.ex) (A := Tt) n (ev_v rfl) (gr.ex e1) ewa_nil lin).w) (by rw [List.length_range]; omega) (fun _ => true) (fun r => dL (rowS xs zs n r)) (fun x => rfl)
    (fun r hr x H2 e gx => et_yes) (fun r hr x H2 e gx _ => (SpN.ev (A := fun _ => False) (n, zs.idxOf (r : Int), xs.idxOf (r : Int), overN xs zs r (zs.idxOf (r : Int)) (xs.idxOf (r : Int))) (ewa_cons (ew_v rfl gx.dd) (ewa_cons (ew_v (d := .int (n : Int)) rfl (.int _)) ewa_nil)) (hln r (List.mem_range.mp hr))).weak fun _ z => z.elim)) fun p ws H2 hp e2 h2 g2 => ?_
  rw [all_true] at g2
  have gR : Dd K H2 (.ref p) (.list ((List.range n).map fun r => dL (rowS xs zs n r))) := .lst (sqA_at h2 trivial) g2.dd
  have sz1 : ∀ {σ : L2.St} {H' : Hp} {A : Addr → Prop}, σ[1]? = some (some (.int (n : Int))) → EvD K A (tOp (rI0 fun i j => V.int (i - j)) (tVar 1) (tC (V.int 1))) σ H' (.int ((n - 1 : Nat) : Int)) := fun h => (ed_i0 (ed_v (d := .int (n : Int)) h (.int _)) ed_int).to (by congr 1; omega)
  have hrow : ∀ i, i < n - 1 → PyData.list ((polysS (headS xs zs n i)).map dP) = dRow (n - 1) (MxP xs zs n i) := fun i hi => by
    unfold polysS dRow
    rw [List.map_map, list_as_range (headS xs zs n i) [], headS_len]
    rfl
  have hmat := em_lc1 (K := K) (A := Tt) (σ := (List.set (L2.start N_alexander [v]) 1 (some (V.int (n : Int)))).set 2 (some (V.ref p))) (H := H2) (l := List.range (n - 1)) (enc := fun r => dL (rowS xs zs n r)) (vs := [4]) (j := 4) (t := tYes)
    (wi := iList K (tSl (rSlL K) (tVar 2) tNoPart (tPart (tOp (rI0 fun i j => V.int (i - j)) (tVar 1) (tC (V.int 1))))))
    (te := tCall (spPolys K) [] E0 (tCons (tSl (rSlL K) (tVar 4) tNoPart (tPart (tOp (rI0 fun i j => V.int (i - j)) (tVar 1) (tC (V.int 1))))) tNil))
    (ei_l (EvW.to (em_slTo (A := Tt) (k := n - 1) (ed_v (i := 2) rfl gR) (sz1 rfl)).w (by rw [← List.map_take, List.take_range, Nat.min_eq_left (by omega)]))) (by rw [List.length_range]; omega) (fun _ => true) (fun r => dRow (n - 1) (MxP xs zs n r)) (fun x => rfl)
    (fun r hr x H3 e gx => et_yes) (fun r hr x H3 e gx _ => ?_)
  · rw [all_true] at hmat
    have hd := SpD.ev (K := K) (pre := fun x : Nat × (Nat → Nat → List Int) × List Int => x.1 ≤ 100 ∧ Run x.1 0 x.2.1 [1] x.2.2) (args := fun x => [dM x.1 x.2.1]) (res := fun x => dP x.2.2) (n - 1, MxP xs zs n, d) (ewa_cons hmat.w ewa_nil) ⟨by dsimp only; omega, ok.run⟩
    exact sd_retF ((SpD.ev (K := K) (pre := fun x : List Int => x.length ≤ 10000 ∧ Sm 5000 x) (args := fun x => [dP x]) (res := fun x => dS (plainS x)) d (ewa_cons hd ewa_nil) ⟨ok.dl, ok.ds⟩).nl (noL_dS _)) (e1.trans e2) q
  · have hr' := List.mem_range.mp hr
    rw [← hrow r hr']
    refine (SpN.ev (A := fun _ => False) (headS xs zs n r) (ewa_cons (EvW.to (em_slTo (A := Tt) (k := n - 1) (ds := (rowS xs zs n r).map dS) (ed_v (i := 4) rfl gx.dd) (sz1 rfl)).w ?_) ewa_nil) ⟨by rw [headS_len]; omega, ok.py r hr'⟩).weak fun _ z => z.elim
    rw [← List.map_take]
    rfl
theorem fk_alexander (T : Tx K mg) {C fI fL fP : Addr} (G : GridT K mg C fI fL fP) : Fk P w K mg base 5 "alexander" P_alexander (spAlx C K) := by
  obtain ⟨f, fd, F, m, b, FA⟩ := ok_alexander (P := P) (w := w) (base := base) T G
  exact ⟨f, fd, m, F.kp, b, FA⟩
end
end GK
set_option Elab.async false
set_option linter.all false
set_option maxRecDepth 100000
set_option maxHeartbeats 4000000
/-! GL1: the law's draws. -/
namespace GK
open PySem PySem.Spec PyProof.Rows L2 Evl GM
section
variable {K : PySem.W.Frag} {A : Addr → Prop} {σ : L2.St} {H : Hp} {to te : TE} {D : Ends} {tz : TS}
theorem sd_appI {p : Addr} {r : List Int} {y : Int} (hp : H p = some (.lst (r.map V.int))) (ho : Ev to σ H (.ref p)) (h : EvD K Tt te σ H (.int y)) (hz : r.length < 100000) (k : ∀ H1, Ex H H1 → D.nx σ (upd H1 p (.lst ((r ++ [y]).map V.int)))) :
    tDrop (tBM K "list" rAppend to (tCons te tNil)) D σ H := sd_app hp ho h (by rw [List.length_map]; exact hz) fun v H1 e g => by
  cases g
  have := k H1 e
  rw [List.map_append] at this
  exact this
theorem qd_appI {p : Addr} {r : List Int} {y : Int} (hp : H p = some (.lst (r.map V.int))) (ho : Ev to σ H (.ref p)) (h : EvD K Tt te σ H (.int y)) (hz : r.length < 100000) (k : ∀ H1, Ex H H1 → tz D σ (upd H1 p (.lst ((r ++ [y]).map V.int)))) :
    tSeq (tDrop (tBM K "list" rAppend to (tCons te tNil))) tz D σ H := sd_appI (D := { D with nx := tz D }) hp ho h hz k
theorem qd_forL {tl : TE} {g : TG} {tu : TS} {ds : List PyData} (h : EvW K tl σ H (.list ds)) (Pv : V → Nat → L2.St → Hp → Prop) (h0 : ∀ v H1, Ex H H1 → Dd K H1 v (.list ds) → Pv v 0 σ H1) (hS : ∀ v i σ H, Pv v i σ H → Dd K H v (.list ds))
    (hs : ∀ v i d x σ' H' H2, ds[i]? = some d → Pv v i σ' H' → Ex H' H2 → Dn K (fun a => H' a ≠ none) H2 x d → g x σ' H2 fun σ3 H3 => tu { D with nx := Pv v (i + 1), ct := Pv v (i + 1), bk := tz D } σ3 H3) (hd : ∀ v σ' H', Pv v ds.length σ' H' → tz D σ' H') : tSeq (tFor (iList K tl) g tu) tz D σ H :=
  sd_forL (D := { D with nx := tz D }) h Pv h0 hS hs hd
theorem q_ifS {t : TT} {ta tb : TS} {c : Bool} (S : L2.St → Hp → Prop) (ht : EvT t σ H c) (h1 : c = true → ∀ H1, Ex H H1 → ∀ z : L2.St → Hp → Prop, (∀ σ' H', S σ' H' → z σ' H') → ta { D with nx := z } σ H1)
    (h2 : c = false → ∀ H1, Ex H H1 → ∀ z : L2.St → Hp → Prop, (∀ σ' H', S σ' H' → z σ' H') → tb { D with nx := z } σ H1) (hz : ∀ σ' H', S σ' H' → tz D σ' H') : tSeq (tIfS t ta tb) tz D σ H :=
  s_if (D := { D with nx := tz D }) ht (fun hb H1 e1 => h1 hb H1 e1 _ hz) (fun hb H1 e1 => h2 hb H1 e1 _ hz)
theorem ed_pow {ta tb : TE} {i j : Int} (ha : EvD K A ta σ H (.int i)) (hb : EvD K A tb σ H (.int j)) (h : 0 ≤ j ∧ j ≤ 1000000 ∧ i.natAbs < 2 ^ 64) : EvD K A (tOp (rI CPow fun i j => .int (i ^ j.toNat)) ta tb) σ H (.int (i ^ j.toNat)) := ed_iC (g := fun i j => i ^ j.toNat) ha hb h
theorem qd_callS {i : Nat} {sp : Sp} {ta : TA} {ds : List PyData} (h : EvWA K ta σ H ds) (k : ∀ vs H1, Ex H H1 → DnAll K Tt H1 vs ds → sp vs H1 (fun v H2 => tz D (σ.set i (some v)) H2) E0) : tSeq (tAsg (tCall sp [] E0 ta) (gName i)) tz D σ H := h H (Ex.refl H) _ fun vs H1 e g => by
  show sp (vs ++ []) H1 _ _
  rw [List.append_nil]
  exact k vs H1 e g
theorem ed_mod {ta tb : TE} {i j : Int} (ha : EvD K A ta σ H (.int i)) (hb : EvD K A tb σ H (.int j)) (hc : 0 < j) : EvD K A (tOp (rI (fun _ j => 0 < j) fun i j => .int (i % j)) ta tb) σ H (.int (i % j)) := ed_iC (g := fun i j => i % j) ha hb hc
theorem ed_mul {ta tb : TE} {i j : Int} (a b : Nat) (ha : EvD K A ta σ H (.int i)) (hb : EvD K A tb σ H (.int j)) (h1 : i.natAbs < 2 ^ a) (h2 : j.natAbs < 2 ^ b) (h0 : 0 < a := by decide) (h0' : 0 < b := by decide) (h : a + b ≤ 1000000 := by decide) : EvD K A (tOp (rI CMulW fun i j => .int (i * j)) ta tb) σ H (.int (i * j)) :=
  ed_iC (g := fun i j => i * j) ha hb (wide_mul h1 h2 h0 h0' h)
theorem ed_div {ta tb : TE} {i j : Int} (ha : EvD K A ta σ H (.int i)) (hb : EvD K A tb σ H (.int j)) (h0 : 0 < j) (h1 : j < 1073741824) : EvD K A (tOp (rI CDiv fun i j => .int (i / j)) ta tb) σ H (.int (i / j)) := ed_iC (g := fun i j => i / j) ha hb ⟨h0, h1⟩
end
section
variable {P : Program} {w : World} {K : PySem.W.Frag} {mg : Str → Option Value} {base : Heap}
theorem sq_len {A : Addr → Prop} {σ : L2.St} {H : Hp} {to : TE} {a : Addr} {ns : List Int} (ho : Ev to σ H (.ref a)) (h : SqL K H a (ns.map V.int)) : EvD K A (tCB (rLenS K) (tCons to tNil)) σ H (.int (ns.length : Int)) := fun H1 e Q q =>
  ho H1 e _ fun H2 e2 => ⟨a, _, rfl, .inl (ex_l (e.trans e2) h), q _ H2 e2 (by rw [List.length_map]; exact .int _)⟩
theorem sq_at {A : Addr → Prop} {σ : L2.St} {H : Hp} {to ti : TE} {a : Addr} {ns : List Int} {i : Nat} (ho : Ev to σ H (.ref a)) (h : SqL K H a (ns.map V.int)) (hi : EvD K Tt ti σ H (.int (i : Int))) (hl : i < ns.length) : EvD K A (tOp (rIxL K) to ti) σ H (.int (ns.getD i 0)) := fun H1 e Q q =>
  ho H1 e _ fun H2 e2 => ed_ev_i hi H2 (e.trans e2) _ fun H3 e3 => ⟨a, _, (i : Int), _, rfl, rfl, ex_l ((e.trans e2).trans e3) h, atI_int hl, q _ H3 (e2.trans e3) (.int _)⟩
theorem sq_slTo {σ : L2.St} {H : Hp} {ta tb : TE} {a : Addr} {ns : List Int} {k : Nat} (ho : Ev ta σ H (.ref a)) (h : SqL K H a (ns.map V.int)) (hb : EvD K Tt tb σ H (.int (k : Int))) : EvW K (tSl (rSlL K) ta tNoPart (tPart tb)) σ H (dP (ns.take k)) := fun H1 e Q q =>
  ho H1 e _ fun H2 e2 => ed_ev_i hb H2 (e.trans e2) _ fun H3 e3 => ⟨(k : Int), rfl, a, _, rfl, ex_l ((e.trans e2).trans e3) h, fun p hp => by
    have ec : cutV (ns.map V.int) none (some (k : Int)) = (ns.take k).map V.int := by
      unfold cutV
      rw [HT.sIx_none, HT.sIx_nat, List.drop_zero, Nat.sub_zero, List.map_take]
      rcases Nat.le_total k (ns.map V.int).length with h | h
      · rw [Nat.min_eq_left h]
      · rw [Nat.min_eq_right h, List.take_of_length_le (Nat.le_refl _), List.take_of_length_le h]
    rw [ec]
    exact q _ _ ((e2.trans e3).trans (Ex.new hp)) (ints_dd upd_same)⟩
def spCell (K : PySem.W.Frag) : Sp := fun vs H Q _ => ∃ (a : Addr) (ns : List Int), vs = [.ref a, .int 0] ∧ SqL K H a (ns.map V.int) ∧ ∀ (i : Int) H2, Ex H H2 → Q (.int i) H2
theorem fk_law_cell (T : Tx K mg) : Fk P w K mg base 1 "_law_cell" P_law_cell (spCell K) := by
  refine T.d_law_cell.fk sc_law_cell (fun vs H Q E ⟨a, ns, h, _⟩ => by rw [h]; rfl) fun f cdv A outer s H vs Q E hr h => ?_
  obtain ⟨a, ns, rfl, g1, q⟩ := h
  refine ⟨_, (pss_cons (ps_if (pt_cmpR op_lt (pv 1) (pe_callB (call_len_seqK (K := K) rfl) (by rfl) T.len (by decide +kernel) (pa_cons (pv 0) pa_nil)) (nomark _))
      (pss_one (ps_ret (pe_ix (ix_listK (K := K) rfl) (pv 0) (pv 1) (fun _ _ => rfl))))
      pss_nil)
      (pss_cons (ps_set (i := 2) sc_law_cell.nd rfl (Or.inl rfl) pe_int)
      (pss_cons (ps_for PassesOwn.never rfl (pi_list (pe_slice (sl_listK (K := K) rfl) (pv 0) po_none (po_some pe_int))) (pg_name (i := 3) (hf := Or.inl rfl) sc_law_cell.nd rfl (Or.inl rfl))
      (pss_one (ps_set (i := 2) sc_law_cell.nd rfl (Or.inl rfl) (pe_op op_mod (pe_callTy call_int1 (by rfl) T.int (by decide +kernel) (pa_cons (pe_op op_add (pe_op op_mulW (pv 2) pe_int) (pv 3)) pa_nil)) pe_int))))
      (pss_one (ps_ret (pe_op op_add (pe_op op_mulW (pv 2) pe_int) (pv 1))))))), ?_⟩
  refine q_when (etD (K := K) (ed_b0 (g := fun i j => decide (i < j)) (i := 0) (j := (ns.length : Int)) (ed_v rfl (.int _)) (sq_len (ev_v rfl) g1))) (fun hb H1 e1 => ?_) (fun hb H1 e1 => ?_)
  · have := of_decide_eq_true hb
    exact sd_ret (sq_at (K := K) (A := Tt) (ev_v rfl) (ex_l e1 g1) (ed_v rfl (.int ((0 : Nat) : Int))) (by omega)).w fun v H2 e2 g2 => by
      cases g2
      exact q _ H2 (e1.trans e2)
  · refine qd_asgI (K := K) (ed_int (i := 17)) fun H2 e2 => ?_
    refine qd_forL (K := K) (ds := (ns.take 3).map .int) (sq_slTo (k := 3) (ev_v rfl) (ex_l (e1.trans e2) g1) (ed_int (i := 3)))
      (fun v2 i σ' H' => ∃ x3 r, σ' = [some (.ref a), some (.int 0), some (.int r), x3] ∧ 0 ≤ r ∧ r < 1000000 ∧ Ex H H' ∧ Dd K H' v2 (.list ((ns.take 3).map .int)))
      (fun v2 H3 e3 g3 => ⟨none, 17, rfl, by omega, by omega, (e1.trans e2).trans e3, g3⟩) (fun v2 i σ H ⟨_, _, _, _, _, _, g⟩ => g) ?_ ?_
    · rintro v2 i d x σ' H' H3 hd ⟨x3, r, rfl, h0, h1, e3, g3⟩ e4 gx
      obtain ⟨hi, rfl⟩ := int_get hd
      cases gx
      refine sd_asg (K := K) (ed_mod (A := Tt) (ed_int1 (ed_i0 (g := fun i j => i + j) (ed_mul 20 10 (ed_v (d := .int r) rfl (.int _)) (ed_int (i := 1009)) (by omega) (by decide)) (ed_v rfl (.int _)))) (ed_int (i := 999983)) (by decide)).w fun v3 H4 e5 g4 => ?_
      cases g4
      refine ⟨_, _, rfl, Int.emod_nonneg _ (by decide), ?_, (e3.trans e4).trans e5, g3.ex (e4.trans e5)⟩
      have := Int.emod_lt_of_pos (r * 1009 + (ns.take 3)[i]) (show (0 : Int) < 999983 by decide)
      omega
    · rintro v2 σ' H' ⟨x3, r, rfl, h0, h1, e3, g3⟩
      refine sd_ret (K := K) (ed_i0 (A := Tt) (g := fun i j => i + j) (ed_mul 20 10 (ed_v (d := .int r) rfl (.int _)) (ed_int (i := 64)) (by omega) (by decide)) (ed_v (d := .int 0) rfl (.int _))).w fun v2 H2 e4 g2 => ?_
      cases g2
      exact q _ H2 (e3.trans e4)
def Drawn (lims ds : List Int) : Prop := ds.length = lims.length ∧ ∀ i, i < lims.length → 0 ≤ ds.getD i 0 ∧ ds.getD i 0 < lims.getD i 0
def spDraws (K : PySem.W.Frag) : Sp := fun vs H Q _ => ∃ c v lims, vs = [.int c, v] ∧ Dd K H v (dP lims) ∧ lims.length ≤ 1000 ∧ (∀ l ∈ lims, 0 < l ∧ l < 1073741824) ∧ ∀ ds, Drawn lims ds → RetN K (dP ds) H Q
theorem fk_law_draws (T : Tx K mg) : Fk P w K mg base 1 "_law_draws" P_law_draws (spDraws K) := by
  refine T.d_law_draws.fk sc_law_draws (fun vs H Q E ⟨c, v, ns, h, _⟩ => by rw [h]; rfl) fun f cdv A outer s H vs Q E hr h => ?_
  obtain ⟨c, v, lims, rfl, g1, hn, hl, q⟩ := h
  refine ⟨_, (pss_cons (ps_set (i := 2) sc_law_draws.nd rfl (Or.inl rfl) (pe_callB call_abs (by rfl) T.abs (by decide +kernel) (pa_cons (pv 0) pa_nil)))
      (pss_cons (ps_set (i := 3) sc_law_draws.nd rfl (Or.inl rfl) (pe_cmpR op_ge (pv 2) (pe_op op_pow pe_int pe_int) (nomark _)))
      (pss_cons (ps_if (pt_val (pv 3))
      (pss_one (ps_set (i := 2) sc_law_draws.nd rfl (Or.inl rfl) (pe_op op_sub (pv 2) (pe_op op_pow pe_int pe_int))))
      (pss_one (ps_if (pt_cmpR op_lt (pv 0) pe_int (nomark _))
      (pss_one (ps_set (i := 2) sc_law_draws.nd rfl (Or.inl rfl) (pe_op op_add (pv 2) pe_int)))
      pss_nil)))
      (pss_cons (ps_set (i := 4) sc_law_draws.nd rfl (Or.inl rfl) (pe_lst pa_nil))
      (pss_cons (ps_for PassesOwn.never rfl (pi_range1 (by rfl) T.range (pa_cons (pe_callB (call_len_seqK (K := K) rfl) (by rfl) T.len (by decide +kernel) (pa_cons (pv 1) pa_nil)) pa_nil)) (pg_name (i := 5) (hf := Or.inl rfl) sc_law_draws.nd rfl (Or.inl rfl))
      (pss_one (ps_if (pt_val (pv 3))
      (pss_cons (ps_expr (pe_bm PySem.F.plainAttrs_list PySem.F.slot_list_append PySem.F.type_list_append mt_append (pv 4) (pa_cons (pe_op op_mod (pe_callTy call_int1 (by rfl) T.int (by decide +kernel) (pa_cons (pv 2) pa_nil)) (pe_ix (ix_listK (K := K) rfl) (pv 1) (pv 5) (fun _ _ => rfl))) pa_nil)))
      (pss_one (ps_set (i := 2) sc_law_draws.nd rfl (Or.inl rfl) (pe_op op_fdiv (pv 2) (pe_ix (ix_listK (K := K) rfl) (pv 1) (pv 5) (fun _ _ => rfl))))))
      (pss_cons (ps_set (i := 6) sc_law_draws.nd rfl (Or.inl rfl) (pe_op op_mod (pe_callTy call_int1 (by rfl) T.int (by decide +kernel) (pa_cons (pe_op op_add (pe_op op_mulW (pv 2) pe_int) (pe_op op_mulW (pe_op op_add (pv 5) pe_int) pe_int)) pa_nil)) pe_int))
      (pss_cons (ps_set (i := 6) sc_law_draws.nd rfl (Or.inl rfl) (pe_op op_mod (pe_callTy call_int1 (by rfl) T.int (by decide +kernel) (pa_cons (pe_op op_add (pe_op op_mulW (pv 6) pe_int) (pe_op op_mulW (pe_op op_fdiv (pv 6) pe_int) (pe_op op_add (pv 5) pe_int))) pa_nil)) pe_int))
      (pss_one (ps_expr (pe_bm PySem.F.plainAttrs_list PySem.F.slot_list_append PySem.F.type_list_append mt_append (pv 4) (pa_cons (pe_op op_mod (pe_callTy call_int1 (by rfl) T.int (by decide +kernel) (pa_cons (pe_op op_fdiv (pv 6) pe_int) pa_nil)) (pe_ix (ix_listK (K := K) rfl) (pv 1) (pv 5) (fun _ _ => rfl))) pa_nil)))))))))
      (pss_one (ps_ret (pv 4)))))))), ?_⟩
  refine qd_asgI (K := K) (ed_abs (ed_v (d := .int c) rfl (.int _))) fun H1 e1 => ?_
  obtain ⟨r0, hr0⟩ : ∃ r0 : Int, r0 = (c.natAbs : Int) := ⟨_, rfl⟩
  have hr00 : 0 ≤ r0 := by omega
  rw [← hr0]
  have p18 : ∀ {σ : L2.St} {H' : Hp}, EvD K Tt (tOp (rI CPow fun i j => V.int (i ^ j.toNat)) (tC (.int 10)) (tC (.int 18))) σ H' (.int 1000000000000000000) := (ed_pow (ed_int (i := 10)) (ed_int (i := 18)) ⟨by decide, by decide, by decide⟩).to (by congr 1)
  refine qd_asgB (K := K) (ed_b0 (g := fun i j => decide (j ≤ i)) (i := r0) (j := 1000000000000000000) (ed_v rfl (.int _)) p18) fun H2 e2 => ?_
  obtain ⟨gt, hgt⟩ : ∃ gt : Bool, gt = decide (1000000000000000000 ≤ r0) := ⟨_, rfl⟩
  rw [← hgt]
  refine q_ifS (fun σ' H' => ∃ r : Int, σ' = [some (.int c), some v, some (.int r), some (.bl gt), none, none, none] ∧ Ex H H' ∧ (gt = false → 0 ≤ r ∧ r < 2000000000000000000)) (etB (K := K) (b := gt) (ed_v rfl (.bl _))) (fun hb H3 e3 z hz => ?_) (fun hb H3 e3 z hz => ?_) ?_
  · refine sd_asg (K := K) (ed_i0 (A := Tt) (g := fun i j => i - j) (ed_v (d := .int r0) rfl (.int _)) p18).w fun v3 H4 e4 g4 => ?_
    cases g4
    exact hz _ _ ⟨_, rfl, ((e1.trans e2).trans e3).trans e4, fun h => by rw [hb] at h; cases h⟩
  · have hlt : r0 < 1000000000000000000 := by
      rw [hb] at hgt
      have := of_decide_eq_false hgt.symm
      omega
    refine s_when (etD (K := K) (ed_b0 (g := fun i j => decide (i < j)) (i := c) (j := 0) (ed_v rfl (.int _)) ed_int)) (fun hb2 H4 e4 => ?_) (fun hb2 H4 e4 => ?_)
    · refine sd_asg (K := K) (ed_i0 (A := Tt) (g := fun i j => i + j) (ed_v (d := .int r0) rfl (.int _)) (ed_int (i := 500009))).w fun v3 H5 e5 g4 => ?_
      cases g4
      exact hz _ _ ⟨_, rfl, (((e1.trans e2).trans e3).trans e4).trans e5, fun _ => ⟨by omega, by omega⟩⟩
    · exact hz _ _ ⟨r0, rfl, ((e1.trans e2).trans e3).trans e4, fun _ => ⟨by omega, by omega⟩⟩
  rintro σ' H3 ⟨r, rfl, e3, hr3⟩
  refine qd_asgM (K := K) (A := Tt) (em_lst eda_nil (Nat.zero_le _)) fun p ws H4 hp e4 h4 g4 => ?_
  cases g4.nil_inv
  have hp0 : H p = none := fresh_back e3 hp
  have er := er_1 (K := K) (σ := [some (.int c), some v, some (.int r), some (.bl gt), some (.ref p), none, none]) (H := H4) (n := (lims.length : Int)) ((ed_lenL (ta := tVar 1) (ew_v rfl (g1.ex (e3.trans e4)))).to (by rw [List.length_map])) (by omega)
  rw [Int.toNat_natCast] at er
  refine qd_forR (K := K) er (fun i σ' H' => ∃ r x5 x6 ds, σ' = [some (.int c), some v, some (.int r), some (.bl gt), some (.ref p), x5, x6] ∧ Ex H H' ∧ (gt = false → 0 ≤ r ∧ r < 2000000000000000000) ∧ H' p = some (.lst (ds.map V.int)) ∧ ds.length = i ∧ ∀ j, j < i → 0 ≤ ds.getD j 0 ∧ ds.getD j 0 < lims.getD j 0)
    (fun H5 e5 => ⟨r, none, none, [], rfl, (e3.trans e4).trans e5, hr3, e5 _ _ h4, rfl, fun j hj => by omega⟩) ?_ ?_
  · rintro i σ' H' H5 hi ⟨r, x5, x6, ds, rfl, e5, hr5, h5, hlen, hds⟩ e6
    have hli : 0 < lims.getD i 0 ∧ lims.getD i 0 < 1073741824 := by
      rw [List.getD_eq_getElem?_getD, List.getElem?_eq_getElem hi]
      exact hl _ (List.getElem_mem hi)
    obtain ⟨lm, hlm⟩ : ∃ lm, lm = lims.getD i 0 := ⟨_, rfl⟩
    rw [← hlm] at hli
    have gl : ∀ {σ : L2.St} {H' : Hp}, Ex H H' → σ[1]? = some (some v) → σ[5]? = some (some (.int (i : Int))) → EvD K Tt (tOp (rIxL K) (tVar 1) (tVar 5)) σ H' (.int lm) := fun e s1 s5 => ed_ixL (ed_v s1 (g1.ex e)) (ed_v (d := .int (i : Int)) s5 (.int _)) (by rw [hlm]; exact at_int hi)
    have fin : ∀ y : Int, 0 ≤ y ∧ y < lm → ∀ j, j < i + 1 → 0 ≤ (ds ++ [y]).getD j 0 ∧ (ds ++ [y]).getD j 0 < lims.getD j 0 := fun y hy j hj => by
      by_cases e : j = i
      · subst e
        rw [List.getD_eq_getElem?_getD, List.getElem?_append_right (by omega), hlen, Nat.sub_self, ← hlm]
        exact hy
      · rw [List.getD_eq_getElem?_getD, List.getElem?_append_left (by omega), ← List.getD_eq_getElem?_getD]
        exact hds j (by omega)
    have md : ∀ x : Int, 0 ≤ x % lm ∧ x % lm < lm := fun x => ⟨Int.emod_nonneg _ (by omega), Int.emod_lt_of_pos _ hli.1⟩
    refine s_if (etB (K := K) (b := gt) (ed_v rfl (.bl _))) (fun hb H6 e7 => ?_) (fun hb H6 e7 => ?_)
    · refine qd_appI (K := K) ((e6.trans e7) _ _ h5) (ev_v rfl) (ed_mod (ed_int1 (ed_v (d := .int r) rfl (.int _))) (gl ((e5.trans e6).trans e7) rfl rfl) hli.1) (by omega) fun H7 e8 => ?_
      have eF : Ex H (upd H7 p (.lst ((ds ++ [r % lm]).map V.int))) := Ex.mut (((e5.trans e6).trans e7).trans e8) hp0
      refine sd_asg (K := K) (ed_div (A := Tt) (ed_v (d := .int r) rfl (.int _)) (gl eF rfl rfl) hli.1 hli.2).w fun v3 H8 e9 g9 => ?_
      cases g9
      exact ⟨_, _, _, _, rfl, eF.trans e9, fun h => (by rw [hb] at h; cases h), e9 _ _ upd_same, by rw [List.length_append, hlen]; rfl, fin _ (md _)⟩
    · have hr6 := hr5 hb
      refine qd_asgI (K := K) (n := (r * 48271 + ((i : Int) + 1) * 69621) % 2147483647) (ed_mod (ed_int1 (ed_i0 (g := fun i j => i + j) (ed_mul 64 64 (ed_v (d := .int r) rfl (.int _)) (ed_int (i := 48271)) (by omega) (by decide)) (ed_mul 64 64 (ed_i0 (g := fun i j => i + j) (ed_v (d := .int (i : Int)) rfl (.int _)) (ed_int (i := 1))) (ed_int (i := 69621)) (by omega) (by decide)))) (ed_int (i := 2147483647)) (by decide)) fun H7 e8 => ?_
      obtain ⟨m, hm⟩ : ∃ m : Int, m = (r * 48271 + ((i : Int) + 1) * 69621) % 2147483647 := ⟨_, rfl⟩
      have hm0 : 0 ≤ m ∧ m < 2147483647 := by omega
      rw [← hm]
      refine qd_asgI (K := K) (n := (m * 40692 + m / 3791 * ((i : Int) + 5)) % 2147483399) (ed_mod (ed_int1 (ed_i0 (g := fun i j => i + j) (ed_mul 64 64 (ed_v (d := .int m) rfl (.int _)) (ed_int (i := 40692)) (by omega) (by decide)) (ed_mul 64 64 (ed_div (ed_v (d := .int m) rfl (.int _)) (ed_int (i := 3791)) (by decide) (by decide)) (ed_i0 (g := fun i j => i + j) (ed_v (d := .int (i : Int)) rfl (.int _)) (ed_int (i := 5))) (by omega) (by omega)))) (ed_int (i := 2147483399)) (by decide)) fun H8 e9 => ?_
      refine sd_appI (K := K) ((((e6.trans e7).trans e8).trans e9) _ _ h5) (ev_v rfl) (ed_mod (ed_int1 (ed_div (ed_v (d := .int _) rfl (.int _)) (ed_int (i := 7)) (by decide) (by decide))) (gl ((((e5.trans e6).trans e7).trans e8).trans e9) rfl rfl) hli.1) (by omega) fun H9 e10 => ?_
      exact ⟨r, _, _, _, rfl, Ex.mut (((((e5.trans e6).trans e7).trans e8).trans e9).trans e10) hp0, hr5, upd_same, by rw [List.length_append, hlen]; rfl, fin _ (md _)⟩
  · rintro σ' H' ⟨r, x5, x6, ds, rfl, e5, hr5, h5, hlen, hds⟩
    exact ⟨_, rfl, rtN_ints (q ds ⟨hlen, hds⟩) e5 hp0 h5⟩
/-! ### _law_mixed_row -/
def upTo (n : Nat) : List Int := (List.range n).map fun (i : Nat) => (i : Int)
def spMix (K : PySem.W.Frag) : Sp := fun vs H Q _ => ∃ v ds n, vs = [v, .int ((n : Nat) : Int)] ∧ Dd K H v (dP ds) ∧ n ≤ ds.length ∧ n ≤ 100 ∧ ∀ xs : List Int, xs.Perm (upTo n) → RetN K (dP xs) H Q
theorem perm_pick {ls : List Int} {i : Nat} (h : i < ls.length) : ls.Perm (ls.getD i 0 :: (ls.take i ++ ls.drop (i + 1))) := by
  have e : ls.getD i 0 = ls[i] := by rw [List.getD_eq_getElem?_getD, List.getElem?_eq_getElem h]; rfl
  rw [e]
  have h1 : ls = ls.take i ++ ls[i] :: ls.drop (i + 1) := by
    rw [← List.drop_eq_getElem_cons h, List.take_append_drop]
  conv => lhs; rw [h1]
  exact List.perm_middle
theorem fk_law_mixed_row (T : Tx K mg) : Fk P w K mg base 1 "_law_mixed_row" P_law_mixed_row (spMix K) := by
  refine T.d_law_mixed_row.fk sc_law_mixed_row (fun vs H Q E ⟨v, ds, n, h, _⟩ => by rw [h]; rfl) fun f cdv A outer s H vs Q E hr h => ?_
  obtain ⟨v, ds, n, rfl, g1, hn, hn', q⟩ := h
  refine ⟨_, (pss_cons (ps_set (i := 2) sc_law_mixed_row.nd rfl (Or.inl rfl) (pe_listRg rfl (by rfl) T.list (prg_1 (by rfl) T.range (pv 1))))
      (pss_cons (ps_set (i := 3) sc_law_mixed_row.nd rfl (Or.inl rfl) (pe_lst pa_nil))
      (pss_cons (ps_for PassesOwn.never rfl (pi_range1 (by rfl) T.range (pa_cons (pv 1) pa_nil)) (pg_name (i := 4) (hf := Or.inl rfl) sc_law_mixed_row.nd rfl (Or.inl rfl))
      (pss_cons (ps_set (i := 5) sc_law_mixed_row.nd rfl (Or.inl rfl) (pe_op op_mod (pe_callTy call_int1 (by rfl) T.int (by decide +kernel) (pa_cons (pe_ix (ix_listK (K := K) rfl) (pv 0) (pv 4) (fun _ _ => rfl)) pa_nil)) (pe_callB (call_len_seqK (K := K) rfl) (by rfl) T.len (by decide +kernel) (pa_cons (pv 2) pa_nil))))
      (pss_cons (ps_expr (pe_bm PySem.F.plainAttrs_list PySem.F.slot_list_append PySem.F.type_list_append mt_append (pv 3) (pa_cons (pe_ix (ix_listK (K := K) rfl) (pv 2) (pv 5) (fun _ _ => rfl)) pa_nil)))
      (pss_one (ps_set (i := 2) sc_law_mixed_row.nd rfl (Or.inl rfl) (pe_op op_cat (pe_slice (sl_listK (K := K) rfl) (pv 2) po_none (po_some (pv 5))) (pe_slice (sl_listK (K := K) rfl) (pv 2) (po_some (pe_op op_add (pv 5) pe_int)) po_none)))))))
      (pss_one (ps_ret (pv 3)))))), ?_⟩
  refine qd_asgM (K := K) (A := Tt) ((em_listRg (ed_v (d := .int (n : Int)) rfl (.int _)) (by omega)).to (show _ = (upTo n).map PyData.int by unfold rangeD upTo; rw [List.map_map, Int.toNat_natCast]; simp)) fun a0 ws0 H1 ha0 e1 h1 g0 => ?_
  cases g0.ints
  refine qd_asgM (K := K) (A := Tt) (em_lst eda_nil (Nat.zero_le _)) fun p ws H2 hp e2 h2 g2 => ?_
  cases g2.nil_inv
  have hp0 : H p = none := fresh_back e1 hp
  have hne0 : a0 ≠ p := fun e => by
    rw [← e, h1] at hp
    cases hp
  have er := er_1 (K := K) (σ := [some v, some (.int (n : Int)), some (.ref a0), some (.ref p), none, none]) (H := H2) (n := (n : Int)) (ed_v (i := 1) rfl (.int _)) (by omega)
  rw [Int.toNat_natCast] at er
  refine qd_forR (K := K) er (fun i σ' H' => ∃ a x4 x5 ls rs, σ' = [some v, some (.int (n : Int)), some (.ref a), some (.ref p), x4, x5] ∧ Ex H H' ∧ a ≠ p ∧ H' a = some (.lst (ls.map V.int)) ∧ H' p = some (.lst (rs.map V.int)) ∧ rs.length = i ∧ ls.length + i = n ∧ (rs ++ ls).Perm (upTo n))
    (fun H3 e3 => ⟨a0, none, none, upTo n, [], rfl, (e1.trans e2).trans e3, hne0, (e2.trans e3) _ _ h1, e3 _ _ h2, rfl, by simp [upTo], List.Perm.refl _⟩) ?_ ?_
  · rintro i σ' H' H3 hi ⟨a, x4, x5, ls, rs, rfl, e3, hap, hla, hrs, hlr, hll, hpm⟩ e4
    have gl3 : Dd K H3 (.ref a) (dP ls) := ints_dd (e4 _ _ hla)
    obtain ⟨dk, hdk⟩ : ∃ dk, atD (ds.map PyData.int) (i : Int) = some (.int dk) := ⟨_, at_int (by omega)⟩
    have hpos : (0 : Int) < (ls.length : Int) := by omega
    refine qd_asgI (K := K) (n := dk % (ls.length : Int)) (ed_mod (ed_int1 (ed_ixL (ed_v rfl (g1.ex (e3.trans e4))) (ed_v (d := .int (i : Int)) rfl (.int _)) hdk)) ((ed_lenL (ew_v rfl gl3)).to (by rw [List.length_map])) hpos) fun H4 e5 => ?_
    obtain ⟨at', hat⟩ : ∃ at' : Nat, (at' : Int) = dk % (ls.length : Int) := ⟨(dk % (ls.length : Int)).toNat, Int.toNat_of_nonneg (Int.emod_nonneg _ (by omega))⟩
    have hal : at' < ls.length := by
      have := Int.emod_lt_of_pos dk hpos
      omega
    rw [← hat]
    have gl4 := gl3.ex e5
    refine qd_appI (K := K) ((e4.trans e5) _ _ hrs) (ev_v rfl) (ed_ixL (ed_v rfl gl4) (ed_v (d := .int (at' : Int)) rfl (.int _)) (at_int hal)) (by omega) fun H5 e6 => ?_
    have eF : Ex H (upd H5 p (.lst ((rs ++ [ls.getD at' 0]).map V.int))) := Ex.mut (((e3.trans e4).trans e5).trans e6) hp0
    have gl6 : Dd K (upd H5 p (.lst ((rs ++ [ls.getD at' 0]).map V.int))) (.ref a) (.list (ls.map .int)) := ints_dd (by rw [upd_ne hap]; exact ((e4.trans e5).trans e6) _ _ hla)
    refine sd_asgM (K := K) (A := Tt) ((em_cat (em_slTo (A := Tt) (k := at') (ed_v rfl gl6) (ed_v (d := .int (at' : Int)) rfl (.int _))).lst (em_slFrom (A := Tt) (k := at' + 1) (ed_v rfl gl6) ((ed_i0 (g := fun i j => i + j) (ed_v (d := .int (at' : Int)) rfl (.int _)) (ed_int (i := 1))).to (by congr 1))).lst ?_).to (show _ = (ls.take at' ++ ls.drop (at' + 1)).map PyData.int by rw [List.map_append, List.map_take, List.map_drop])) fun b us H6 hb e7 h6 g6 => ?_
    · rw [List.length_take, List.length_drop, List.length_map]
      omega
    cases g6.ints
    refine ⟨b, _, _, _, _, rfl, eF.trans e7, fun e => ?_, h6, e7 _ _ upd_same, by rw [List.length_append, hlr]; rfl, ?_, ?_⟩
    · rw [e, upd_same] at hb
      cases hb
    · rw [List.length_append, List.length_take, List.length_drop]
      omega
    · rw [List.append_assoc]
      exact ((List.Perm.append_left rs (perm_pick hal)).symm).trans hpm
  · rintro σ' H' ⟨a, x4, x5, ls, rs, rfl, e3, hap, hla, hrs, hlr, hll, hpm⟩
    have : ls = [] := List.eq_nil_of_length_eq_zero (by omega)
    subst this
    rw [List.append_nil] at hpm
    exact ⟨_, rfl, rtN_ints (q rs hpm) e3 hp0 hrs⟩
/-! ### _law_grid -/
def spLGrid (K : PySem.W.Frag) : Sp := fun vs H Q _ => ∃ c, vs = [.int c, .int 2, .int 6] ∧ ∀ xs zs n, Grd xs zs n → ∀ v H2, Ex H H2 → PairI H2 v xs zs → Q v H2
theorem perm_rows {xs : List Int} {n : Nat} (h : xs.Perm (upTo n)) (hn : n ≤ 100) : RowsOk xs n := by
  refine ⟨by rw [h.length_eq]; simp [upTo], hn, fun x hx => ?_, ?_⟩
  · obtain ⟨i, hi, rfl⟩ := List.mem_map.mp (h.mem_iff.mp hx)
    have := List.mem_range.mp hi
    omega
  · rw [h.nodup_iff]
    unfold upTo List.Nodup
    rw [List.pairwise_map]
    exact List.nodup_range.imp fun h e => h (by omega)
theorem six {n : Nat} (h1 : 2 ≤ n) (h2 : n ≤ 6) : n = 2 ∨ n = 3 ∨ n = 4 ∨ n = 5 ∨ n = 6 := by omega
theorem shift_inj {n : Nat} {x y b : Int} (h1 : 2 ≤ n) (h2 : n ≤ 6) (hx : 0 ≤ x ∧ x < n) (hy : 0 ≤ y ∧ y < n) (e : (x + b) % (n : Int) = (y + b) % n) : x = y := by
  rcases six h1 h2 with rfl | rfl | rfl | rfl | rfl <;> omega
theorem shift_ne {n : Nat} {x b : Int} (h1 : 2 ≤ n) (h2 : n ≤ 6) (hx : 0 ≤ x ∧ x < n) (hb : 1 ≤ b ∧ b < n) : x ≠ (x + b) % (n : Int) := by
  rcases six h1 h2 with rfl | rfl | rfl | rfl | rfl <;> omega
theorem rows_shift {xs : List Int} {n : Nat} {b : Int} (h1 : 2 ≤ n) (h2 : n ≤ 6) (h : RowsOk xs n) : RowsOk (xs.map fun x => (x + b) % (n : Int)) n := by
  refine ⟨by rw [List.length_map]; exact h.len, h.sz, fun x hx => ?_, ?_⟩
  · obtain ⟨y, _, rfl⟩ := List.mem_map.mp hx
    exact ⟨Int.emod_nonneg _ (by omega), Int.emod_lt_of_pos _ (by omega)⟩
  · unfold List.Nodup
    rw [List.pairwise_map]
    exact (List.Pairwise.and_mem.mp h.nd).imp fun ⟨hx, hy, hne⟩ e => hne (shift_inj h1 h2 (h.rng _ hx) (h.rng _ hy) e)
theorem getD_of {l : List Int} {i : Nat} (h : i < l.length) : l.getD i 0 = l[i] := by
  rw [List.getD_eq_getElem?_getD, List.getElem?_eq_getElem h]
  rfl
theorem grd_shift {xs : List Int} {n : Nat} {b : Int} (h1 : 2 ≤ n) (h2 : n ≤ 6) (h : RowsOk xs n) (hb : 1 ≤ b ∧ b < n) : Grd xs (xs.map fun x => (x + b) % (n : Int)) n := by
  refine ⟨h, rows_shift h1 h2 h, h1, h2, fun i hi => ?_⟩
  have hl := h.len
  rw [getD_of (by omega), getD_of (by rw [List.length_map]; omega), List.getElem_map]
  exact shift_ne h1 h2 (h.rng _ (List.getElem_mem _)) hb
theorem swap_perm {zs : List Int} {i j : Nat} (hi : i < zs.length) (hj : j < zs.length) : ((zs.set i (zs.getD j 0)).set j (zs.getD i 0)).Perm zs := by
  rw [getD_of hi, getD_of hj]
  exact List.set_set_perm hi hj
theorem fk_law_grid (T : Tx K mg) : Fk P w K mg base 2 "_law_grid" P_law_grid (spLGrid K) := by
  refine T.d_law_grid.fk sc_law_grid (fun vs H Q E ⟨c, h, _⟩ => by rw [h]; rfl) fun f cdv A outer s H vs Q E hr h => ?_
  obtain ⟨c, rfl, q⟩ := h
  refine ⟨_, (pss_cons (ps_set (i := 3) sc_law_grid.nd rfl (Or.inl rfl) (pe_cal (fk_law_draws T) (hr.mono (by decide)) (by rfl) (pa_cons (pv 0) (pa_cons (pe_op op_cat (pe_lst (pa_cons (pe_op op_add (pe_op op_sub (pv 2) (pv 1)) pe_int) pa_nil)) (pe_op op_rep (pe_lst (pa_cons pe_int pa_nil)) (pe_op op_mulW pe_int (pv 2)))) pa_nil))))
      (pss_cons (ps_set (i := 4) sc_law_grid.nd rfl (Or.inr rfl) (pe_op op_add (pv 1) (pe_ix (ix_listK (K := K) rfl) (pv 3) pe_int (fun _ _ => rfl))))
      (pss_cons (ps_set (i := 5) sc_law_grid.nd rfl (Or.inr rfl) (pe_cal (fk_law_mixed_row T) (hr.mono (by decide)) (by rfl) (pa_cons (pe_slice (sl_listK (K := K) rfl) (pv 3) (po_some pe_int) po_none) (pa_cons (pv 4) pa_nil))))
      (pss_cons (ps_set (i := 6) sc_law_grid.nd rfl (Or.inr rfl) (pe_cal (fk_law_mixed_row T) (hr.mono (by decide)) (by rfl) (pa_cons (pe_slice (sl_listK (K := K) rfl) (pv 3) (po_some (pe_op op_add pe_int (pv 2))) po_none) (pa_cons (pv 4) pa_nil))))
      (pss_cons (ps_for PassesOwn.never rfl (pi_range1 (by rfl) T.range (pa_cons (pv 4) pa_nil)) (pg_name (i := 7) (hf := Or.inl rfl) sc_law_grid.nd rfl (Or.inl rfl))
      (pss_one (ps_if (pt_cmpR op_eq (pe_ix (ix_listK (K := K) rfl) (pv 5) (pv 7) (fun _ _ => rfl)) (pe_ix (ix_listK (K := K) rfl) (pv 6) (pv 7) (fun _ _ => rfl)) (nomark _))
      (pss_cons (ps_set (i := 8) sc_law_grid.nd rfl (Or.inl rfl) (pe_op op_mod (pe_callTy call_int1 (by rfl) T.int (by decide +kernel) (pa_cons (pe_op op_add (pv 7) pe_int) pa_nil)) (pv 4)))
      (pss_cons (ps_set (i := 9) sc_law_grid.nd rfl (Or.inl rfl) (pe_ix (ix_listK (K := K) rfl) (pv 6) (pv 7) (fun _ _ => rfl)))
      (pss_cons (ps_asg (pe_ix (ix_listK (K := K) rfl) (pv 6) (pv 8) (fun _ _ => rfl)) (pg_sub (pv 6) (pv 7) set_list))
      (pss_one (ps_asg (pv 9) (pg_sub (pv 6) (pv 8) set_list))))))
      pss_nil)))
      (pss_cons (ps_if (pt_cmpR (op_neD hr.units) (pe_lc (own := [("_law_i", 7)]) (g := (gName 7)) rfl sc_law_grid.nd (pi_range1 (by rfl) T.range (pa_cons (pv 4) pa_nil)) (blkOk_by (own := [("_law_i", 7)]) (N := N_law_grid) (sc := defScope s_law_grid) (by decide +kernel)) (fun _ _ _ _ _ => (pg_name (i := 7) (hf := Or.inr rfl) sc_law_grid.nd rfl (Or.inl rfl))) (fun _ _ _ _ _ => pts_one (pt_cmpR op_eq (pe_ix (ix_listK (K := K) rfl) (pv 5) (pv 7) (fun _ _ => rfl)) (pe_ix (ix_listK (K := K) rfl) (pv 6) (pv 7) (fun _ _ => rfl)) (nomark _))) (fun _ _ _ _ _ => (pv 7))) (pe_lst pa_nil) (nomark _))
      (pss_cons (ps_set (i := 10) sc_law_grid.nd rfl (Or.inr rfl) (pe_op op_add pe_int (pe_op op_mod (pe_callTy call_int1 (by rfl) T.int (by decide +kernel) (pa_cons (pe_ix (ix_listK (K := K) rfl) (pv 3) pe_int (fun _ _ => rfl)) pa_nil)) (pe_op op_sub (pv 4) pe_int))))
      (pss_one (ps_set (i := 6) sc_law_grid.nd rfl (Or.inr rfl) (pe_lc (own := [("_law_row", 11)]) (g := (gName 11)) rfl sc_law_grid.nd (pi_list (pv 5)) (blkOk_by (own := [("_law_row", 11)]) (N := N_law_grid) (sc := defScope s_law_grid) (by decide +kernel)) (fun _ _ _ _ _ => (pg_name (i := 11) (hf := Or.inr rfl) sc_law_grid.nd rfl (Or.inl rfl))) (fun _ _ _ _ _ => pts_nil) (fun _ _ _ _ _ => (pe_op op_mod (pe_callTy call_int1 (by rfl) T.int (by decide +kernel) (pa_cons (pe_op op_add (pv 11) (pv 10)) pa_nil)) (pv 4)))))))
      pss_nil)
      (pss_one (ps_ret (pe_tup (pa_cons (pe_callTy call_tupF (by rfl) T.tuple (by decide +kernel) (pa_cons (pv 5) pa_nil)) (pa_cons (pe_callTy call_tupF (by rfl) T.tuple (by decide +kernel) (pa_cons (pv 6) pa_nil)) pa_nil))))))))))), ?_⟩
  -- the draws
  refine qd_callS (K := K) (ds := [.int c, dP (5 :: List.replicate 12 720)]) (ewa_cons (ew_v rfl (.int _)) (ewa_cons (EvW.to (em_cat (A := Tt) (ds := [.int 5]) (es := List.replicate 12 (.int 720)) (em_lst (eda_cons ((ed_i0 (g := fun i j => i + j) (ed_i0 (g := fun i j => i - j) (ed_v (d := .int 6) rfl (.int _)) (ed_v (d := .int 2) rfl (.int _))) (ed_int (i := 1))).to rfl) eda_nil) (by show 1 ≤ 100000; omega)).lst
    (em_rep1 (k := 12) (d := .int 720) (em_lst (eda_cons (ed_int (i := 720)) eda_nil) (by show 1 ≤ 100000; omega)).lst ((ed_mul 64 64 (ed_int (i := 2)) (ed_v (d := .int 6) rfl (.int _)) (by decide) (by decide)).to rfl) (by decide) (by decide)).lst (by simp)).w (by rfl)) ewa_nil)) fun vs H1 e1 g1 => ?_
  obtain ⟨v1, v2, rfl, ga, gb⟩ := dn2 g1
  cases ga
  refine ⟨c, v2, _, rfl, gb, by simp, fun l hl => ?_, fun ds hds v H2 e2 g2 => ?_⟩
  · rcases List.mem_cons.mp hl with rfl | hl
    · omega
    · rw [(List.mem_replicate.mp hl).2]
      omega
  have hdl : ds.length = 13 := by
    have := hds.1
    simpa using this
  have hd0 : 0 ≤ ds.getD 0 0 ∧ ds.getD 0 0 < 5 := hds.2 0 (by simp)
  have gd2 : Dd K H2 v (dP ds) := g2.dd
  obtain ⟨n, hn⟩ : ∃ n : Nat, (n : Int) = 2 + ds.getD 0 0 := ⟨(2 + ds.getD 0 0).toNat, by omega⟩
  refine qd_asgI (K := K) (n := (n : Int)) ((ed_i0 (g := fun i j => i + j) (ed_v (d := .int 2) rfl (.int _)) (ed_ixL (ed_v rfl gd2) (ed_int (i := ((0 : Nat) : Int))) (at_int (by omega)))).to (by rw [hn])) fun H3 e3 => ?_
  have h2n : 2 ≤ n := by omega
  have hn6 : n ≤ 6 := by omega
  -- xs
  refine qd_callS (K := K) (ds := [dP (ds.drop 1), .int (n : Int)]) (ewa_cons (EvW.to (em_slFrom (A := Tt) (k := 1) (ed_v rfl (gd2.ex e3)) (ed_int (i := ((1 : Nat) : Int)))).w (by rw [← List.map_drop]; rfl)) (ewa_cons (ew_v (d := .int (n : Int)) rfl (.int _)) ewa_nil)) fun vs H4 e4 g4 => ?_
  obtain ⟨v1, v2, rfl, ga, gb⟩ := dn2 g4
  cases gb
  refine ⟨v1, _, n, rfl, ga, by rw [List.length_drop]; omega, by omega, fun xs hxs vx H5 e5 g5 => ?_⟩
  obtain ⟨px, xs', rfl, ⟨hpx, hx5⟩, dx5⟩ := g5.list_inv
  cases dx5.ints
  -- zs
  have e15 : Ex H2 H5 := (e3.trans e4).trans e5
  refine qd_callS (K := K) (ds := [dP (ds.drop 7), .int (n : Int)]) (ewa_cons (EvW.to (em_slFrom (A := Tt) (k := 7) (ed_v rfl (gd2.ex e15)) ((ed_i0 (g := fun i j => i + j) (ed_int (i := 1)) (ed_v (d := .int 6) rfl (.int _))).to rfl)).w (by rw [← List.map_drop]; rfl)) (ewa_cons (ew_v (d := .int (n : Int)) rfl (.int _)) ewa_nil)) fun vs H6 e6 g6 => ?_
  obtain ⟨v1, v2, rfl, ga, gb⟩ := dn2 g6
  cases gb
  refine ⟨v1, _, n, rfl, ga, by rw [List.length_drop]; omega, by omega, fun zs hzs vz H7 e7 g7 => ?_⟩
  obtain ⟨pz, zs', rfl, ⟨hpz, hz7⟩, dz7⟩ := g7.list_inv
  cases dz7.ints
  have hxz : px ≠ pz := fun e => by
    have := e6 _ _ hx5
    rw [e, hpz] at this
    cases this
  have hx7 : H7 px = some (.lst (xs.map V.int)) := (e6.trans e7) _ _ hx5
  have hz0 : H pz = none := fresh_back (((((e1.trans e2).trans e3).trans e4).trans e5).trans e6) hpz
  have eH7 : Ex H H7 := ((((((e1.trans e2).trans e3).trans e4).trans e5).trans e6).trans e7)
  have hvH2 : Ex H2 H7 := (((e3.trans e4).trans e5).trans e6).trans e7
  obtain ⟨av, rfl, hav2⟩ := dd_ints gd2
  have hav : H7 av = some (.lst (ds.map V.int)) := hvH2 _ _ hav2
  have haz : av ≠ pz := fun e => by
    have := ((e15.trans e6)) _ _ hav2
    rw [e, hpz] at this
    cases this
  have er := er_1 (K := K) (σ := [some (.int c), some (.int 2), some (.int 6), some (.ref av), some (.int (n : Int)), some (.ref px), some (.ref pz), none, none, none, none, none]) (H := H7) (n := (n : Int)) (ed_v (i := 4) rfl (.int _)) (by omega)
  rw [Int.toNat_natCast] at er
  have lenP : ∀ {l : List Int}, l.Perm (upTo n) → l.length = n := fun h => by rw [h.length_eq]; simp [upTo]
  have hlx := lenP hxs
  refine qd_forR (K := K) er (fun i σ' H' => ∃ x7 x8 x9 zs, σ' = [some (.int c), some (.int 2), some (.int 6), some (.ref av), some (.int (n : Int)), some (.ref px), some (.ref pz), x7, x8, x9, none, none] ∧ Ex H H' ∧ H' av = some (.lst (ds.map V.int)) ∧ H' px = some (.lst (xs.map V.int)) ∧ H' pz = some (.lst (zs.map V.int)) ∧ zs.Perm (upTo n))
    (fun H8 e8 => ⟨none, none, none, zs, rfl, eH7.trans e8, e8 _ _ hav, e8 _ _ hx7, e8 _ _ hz7, hzs⟩) ?_ ?_
  · rintro i σ' H' H8 hi ⟨x7, x8, x9, zs, rfl, e8, gd, hx, hz, hzs⟩ e9
    have hlz := lenP hzs
    have gx : ∀ {σ : L2.St} {H'' : Hp} {k j : Nat} {p : Addr} {l : List Int}, H'' p = some (.lst (l.map V.int)) → σ[k]? = some (some (.ref p)) → ∀ {ti : TE}, EvD K Tt ti σ H'' (.int (j : Int)) → j < l.length → EvD K Tt (tOp (rIxL K) (tVar k) ti) σ H'' (.int (l.getD j 0)) := fun hp hk _ hti hj => ed_ixL (ed_v hk (ints_dd hp)) hti (at_int hj)
    refine s_when (etD (K := K) (ed_eqI (gx (e9 _ _ hx) rfl (ed_v (d := .int (i : Int)) rfl (.int _)) (by omega)) (gx (e9 _ _ hz) rfl (ed_v (d := .int (i : Int)) rfl (.int _)) (by omega)))) (fun hb H9 e10 => ?_) (fun hb H9 e10 => ?_)
    · obtain ⟨o, ho⟩ : ∃ o : Nat, (o : Int) = ((i : Int) + 1) % (n : Int) := ⟨(((i : Int) + 1) % (n : Int)).toNat, Int.toNat_of_nonneg (Int.emod_nonneg _ (by omega))⟩
      have hol : o < n := by
        have := Int.emod_lt_of_pos ((i : Int) + 1) (show (0 : Int) < (n : Int) by omega)
        omega
      refine qd_asgI (K := K) (n := (o : Int)) ((ed_mod (ed_int1 (ed_i0 (g := fun i j => i + j) (ed_v (d := .int (i : Int)) rfl (.int _)) (ed_int (i := 1)))) (ed_v (d := .int (n : Int)) rfl (.int _)) (by omega)).to (by rw [ho])) fun H10 e11 => ?_
      have hz10 := ((e9.trans e10).trans e11) _ _ hz
      refine qd_asgI (K := K) (n := zs.getD i 0) (gx hz10 rfl (ed_v (d := .int (i : Int)) rfl (.int _)) (by omega)) fun H11 e12 => ?_
      refine qd_setI (K := K) (e12 _ _ hz10) (ev_v rfl) (ed_v (d := .int (i : Int)) rfl (.int _)) (by omega) (gx (e12 _ _ hz10) rfl (ed_v (d := .int (o : Int)) rfl (.int _)) (by omega)) fun H12 e13 => ?_
      refine sd_setI (K := K) (r := zs.set i (zs.getD o 0)) upd_same (ev_v rfl) (ed_v (d := .int (o : Int)) rfl (.int _)) (by rw [List.length_set]; omega) (ed_v (d := .int (zs.getD i 0)) rfl (.int _)) fun H13 e14 => ?_
      have eA : Ex H (upd H12 pz (.lst ((zs.set i (zs.getD o 0)).map V.int))) := Ex.mut (((((e8.trans e9).trans e10).trans e11).trans e12).trans e13) hz0
      refine ⟨_, _, _, _, rfl, Ex.mut (eA.trans e14) hz0, ?_, ?_, upd_same, (swap_perm (by omega) (by omega)).trans hzs⟩
      · rw [upd_ne haz]
        refine e14 _ _ ?_
        rw [upd_ne haz]
        exact ((((e9.trans e10).trans e11).trans e12).trans e13) _ _ gd
      · rw [upd_ne hxz]
        refine e14 _ _ ?_
        rw [upd_ne hxz]
        exact ((((e9.trans e10).trans e11).trans e12).trans e13) _ _ hx
    · exact ⟨_, _, _, zs, rfl, (e8.trans e9).trans e10, (e9.trans e10) _ _ gd, (e9.trans e10) _ _ hx, (e9.trans e10) _ _ hz, hzs⟩
  · rintro σ' H' ⟨x7, x8, x9, zs, rfl, e8, gd, hx, hz, hzs⟩
    have hlz := lenP hzs
    have rx := perm_rows hxs (by omega)
    have rz := perm_rows hzs (by omega)
    obtain ⟨cl, hcl⟩ : ∃ cl, cl = (List.range n).filter fun i => decide (xs.getD i 0 = zs.getD i 0) := ⟨_, rfl⟩
    have cmp := em_lc1 (K := K) (A := Tt) (σ := [some (.int c), some (.int 2), some (.int 6), some (.ref av), some (.int (n : Int)), some (.ref px), some (.ref pz), x7, x8, x9, none, none]) (H := H') (l := List.range n) (enc := fun (i : Nat) => .int (i : Int)) (vs := [7]) (j := 7) (wi := iRng1 (tCons (tVar 4) tNil))
      (t := tTest (tOp rEq (tOp (rIxL K) (tVar 5) (tVar 7)) (tOp (rIxL K) (tVar 6) (tVar 7)))) (te := tVar 7)
      ((ei_r1 (A := Tt) (n := (n : Int)) (ed_v rfl (.int _)) (by omega)).to (by unfold rangeD; rw [Int.toNat_natCast]; simp)) (by rw [List.length_range]; omega) (fun i => decide (xs.getD i 0 = zs.getD i 0)) (fun (i : Nat) => .int (i : Int)) (fun x => rfl)
      (fun i hi x H8 e9 gx => (by
        have := List.mem_range.mp hi
        cases gx
        exact etD (K := K) (ed_eqI (ed_ixL (ds := xs.map .int) (ed_v rfl (ints_dd (e9 _ _ hx))) (ed_v (d := .int (i : Int)) rfl (.int _)) (at_int (by omega))) (ed_ixL (ds := zs.map .int) (ed_v rfl (ints_dd (e9 _ _ hz))) (ed_v (d := .int (i : Int)) rfl (.int _)) (at_int (by omega))))))
      (fun i hi x H8 e9 gx _ => (by cases gx; exact ed_v rfl (.int _)))
    rw [← hcl] at cmp
    have key : ∀ l : List Nat, PyData.eqv (.list (l.map fun (i : Nat) => PyData.int (i : Int))) (.list []) = decide (l = []) := fun l => by
      cases l <;> rfl
    refine q_ifS (c := !decide (cl = [])) (fun σ' H2 => ∃ x7 x8 x9 x10 vz zs, σ' = [some (.int c), some (.int 2), some (.int 6), some (.ref av), some (.int (n : Int)), some (.ref px), some (.ref vz), x7, x8, x9, x10, none] ∧ Ex H H2 ∧ H2 px = some (.lst (xs.map V.int)) ∧ H2 vz = some (.lst (zs.map V.int)) ∧ Grd xs zs n)
      (etD (K := K) ((ed_neD cmp.lst (em_lst (A := Tt) eda_nil (Nat.zero_le _)).lst ?_ rfl).to (by rw [key]))) (fun hb H8 e9 z hz' => ?_) (fun hb H8 e9 z hz' => ?_) ?_
    · have := shaped_ints (cl.map fun (i : Nat) => (i : Int))
      rw [List.map_map] at this
      exact this
    · have hb1 : 1 ≤ 1 + ds.getD 0 0 % ((n : Int) - 1) ∧ 1 + ds.getD 0 0 % ((n : Int) - 1) < n := by
        have h1 := Int.emod_nonneg (ds.getD 0 0) (show (n : Int) - 1 ≠ 0 by omega)
        have h2 := Int.emod_lt_of_pos (ds.getD 0 0) (show (0 : Int) < (n : Int) - 1 by omega)
        omega
      refine qd_asgI (K := K) (n := 1 + ds.getD 0 0 % ((n : Int) - 1)) (ed_i0 (g := fun i j => i + j) (ed_int (i := 1)) (ed_mod (ed_int1 (ed_ixL (ed_v rfl (ints_dd (e9 _ _ gd))) (ed_int (i := ((0 : Nat) : Int))) (at_int (by omega)))) (ed_i0 (g := fun i j => i - j) (ed_v (d := .int (n : Int)) rfl (.int _)) (ed_int (i := 1))) (by omega))) fun H9 e10 => ?_
      refine sd_asgM (K := K) (A := Tt) (em_lc1 (K := K) (l := xs) (enc := PyData.int) (vs := [11]) (j := 11) (t := tYes) (ei_l (ew_v rfl (ints_dd ((e9.trans e10) _ _ hx)))) (by omega) (fun _ => true) (fun x => .int ((x + (1 + ds.getD 0 0 % ((n : Int) - 1))) % (n : Int))) (fun x => rfl) (fun x hx y H1 e gx => et_yes)
        (fun x hx' y H10 e11 gx _ => ?_)) fun pn ws H10 hpn e11 h10 g10 => ?_
      · cases gx
        exact ed_mod (ed_int1 (ed_i0 (g := fun i j => i + j) (ed_v (d := .int x) rfl (.int _)) (ed_v (d := .int _) rfl (.int _)))) (ed_v (d := .int (n : Int)) rfl (.int _)) (by omega)
      · rw [all_true, show xs.map (fun x => PyData.int ((x + (1 + ds.getD 0 0 % ((n : Int) - 1))) % (n : Int))) = (xs.map fun x => (x + (1 + ds.getD 0 0 % ((n : Int) - 1))) % (n : Int)).map .int by rw [List.map_map]; rfl] at g10
        cases g10.ints
        exact hz' _ _ ⟨_, _, _, _, _, _, rfl, ((e8.trans e9).trans e10).trans e11, ((e9.trans e10).trans e11) _ _ hx, h10, grd_shift h2n hn6 rx hb1⟩
    · refine hz' _ _ ⟨_, _, _, _, _, zs, rfl, e8.trans e9, e9 _ _ hx, e9 _ _ hz, rx, rz, h2n, hn6, fun i hi e => ?_⟩
      have hc0 : cl = [] := by simpa using hb
      rw [hcl, List.filter_eq_nil_iff] at hc0
      exact hc0 i (List.mem_range.mpr hi) (decide_eq_true e)
    · rintro σ' H8 ⟨x7, x8, x9, x10, vz, zs, rfl, e9, hx, hz, grd⟩
      refine ⟨_, rfl, px, xs.map V.int, rfl, sq_of hx, fun l o hl ho => ⟨_, rfl, vz, zs.map V.int, rfl, sq_of ?_, fun l2 o2 hl2 ho2 => ⟨sz_of (by show 2 ≤ 100000; omega), fun p hp => ?_⟩⟩⟩
      · exact Ex.new hl _ _ hz
      · refine q xs zs n grd _ _ (((e9.trans (Ex.new hl)).trans (Ex.new hl2)).trans (Ex.new hp)) ⟨p, l, l2, rfl, upd_same, ?_, ?_⟩
        · exact (FTup.ex ⟨o, upd_same, ho⟩ (Ex.new hl2)).ex (Ex.new hp)
        · exact FTup.ex ⟨o2, upd_same, ho2⟩ (Ex.new hp)
end
end GK
set_option Elab.async false
set_option linter.all false
set_option maxRecDepth 100000
set_option maxHeartbeats 4000000
/-! GL2: the law's lines of a pair. -/
namespace GK
open PySem PySem.Spec PyProof.Rows L2 Evl GM
/-! ### mirrors -/
def lbtw (k a b : Int) : Bool := decide (a < k) && decide (k < b) || decide (b < k) && decide (k < a)
theorem lbtw_eq (k a b : Int) : lbtw k a b = btw k a b := by
  unfold lbtw btw
  rw [Bool.eq_iff_iff]
  simp only [Bool.or_eq_true, Bool.and_eq_true, decide_eq_true_eq]
  omega
theorem nat_ext {l m : List Nat} (h1 : l.Pairwise (· < ·)) (h2 : m.Pairwise (· < ·)) (h : ∀ x, x ∈ l ↔ x ∈ m) : l = m :=
  List.Perm.eq_of_pairwise (le := fun a b : Nat => a < b) (fun a b _ _ h1 h2 => by omega) h1 h2 ((List.perm_ext_iff_of_nodup (h1.imp fun h => Nat.ne_of_lt h) (h2.imp fun h => Nat.ne_of_lt h)).mpr h)
theorem asc_range (k m : Nat) : ((List.range m).map fun i => k + i).Pairwise (· < ·) := by
  rw [List.pairwise_map]
  exact List.pairwise_lt_range.imp fun h => by omega
def ascN (n a b : Nat) : List Nat := (List.range n).filter fun i => btw (i : Int) (a : Int) (b : Int)
theorem asc_pw (n a b : Nat) : (ascN n a b).Pairwise (· < ·) := List.pairwise_lt_range.filter _
theorem asc_mem {n a b x : Nat} (ha : a < n) (hb : b < n) : x ∈ ascN n a b ↔ min a b < x ∧ x < max a b := by
  unfold ascN btw
  rw [List.mem_filter, List.mem_range, Bool.and_eq_true, decide_eq_true_eq, decide_eq_true_eq]
  omega
theorem upto_up {n a b : Nat} (ha : a < n) (hb : b < n) (h : ¬ b < a) : upto a b = ascN n a b := by
  refine nat_ext ?_ (asc_pw n a b) fun x => ?_
  · unfold upto
    split
    · exact asc_range _ _
    · have : a - (b + 1) = 0 := by omega
      rw [this]
      exact List.Pairwise.nil
  · rw [asc_mem ha hb]
    unfold upto
    split
    · rw [List.mem_map]
      constructor
      · rintro ⟨i, hi, rfl⟩
        have := List.mem_range.mp hi
        omega
      · intro hx
        exact ⟨x - (a + 1), List.mem_range.mpr (by omega), by omega⟩
    · have : a - (b + 1) = 0 := by omega
      rw [this]
      constructor
      · intro z
        cases z
      · intro z
        omega
theorem upto_dn {n a b : Nat} (ha : a < n) (hb : b < n) (h : b < a) : upto a b = (ascN n a b).reverse := by
  have key : (upto a b).reverse = ascN n a b := by
    refine nat_ext ?_ (asc_pw n a b) fun x => ?_
    · rw [List.pairwise_reverse]
      unfold upto
      rw [if_neg (by omega), List.pairwise_map]
      exact (List.Pairwise.and_mem.mp List.pairwise_lt_range).imp fun ⟨h1, h2, h3⟩ => by
        have := List.mem_range.mp h1
        have := List.mem_range.mp h2
        omega
    · rw [asc_mem ha hb, List.mem_reverse]
      unfold upto
      rw [if_neg (by omega), List.mem_map]
      constructor
      · rintro ⟨i, hi, rfl⟩
        have := List.mem_range.mp hi
        omega
      · intro hx
        exact ⟨a - 1 - x, List.mem_range.mpr (by omega), by omega⟩
  rw [← key, List.reverse_reverse]
def lcols (xs zs : List Int) (n r a b : Nat) : List Nat := (List.range n).filter fun i => btw (i : Int) (a : Int) (b : Int) && btw r (xs.getD i 0) (zs.getD i 0)
theorem lcols_eq (xs zs : List Int) (n r a b : Nat) : lcols xs zs n r a b = (ascN n a b).filter fun c => btw r (xs.getD c 0) (zs.getD c 0) := by
  unfold lcols ascN
  rw [List.filter_filter]
  congr 1
  funext i
  rw [Bool.and_comm]
theorem pass_up {xs zs : List Int} {n r a b : Nat} (ha : a < n) (hb : b < n) (h : ¬ b < a) : lcols xs zs n r a b = passN xs zs r a b := by
  unfold passN
  rw [upto_up ha hb h, lcols_eq]
theorem pass_dn {xs zs : List Int} {n r a b : Nat} (ha : a < n) (hb : b < n) (h : b < a) : (lcols xs zs n r a b).reverse = passN xs zs r a b := by
  unfold passN
  rw [upto_dn ha hb h, lcols_eq, List.filter_reverse]
section
variable {K : PySem.W.Frag} {A : Addr → Prop} {σ : L2.St} {H : Hp} {to te : TE} {p t u : Addr}
theorem ev_p0 (ho : Ev to σ H (.ref p)) (h : H p = some (.tup [.ref t, .ref u])) : Ev (tOp (rIxT K) to (tC (.int 0))) σ H (.ref t) := fun H1 e Q q =>
  ho H1 e _ fun H2 e2 => ⟨p, _, 0, .ref t, rfl, rfl, st_of ((e.trans e2) _ _ h), rfl, q H2 e2⟩
theorem ev_p1 (ho : Ev to σ H (.ref p)) (h : H p = some (.tup [.ref t, .ref u])) : Ev (tOp (rIxT K) to (tC (.int 1))) σ H (.ref u) := fun H1 e Q q =>
  ho H1 e _ fun H2 e2 => ⟨p, _, 1, .ref u, rfl, rfl, st_of ((e.trans e2) _ _ h), rfl, q H2 e2⟩
end
section
variable {P : Program} {w : World} {K : PySem.W.Frag} {mg : Str → Option Value} {base : Heap}
abbrev spCols (K : PySem.W.Frag) : Sp := SpG PairI K (fun xs zs (r : Nat) => (r : Int) ∈ xs ∧ (r : Int) ∈ zs) (fun r : Nat => [.int (r : Int)]) (fun xs zs (r : Nat) => .tuple [.int (zs.idxOf (r : Int) : Nat), .int (xs.idxOf (r : Int) : Nat)])
theorem fk_law_columns (T : Tx K mg) : Fk P w K mg base 1 "_law_columns" P_law_columns (spCols K) := by
  refine T.d_law_columns.fk sc_law_columns (SpG.len fun _ => rfl) fun f cdv A outer s H vs Q E hr h => ?_
  obtain ⟨v, ws, xs, zs, r, rfl, ⟨p, t, u, rfl, hp, ft, fu⟩, ⟨hx, hz⟩, g, q⟩ := h
  obtain ⟨v1, rfl, g1⟩ := dn1 g
  cases g1
  refine ⟨_, (pss_one (ps_ret (pe_tup (pa_cons (pe_idx (pe_ix (ix_tupK (K := K) rfl) (pv 0) pe_int (fun _ _ => rfl)) (pa_cons (pv 1) pa_nil)) (pa_cons (pe_idx (pe_ix (ix_tupK (K := K) rfl) (pv 0) pe_int (fun _ _ => rfl)) (pa_cons (pv 1) pa_nil)) pa_nil))))), ?_⟩
  exact sd_retF (ed_tup (ds := [.int (zs.idxOf (r : Int) : Nat), .int (xs.idxOf (r : Int) : Nat)]) (eda_cons (ed_fidx (ev_p1 (ev_v rfl) hp) fu (ed_v rfl (.int _)) hz) (eda_cons (ed_fidx (ev_p0 (ev_v rfl) hp) ft (ed_v rfl (.int _)) hx) eda_nil)) (by show 2 ≤ 100000; omega)) (Ex.refl H) q
theorem fk_law_between (T : Tx K mg) : Fk P w K mg base 1 "_law_between" P_law_between (spBetw K) := by
  refine T.d_law_between.fk sc_law_between (SpN.len fun _ => rfl) fun f cdv A outer s H vs Q E hr h => ?_
  obtain ⟨⟨v, a, b⟩, _, g, q⟩ := h
  obtain ⟨v1, v2, v3, rfl, g1, g2, g3⟩ := dn3 g
  dsimp only at q g1 g2 g3
  cases g1
  cases g2
  cases g3
  rw [← lbtw_eq] at q
  refine ⟨_, (pss_one (ps_ret (pe_or (pe_and (pe_cmpR op_lt (pv 1) (pv 0) (nomark _)) (pe_one (pe_cmpR op_lt (pv 0) (pv 2) (nomark _)))) (pe_one (pe_and (pe_cmpR op_lt (pv 2) (pv 0) (nomark _)) (pe_one (pe_cmpR op_lt (pv 0) (pv 1) (nomark _)))))))), ?_⟩
  exact sd_retF (ed_or (ed_and (ed_b0 (g := fun i j => decide (i < j)) (ed_v rfl (.int _)) (ed_v rfl (.int _))) fun _ => (ed_b0 (g := fun i j => decide (i < j)) (ed_v rfl (.int _)) (ed_v rfl (.int _)))) fun _ =>
    (ed_and (ed_b0 (g := fun i j => decide (i < j)) (ed_v rfl (.int _)) (ed_v rfl (.int _))) fun _ => (ed_b0 (g := fun i j => decide (i < j)) (ed_v rfl (.int _)) (ed_v rfl (.int _))))) (Ex.refl H) q
/-- at row r of a pair of size n -/
structure RowAt (xs zs : List Int) (n r : Nat) : Prop where
  lin : LinOk xs zs n
  lt : r < n
theorem RowAt.a {xs zs : List Int} {n r : Nat} (h : RowAt xs zs n r) : zs.idxOf (r : Int) < n := by
  have := List.idxOf_lt_length_of_mem (h.lin.mz r h.lt)
  rwa [h.lin.lz] at this
theorem RowAt.b {xs zs : List Int} {n r : Nat} (h : RowAt xs zs n r) : xs.idxOf (r : Int) < n := by
  have := List.idxOf_lt_length_of_mem (h.lin.mx r h.lt)
  rwa [h.lin.lx] at this
abbrev spOver (K : PySem.W.Frag) : Sp := SpG PairI K (fun xs zs (x : Nat × Nat) => RowAt xs zs x.1 x.2) (fun x : Nat × Nat => [.int (x.2 : Int)])
  (fun xs zs (x : Nat × Nat) => .tuple [.int (zs.idxOf (x.2 : Int) : Nat), .list ((passN xs zs x.2 (zs.idxOf (x.2 : Int)) (xs.idxOf (x.2 : Int))).map fun c : Nat => .int (c : Int)), .int (xs.idxOf (x.2 : Int) : Nat)])
theorem fk_law_over (T : Tx K mg) : Fk P w K mg base 2 "_law_over" P_law_over (spOver K) := by
  refine T.d_law_over.fk sc_law_over (SpG.len fun _ => rfl) fun f cdv A outer s H vs Q E hr h => ?_
  obtain ⟨v, ws, xs, zs, ⟨n, r⟩, rfl, pr, ok, g, q⟩ := h
  obtain ⟨v1, rfl, g1⟩ := dn1 g
  dsimp only at ok q g1
  cases g1
  have lin := ok.lin
  have ha := ok.a
  have hb := ok.b
  have hn := lin.hn
  refine ⟨_, (pss_cons (ps_asg (pe_cal (fk_law_columns T) (hr.mono (by decide)) (by rfl) (pa_cons (pv 0) (pa_cons (pv 1) pa_nil))) (pg_tup rfl (pgs_cons (pg_name (i := 2) (hf := Or.inl rfl) sc_law_over.nd rfl (Or.inr rfl)) (pgs_cons (pg_name (i := 3) (hf := Or.inl rfl) sc_law_over.nd rfl (Or.inr rfl)) pgs_nil))))
      (pss_cons (ps_setLc (i := 4) (own := [("_law_i", 5)]) (g := (gName 5)) rfl sc_law_over.nd rfl rfl (sw_true rfl rfl rfl (by decide +kernel)) (pi_range1 (by rfl) T.range (pa_cons (pe_callB (call_len_seqK (K := K) rfl) (by rfl) T.len (by decide +kernel) (pa_cons (pe_ix (ix_tupK (K := K) rfl) (pv 0) pe_int (fun _ _ => rfl)) pa_nil)) pa_nil)) (blkOk_by (own := [("_law_i", 5)]) (N := N_law_over) (sc := defScope s_law_over) (by decide +kernel)) (fun _ _ _ _ _ => (pg_name (i := 5) (hf := Or.inr rfl) sc_law_over.nd rfl (Or.inl rfl))) (fun _ _ _ _ _ => pts_one (PW.pt (pw_and (pt_val (pe_cal (fk_law_between T) (hr.mono (by decide)) (by rfl) (pa_cons (pv 5) (pa_cons (pv 2) (pa_cons (pv 3) pa_nil))))) (pw_and1 (pt_val (pe_cal (fk_law_between T) (hr.mono (by decide)) (by rfl) (pa_cons (pv 1) (pa_cons (pe_ix (ix_tupK (K := K) rfl) (pe_ix (ix_tupK (K := K) rfl) (pv 0) pe_int (fun _ _ => rfl)) (pv 5) (fun _ _ => rfl)) (pa_cons (pe_ix (ix_tupK (K := K) rfl) (pe_ix (ix_tupK (K := K) rfl) (pv 0) pe_int (fun _ _ => rfl)) (pv 5) (fun _ _ => rfl)) pa_nil))))))))) (fun _ _ _ _ _ => (pv 5)))
      (pss_cons (ps_if (pt_cmpR op_lt (pv 3) (pv 2) (nomark _))
      (pss_one (ps_set (i := 4) sc_law_over.nd rfl (Or.inl rfl) (pe_revL (pv 4))))
      pss_nil)
      (pss_one (ps_ret (pe_tup (pa_cons (pv 2) (pa_cons (pv 4) (pa_cons (pv 3) pa_nil))))))))), ?_⟩
  refine qd_unp (K := K) (SpG.ev (R := PairI) (hR := PairI.ex) (A := Tt) r (ev_v rfl) pr (ewa_cons (ew_v rfl (.int _)) ewa_nil) ⟨lin.mx r ok.lt, lin.mz r ok.lt⟩).w rfl fun vs H1 e1 g2 => ?_
  obtain ⟨va, vb, rfl, ga, gb⟩ := dn2 g2
  cases ga
  cases gb
  refine ⟨_, _, rfl, _, _, rfl, rfl, ?_⟩
  obtain ⟨a, ea⟩ : ∃ a, a = zs.idxOf (r : Int) := ⟨_, rfl⟩
  obtain ⟨b, eb⟩ : ∃ b, b = xs.idxOf (r : Int) := ⟨_, rfl⟩
  rw [← ea] at ha q ⊢
  rw [← eb] at hb q ⊢
  obtain ⟨p, t, u, rfl, hp, ft, fu⟩ := id (pr.ex e1)
  have lx := lin.lx
  have lz := lin.lz
  have hcols := em_lc1 (K := K) (A := fun _ => False) (σ := ((L2.start N_law_over [.ref p, .int (r : Int)]).set 2 (some (.int (a : Int)))).set 3 (some (.int (b : Int)))) (H := H1) (l := List.range n) (enc := fun (i : Nat) => .int (i : Int)) (vs := [5]) (j := 5)
    (wi := iRng1 (tCons (tCB (rLenS K) (tCons (tOp (rIxT K) (tVar 0) (tC (.int 0))) tNil)) tNil))
    (t := tAnd (tB (tCall (spBetw K) [] E0 (tCons (tVar 5) (tCons (tVar 2) (tCons (tVar 3) tNil))))) (tB (tCall (spBetw K) [] E0 (tCons (tVar 1) (tCons (tOp (rIxT K) (tOp (rIxT K) (tVar 0) (tC (.int 0))) (tVar 5)) (tCons (tOp (rIxT K) (tOp (rIxT K) (tVar 0) (tC (.int 1))) (tVar 5)) tNil)))))) (te := tVar 5)
    ((ei_r1 (A := Tt) (n := (n : Int)) ((ed_flen (ev_p0 (ev_v rfl) hp) ft).to (by rw [lx])) (by omega)).to (by unfold rangeD; rw [Int.toNat_natCast]; simp)) (by rw [List.length_range]; omega) (fun i => btw (i : Int) (a : Int) (b : Int) && btw r (xs.getD i 0) (zs.getD i 0)) (fun (i : Nat) => .int (i : Int)) (fun x => rfl)
    (fun i hi x H8 e9 gx => ?_) (fun i hi x H8 e9 gx _ => ?_)
  · have hco : (List.filter (fun i : Nat => btw (i : Int) (a : Int) (b : Int) && btw r (xs.getD i 0) (zs.getD i 0)) (List.range n)) = lcols xs zs n r a b := rfl
    rw [hco] at hcols
    refine qd_asgM (K := K) hcols fun pc ws H2 hpc e2 h2 g2 => ?_
    have nl : ∀ l : List Nat, noLs (l.map fun c : Nat => PyData.int (c : Int)) = true := fun l => by
      induction l with
      | nil => rfl
      | cons c l ih => exact ih
    refine q_ifS (c := decide (b < a)) (fun σ' H' => ∃ pc ws, σ' = [some (.ref p), some (.int (r : Int)), some (.int (a : Int)), some (.int (b : Int)), some (.ref pc), none] ∧ Ex H H' ∧ H pc = none ∧ H' pc = some (.lst ws) ∧ DnAll K Tt H' ws ((passN xs zs r a b).map fun c : Nat => PyData.int (c : Int)))
      (etD (K := K) ((ed_b0 (g := fun i j => decide (i < j)) (ed_v (d := .int (b : Int)) rfl (.int _)) (ed_v (d := .int (a : Int)) rfl (.int _))).to (by congr 1; simp))) (fun h0 H3 e3 z hz => ?_) (fun h0 H3 e3 z hz => ?_) ?_
    · have h0 := of_decide_eq_true h0
      refine sd_asgM (K := K) (A := Tt) (em_rev (ed_v rfl (.lst (sqA_at (e3 _ _ h2) trivial) (g2.dd.ex e3)))) fun pd us H4 hpd e4 h4 g4 => ?_
      rw [← List.map_reverse, pass_dn ha hb h0] at g4
      exact hz _ _ ⟨pd, us, rfl, ((e1.trans e2).trans e3).trans e4, fresh_back ((e1.trans e2).trans e3) hpd, h4, g4.any (nl _)⟩
    · have h0 := of_decide_eq_false h0
      rw [pass_up ha hb h0] at g2
      exact hz _ _ ⟨pc, ws, rfl, (e1.trans e2).trans e3, fresh_back e1 hpc, e3 _ _ h2, (g2.ex e3).any (nl _)⟩
    · rintro σ' H' ⟨pc, ws, rfl, e3, hpc, h3, g3⟩
      refine ⟨_, rfl, _, rfl, _, rfl, sz_of (by show 3 ≤ 100000; omega), fun T hT => q _ _ (e3.trans (Ex.new hT)) (.tup upd_same (.cons (.int _) (.cons (.lst (sqA_at (Ex.new hT _ _ h3) hpc) ((g3.ex (Ex.new hT)).any (nl _))) (.one (.int _)))))⟩
  · have hi' := List.mem_range.mp hi
    cases gx
    have ft9 := ft.ex e9
    have fu9 := fu.ex e9
    have hp9 := e9 _ _ hp
    refine et_and (etB (K := K) (SpN.ev ((i : Int), (a : Int), (b : Int)) (ewa_cons (ew_v (d := .int (i : Int)) rfl (.int _)) (ewa_cons (ew_v (d := .int (a : Int)) rfl (.int _)) (ewa_cons (ew_v (d := .int (b : Int)) rfl (.int _)) ewa_nil))) trivial)) fun _ =>
      etB (K := K) (SpN.ev ((r : Int), xs.getD i 0, zs.getD i 0) (ewa_cons (ew_v (d := .int (r : Int)) rfl (.int _)) (ewa_cons (ed_fix (A := Tt) (ev_p0 (ev_v rfl) hp9) ft9 (ed_v (d := .int (i : Int)) rfl (.int _)) (by omega)).w (ewa_cons (ed_fix (A := Tt) (ev_p1 (ev_v rfl) hp9) fu9 (ed_v (d := .int (i : Int)) rfl (.int _)) (by omega)).w ewa_nil))) trivial)
  · cases gx
    exact ed_v rfl (.int _)
abbrev spLSign (K : PySem.W.Frag) : Sp := SpG PairI K (fun xs zs (x : Nat × Nat × Nat) => RowAt xs zs x.1 x.2.2 ∧ x.2.1 < x.1) (fun x : Nat × Nat × Nat => [.int (x.2.1 : Int), .int (x.2.2 : Int)])
  (fun xs zs (x : Nat × Nat × Nat) => .int (sgnC xs zs x.2.1 (decide (zs.idxOf (x.2.2 : Int) < xs.idxOf (x.2.2 : Int)))))
theorem fk_law_sign (T : Tx K mg) : Fk P w K mg base 2 "_law_sign" P_law_sign (spLSign K) := by
  refine T.d_law_sign.fk sc_law_sign (SpG.len fun _ => rfl) fun f cdv A outer s H vs Q E hr h => ?_
  obtain ⟨v, ws, xs, zs, ⟨n, c, r⟩, rfl, pr, ⟨ok, hc⟩, g, q⟩ := h
  obtain ⟨v1, v2, rfl, g1, g2⟩ := dn2 g
  dsimp only at ok hc q g1 g2
  cases g1
  cases g2
  have lin := ok.lin
  refine ⟨_, (pss_cons (ps_asg (pe_cal (fk_law_columns T) (hr.mono (by decide)) (by rfl) (pa_cons (pv 0) (pa_cons (pv 2) pa_nil))) (pg_tup rfl (pgs_cons (pg_name (i := 3) (hf := Or.inl rfl) sc_law_sign.nd rfl (Or.inl rfl)) (pgs_cons (pg_name (i := 4) (hf := Or.inl rfl) sc_law_sign.nd rfl (Or.inl rfl)) pgs_nil))))
      (pss_one (ps_ret (pe_ix (ix_listK (K := K) rfl) (pe_lst (pa_cons pe_int (pa_cons (pe_un un_neg pe_int) pa_nil))) (pe_callTy call_int1 (by rfl) T.int (by decide +kernel) (pa_cons (pe_cmpR op_eq (pe_cmpR op_gt (pe_ix (ix_tupK (K := K) rfl) (pe_ix (ix_tupK (K := K) rfl) (pv 0) pe_int (fun _ _ => rfl)) (pv 1) (fun _ _ => rfl)) (pe_ix (ix_tupK (K := K) rfl) (pe_ix (ix_tupK (K := K) rfl) (pv 0) pe_int (fun _ _ => rfl)) (pv 1) (fun _ _ => rfl)) (nomark _)) (pe_cmpR op_gt (pv 4) (pv 3) (nomark _)) (nomark _)) pa_nil)) (fun _ _ => rfl))))), ?_⟩
  refine qd_unp (K := K) (SpG.ev (R := PairI) (hR := PairI.ex) (A := Tt) r (ev_v rfl) pr (ewa_cons (ew_v (d := .int (r : Int)) rfl (.int _)) ewa_nil) ⟨lin.mx r ok.lt, lin.mz r ok.lt⟩).w rfl fun vs H1 e1 g2 => ?_
  obtain ⟨va, vb, rfl, ga, gb⟩ := dn2 g2
  cases ga
  cases gb
  refine ⟨_, _, rfl, _, _, rfl, rfl, ?_⟩
  obtain ⟨a, ea⟩ : ∃ a, a = zs.idxOf (r : Int) := ⟨_, rfl⟩
  obtain ⟨b, eb⟩ : ∃ b, b = xs.idxOf (r : Int) := ⟨_, rfl⟩
  rw [← ea, ← eb] at q ⊢
  obtain ⟨p, t, u, rfl, hp, ft, fu⟩ := id (pr.ex e1)
  have lx := lin.lx
  have lz := lin.lz
  have hidx : ∀ k : Bool, atD [PyData.int 1, .int (-1)] (if k then 1 else 0) = some (.int (if k = true then -1 else 1)) := fun k => by cases k <;> rfl
  refine sd_retF ((ed_ixL (A := fun _ => False) (em_lst (eda_cons (ed_int (i := 1)) (eda_cons (ed_neg (ed_int (i := 1))) eda_nil)) (by show 2 ≤ 100000; omega)).lst (ed_intb (ed_eqB (ed_b0 (g := fun i j => decide (j < i)) (ed_fix (ev_p1 (ev_v rfl) hp) fu (ed_v (d := .int (c : Int)) rfl (.int _)) (by omega)) (ed_fix (ev_p0 (ev_v rfl) hp) ft (ed_v (d := .int (c : Int)) rfl (.int _)) (by omega)))
    (ed_b0 (g := fun i j => decide (j < i)) (ed_v (d := .int (b : Int)) rfl (.int _)) (ed_v (d := .int (a : Int)) rfl (.int _))))) (hidx _)).to ?_) e1 q
  unfold sgnC
  have : decide ((a : Int) < (b : Int)) = decide (a < b) := by simp
  rw [this]
  by_cases hh : decide (xs.getD c 0 < zs.getD c 0) = decide (a < b)
  · rw [if_pos (decide_eq_true hh), if_pos hh]
  · rw [if_neg (by rw [decide_eq_false hh]; decide), if_neg hh]
abbrev spLLine (K : PySem.W.Frag) : Sp := SpG PairI K (fun xs zs (x : Nat × Nat) => RowAt xs zs x.1 x.2 ∧ x.1 ≤ 6) (fun x : Nat × Nat => [.int (x.2 : Int)]) (fun xs zs (x : Nat × Nat) => dL (rowS xs zs x.1 x.2))
theorem fk_law_line (T : Tx K mg) : Fk P w K mg base 3 "_law_line" P_law_line (spLLine K) := by
  refine T.d_law_line.fk sc_law_line (SpG.len fun _ => rfl) fun f cdv A outer s H vs Q E hr h => ?_
  obtain ⟨v, ws, xs, zs, ⟨n, r⟩, rfl, pr, ⟨ok, hn6⟩, g, q⟩ := h
  obtain ⟨v1, rfl, g1⟩ := dn1 g
  dsimp only at ok hn6 q g1
  cases g1
  have lin := ok.lin
  have ha := ok.a
  have hb := ok.b
  refine ⟨_, (pss_cons (ps_asg (pe_cal (fk_law_over T) (hr.mono (by decide)) (by rfl) (pa_cons (pv 0) (pa_cons (pv 1) pa_nil))) (pg_tup rfl (pgs_cons (pg_name (i := 2) (hf := Or.inl rfl) sc_law_line.nd rfl (Or.inl rfl)) (pgs_cons (pg_name (i := 3) (hf := Or.inl rfl) sc_law_line.nd rfl (Or.inl rfl)) (pgs_cons (pg_name (i := 4) (hf := Or.inl rfl) sc_law_line.nd rfl (Or.inl rfl)) pgs_nil)))))
      (pss_cons (ps_set (i := 5) sc_law_line.nd rfl (Or.inl rfl) (pe_op op_rep (pe_lst (pa_cons (pe_tup pa_nil) pa_nil)) (pe_callB (call_len_seqK (K := K) rfl) (by rfl) T.len (by decide +kernel) (pa_cons (pe_ix (ix_tupK (K := K) rfl) (pv 0) pe_int (fun _ _ => rfl)) pa_nil))))
      (pss_cons (ps_asg (pe_tup (pa_cons (pe_tup (pa_cons pe_int (pa_cons pe_int pa_nil))) pa_nil)) (pg_sub (pv 5) (pv 2) set_list))
      (pss_cons (ps_for PassesOwn.never rfl (pi_list (pv 3)) (pg_name (i := 6) (hf := Or.inl rfl) sc_law_line.nd rfl (Or.inl rfl))
      (pss_cons (ps_set (i := 7) sc_law_line.nd rfl (Or.inr rfl) (pe_cal (fk_law_sign T) (hr.mono (by decide)) (by rfl) (pa_cons (pv 0) (pa_cons (pv 6) (pa_cons (pv 1) pa_nil)))))
      (pss_cons (ps_setLc (i := 5) (own := [("_law_one", 8)]) (g := (gName 8)) rfl sc_law_line.nd rfl rfl (sw_true rfl rfl rfl (by decide +kernel)) (pi_list (pv 5)) (blkOk_by (own := [("_law_one", 8)]) (N := N_law_line) (sc := defScope s_law_line) (by decide +kernel)) (fun _ _ _ _ _ => (pg_name (i := 8) (hf := Or.inr rfl) sc_law_line.nd rfl (Or.inl rfl))) (fun _ _ _ _ _ => pts_nil) (fun _ _ _ _ _ => (pe_cal (fk_law_times T) (hr.mono (by decide)) (by rfl) (pa_cons (pe_tup (pa_cons (pe_tup (pa_cons (pv 7) (pa_cons pe_int pa_nil))) pa_nil)) (pa_cons (pv 8) pa_nil)))))
      (pss_one (ps_asg (pe_cal (fk_law_plus T) (hr.mono (by decide)) (by rfl) (pa_cons (pe_ix (ix_listK (K := K) rfl) (pv 5) (pv 6) (fun _ _ => rfl)) (pa_cons (pe_cal (fk_law_plus T) (hr.mono (by decide)) (by rfl) (pa_cons (pe_tup (pa_cons (pe_tup (pa_cons pe_int (pa_cons pe_int pa_nil))) pa_nil)) (pa_cons (pe_tup (pa_cons (pe_tup (pa_cons (pv 7) (pa_cons (pe_un un_neg pe_int) pa_nil))) pa_nil)) pa_nil))) pa_nil))) (pg_sub (pv 5) (pv 6) set_list))))))
      (pss_cons (ps_asg (pe_cal (fk_law_plus T) (hr.mono (by decide)) (by rfl) (pa_cons (pe_ix (ix_listK (K := K) rfl) (pv 5) (pv 4) (fun _ _ => rfl)) (pa_cons (pe_tup (pa_cons (pe_tup (pa_cons pe_int (pa_cons (pe_un un_neg pe_int) pa_nil))) pa_nil)) pa_nil))) (pg_sub (pv 5) (pv 4) set_list))
      (pss_one (ps_ret (pv 5)))))))), ?_⟩
  refine qd_unp (K := K) (SpG.ev (R := PairI) (hR := PairI.ex) (A := Tt) (n, r) (ev_v rfl) pr (ewa_cons (ew_v (d := .int (r : Int)) rfl (.int _)) ewa_nil) ok).w rfl fun vs H1 e1 g2 => ?_
  obtain ⟨va, vo, vb, rfl, ga, go, gb⟩ := dn3 g2
  cases ga
  cases gb
  refine ⟨_, _, rfl, _, _, rfl, _, _, rfl, rfl, ?_⟩
  obtain ⟨a, ea⟩ : ∃ a, a = zs.idxOf (r : Int) := ⟨_, rfl⟩
  obtain ⟨b, eb⟩ : ∃ b, b = xs.idxOf (r : Int) := ⟨_, rfl⟩
  rw [← ea] at ha go ⊢
  rw [← eb] at hb go ⊢
  obtain ⟨cs, hcs⟩ : ∃ cs, cs = passN xs zs r a b := ⟨_, rfl⟩
  obtain ⟨sg, hsg⟩ : ∃ sg : Nat → Int, sg = fun c => sgnC xs zs c (decide (a < b)) := ⟨_, rfl⟩
  have hrow : rowS xs zs n r = lineS n a b (cs.map fun c => (c, sg c)) := by
    unfold rowS overN
    rw [← ea, ← eb, hcs, hsg]
  rw [hrow] at q
  rw [← hcs] at go
  have hcl : cs.length ≤ 12 := by
    have := pass_len xs zs r a b
    rw [← hcs] at this
    omega
  have hcn : ∀ c ∈ cs, c < n := fun c hc => upto_lt ha hb (List.mem_filter.mp (hcs ▸ hc)).1
  obtain ⟨p, t, u, rfl, hp, ft, fu⟩ := id (pr.ex e1)
  have lx := lin.lx
  refine qd_asgM (K := K) (A := Tt) ((em_rep1 (k := (n : Int)) (d := .tuple []) (em_lst (eda_cons (ed_tup eda_nil (Nat.zero_le _)) eda_nil) (by show 1 ≤ 100000; omega)).lst ((ed_flen (ev_p0 (ev_v rfl) hp) ft).to (by rw [lx])) (by omega) (by omega))) fun l ws H2 hl e2 h2 g4 => ?_
  rw [Int.toNat_natCast] at g4
  have R0 : Row K H2 l (List.replicate n []) := row_of h2 (by rw [List.map_replicate]; exact g4)
  have hl0 : H l = none := fresh_back e1 hl
  refine qd_setR R0 (ed_s1 (A := Tt) ed_int ed_int).w (ev_v rfl) (ed_v (d := .int (a : Int)) rfl (.int _)) (by rw [List.length_replicate]; exact ha) fun H3 vs3 e3 _ R1 => ?_
  have eH3' : Ex H1 (upd H3 l (.lst vs3)) := Ex.mut (e2.trans e3) hl
  obtain ⟨r0, hr0⟩ : ∃ r0, r0 = (List.replicate n ([] : Ser)).set a [(0, 1)] := ⟨_, rfl⟩
  have hr0l : r0.length = n := by rw [hr0]; simp
  have hb0 : Lb 1 r0 := hr0 ▸ lb_start n a
  rw [← hr0] at R1
  obtain ⟨over, hov⟩ : ∃ over, over = cs.map fun c => (c, sg c) := ⟨_, rfl⟩
  have hovl : over.length = cs.length := by rw [hov, List.length_map]
  rw [← hov] at q
  refine qd_forLv (K := K) (v := vo) (ds := cs.map fun c : Nat => PyData.int (c : Int)) (ev_v rfl) (go.ex eH3')
    (fun i σ' H' => ∃ l x6 x7, σ' = [some (.ref p), some (.int (r : Int)), some (.int (a : Int)), some vo, some (.int (b : Int)), some (.ref l), x6, x7, none] ∧ Ex H1 H' ∧ H l = none ∧ Row K H' l (lfold (over.take i) r0))
    (fun H4 e4 => ⟨l, none, none, rfl, eH3'.trans e4, hl0, R1.ex e4⟩) (fun i σ' H' ⟨_, _, _, _, e, _⟩ => go.ex e) ?_ ?_
  · rintro i d x σ' H' H2 hd ⟨l, x6, x7, rfl, e4, hl, R⟩ e5 gx
    have hi : i < cs.length := by
      have := (List.getElem?_eq_some_iff.mp hd).1
      rwa [List.length_map] at this
    obtain ⟨c, hc⟩ : ∃ c, c = cs[i] := ⟨_, rfl⟩
    have hdc : d = .int (c : Int) := by
      rw [List.getElem?_map, List.getElem?_eq_getElem hi, ← hc] at hd
      exact (Option.some.inj hd).symm
    rw [hdc] at gx
    cases gx
    have hcn' : c < n := hc ▸ hcn _ (List.getElem_mem hi)
    obtain ⟨rw', hr⟩ : ∃ rw', rw' = lfold (over.take i) r0 := ⟨_, rfl⟩
    have hrl : rw'.length = n := by rw [hr, lfold_len, hr0l]
    have hlen : (over.take i).length ≤ 12 := by rw [List.length_take]; omega
    have hlb : Lb 81 rw' := hr ▸ fun s hs => by
      have := lb_fold (over.take i) 1 r0 hb0 s hs
      omega
    rw [← hr] at R
    have eH2 := e4.trans e5
    refine qd_asgI (K := K) (n := sg c) ((SpG.ev (R := PairI) (hR := PairI.ex) (A := Tt) (n, c, r) (ev_v rfl) (pr.ex (e1.trans eH2)) (ewa_cons (ew_v (d := .int (c : Int)) rfl (.int _)) (ewa_cons (ew_v (d := .int (r : Int)) rfl (.int _)) ewa_nil)) ⟨ok, hcn'⟩).to (by rw [hsg, ea, eb])) fun H3 e6 => ?_
    have R2 := R.ex (e5.trans e6)
    refine qd_asgM (K := K) (A := Tt) (em_lc1 (K := K) (A := Tt) (l := rw') (enc := dS) (vs := [8]) (j := 8) (wi := iList K (tVar 5)) (t := tYes) (ei_l (ew_v rfl R2.dd)) (by rw [hrl]; omega) (fun _ => true) (fun s => dS (sTimes [(sg c, 1)] s)) (fun x => rfl)
      (fun s hs x H1 _ _ => et_yes) (fun s hs x H1 e gx _ => (SpD.ev ([(sg c, 1)], s) (ewa_cons (ed_s1 (A := Tt) (ed_v rfl (.int _)) ed_int).w (ewa_cons (ew_v rfl gx.dd) ewa_nil))
        ⟨by show 1 ≤ 200; omega, by have := hlb s hs; dsimp only; omega, lb_sms (k := 1) (Nat.le_refl _) (by omega), lb_sms (hlb s hs).2 (by omega)⟩).nl (noL_dS _))) fun p2 ws2 H4 hp2 e7 h4 g5 => ?_
    rw [all_true] at g5
    have R4 : Row K H4 p2 (rw'.map (sTimes [(sg c, 1)])) := row_of h4 (by rw [List.map_map]; exact g5)
    have hp20 : H p2 = none := fresh_back (e1.trans (eH2.trans e6)) hp2
    have hlb2 := lb_times hlb (sg c)
    refine sd_setR R4 (SpD.ev ((rw'.map (sTimes [(sg c, 1)])).getD c [], sPlus [(0, 1)] [(sg c, -1)]) (ewa_cons (ed_rowat (A := Tt) (ew_v rfl R4.dd) (ed_v (d := .int (c : Int)) rfl (.int _)) (by rw [List.length_map, hrl]; exact hcn')).w
        (ewa_cons (SpD.ev ([(0, 1)], [(sg c, -1)]) (ewa_cons (ed_s1 (A := Tt) ed_int ed_int).w (ewa_cons (ed_s1 (A := Tt) (ed_v rfl (.int _)) (ed_neg ed_int)).w ewa_nil)) ⟨by show 1 ≤ 20000; omega, by show 1 ≤ 20000; omega⟩) ewa_nil))
        ⟨by have := lb_getD hlb2 c; dsimp only; omega, by have := lb_one (sg c); dsimp only; omega⟩) (ev_v rfl) (ed_v (d := .int (c : Int)) rfl (.int _)) (by rw [List.length_map, hrl]; exact hcn') fun H5 vs5 e8 _ R5 => ?_
    refine ⟨p2, _, _, rfl, Ex.mut (((eH2.trans e6).trans e7).trans e8) (fresh_back (eH2.trans e6) hp2), hp20, ?_⟩
    have : lfold (over.take (i + 1)) r0 = lstep rw' c (sg c) := by
      have hoi : over[i]? = some (c, sg c) := by
        rw [hov, List.getElem?_map, List.getElem?_eq_getElem hi, hc]
        rfl
      rw [List.take_add_one, hoi, hr]
      exact lfold_snoc _ _ _
    rw [this]
    exact R5
  · rintro σ' H' ⟨l, x6, x7, rfl, e4, hl, R⟩
    rw [List.length_map, ← hovl, List.take_length] at R
    have hlb : Lb 81 (lfold over r0) := fun s hs => by
      have := lb_fold over 1 r0 hb0 s hs
      omega
    have hrl : (lfold over r0).length = n := by rw [lfold_len, hr0l]
    refine qd_setR R (SpD.ev ((lfold over r0).getD b [], [(0, -1)]) (ewa_cons (ed_rowat (A := Tt) (ew_v rfl R.dd) (ed_v (d := .int (b : Int)) rfl (.int _)) (by rw [hrl]; exact hb)).w
        (ewa_cons (ed_s1 (A := Tt) ed_int (ed_neg ed_int)).w ewa_nil)) ⟨by have := lb_getD hlb b; dsimp only; omega, by show 1 ≤ 20000; omega⟩) (ev_v rfl) (ed_v (d := .int (b : Int)) rfl (.int _)) (by rw [hrl]; exact hb) fun H5 vs5 e5 _ R5 => ?_
    have eF : Ex H (upd H5 l (.lst vs5)) := Ex.mut ((e1.trans e4).trans e5) hl
    obtain ⟨us, hu, gu⟩ := R5
    refine ⟨_, rfl, q _ _ eF (.lst (sqA_at hu hl) ?_)⟩
    rw [hr0] at gu
    exact gu.any (noLs_row _)
end
end GK
set_option linter.all false
/-! GDp: the law's own expansion: sums over the columns used, row by row. -/
namespace GM
abbrev TBk := List (List Int × Ser)
def insI (c : Int) : List Int → List Int
  | [] => [c]
  | x :: l => if x < c then x :: insI c l else c :: x :: l
theorem insI_perm (c : Int) : ∀ l : List Int, (insI c l).Perm (l ++ [c])
  | [] => List.Perm.refl _
  | x :: l => by
    unfold insI
    split
    · exact (insI_perm c l).cons x
    · exact (List.perm_append_comm (l₁ := [c]) (l₂ := x :: l))
theorem insI_len (c : Int) (l : List Int) : (insI c l).length = l.length + 1 := by rw [(insI_perm c l).length_eq]; simp
theorem insI_mem {c x : Int} {l : List Int} : x ∈ insI c l ↔ x ∈ l ∨ x = c := by rw [(insI_perm c l).mem_iff]; simp
theorem insI_srt (c : Int) : ∀ l : List Int, l.Pairwise (· < ·) → c ∉ l → (insI c l).Pairwise (· < ·)
  | [], _, _ => List.pairwise_singleton _ _
  | x :: l, h, hc => by
    have h' := List.pairwise_cons.mp h
    have hc' : c ≠ x ∧ c ∉ l := by simpa using hc
    unfold insI
    split
    · refine List.pairwise_cons.mpr ⟨fun y hy => ?_, insI_srt c l h'.2 hc'.2⟩
      rcases insI_mem.mp hy with z | rfl
      · exact h'.1 y z
      · assumption
    · have hlt : c < x := by omega
      refine List.pairwise_cons.mpr ⟨fun y hy => ?_, h⟩
      rcases List.mem_cons.mp hy with rfl | z
      · exact hlt
      · have := h'.1 y z
        omega
def tget (b : TBk) (k : List Int) : Ser := ((b.find? fun e => decide (e.1 = k)).map (·.2)).getD []
def tput (b : TBk) (k : List Int) (s : Ser) : TBk := if (b.any fun e => decide (e.1 = k)) = true then b.map (fun e => if e.1 = k then (e.1, s) else e) else b ++ [(k, s)]
def tkeys (b : TBk) : List (List Int) := b.map (·.1)
def sgU (u : List Int) (c : Int) : Int := 1 - 2 * (((u.filter fun x => decide (c < x)).length : Int) % 2)
def lawIn (L : Nat → Ser) (e : List Int × Ser) (c : Nat) (w : TBk) : TBk :=
  if (c : Int) ∈ e.1 ∨ L c = [] then w else tput w (insI c e.1) (sPlus (tget w (insI c e.1)) (sTimes (sTimes e.2 (L c)) [(0, sgU e.1 c)]))
def lawC (L : Nat → Ser) (e : List Int × Ser) (cs : List Nat) (w : TBk) : TBk := cs.foldl (fun w c => lawIn L e c w) w
def lawE (L : Nat → Ser) (m : Nat) (b w : TBk) : TBk := b.foldl (fun w e => lawC L e (List.range m) w) w
def lawSum (L : Nat → Nat → Ser) (m : Nat) : Nat → TBk
  | 0 => [([], [(0, 1)])]
  | r + 1 => lawE (L r) m (lawSum L m r) []
theorem tany (b : TBk) (k : List Int) : (b.any fun e => decide (e.1 = k)) = true ↔ k ∈ tkeys b := by
  unfold tkeys
  rw [List.any_eq_true, List.mem_map]
  constructor
  · rintro ⟨p, h1, h2⟩
    exact ⟨p, h1, of_decide_eq_true h2⟩
  · rintro ⟨p, h1, h2⟩
    exact ⟨p, h1, decide_eq_true h2⟩
theorem tkeys_put (b : TBk) (k : List Int) (s : Ser) : tkeys (tput b k s) = if k ∈ tkeys b then tkeys b else tkeys b ++ [k] := by
  unfold tput
  by_cases h : k ∈ tkeys b
  · rw [if_pos ((tany b k).mpr h), if_pos h]
    unfold tkeys
    rw [List.map_map]
    refine List.map_congr_left fun p _ => ?_
    show (if p.1 = k then (p.1, s) else p).1 = p.1
    split <;> rfl
  · rw [if_neg (fun z => h ((tany b k).mp z)), if_neg h]
    simp [tkeys]
theorem tnd_put {b : TBk} (h : (tkeys b).Nodup) (k : List Int) (s : Ser) : (tkeys (tput b k s)).Nodup := by
  rw [tkeys_put]
  split
  · exact h
  · rename_i hk
    rw [List.nodup_append]
    refine ⟨h, by simp, fun x hx y hy => ?_⟩
    rw [List.mem_singleton.mp hy]
    rintro rfl
    exact hk hx
theorem tlen_put (b : TBk) (k : List Int) (s : Ser) : (tput b k s).length ≤ b.length + 1 := by
  have := congrArg List.length (tkeys_put b k s)
  unfold tkeys at this
  rw [List.length_map] at this
  rw [this]
  split <;> simp
theorem tmem_put {b : TBk} {k : List Int} {s : Ser} {e : List Int × Ser} (h : e ∈ tput b k s) : e ∈ b ∨ e = (k, s) := by
  unfold tput at h
  split at h
  · obtain ⟨q, hq, rfl⟩ := List.mem_map.mp h
    by_cases hk : q.1 = k
    · rw [if_pos hk]
      exact .inr (by rw [hk])
    · rw [if_neg hk]
      exact .inl hq
  · rcases List.mem_append.mp h with z | z
    · exact .inl z
    · exact .inr (List.mem_singleton.mp z)
theorem tget_mem {b : TBk} {k : List Int} : tget b k = [] ∨ (k, tget b k) ∈ b := by
  unfold tget
  cases h : b.find? fun e => decide (e.1 = k) with
  | none => exact .inl rfl
  | some e =>
    have h1 := List.mem_of_find?_eq_some h
    have h2 : e.1 = k := of_decide_eq_true (List.find?_some (p := fun e : List Int × Ser => decide (e.1 = k)) h)
    refine .inr ?_
    show (k, e.2) ∈ b
    rw [← h2]
    exact h1
theorem tget_cons_pos {e : List Int × Ser} {b : TBk} {k : List Int} (h : e.1 = k) : tget (e :: b) k = e.2 := by simp [tget, List.find?_cons, h]
theorem tget_cons_neg {e : List Int × Ser} {b : TBk} {k : List Int} (h : ¬ e.1 = k) : tget (e :: b) k = tget b k := by simp [tget, List.find?_cons, h]
theorem tget_map (k j : List Int) (s : Ser) : ∀ b : TBk, tget (b.map fun e => if e.1 = k then (e.1, s) else e) j = if j = k ∧ k ∈ tkeys b then s else tget b j
  | [] => by simp [tget, tkeys]
  | e :: b => by
    have ih := tget_map k j s b
    rw [List.map_cons]
    by_cases h : e.1 = k
    · rw [if_pos h]
      by_cases hj : e.1 = j
      · rw [tget_cons_pos (e := (e.1, s)) hj, if_pos ⟨by rw [← hj, h], by simp [tkeys, h]⟩]
      · rw [tget_cons_neg (e := (e.1, s)) hj, tget_cons_neg hj, ih, if_neg (fun z => hj (by rw [z.1, h])), if_neg (fun z => hj (by rw [z.1, h]))]
    · rw [if_neg h]
      by_cases hj : e.1 = j
      · rw [tget_cons_pos hj, tget_cons_pos hj, if_neg (fun z => h (by rw [hj, z.1]))]
      · rw [tget_cons_neg hj, tget_cons_neg hj, ih]
        have : (k ∈ tkeys (e :: b)) = (k ∈ tkeys b) := propext <| by
          unfold tkeys
          rw [List.map_cons, List.mem_cons]
          constructor
          · rintro (z | z)
            · exact absurd z.symm h
            · exact z
          · exact .inr
        simp only [this]
theorem tget_snoc (k j : List Int) (s : Ser) : ∀ b : TBk, k ∉ tkeys b → tget (b ++ [(k, s)]) j = if j = k then s else tget b j
  | [], _ => by
    by_cases h : k = j
    · rw [if_pos h.symm]
      exact tget_cons_pos h
    · rw [if_neg (fun z => h z.symm)]
      exact tget_cons_neg h
  | e :: b, hk => by
    have hk' : e.1 ≠ k ∧ k ∉ tkeys b := by
      unfold tkeys at hk ⊢
      rw [List.map_cons, List.mem_cons] at hk
      exact ⟨fun z => hk (.inl z.symm), fun z => hk (.inr z)⟩
    rw [List.cons_append]
    by_cases hj : e.1 = j
    · rw [tget_cons_pos hj, tget_cons_pos hj, if_neg (fun z => hk'.1 (by rw [hj, z]))]
    · rw [tget_cons_neg hj, tget_cons_neg hj, tget_snoc k j s b hk'.2]
theorem tget_put (b : TBk) (k j : List Int) (s : Ser) : tget (tput b k s) j = if j = k then s else tget b j := by
  unfold tput
  by_cases h : k ∈ tkeys b
  · rw [if_pos ((tany b k).mpr h), tget_map]
    simp [h]
  · rw [if_neg (fun z => h ((tany b k).mp z)), tget_snoc k j s b h]
/-! sizes -/
structure TEnt (m r : Nat) (lo hi : Int) (B : Nat) (e : List Int × Ser) : Prop where
  srt : e.1.Pairwise (· < ·)
  len : e.1.length = r
  rng : ∀ x ∈ e.1, 0 ≤ x ∧ x < m
  can : Can e.2
  rg : Rg lo hi e.2
  ns : nS e.2 ≤ B
structure TOk (m r : Nat) (lo hi : Int) (B : Nat) (b : TBk) : Prop where
  ent : ∀ e ∈ b, TEnt m r lo hi B e
  nd : (tkeys b).Nodup
theorem can_nil : Can [] := ⟨List.Pairwise.nil, fun p hp => (by cases hp)⟩
theorem rg_nil (lo hi : Int) : Rg lo hi [] := fun p hp => (by cases hp)
theorem TOk.mono {m r : Nat} {lo hi : Int} {B B' : Nat} {b : TBk} (h : TOk m r lo hi B b) (hb : B ≤ B') : TOk m r lo hi B' b :=
  ⟨fun e he => let t := h.ent e he; ⟨t.srt, t.len, t.rng, t.can, t.rg, Nat.le_trans t.ns hb⟩, h.nd⟩
theorem tok_nil (m r : Nat) (lo hi : Int) (B : Nat) : TOk m r lo hi B [] := ⟨fun e he => (by cases he), List.nodup_nil⟩
/-- what the lines of a row must keep -/
structure LOk (m : Nat) (lo hi : Int) (B : Nat) (L : Nat → Ser) : Prop where
  can : ∀ c, c < m → Can (L c)
  rg : ∀ c, c < m → Rg lo hi (L c)
  ns : ∀ c, c < m → nS (L c) ≤ B
theorem sgU_abs (u : List Int) (c : Int) : (sgU u c).natAbs = 1 := by
  unfold sgU
  omega
theorem tget_ok {m r : Nat} {lo hi : Int} {B : Nat} {b : TBk} (h : TOk m r lo hi B b) (k : List Int) : Can (tget b k) ∧ Rg lo hi (tget b k) ∧ nS (tget b k) ≤ B := by
  rcases tget_mem (b := b) (k := k) with z | z
  · rw [z]
    exact ⟨can_nil, rg_nil _ _, Nat.zero_le _⟩
  · have := h.ent _ z
    exact ⟨this.can, this.rg, this.ns⟩
theorem lawIn_ok {m r : Nat} {lo hi lo' hi' : Int} {B B' t : Nat} {L : Nat → Ser} {e : List Int × Ser} {c : Nat} {w : TBk} (hL : LOk m lo' hi' B' L) (he : TEnt m r lo hi B e) (hc : c < m) (hw : TOk m (r + 1) (lo + lo') (hi + hi') (t * (B * B')) w) (hl : w.length ≤ t) :
    TOk m (r + 1) (lo + lo') (hi + hi') ((t + 1) * (B * B')) (lawIn L e c w) ∧ (lawIn L e c w).length ≤ t + 1 := by
  have hmono : t * (B * B') ≤ (t + 1) * (B * B') := Nat.mul_le_mul_right _ (by omega)
  unfold lawIn
  by_cases hcond : (c : Int) ∈ e.1 ∨ L c = []
  · rw [if_pos hcond]
    exact ⟨hw.mono hmono, by omega⟩
  · rw [if_neg hcond]
    have hcn : (c : Int) ∉ e.1 := fun z => hcond (.inl z)
    refine ⟨⟨fun q hq => ?_, tnd_put hw.nd _ _⟩, Nat.le_trans (tlen_put _ _ _) (by omega)⟩
    rcases tmem_put hq with z | rfl
    · exact (hw.mono hmono).ent q z
    · obtain ⟨g1, g2, g3⟩ := tget_ok hw (insI c e.1)
      refine ⟨insI_srt _ _ he.srt hcn, by rw [insI_len, he.len], fun x hx => ?_, can_plus _ _, ?_, ?_⟩
      · rcases insI_mem.mp hx with z | rfl
        · exact he.rng x z
        · omega
      · refine rg_plus g2 (rg_mono (rg_times (rg_times he.rg (hL.rg c hc)) (lo' := 0) (hi' := 0) (fun p hp => ?_)) (by omega) (by omega))
        rw [List.mem_singleton.mp hp]
        exact ⟨Int.le_refl _, Int.le_refl _⟩
      · have h1 := nS_plus (tget w (insI c e.1)) (sTimes (sTimes e.2 (L c)) [(0, sgU e.1 c)])
        have h2 := nS_times (sTimes e.2 (L c)) [(0, sgU e.1 c)]
        have h3 := nS_times e.2 (L c)
        have h4 : nS e.2 * nS (L c) ≤ B * B' := Nat.mul_le_mul he.ns (hL.ns c hc)
        have h5 : nS [((0 : Int), sgU e.1 c)] = 1 := by
          show (sgU e.1 c).natAbs + 0 = 1
          rw [sgU_abs]
        rw [h5, Nat.mul_one] at h2
        show nS (sPlus (tget w (insI c e.1)) (sTimes (sTimes e.2 (L c)) [(0, sgU e.1 c)])) ≤ (t + 1) * (B * B')
        rw [Nat.add_mul, Nat.one_mul]
        omega
theorem lawC_ok {m r : Nat} {lo hi lo' hi' : Int} {B B' : Nat} {L : Nat → Ser} {e : List Int × Ser} (hL : LOk m lo' hi' B' L) (he : TEnt m r lo hi B e) : ∀ (cs : List Nat) (t : Nat) (w : TBk), (∀ c ∈ cs, c < m) → TOk m (r + 1) (lo + lo') (hi + hi') (t * (B * B')) w → w.length ≤ t →
    TOk m (r + 1) (lo + lo') (hi + hi') ((t + cs.length) * (B * B')) (lawC L e cs w) ∧ (lawC L e cs w).length ≤ t + cs.length
  | [], t, w, _, hw, hl => ⟨hw, hl⟩
  | c :: cs, t, w, hc, hw, hl => by
    obtain ⟨h1, h2⟩ := lawIn_ok hL he (hc c List.mem_cons_self) hw hl
    have := lawC_ok hL he cs (t + 1) _ (fun c h => hc c (List.mem_cons_of_mem _ h)) h1 h2
    rw [List.length_cons, show t + (cs.length + 1) = t + 1 + cs.length by omega]
    exact this
theorem lawE_ok {m r : Nat} {lo hi lo' hi' : Int} {B B' : Nat} {L : Nat → Ser} (hL : LOk m lo' hi' B' L) : ∀ (b : TBk) (t : Nat) (w : TBk), (∀ e ∈ b, TEnt m r lo hi B e) → TOk m (r + 1) (lo + lo') (hi + hi') (t * (B * B')) w → w.length ≤ t →
    TOk m (r + 1) (lo + lo') (hi + hi') ((t + b.length * m) * (B * B')) (lawE L m b w) ∧ (lawE L m b w).length ≤ t + b.length * m
  | [], t, w, _, hw, hl => ⟨by simpa [lawE] using hw, by simpa [lawE] using hl⟩
  | e :: b, t, w, he, hw, hl => by
    obtain ⟨h1, h2⟩ := lawC_ok hL (he e List.mem_cons_self) (List.range m) t w (fun c h => List.mem_range.mp h) hw hl
    rw [List.length_range] at h1 h2
    have := lawE_ok hL b (t + m) _ (fun e h => he e (List.mem_cons_of_mem _ h)) h1 h2
    rw [List.length_cons, show t + (b.length + 1) * m = t + m + b.length * m by rw [Nat.succ_mul]; omega]
    exact this
/-- how great the sums may be behind r rows -/
def bnd : Nat → Nat
  | 0 => 1
  | r + 1 => 7776 * (bnd r * 81)
theorem lawSum_ok {m : Nat} {lo hi : Int} {L : Nat → Nat → Ser} (hm : m ≤ 5) (hlo : lo ≤ 0) (hhi : 0 ≤ hi) (hL : ∀ r, r < m → LOk m lo hi 81 (L r)) : ∀ r, r ≤ m → TOk m r (r * lo) (r * hi) (bnd r) (lawSum L m r) ∧ (lawSum L m r).length ≤ 6 ^ r
  | 0, _ => by
    refine ⟨⟨fun e he => ?_, by simp [lawSum, tkeys]⟩, by simp [lawSum]⟩
    rw [show lawSum L m 0 = [([], [(0, 1)])] from rfl, List.mem_singleton] at he
    subst he
    refine ⟨List.Pairwise.nil, rfl, fun x hx => (by cases hx), ⟨List.pairwise_singleton _ _, fun p hp => ?_⟩, fun p hp => ?_, (by decide)⟩
    · rw [List.mem_singleton.mp hp]
      decide
    · rw [List.mem_singleton.mp hp]
      simp
  | r + 1, hr => by
    obtain ⟨h1, h2⟩ := lawSum_ok hm hlo hhi hL r (by omega)
    obtain ⟨g1, g2⟩ := lawE_ok (hL r (by omega)) (lawSum L m r) 0 [] h1.ent (tok_nil _ _ _ _ _) (Nat.le_refl _)
    have h66 : (lawSum L m r).length * m ≤ 6 ^ r * 6 := Nat.mul_le_mul h2 (by omega)
    have e1 : ((r : Nat) : Int) * lo + lo = ((r + 1 : Nat) : Int) * lo := by
      have : ((r + 1 : Nat) : Int) = (r : Int) + 1 := by omega
      rw [this, Int.add_mul, Int.one_mul]
    have e2 : ((r : Nat) : Int) * hi + hi = ((r + 1 : Nat) : Int) * hi := by
      have : ((r + 1 : Nat) : Int) = (r : Int) + 1 := by omega
      rw [this, Int.add_mul, Int.one_mul]
    rw [e1, e2] at g1
    rw [Nat.zero_add] at g1 g2
    refine ⟨g1.mono ?_, Nat.le_trans g2 (by rw [Nat.pow_succ]; exact h66)⟩
    have : 6 ^ r ≤ 6 ^ 4 := Nat.pow_le_pow_right (by decide) (by omega)
    exact Nat.mul_le_mul_right _ (Nat.le_trans h66 (by omega))
end GM
set_option Elab.async false
set_option linter.all false
set_option maxRecDepth 100000
set_option maxHeartbeats 4000000
/-! GL3: the law's normal form and its own expansion. -/
namespace GK
open PySem PySem.Spec PyProof.Rows L2 Evl GM
theorem eqv_nil (s : Ser) : PyData.eqv (dS s) (.tuple []) = decide (s = []) := by cases s <;> rfl
section
variable {P : Program} {w : World} {K : PySem.W.Frag} {mg : Str → Option Value} {base : Heap}
abbrev spNorm (K : PySem.W.Frag) : Sp := SpD K (fun s : Ser => s.length ≤ 10000 ∧ SmS 5000 s) (fun s => [dS s]) (fun s => dS (plainT s))
theorem fk_law_normed (T : Tx K mg) : Fk P w K mg base 1 "_law_normed" P_law_normed (spNorm K) := by
  refine T.d_law_normed.fk sc_law_normed (SpD.len fun _ => rfl) fun f cdv A outer s H vs Q E hr h => ?_
  obtain ⟨r, ⟨hn, hs⟩, g, q⟩ := h
  obtain ⟨v1, rfl, g1⟩ := dn1 g
  dsimp only at q g1
  refine ⟨_, (pss_cons (ps_if (pt_cmpR (op_eqD hr.units) (pv 0) (pe_tup pa_nil) (nomark _))
      (pss_one (ps_ret (pe_tup pa_nil)))
      pss_nil)
      (pss_cons (ps_set (i := 1) sc_law_normed.nd rfl (Or.inr rfl) (pe_ix (ix_listK (K := K) rfl) (pe_lst (pa_cons (pe_un un_neg pe_int) (pa_cons pe_int pa_nil))) (pe_callTy call_int1 (by rfl) T.int (by decide +kernel) (pa_cons (pe_cmpR op_gt (pe_ix (ix_tupK (K := K) rfl) (pe_ix (ix_tupK (K := K) rfl) (pv 0) pe_int (fun _ _ => rfl)) pe_int (fun _ _ => rfl)) pe_int (nomark _)) pa_nil)) (fun _ _ => rfl)))
      (pss_one (ps_ret (pe_callTy call_tuple_of (by rfl) T.tuple (by decide +kernel) (pa_cons (pe_lc (own := [("_law_pair", 2)]) (g := (gName 2)) rfl sc_law_normed.nd (pi_tup (pv 0)) (blkOk_by (own := [("_law_pair", 2)]) (N := N_law_normed) (sc := defScope s_law_normed) (by decide +kernel)) (fun _ _ _ _ _ => (pg_name (i := 2) (hf := Or.inr rfl) sc_law_normed.nd rfl (Or.inl rfl))) (fun _ _ _ _ _ => pts_nil) (fun _ _ _ _ _ => (pe_tup (pa_cons (pe_op op_sub (pe_ix (ix_tupK (K := K) rfl) (pv 2) pe_int (fun _ _ => rfl)) (pe_ix (ix_tupK (K := K) rfl) (pe_ix (ix_tupK (K := K) rfl) (pv 0) pe_int (fun _ _ => rfl)) pe_int (fun _ _ => rfl))) (pa_cons (pe_op op_mulW (pv 1) (pe_ix (ix_tupK (K := K) rfl) (pv 2) pe_int (fun _ _ => rfl))) pa_nil))))) pa_nil)))))), ?_⟩
  have ht : EvT (tTest (tOp (rEqD K) (tVar 0) (tTup tNil))) (L2.start N_law_normed [v1]) H (decide (r = [])) := etD (K := K) ((ed_eqD (A := Tt) (ed_v rfl g1) (ed_tup (A := Tt) eda_nil (Nat.zero_le _)) (shaped_dS r) rfl).to (by rw [eqv_nil]))
  refine q_when ht (fun hb H1 e1 => ?_) (fun hb H1 e1 => ?_)
  · have := of_decide_eq_true hb
    subst this
    exact sd_retW (ed_tup (A := Tt) eda_nil (Nat.zero_le _)).w e1 q
  · have hne := of_decide_eq_false hb
    obtain ⟨l, r', rfl⟩ := List.exists_cons_of_ne_nil hne
    have it : ∀ {σ : L2.St} {H' : Hp} (j : Int) (c : Int), Ex H H' → σ[0]? = some (some v1) → atD [PyData.int l.1, .int l.2] j = some (.int c) → EvD K Tt (tOp (rIxT K) (tOp (rIxT K) (tVar 0) (tC (.int 0))) (tC (.int j))) σ H' (.int c) := fun j c e s0 h =>
      ed_ixT (ds := [.int l.1, .int l.2]) (ed_ixT (ds := (l :: r').map dPr) (d := dPr l) (ed_v s0 (g1.ex e)) (ed_int (i := ((0 : Nat) : Int))) (atD_nat rfl)) ed_int h
    have hidx : ∀ k : Bool, atD [PyData.int (-1), .int 1] (if k then 1 else 0) = some (.int (if k = true then 1 else -1)) := fun k => by cases k <;> rfl
    refine qd_asgI (K := K) (n := sgn1 l.2) ((ed_ixL (em_lst (A := Tt) (eda_cons (ed_neg (ed_int (i := 1))) (eda_cons (ed_int (i := 1)) eda_nil)) (by show 2 ≤ 100000; omega)).lst (ed_intb (ed_b0 (g := fun i j => decide (j < i)) (it 1 l.2 e1 rfl rfl) (ed_int (i := 0)))) (hidx _)).to (by unfold sgn1; simp)) fun H2 e2 => ?_
    refine sd_retW (EvW.to (ed_tupL (A := Tt) (em_lc1 (K := K) (A := Tt) (l := l :: r') (enc := dPr) (vs := [2]) (j := 2) (t := tYes)
      (ei_t (ew_v rfl (g1.ex (e1.trans e2)))) (by omega) (fun _ => true) (fun p => dPr (p.1 - l.1, sgn1 l.2 * p.2)) (fun x => rfl) (fun p hp x H1 e gx => et_yes)
      (fun p hp x H3 e gx _ => ?_)).lst).w ?_) (e1.trans e2) q
    · have gx0 : Dn K Tt H3 x (dPr p) := gx.any (noL_dPr p)
      have jt : ∀ (k : Int) (c : Int), atD [PyData.int p.1, .int p.2] k = some (.int c) → EvD K Tt (tOp (rIxT K) (tVar 2) (tC (.int k))) [some v1, some (.int (sgn1 l.2)), some x] H3 (.int c) := fun k c h => ed_ixT (ed_v rfl gx0) ed_int h
      exact (ed_tup (A := Tt) (eda_cons (ed_i0 (g := fun i j => i - j) (jt 0 _ rfl) (it 0 l.1 ((e1.trans e2).trans e) rfl rfl)) (eda_cons (ed_iC (g := fun i j => i * j) (ed_v (d := .int (sgn1 l.2)) rfl (.int _)) (jt 1 _ rfl) (wide_mul (sgn1_small _) (hs _ hp) (by decide) (by decide) (by decide))) eda_nil)) (by show 2 ≤ 100000; omega)).w.nl rfl
    · rw [all_true]
      show _ = PyData.tuple (((l :: r').map fun p => (p.1 - l.1, sgn1 l.2 * p.2)).map dPr)
      rw [List.map_map]
      rfl
end
/-! ### dicts from tuples of ints to series -/
def kI (k : List Int) : List Key := k.map Sum.inl
theorem kI_kV (k : List Int) : (kI k).map kV = k.map V.int := by
  unfold kI
  rw [List.map_map]
  rfl
theorem kI_inj {k j : List Int} (h : kI k = kI j) : k = j := by
  have := congrArg (List.map kV) h
  rw [kI_kV, kI_kV] at this
  exact (List.map_inj_right (fun a b e => V.int.inj e)).mp this
inductive KvR (K : PySem.W.Frag) (H : Hp) : List (List Key × V) → TBk → Prop
  | nil : KvR K H [] []
  | cons {k : List Int} {v : V} {s : Ser} {kvs : List (List Key × V)} {b : TBk} : Dd K H v (dS s) → KvR K H kvs b → KvR K H ((kI k, v) :: kvs) ((k, s) :: b)
section
variable {K : PySem.W.Frag} {H H' : Hp} {kvs : List (List Key × V)} {b : TBk} {p : Addr}
theorem KvR.ex (h : KvR K H kvs b) (e : Ex H H') : KvR K H' kvs b := by
  induction h with
  | nil => exact .nil
  | cons g _ ih => exact .cons (g.ex e) ih
theorem KvR.upd {o : HO} (h : KvR K H kvs b) (n : NoT H p) : KvR K (L2.upd H p o) kvs b := by
  induction h with
  | nil => exact .nil
  | cons g _ ih => exact .cons (g.updN (noL_dS _) n) ih
theorem KvR.len (h : KvR K H kvs b) : kvs.length = b.length := by
  induction h with
  | nil => rfl
  | cons _ _ ih => rw [List.length_cons, List.length_cons, ih]
theorem KvR.get (h : KvR K H kvs b) (k : List Int) : (k ∈ tkeys b → ∃ v, valV kvs (kI k) = some v ∧ Dd K H v (dS (tget b k))) ∧ (k ∉ tkeys b → valV kvs (kI k) = none ∧ tget b k = []) := by
  induction h with
  | nil => exact ⟨fun z => (by cases z), fun _ => ⟨rfl, rfl⟩⟩
  | @cons k' v s kvs b g _ ih =>
    by_cases e : k' = k
    · subst e
      rw [tget_cons_pos rfl]
      exact ⟨fun _ => ⟨v, valV_pos rfl, g⟩, fun z => absurd (by simp [tkeys]) z⟩
    · rw [tget_cons_neg e]
      have hv : valV ((kI k', v) :: kvs) (kI k) = valV kvs (kI k) := valV_neg fun z => e (kI_inj z)
      rw [hv]
      refine ⟨fun z => ih.1 ?_, fun z => ih.2 fun z' => z (by simp [tkeys] at z' ⊢; exact .inr z')⟩
      unfold tkeys at z
      rw [List.map_cons, List.mem_cons] at z
      exact z.resolve_left fun z => e z.symm
theorem KvR.any (h : KvR K H kvs b) (k : List Int) : (kvs.any fun kv => decide (kv.1 = kI k)) = (b.any fun e => decide (e.1 = k)) := by
  induction h with
  | nil => rfl
  | @cons k' v s kvs b g _ ih =>
    rw [List.any_cons, List.any_cons, ih]
    congr 1
    by_cases e : k' = k
    · rw [decide_eq_true e, decide_eq_true (by rw [e])]
    · rw [decide_eq_false e, decide_eq_false fun z => e (kI_inj z)]
theorem KvR.map (h : KvR K H kvs b) (k : List Int) {v : V} {s : Ser} (g : Dd K H v (dS s)) : KvR K H (kvs.map fun kv => if kv.1 = kI k then (kv.1, v) else kv) (b.map fun e => if e.1 = k then (e.1, s) else e) := by
  induction h with
  | nil => exact .nil
  | @cons k' v' s' kvs b g' _ ih =>
    rw [List.map_cons, List.map_cons]
    by_cases e : k' = k
    · rw [if_pos (show (k', s').1 = k from e), if_pos (show (kI k', v').1 = kI k by rw [e])]
      exact .cons g ih
    · rw [if_neg (show ¬ (k', s').1 = k from e), if_neg (show ¬ (kI k', v').1 = kI k from fun z => e (kI_inj z))]
      exact .cons g' ih
theorem KvR.snoc (h : KvR K H kvs b) {k : List Int} {v : V} {s : Ser} (g : Dd K H v (dS s)) : KvR K H (kvs ++ [(kI k, v)]) (b ++ [(k, s)]) := by
  induction h with
  | nil => exact .cons g .nil
  | cons g' _ ih => exact .cons g' ih
theorem KvR.put (h : KvR K H kvs b) {k : List Int} {v : V} {s : Ser} (g : Dd K H v (dS s)) : KvR K H (putK kvs (kI k) v) (tput b k s) := by
  unfold putK tput
  rw [h.any k]
  by_cases hc : (b.any fun e => decide (e.1 = k)) = true
  · rw [if_pos hc, if_pos hc]
    exact h.map k g
  · rw [if_neg hc, if_neg hc]
    exact h.snoc g
theorem KvR.at {i : Nat} (h : KvR K H kvs b) (hi : i < b.length) : ∃ v, kvs[i]? = some (kI b[i].1, v) := by
  induction h generalizing i with
  | nil => simp at hi
  | @cons k' v' s' kvs b g' _ ih =>
    cases i with
    | zero => exact ⟨v', rfl⟩
    | succ i => exact ih (by simpa using hi)
theorem turns_kt {o : Obj} : Turns K (Itkt p o kvs) (fun H => H p = some (.frz o (.dT kvs)) ∧ KvR K H kvs b) ((tkeys b).map fun k => PyData.tuple (k.map .int)) := fun H g => by
  have hl := g.2.len
  have hl' : (tkeys b).length = b.length := List.length_map _
  refine ⟨⟨g.1, by rw [List.length_map, hl', hl]; exact Nat.le_refl _⟩, fun i d hd => ?_⟩
  have hi := (List.getElem?_eq_some_iff.mp hd).1
  rw [List.length_map, hl'] at hi
  obtain ⟨v, hv⟩ := g.2.at hi
  refine ⟨⟨g.1, by rw [hl]; exact hi⟩, fun x H' y => ?_⟩
  obtain ⟨rfl, k, v', q, h1, rfl, h2⟩ := y
  rw [hv] at h1
  cases h1
  have hd' : d = .tuple (b[i].1.map .int) := by
    unfold tkeys at hd
    rw [List.map_map, List.getElem?_map, List.getElem?_eq_getElem hi] at hd
    exact (Option.some.inj hd).symm
  rw [hd']
  rw [kI_kV] at h2
  exact ⟨Ex.refl _, .tup h2 (DnAll.of_ints _)⟩
variable {σ : L2.St} {td ty te tx : TE} {k : List Int} {s : Ser} {D : Ends} {tz : TS}
theorem key_at {v : V} (g : Dd K H v (.tuple (k.map .int))) : ∃ q, v = .ref q ∧ H q = some (.tup ((kI k).map kV)) := by
  obtain ⟨q, xs, rfl, h1, h2⟩ := g.tup_at
  cases h2.ints
  exact ⟨q, rfl, by rw [kI_kV]; exact h1⟩
theorem ew_tget (hp : Rd H p (.dT kvs)) (r : KvR K H kvs b) (ho : Ev td σ H (.ref p)) (hk : EvW K ty σ H (.tuple (k.map .int))) (hm : k ∈ tkeys b) : EvW K (tDGet td ty) σ H (dS (tget b k)) := fun H1 e Q q =>
  ho H1 e _ fun H2 e2 => hk H2 (e.trans e2) _ fun v H3 e3 g => by
    obtain ⟨y, rfl, hy⟩ := key_at g
    have e3' := (e.trans e2).trans e3
    obtain ⟨v, h1, h2⟩ := ((r.ex e3').get k).1 hm
    refine ⟨p, v, rfl, .inr ⟨kvs, kI k, y, ex_rd e3' hp, rfl, hy, h1.symm⟩, q v H3 (e2.trans e3) h2⟩
theorem ew_tget2 (hp : H p = some (.dT kvs)) (r : KvR K H kvs b) (ho : Ev td σ H (.ref p)) (hk : EvW K ty σ H (.tuple (k.map .int))) : EvW K (tDGet2 td ty (tTup tNil)) σ H (dS (tget b k)) := fun H1 e Q q =>
  ho H1 e _ fun H2 e2 => ⟨p, rfl, .inr ⟨kvs, .inl ((e.trans e2) _ _ hp)⟩, hk H2 (e.trans e2) _ fun v H3 e3 g => (ed_tup (A := Tt) (K := K) (σ := σ) (H := H3) eda_nil (Nat.zero_le _)) H3 (Ex.refl _) _ fun z H4 e4 gz => by
    obtain ⟨y, rfl, hy⟩ := key_at g
    have e4' := ((e.trans e2).trans e3).trans e4
    have hd : DGet H4 p (.ref y) (valV kvs (kI k)) := .inr ⟨kvs, kI k, y, .inl (e4' _ _ hp), rfl, e4 _ _ hy, rfl⟩
    by_cases hm : k ∈ tkeys b
    · obtain ⟨v, h1, h2⟩ := ((r.ex e4').get k).1 hm
      rw [h1] at hd
      exact ⟨_, hd, q v H4 ((e2.trans e3).trans e4) h2⟩
    · obtain ⟨h1, h2⟩ := ((r.ex e4').get k).2 hm
      rw [h1] at hd
      refine ⟨_, hd, q z H4 ((e2.trans e3).trans e4) ?_⟩
      rw [h2]
      exact gz.dd⟩
theorem sd_tput (hp : H p = some (.dT kvs)) (r : KvR K H kvs b) (h : EvW K te σ H (dS s)) (ho : Ev td σ H (.ref p)) (hk : EvW K ty σ H (.tuple (k.map .int))) (hl : b.length ≤ 100000)
    (kn : ∀ H1 kvs', Ex H H1 → H1 p = some (.dT kvs) → KvR K (L2.upd H1 p (.dT kvs')) kvs' (tput b k s) → D.nx σ (L2.upd H1 p (.dT kvs'))) : sDPut td ty te D σ H :=
  h H (Ex.refl H) _ fun v H1 e1 g => ho H1 e1 _ fun H2 e2 => hk H2 (e1.trans e2) _ fun y H3 e3 gy => by
    obtain ⟨q, rfl, hy⟩ := key_at gy
    have e := (e1.trans e2).trans e3
    refine ⟨p, _, rfl, .inr ⟨kvs, kI k, q, e _ _ hp, rfl, hy, Nat.lt_of_le_of_lt (by rw [r.len]; exact hl) (by decide), rfl⟩, kn H3 _ e (e _ _ hp) (((r.ex e).put (g.ex (e2.trans e3))).upd (noT_t (e _ _ hp)))⟩
end
section
variable {P : Program} {w : World} {K : PySem.W.Frag} {mg : Str → Option Value} {base : Heap}
/-! ### _law_alexander -/
def LS (xs zs : List Int) (n r c : Nat) : Ser := (rowS xs zs n r).getD c []
structure LAlx (xs zs : List Int) (n : Nat) : Prop where
  lin : LinOk xs zs n
  n2 : 2 ≤ n
  n6 : n ≤ 6
  ok : ∀ r, r < n - 1 → LOk (n - 1) (-5) 5 81 (LS xs zs n r)
theorem noL_ints (ns : List Int) : noL (.tuple (ns.map .int)) = true := by
  show noLs (ns.map .int) = true
  induction ns with
  | nil => rfl
  | cons n ns ih => exact ih
theorem tget_of_mem {b : TBk} (h : (tkeys b).Nodup) {e : List Int × Ser} (he : e ∈ b) : tget b e.1 = e.2 := by
  induction b with
  | nil => cases he
  | cons f b ih =>
    unfold tkeys at h
    rw [List.map_cons, List.nodup_cons] at h
    rcases List.mem_cons.mp he with rfl | he
    · exact tget_cons_pos rfl
    · rw [tget_cons_neg fun z => h.1 (List.mem_map.mpr ⟨e, he, z.symm⟩)]
      exact ih h.2 he
theorem sms_of {s : Ser} {B : Nat} (h : nS s ≤ B) (hB : B < 2 ^ 200) : SmS 5000 s := fun p hp => Nat.lt_of_le_of_lt (Nat.le_trans (nS_mem hp) h) (Nat.lt_of_lt_of_le hB (Nat.pow_le_pow_right (by decide) (by decide)))
abbrev spLAlx (K : PySem.W.Frag) : Sp := SpG PairI K (fun xs zs (n : Nat) => LAlx xs zs n) (fun _ => []) (fun xs zs (n : Nat) => dS (plainT (tget (lawSum (LS xs zs n) (n - 1) (n - 1)) (upTo (n - 1)))))
theorem fk_law_alexander (T : Tx K mg) : Fk P w K mg base 4 "_law_alexander" P_law_alexander (spLAlx K) := by
  refine T.d_law_alexander.fk sc_law_alexander (SpG.len fun _ => rfl) fun f cdv A outer s H vs Q E hr h => ?_
  obtain ⟨v, ws, xs, zs, n, rfl, pr, ok, g, q⟩ := h
  cases g.nil_inv
  dsimp only at q
  have hu := hu_of hr
  refine ⟨_, (pss_cons (ps_set (i := 1) sc_law_alexander.nd rfl (Or.inl rfl) (pe_callB (call_len_seqK (K := K) rfl) (by rfl) T.len (by decide +kernel) (pa_cons (pe_ix (ix_tupK (K := K) rfl) (pv 0) pe_int (fun _ _ => rfl)) pa_nil)))
      (pss_cons (ps_setLc (i := 2) (own := [("_law_r", 4)]) (g := (gName 4)) rfl sc_law_alexander.nd rfl rfl (sw_true rfl rfl rfl (by decide +kernel)) (pi_range1 (by rfl) T.range (pa_cons (pe_op op_sub (pv 1) pe_int) pa_nil)) (blkOk_by (own := [("_law_r", 4)]) (N := N_law_alexander) (sc := defScope s_law_alexander) (by decide +kernel)) (fun _ _ _ _ _ => (pg_name (i := 4) (hf := Or.inr rfl) sc_law_alexander.nd rfl (Or.inl rfl))) (fun _ _ _ _ _ => pts_nil) (fun _ _ _ _ _ => (pe_cal (fk_law_line T) (hr.mono (by decide)) (by rfl) (pa_cons (pv 0) (pa_cons (pv 4) pa_nil)))))
      (pss_cons (ps_set (i := 3) sc_law_alexander.nd rfl (Or.inl rfl) (pe_dnewT))
      (pss_cons (ps_dput hu (pv 3) (pe_tup pa_nil) (pe_tup (pa_cons (pe_tup (pa_cons pe_int (pa_cons pe_int pa_nil))) pa_nil)) rfl)
      (pss_cons (ps_for PassesOwn.never rfl (pi_range1 (by rfl) T.range (pa_cons (pe_op op_sub (pv 1) pe_int) pa_nil)) (pg_name (i := 4) (hf := Or.inl rfl) sc_law_alexander.nd rfl (Or.inl rfl))
      (pss_cons (ps_set (i := 5) sc_law_alexander.nd rfl (Or.inl rfl) (pe_dnewT))
      (pss_cons (ps_lock (ps_for PassesOwn.never rfl (pi_keys (pv 3)) (pg_name (i := 6) (hf := Or.inl rfl) sc_law_alexander.nd rfl (Or.inl rfl))
      (pss_one (ps_for PassesOwn.never rfl (pi_range1 (by rfl) T.range (pa_cons (pe_op op_sub (pv 1) pe_int) pa_nil)) (pg_name (i := 7) (hf := Or.inl rfl) sc_law_alexander.nd rfl (Or.inr rfl))
      (pss_one (ps_if (PW.pt (pw_and (pt_cmpR op_notIn_seq (pv 7) (pv 6) (by rfl)) (pw_and1 (pt_cmpR (op_neD hr.units) (pe_ix (ix_listK (K := K) rfl) (pe_ix (ix_listK (K := K) rfl) (pv 2) (pv 4) (fun _ _ => rfl)) (pv 7) (fun _ _ => rfl)) (pe_tup pa_nil) (nomark _)))))
      (pss_cons (ps_set (i := 8) sc_law_alexander.nd rfl (Or.inl rfl) (pe_op op_sub pe_int (pe_op op_mulW pe_int (pe_op op_mod (pe_callTy call_int1 (by rfl) T.int (by decide +kernel) (pa_cons (pe_callB (call_len_seqK (K := K) rfl) (by rfl) T.len (by decide +kernel) (pa_cons (pe_lc (own := [("_law_one", 11)]) (g := (gName 11)) rfl sc_law_alexander.nd (pi_tup (pv 6)) (blkOk_by (own := [("_law_one", 11)]) (N := N_law_alexander) (sc := defScope s_law_alexander) (by decide +kernel)) (fun _ _ _ _ _ => (pg_name (i := 11) (hf := Or.inr rfl) sc_law_alexander.nd rfl (Or.inl rfl))) (fun _ _ _ _ _ => pts_one (pt_cmpR op_gt (pv 11) (pv 7) (nomark _))) (fun _ _ _ _ _ => (pv 11))) pa_nil)) pa_nil)) pe_int))))
      (pss_cons (ps_set (i := 9) sc_law_alexander.nd rfl (Or.inl rfl) (pe_cal (fk_law_times T) (hr.mono (by decide)) (by rfl) (pa_cons (pe_cal (fk_law_times T) (hr.mono (by decide)) (by rfl) (pa_cons (pe_dget hu (pv 3) (pv 6) (fun _ _ => rfl)) (pa_cons (pe_ix (ix_listK (K := K) rfl) (pe_ix (ix_listK (K := K) rfl) (pv 2) (pv 4) (fun _ _ => rfl)) (pv 7) (fun _ _ => rfl)) pa_nil))) (pa_cons (pe_tup (pa_cons (pe_tup (pa_cons pe_int (pa_cons (pv 8) pa_nil))) pa_nil)) pa_nil))))
      (pss_cons (ps_set (i := 10) sc_law_alexander.nd rfl (Or.inl rfl) (pe_callTy call_tuple_of (by rfl) T.tuple (by decide +kernel) (pa_cons (pe_callB cr_sortedI (by rfl) T.sorted (by decide +kernel) (pa_cons (pe_op op_cat (pe_callTy call_list_of (by rfl) T.list (by decide +kernel) (pa_cons (pv 6) pa_nil)) (pe_lst (pa_cons (pv 7) pa_nil))) pa_nil)) pa_nil)))
      (pss_one (ps_dput hu (pv 5) (pv 10) (pe_cal (fk_law_plus T) (hr.mono (by decide)) (by rfl) (pa_cons (pe_dget2 hu (pv 5) (pv 10) (pe_tup pa_nil) ⟨rfl, rfl, rfl, rfl⟩) (pa_cons (pv 9) pa_nil))) rfl)))))
      pss_nil))))))
      (pss_one (ps_set (i := 3) sc_law_alexander.nd rfl (Or.inl rfl) (pv 5))))))
      (pss_one (ps_ret (pe_cal (fk_law_normed T) (hr.mono (by decide)) (by rfl) (pa_cons (pe_dget2 hu (pv 3) (pe_tupRg rfl (by rfl) T.tuple (prg_1 (by rfl) T.range (pe_op op_sub (pv 1) pe_int))) (pe_tup pa_nil) ⟨rfl, rfl, rfl, rfl⟩) pa_nil))))))))), ?_⟩
  have lin := ok.lin
  have lx := lin.lx
  have n2 := ok.n2
  have n6 := ok.n6
  obtain ⟨m, hm⟩ : ∃ m, m = n - 1 := ⟨_, rfl⟩
  have hLS := ok.ok
  rw [← hm] at q hLS
  have hm5 : m ≤ 5 := by omega
  obtain ⟨pg, t, u, rfl, hp, ft, fu⟩ := id pr
  refine qd_asgI (K := K) (n := (n : Int)) ((ed_flen (ev_p0 (ev_v rfl) hp) ft).to (by rw [lx])) fun H1 e1 => ?_
  have sz1 : ∀ {σ : L2.St} {H' : Hp} {A : Addr → Prop}, σ[1]? = some (some (.int (n : Int))) → EvD K A (tOp (rI0 fun i j => V.int (i - j)) (tVar 1) (tC (V.int 1))) σ H' (.int (m : Int)) := fun h => (ed_i0 (ed_v (d := .int (n : Int)) h (.int _)) ed_int).to (by congr 1; omega)
  -- the lines
  refine qd_asgM (K := K) (A := fun _ => False) (em_lc1 (K := K) (l := List.range m) (enc := fun (r : Nat) => .int (r : Int)) (vs := [4]) (j := 4) ((ei_r1 (A := Tt) (n := (m : Int)) (sz1 rfl) (by omega)).to (by unfold rangeD; rw [Int.toNat_natCast]; simp)) (by rw [List.length_range]; omega) (fun _ => true) (fun r => dL (rowS xs zs n r)) (fun x => rfl)
    (fun r hr x H2 e gx => et_yes) (fun r hr x H2 e gx _ => ?_)) fun pl wl H2 hpl e2 h2 g2 => ?_
  · have := List.mem_range.mp hr
    cases gx
    exact (SpG.ev (R := PairI) (hR := PairI.ex) (A := fun _ => False) (n, r) (ev_v rfl) (pr.ex (e1.trans e)) (ewa_cons (ew_v (d := .int (r : Int)) rfl (.int _)) ewa_nil) ⟨⟨lin, by omega⟩, n6⟩).weak fun _ z => z.elim
  rw [all_true] at g2
  have gl : Dn K (fun a => H2 a ≠ none) H2 (.ref pl) (.list ((List.range m).map fun r => dL (rowS xs zs n r))) := (Dn.lst (sqA_at h2 trivial) g2.dd).there.weak fun _ z => z.2
  -- sums = {}; sums[()] = ((0, 1),)
  intro p0 hp0
  have eH2 : Ex H H2 := e1.trans e2
  refine sd_tput (D := { nx := _, rt := _ }) (K := K) (kvs := []) (b := []) (k := []) (s := [(0, 1)]) upd_same .nil (ed_s1 (A := Tt) ed_int ed_int).w (ev_v rfl) (ed_tup (A := Tt) eda_nil (Nat.zero_le _)).w (Nat.zero_le _) fun H3 kv3 e3 h3 r3 => ?_
  have e23 : Ex H2 (upd H3 p0 (.dT kv3)) := Ex.mut ((Ex.new hp0).trans e3) hp0
  have er := er_1 (K := K) (σ := [some (.ref pg), some (.int (n : Int)), some (.ref pl), some (.ref p0), none, none, none, none, none, none, none, none]) (H := upd H3 p0 (.dT kv3)) (n := (m : Int)) (sz1 rfl) (by omega)
  rw [Int.toNat_natCast] at er
  obtain ⟨L, hL⟩ : ∃ L, L = LS xs zs n := ⟨_, rfl⟩
  rw [← hL] at q hLS
  have hsum := lawSum_ok (m := m) (lo := -5) (hi := 5) (L := L) hm5 (by decide) (by decide) hLS
  refine qd_forR (K := K) er (fun r σ' H' => ∃ p kvs x4 x5 x6 x7 x8 x9 x10, σ' = [some (.ref pg), some (.int (n : Int)), some (.ref pl), some (.ref p), x4, x5, x6, x7, x8, x9, x10, none] ∧ Ex H2 H' ∧ H2 p = none ∧ H' p = some (.dT kvs) ∧ KvR K H' kvs (lawSum L m r))
    (fun H4 e4 => ⟨p0, kv3, none, none, none, none, none, none, none, rfl, e23.trans e4, hp0, e4 _ _ upd_same, r3.ex e4⟩) ?_ ?_
  · rintro r σ' H0 H0' hr ⟨p, kvs, x4, x5, x6, x7, x8, x9, x10, rfl, e4, hp, hkv, rkv⟩ e5
    obtain ⟨b, hb⟩ : ∃ b, b = lawSum L m r := ⟨_, rfl⟩
    obtain ⟨tok, tlen⟩ := hsum r (by omega)
    rw [← hb] at rkv tok tlen
    have hkv' := e5 _ _ hkv
    have rkv' := rkv.ex e5
    have eH0 : Ex H2 H0' := e4.trans e5
    -- wider = {}
    intro pw hpw
    have hpp : p ≠ pw := fun e => by
      rw [e, hpw] at hkv'
      cases hkv'
    refine ⟨p, .dT kvs, by rw [upd_ne hpp]; exact hkv', trivial, fun od => ?_⟩
    obtain ⟨B, hB⟩ : ∃ B, B = upd H0' p (.frz od (.dT kvs)) := ⟨_, rfl⟩
    have hBp : B p = some (.frz od (.dT kvs)) := by rw [hB, upd_same]
    have hBw : B pw = none := by rw [hB, upd_ne (Ne.symm hpp)]; exact hpw
    have eB : Ex B (upd (upd H0' pw (.dT [])) p (.frz od (.dT kvs))) := fun a o ha => by
      by_cases h : a = p
      · rw [h] at ha ⊢
        rw [hBp] at ha
        rw [upd_same, ha]
      · rw [hB, upd_ne h] at ha
        rw [upd_ne h, upd_ne fun e => by rw [e, hpw] at ha; cases ha]
        exact ha
    have rB : KvR K B kvs b := hB ▸ rkv'.upd (noT_t hkv')
    have glB : Dn K (fun a => H2 a ≠ none) B (.ref pl) (.list ((List.range m).map fun r => dL (rowS xs zs n r))) := hB ▸ (gl.ex eH0).upd (noT_t hkv') fun a z x => z (x ▸ hp)
    have hw0 : (upd (upd H0' pw (.dT [])) p (.frz od (.dT kvs))) pw = some (.dT []) := by rw [upd_ne (Ne.symm hpp), upd_same]
    have hbm : b.length * m ≤ 7776 * 5 := Nat.mul_le_mul (Nat.le_trans tlen (Nat.le_trans (Nat.pow_le_pow_right (by decide) (show r ≤ 5 by omega)) (by decide))) hm5
    have hbnd : bnd r * 81 < 2 ^ 200 ∧ 81 ≤ bnd r * 81 ∧ bnd r ≤ bnd r * 81 := by
      have : r = 0 ∨ r = 1 ∨ r = 2 ∨ r = 3 ∨ r = 4 := by omega
      rcases this with rfl | rfl | rfl | rfl | rfl <;> decide
    have lok := hLS r hr
    refine ⟨_, rfl, p, od, rfl, .inr ⟨kvs, upd_same, ?_⟩⟩
    refine loopJ (K := K) (turns_kt (b := b)) (fun i σ' H' => ∃ x6 x7 x8 x9 x10 wk w, σ' = [some (.ref pg), some (.int (n : Int)), some (.ref pl), some (.ref p), some (.int (r : Int)), some (.ref pw), x6, x7, x8, x9, x10, none] ∧ Ex B H' ∧ H' pw = some (.dT wk) ∧ KvR K H' wk w ∧ w = lawE (L r) m (b.take i) [])
      ⟨x6, x7, x8, x9, x10, [], [], rfl, eB, hw0, .nil, rfl⟩ (fun i σ' H' ⟨_, _, _, _, _, _, _, _, e, _⟩ => ⟨e _ _ hBp, rB.ex e⟩) ?_ ?_
    · rintro i d x σ' H' H4 hd ⟨x6, x7, x8, x9, x10, wk, w, rfl, e6, hwk, rwk, hwd⟩ e7 gx
      have hi : i < b.length := by
        have := (List.getElem?_eq_some_iff.mp hd).1
        rw [List.length_map] at this
        unfold tkeys at this
        rwa [List.length_map] at this
      obtain ⟨en, hen⟩ : ∃ en, en = b[i] := ⟨_, rfl⟩
      have hdd : d = .tuple (en.1.map .int) := by
        unfold tkeys at hd
        rw [List.map_map, List.getElem?_map, List.getElem?_eq_getElem hi, ← hen] at hd
        exact (Option.some.inj hd).symm
      subst hdd
      have tent := tok.ent en (hen ▸ List.getElem_mem hi)
      have gu0 : Dd K H4 x (.tuple (en.1.map .int)) := gx.dd
      have er2 := er_1 (K := K) (σ := [some (.ref pg), some (.int (n : Int)), some (.ref pl), some (.ref p), some (.int (r : Int)), some (.ref pw), some x, x7, x8, x9, x10, none]) (H := H4) (n := (m : Int)) (sz1 rfl) (by omega)
      rw [Int.toNat_natCast] at er2
      refine sd_forR (K := K) er2 (fun j σ' H' => ∃ x7 x8 x9 x10 wk w', σ' = [some (.ref pg), some (.int (n : Int)), some (.ref pl), some (.ref p), some (.int (r : Int)), some (.ref pw), some x, x7, x8, x9, x10, none] ∧ Ex B H' ∧ Dd K H' x (.tuple (en.1.map .int)) ∧ H' pw = some (.dT wk) ∧ KvR K H' wk w' ∧ w' = lawC (L r) en ((List.range m).take j) w)
        (fun H5 e8 => ⟨x7, x8, x9, x10, wk, w, rfl, (e6.trans e7).trans e8, gu0.ex e8, (e7.trans e8) _ _ hwk, rwk.ex (e7.trans e8), rfl⟩) ?_ ?_
      · rintro j σ' H5 H6 hj ⟨x7, x8, x9, x10, wk, w', rfl, e8, gu, hwk, rwk, hw'⟩ e9
        have gu6 := gu.ex e9
        have hwk6 := e9 _ _ hwk
        have rwk6 := rwk.ex e9
        have eB6 := e8.trans e9
        -- how great the book is
        obtain ⟨t1k, t1l⟩ := lawE_ok lok (b.take i) 0 [] (fun e he => tok.ent e (List.mem_of_mem_take he)) (tok_nil _ _ _ _ _) (Nat.le_refl _)
        rw [← hwd] at t1k t1l
        obtain ⟨t2k, t2l⟩ := lawC_ok lok tent ((List.range m).take j) _ w (fun c hc => List.mem_range.mp (List.mem_of_mem_take hc)) t1k t1l
        rw [← hw'] at t2k t2l
        have hbi : (b.take i).length * m ≤ b.length * m := Nat.mul_le_mul_right _ (by rw [List.length_take]; exact Nat.min_le_right _ _)
        have hjl : ((List.range m).take j).length ≤ m := by rw [List.length_take, List.length_range]; exact Nat.min_le_right _ _
        have hwl : w'.length ≤ 100000 := by omega
        have hstep : lawC (L r) en ((List.range m).take (j + 1)) w = lawIn (L r) en j w' := by
          rw [List.take_add_one, List.getElem?_range hj, hw']
          unfold lawC
          rw [List.foldl_append]
          rfl
        -- sizes of what is multiplied
        have lc := lok.can j hj
        have lr := lok.rg j hj
        have ln := lok.ns j hj
        have r5 : r ≤ 4 := by omega
        have l1 : en.2.length ≤ 200 := Nat.le_trans (rg_len tent.can tent.rg (by omega)) (by omega)
        have l2 : (L r j).length ≤ 200 := Nat.le_trans (rg_len lc lr (by omega)) (by omega)
        have pr1 := rg_times tent.rg lr
        have l3 : (sTimes en.2 (L r j)).length ≤ 200 := Nat.le_trans (rg_len (can_times _ _) pr1 (by omega)) (by omega)
        have n3 : nS (sTimes en.2 (L r j)) ≤ bnd r * 81 := Nat.le_trans (nS_times _ _) (Nat.mul_le_mul tent.ns ln)
        have l4 : (sTimes (sTimes en.2 (L r j)) [(0, sgU en.1 (j : Int))]).length ≤ 200 := by
          have := len_times (sTimes en.2 (L r j)) [(0, sgU en.1 (j : Int))]
          rw [show ([((0 : Int), sgU en.1 (j : Int))] : Ser).length = 1 from rfl, Nat.mul_one] at this
          omega
        have l5 : (tget w' (insI (j : Int) en.1)).length ≤ 200 := by
          obtain ⟨c1, c2, _⟩ := tget_ok t2k (insI (j : Int) en.1)
          exact Nat.le_trans (rg_len c1 c2 (by omega)) (by omega)
        have hrow : ∀ {σ : L2.St} {H' : Hp}, Ex B H' → σ[2]? = some (some (.ref pl)) → σ[4]? = some (some (.int (r : Int))) → σ[7]? = some (some (.int (j : Int))) → EvW K (tOp (rIxL K) (tOp (rIxL K) (tVar 2) (tVar 4)) (tVar 7)) σ H' (dS (L r j)) := fun e s2 s4 s7 => by
          have := ew_ixL (ew_ixL (ew_v s2 (glB.ex e).dd) (ed_v (d := .int (r : Int)) s4 (.int _)) (atD_nat (range_get hr))) (ed_v (d := .int (j : Int)) s7 (.int _)) (row_at (r := rowS xs zs n r) (j := j) (by rw [rowS_len]; omega))
          rw [hL]
          exact this
        have ht := et_and (t := tTest (tOp (rIn K true) (tVar 7) (tVar 6))) (u := tTest (tOp (rNeD K) (tOp (rIxL K) (tOp (rIxL K) (tVar 2) (tVar 4)) (tVar 7)) (tTup tNil))) (σ := [some (.ref pg), some (.int (n : Int)), some (.ref pl), some (.ref p), some (.int (r : Int)), some (.ref pw), some x, some (.int (j : Int)), x8, x9, x10, none]) (H := H6)
          (etD (K := K) (ed_notInT (ed_v (d := .int (j : Int)) rfl (.int _)) (ed_v rfl gu6))) fun _ => etD (K := K) ((ed_neD (A := Tt) ((hrow eB6 rfl rfl rfl).nl (noL_dS _)) (ed_tup eda_nil (Nat.zero_le _)) (shaped_dS _) rfl).to (by rw [eqv_nil]))
        refine s_when ht (fun hb H7 e10 => ?_) (fun hb H7 e10 => ?_)
        · rw [Bool.and_eq_true, Bool.not_eq_true', Bool.not_eq_true', decide_eq_false_iff_not, decide_eq_false_iff_not] at hb
          have hcond : ¬ ((j : Int) ∈ en.1 ∨ L r j = []) := fun z => z.elim hb.1 hb.2
          have gu7 := gu6.ex e10
          have cmp := em_lc1 (K := K) (A := Tt) (σ := [some (.ref pg), some (.int (n : Int)), some (.ref pl), some (.ref p), some (.int (r : Int)), some (.ref pw), some x, some (.int (j : Int)), x8, x9, x10, none]) (H := H7) (l := en.1) (enc := PyData.int) (vs := [11]) (j := 11) (wi := iTup K (tVar 6)) (t := tTest (tOp (rI0 fun i j => V.bl (decide (j < i))) (tVar 11) (tVar 7))) (te := tVar 11)
            (ei_t (ew_v rfl gu7)) (by rw [tent.len]; omega) (fun y => decide ((j : Int) < y)) PyData.int (fun x => rfl)
            (fun y hy z H8 e gx => (by cases gx; exact etD (K := K) (ed_b0 (g := fun i j => decide (j < i)) (ed_v rfl (.int _)) (ed_v (d := .int (j : Int)) rfl (.int _))))) (fun y hy z H8 e gx _ => (by cases gx; exact ed_v rfl (.int _)))
          refine qd_asgI (K := K) (n := sgU en.1 (j : Int)) ((ed_i0 (g := fun i j => i - j) (ed_int (i := 1)) (ed_mul 64 64 (ed_int (i := 2)) (ed_mod (ed_int1 (ed_lenL cmp.w)) (ed_int (i := 2)) (by decide)) (by decide) (by omega))).to (by rw [List.length_map]; rfl)) fun H8 e11 => ?_
          have eB8 := (eB6.trans e10).trans e11
          have hen2 : tget b en.1 = en.2 := tget_of_mem tok.nd (hen ▸ List.getElem_mem hi)
          have hem : en.1 ∈ tkeys b := List.mem_map.mpr ⟨en, hen ▸ List.getElem_mem hi, rfl⟩
          refine qd_asg (K := K) (SpD.ev (sTimes en.2 (L r j), [(0, sgU en.1 (j : Int))]) (ewa_cons (SpD.ev (en.2, L r j) (ewa_cons (EvW.to (ew_tget (.inr ⟨od, eB8 _ _ hBp⟩) (rB.ex eB8) (ev_v rfl) (ew_v rfl (gu7.ex e11)) hem) (by rw [hen2])) (ewa_cons (hrow eB8 rfl rfl rfl) ewa_nil)) ⟨l1, l2, sms_of tent.ns (by omega), sms_of ln (by decide)⟩)
            (ewa_cons (ed_s1 (A := Tt) ed_int (ed_v (d := .int (sgU en.1 (j : Int))) rfl (.int _))).w ewa_nil)) ⟨l3, by show 1 ≤ 200; omega, sms_of n3 hbnd.1, sms_of (B := 1) (by show (sgU en.1 (j : Int)).natAbs + 0 ≤ 1; rw [sgU_abs]; omega) (by decide)⟩) fun vm H9 e12 gm => ?_
          have gu9 := gu7.ex (e11.trans e12)
          refine qd_asg (K := K) (EvW.to (ed_tupL (A := Tt) (em_sorted (A := Tt) (ns := en.1 ++ [(j : Int)]) (ms := insI (j : Int) en.1) (EvW.to (em_cat (A := Tt) (ds := en.1.map .int) (es := [.int (j : Int)]) (em_listT (ed_v rfl gu9)).lst (em_lst (eda_cons (ed_v (d := .int (j : Int)) rfl (.int _)) eda_nil) (by show 1 ≤ 100000; omega)).lst (by rw [List.length_map, tent.len]; show r + 1 ≤ 100000; omega)).w (by rw [List.map_append]; rfl))
            fun ns' h1 h2 => ?_).lst).w rfl) fun vk H10 e13 gk => ?_
          · refine (h1.trans (insI_perm (j : Int) en.1).symm).eq_of_pairwise (fun a b _ _ h1 h2 => Int.le_antisymm h1 h2) h2 ?_
            exact (insI_srt (j : Int) en.1 tent.srt hb.1).imp fun h => Int.le_of_lt h
          have e610 := ((e10.trans e11).trans e12).trans e13
          refine sd_tput (K := K) (k := insI (j : Int) en.1) (s := sPlus (tget w' (insI (j : Int) en.1)) (sTimes (sTimes en.2 (L r j)) [(0, sgU en.1 (j : Int))])) (e610 _ _ hwk6) (rwk6.ex e610)
            (SpD.ev (tget w' (insI (j : Int) en.1), sTimes (sTimes en.2 (L r j)) [(0, sgU en.1 (j : Int))]) (ewa_cons (ew_tget2 (e610 _ _ hwk6) (rwk6.ex e610) (ev_v rfl) (ew_v rfl gk)) (ewa_cons (ew_v rfl (gm.ex e13)) ewa_nil)) ⟨by dsimp only; omega, by dsimp only; omega⟩) (ev_v rfl) (ew_v rfl gk) hwl fun H11 kv' e14 h11 r11 => ?_
          refine ⟨_, _, _, _, kv', _, rfl, Ex.mut (((eB6.trans e610).trans e14)) hBw, ?_, upd_same, r11, ?_⟩
          · exact (gu6.ex (e610.trans e14)).updN (noL_ints en.1) (noT_t h11)
          · rw [hstep]
            unfold lawIn
            rw [if_neg hcond]
        · have hcond : (j : Int) ∈ en.1 ∨ L r j = [] := by
            rcases Decidable.em ((j : Int) ∈ en.1) with z | z
            · exact .inl z
            · refine .inr (Decidable.byContradiction fun z' => ?_)
              rw [decide_eq_false z, decide_eq_false z'] at hb
              cases hb
          refine ⟨_, x8, x9, x10, wk, w', rfl, eB6.trans e10, gu6.ex e10, e10 _ _ hwk6, rwk6.ex e10, ?_⟩
          rw [hstep]
          unfold lawIn
          rw [if_pos hcond]
      · rintro σ' H5 ⟨x7, x8, x9, x10, wk, w', rfl, e8, gu, hwk, rwk, hw'⟩
        refine ⟨_, _, _, _, _, wk, w', rfl, e8, hwk, rwk, ?_⟩
        rw [hw', List.take_of_length_le (by rw [List.length_range]; exact Nat.le_refl _), List.take_add_one, List.getElem?_eq_getElem hi, ← hen, hwd]
        unfold lawE
        rw [List.foldl_append]
        rfl
    · rintro σ' H' ⟨x6, x7, x8, x9, x10, wk, w, rfl, e6, hwk, rwk, hwd⟩
      have htl : ((tkeys b).map fun k => PyData.tuple (k.map .int)).length = b.length := by
        unfold tkeys
        rw [List.length_map, List.length_map]
      rw [htl, List.take_length] at hwd
      refine ⟨e6 _ _ hBp, ?_⟩
      have eU : Ex H0' (upd H' p (.dT kvs)) := fun a o ha => by
        by_cases h : a = p
        · rw [h] at ha ⊢
          rw [upd_same, ← ha, hkv']
        · rw [upd_ne h]
          refine e6 a o ?_
          rw [hB, upd_ne h]
          exact ha
      refine ⟨_, rfl, ?_⟩
      refine ⟨pw, wk, _, _, _, _, _, _, _, rfl, eH0.trans eU, fresh_back eH0 hpw, by rw [upd_ne (Ne.symm hpp)]; exact hwk, ?_⟩
      have : lawSum L m (r + 1) = w := by
        rw [hwd, hb]
        rfl
      rw [this]
      exact rwk.upd (noT_f (e6 _ _ hBp))
  · rintro σ' H' ⟨p, kvs, x4, x5, x6, x7, x8, x9, x10, rfl, e4, hp, hkv, rkv⟩
    obtain ⟨tok, tlen⟩ := hsum m (Nat.le_refl m)
    obtain ⟨c1, c2, c3⟩ := tget_ok tok (upTo m)
    have hb5 : bnd m < 2 ^ 200 := by
      have : m = 0 ∨ m = 1 ∨ m = 2 ∨ m = 3 ∨ m = 4 ∨ m = 5 := by omega
      rcases this with rfl | rfl | rfl | rfl | rfl | rfl <;> decide
    have hk : EvW K (tTupRg (tRg1 (tOp (rI0 fun i j => V.int (i - j)) (tVar 1) (tC (V.int 1))))) [some (.ref pg), some (.int (n : Int)), some (.ref pl), some (.ref p), x4, x5, x6, x7, x8, x9, x10, none] H' (.tuple ((upTo m).map .int)) :=
      EvW.to (ed_tupRg (A := Tt) (n := (m : Int)) (sz1 rfl) (by omega)).w (by unfold rangeD upTo; rw [Int.toNat_natCast, List.map_map]; simp)
    exact sd_retF ((SpD.ev (K := K) (pre := fun s : Ser => s.length ≤ 10000 ∧ SmS 5000 s) (args := fun s => [dS s]) (res := fun s => dS (plainT s)) (tget (lawSum L m m) (upTo m)) (ewa_cons (ew_tget2 hkv rkv (ev_v rfl) hk) ewa_nil) ⟨Nat.le_trans (rg_len c1 c2 (by omega)) (by omega), sms_of c3 hb5⟩).nl (noL_dS _)) (eH2.trans e4) q
end
end GK
set_option Elab.async false
set_option linter.all false
set_option maxRecDepth 100000
set_option maxHeartbeats 4000000
/-! GLaw: the law, at the caller's own place. -/
namespace GK
open PySem PySem.Spec PyProof.Rows L2 Evl GM
theorem Fun.kw1 {K : PySem.W.Frag} {x qual a : Str} {st : Stmt} {f : Addr} {fd : FuncData} (F : Fun K x qual st f fd)
    (h : ∀ (kV doc pm : Value) (an : Option Addr) (cdv ct w : Value), bindArgs (PySem.W.fnOf x qual (defArgs st) (defBody st) (defScope st) .none kV doc pm an cdv ct) ⟨[], [(a, w)]⟩ = pure [(a, w)])
    (h' : ∀ (kV doc pm : Value) (an : Option Addr) (cdv ct w : Value), bindArgs (PySem.W.fnOf x qual (defArgs st) (defBody st) (defScope st) .none kV doc pm an cdv ct) ⟨[w], []⟩ = pure [(a, w)]) :
    KBinds K fd [a] [a] (fun us ws => us ++ ws) (fun vs zs => vs ++ zs) := by
  obtain ⟨oc, od, kV, doc, pm, an, cdv, ct, osl, rfl, _, _⟩ := F.ex
  refine ⟨fun s us ws _ hl => ?_, fun r1 r2 => r1.append r2⟩
  cases us with
  | nil =>
    cases ws with
    | nil => simp at hl
    | cons w ws =>
      cases ws with
      | nil => exact .of_eq (h kV doc pm an cdv ct w)
      | cons _ _ => simp at hl
  | cons u us =>
    cases us with
    | nil =>
      cases ws with
      | nil => exact .of_eq (h' kV doc pm an cdv ct u)
      | cons _ _ => simp at hl
    | cons _ _ => simp at hl
/-! ### texts of data -/
structure ShS (s : Ser) : Prop where
  len : s.length ≤ 1000
  ex : ∀ p ∈ s, p.1.natAbs.log2 < 1920 ∧ p.2.natAbs.log2 < 1920
theorem int_short {i : Int} (h : i.natAbs.log2 < 1920) : (PyData.shown (.int i)).length ≤ 1921 := by
  have := int_text_len_1921 h
  simpa only [PyData.shown] using this
structure ShD (d : PyData) : Prop where
  sh : d.showable = true
  di : d.hasDict = false
  de : d.depth ≤ 50
  sz : d.shown.length ≤ sizeLine
theorem shd_of {d : PyData} {n : Nat} (h1 : d.showable = true) (h2 : d.hasDict = false) (h3 : d.depth ≤ 50) (h4 : d.leavesShort 1921 = true) (h5 : d.bulk ≤ n) (hn : n ≤ 4000) : ShD d := by
  refine ⟨h1, h2, h3, ?_⟩
  have := PyData.shown_le_bulk 1921 (by decide) d h4
  have h6 : (1921 + 2) * d.bulk ≤ 1923 * 4000 := Nat.mul_le_mul_left _ (by omega)
  have : sizeLine = 16777216 := rfl
  omega
theorem prs_facts : ∀ s : Ser, (∀ p ∈ s, p.1.natAbs.log2 < 1920 ∧ p.2.natAbs.log2 < 1920) → PyData.showableAll (s.map dPr) = true ∧ PyData.hasDictAll (s.map dPr) = false ∧ PyData.leavesShortAll 1921 (s.map dPr) = true ∧ PyData.bulkAll (s.map dPr) = 3 * s.length
  | [], _ => by simp [PyData.showableAll, PyData.hasDictAll, PyData.leavesShortAll, PyData.bulkAll]
  | p :: s, h => by
    obtain ⟨h1, h2, h3, h4⟩ := prs_facts s fun q hq => h q (List.mem_cons_of_mem _ hq)
    obtain ⟨g1, g2⟩ := h p List.mem_cons_self
    have i1 := int_short g1
    have i2 := int_short g2
    refine ⟨?_, ?_, ?_, ?_⟩
    · simp [PyData.showableAll, PyData.showable, dPr, h1, g1, g2]
    · simp [PyData.hasDictAll, PyData.hasDict, dPr, h2]
    · simp [PyData.leavesShortAll, PyData.leavesShort, dPr, h3, i1, i2]
    · simp [PyData.bulkAll, PyData.bulk, dPr, h4]
      omega
theorem shd_dS {s : Ser} (h : ShS s) : ShD (dS s) := by
  obtain ⟨h1, h2, h3, h4⟩ := prs_facts s h.ex
  have hl := h.len
  refine shd_of (n := 3000) ?_ ?_ (by have := depth_dS s; omega) ?_ ?_ (by omega)
  · simpa [dS, PyData.showable] using h1
  · simpa [dS, PyData.hasDict] using h2
  · simpa [dS, PyData.leavesShort] using h3
  · show PyData.bulkAll (s.map dPr) ≤ 3000
    omega
theorem ints_facts : ∀ ns : List Int, (∀ x ∈ ns, x.natAbs.log2 < 1920) → PyData.showableAll (ns.map .int) = true ∧ PyData.hasDictAll (ns.map .int) = false ∧ PyData.leavesShortAll 1921 (ns.map .int) = true ∧ PyData.bulkAll (ns.map .int) = ns.length
  | [], _ => by simp [PyData.showableAll, PyData.hasDictAll, PyData.leavesShortAll, PyData.bulkAll]
  | p :: s, h => by
    obtain ⟨h1, h2, h3, h4⟩ := ints_facts s fun q hq => h q (List.mem_cons_of_mem _ hq)
    have g1 := h p List.mem_cons_self
    have i1 := int_short g1
    refine ⟨?_, ?_, ?_, ?_⟩
    · simp [PyData.showableAll, PyData.showable, h1, g1]
    · simp [PyData.hasDictAll, PyData.hasDict, h2]
    · simp [PyData.leavesShortAll, PyData.leavesShort, h3, i1]
    · simp [PyData.bulkAll, PyData.bulk, h4]
      omega
def dG (xs zs : List Int) : PyData := .tuple [.tuple (xs.map .int), .tuple (zs.map .int)]
theorem rows_small {xs : List Int} {n : Nat} (h : RowsOk xs n) : ∀ x ∈ xs, x.natAbs.log2 < 1920 := fun x hx => by
  have := h.rng x hx
  have := h.sz
  by_cases h0 : x.natAbs = 0
  · rw [h0]
    decide
  · have : x.natAbs.log2 < 7 := (Nat.log2_lt h0).mpr (by omega)
    omega
theorem shd_dG {xs zs : List Int} {n : Nat} (g : Grd xs zs n) : ShD (dG xs zs) := by
  obtain ⟨h1, h2, h3, h4⟩ := ints_facts xs (rows_small g.rx)
  obtain ⟨k1, k2, k3, k4⟩ := ints_facts zs (rows_small g.rz)
  have d1 := depth_ints xs
  have d2 := depth_ints zs
  have l1 := g.rx.len
  have l2 := g.rz.len
  have hn := g.hi
  refine shd_of (n := 100) ?_ ?_ ?_ ?_ ?_ (by omega)
  · simp [dG, PyData.showable, PyData.showableAll, h1, k1]
  · simp [dG, PyData.hasDict, PyData.hasDictAll, h2, k2]
  · simp only [dG, PyData.depth, PyData.depthAll]
    omega
  · simp [dG, PyData.leavesShort, PyData.leavesShortAll, h3, k3]
  · simp only [dG, PyData.bulk, PyData.bulkAll]
    omega
section
variable {K : PySem.W.Frag} {A : Addr → Prop} {σ : L2.St} {H : Hp} {te : TE} {xs zs : List Int}
theorem ed_repr {s : Ser} (h : EvW K te σ H (dS s)) (sh : ShD (dS s)) : EvD K A (tCB (rReprD K) (tCons te tNil)) σ H (.str (dS s).shown) := fun H1 e Q q =>
  h H1 e _ fun v H2 e2 g => by
    obtain ⟨a, ys, rfl, _, _⟩ := Dn.tup_at (ds := s.map dPr) g
    exact ⟨a, dS s, rfl, Dn.dp _ _ g, sh.sh, sh.di, sh.de, sh.sz, q _ H2 e2 (.str _)⟩
theorem PairI.dp {v : V} (h : PairI H v xs zs) : ∃ p, v = .ref p ∧ Dp K H (.ref p) (dG xs zs) := by
  obtain ⟨p, t, u, rfl, hp, ft, fu⟩ := h
  exact ⟨p, rfl, .tup (st_of hp) (.cons ft.dp (.cons fu.dp .nil))⟩
theorem ed_reprP (h : ∀ H1, Ex H H1 → ∀ Q : VK, (∀ v H2, Ex H1 H2 → PairI H2 v xs zs → Q v H2) → te σ H1 Q) (sh : ShD (dG xs zs)) : EvD K A (tCB (rReprD K) (tCons te tNil)) σ H (.str (dG xs zs).shown) := fun H1 e Q q =>
  h H1 e _ fun v H2 e2 g => by
    obtain ⟨p, rfl, g'⟩ := g.dp (K := K)
    exact ⟨p, dG xs zs, rfl, g', sh.sh, sh.di, sh.de, sh.sz, q _ H2 e2 (.str _)⟩
end
/-- what the plain law gives -/
structure Pl (xs zs : List Int) (n : Nat) (d : List Int) : Prop where
  a : AlxOk xs zs n d
  l : LAlx xs zs n
  eq : plainS d = plainT (tget (lawSum (LS xs zs n) (n - 1) (n - 1)) (upTo (n - 1)))
  sh : ShS (plainS d)
section
variable {P : Program} {w : World} {K : PySem.W.Frag} {mg : Str → Option Value} {base : Heap}
theorem law_body (T : Tx K mg) {C fI fL fP : Addr} (G : GridT K mg C fI fL fP) (PL : ∀ xs zs n, Grd xs zs n → ∃ d, Pl xs zs n d) {f : Addr} {cdv : Value} {outer : List Env} {s : Shared} {H : Hp} {a : Addr} {ns : List Int} {Q : VK} {E : XK}
    (hr : Room 6 (callerA.deeper (envOfC "law" (defScope s_law) s.heap.objs.size f cdv))) (hs : SqL K H a (ns.map V.int)) (q : ∀ H2, Q (.bl true) H2) :
    ∃ t, PSs (cxOf CX0 P w K mg base N_law "law" (defScope s_law) f cdv callerA outer s H E).nox (defBody s_law) t ∧ t { nx := fun _ H' => Q .non H', rt := Q } (start N_law [.ref a]) H := by
  obtain ⟨fdP, bP, FP⟩ := ok_pair (P := P) (w := w) (base := base) T G
  obtain ⟨fdI, bI, FI⟩ := ok_init (P := P) (w := w) (base := base) T G
  obtain ⟨fA, fdA, FuA, mA, bA, FA⟩ := ok_alexander (P := P) (w := w) (base := base) T G
  have kA := FuA.kp
  have kbA : KBinds K fdA ["grid"] ["grid"] (fun us ws => us ++ ws) (fun vs zs => vs ++ zs) := Fun.kw1 FuA (fun _ _ _ _ _ _ _ => rfl) (fun _ _ _ _ _ _ _ => rfl)
  have hg0 : (callerA.deeper (envOfC "law" (defScope s_law) s.heap.objs.size f cdv)).guards = some [] := rfl
  refine ⟨_, (pss_cons (ps_set (i := 1) sc_law.nd rfl (Or.inl rfl) (pe_cal (fk_law_grid T) (hr.mono (by decide)) (by rfl) (pa_cons (pe_cal (fk_law_cell T) (hr.mono (by decide)) (by rfl) (pa_cons (pv 0) (pa_cons pe_int pa_nil))) (pa_cons pe_int (pa_cons pe_int pa_nil)))))
      (pss_cons (ps_set (i := 2) sc_law.nd rfl (Or.inl rfl) (pe_make G.mkI FI (hr.mono (by decide)) (by rfl) G.mgC bI .nil pass0 (pa_cons (pe_ix (ix_tupK (K := K) rfl) (pv 1) pe_int (fun _ _ => rfl)) (pa_cons (pe_ix (ix_tupK (K := K) rfl) (pv 1) pe_int (fun _ _ => rfl)) pa_nil))))
      (pss_cons (ps_set (i := 3) sc_law.nd rfl (Or.inl rfl) (pe_callB (call_reprD hg0 hr.units) (by rfl) T.repr (by decide +kernel) (pa_cons (pe_cal (fk_law_alexander T) (hr.mono (by decide)) (by rfl) (pa_cons (pv 1) pa_nil)) pa_nil)))
      (pss_cons (ps_if (PW.pt (pw_or (pt_cmpR op_ne (pe_callB (call_reprD hg0 hr.units) (by rfl) T.repr (by decide +kernel) (pa_cons (pe_cal (fk_alexander T G) (hr.mono (by decide)) (by rfl) (pa_cons (pv 2) pa_nil)) pa_nil)) (pv 3) (nomark _)) (pw_or (pt_cmpR op_ne (pe_callB (call_reprD hg0 hr.units) (by rfl) T.repr (by decide +kernel) (pa_cons (pe_meth0 (pv 2) G.cl G.pr FP (hr.mono (by decide)) bP .nil pass0) pa_nil)) (pe_callB (call_reprD hg0 hr.units) (by rfl) T.repr (by decide +kernel) (pa_cons (pv 1) pa_nil)) (nomark _)) (pw_or1 (pt_cmpR op_ne (pe_callB (call_reprD hg0 hr.units) (by rfl) T.repr (by decide +kernel) (pa_cons (pe_calK1 FA (hr.mono (by decide)) (by rfl) mA kA kbA (pk_cons (pv 2) pk_nil)) pa_nil)) (pv 3) (nomark _))))))
      (pss_one (ps_ret pe_bl))
      pss_nil)
      (pss_one (ps_ret (pe_cmpR op_eq (pe_callB (call_reprD hg0 hr.units) (by rfl) T.repr (by decide +kernel) (pa_cons (pe_meth0 (pv 2) G.cl G.pr FP (hr.mono (by decide)) bP .nil pass0) pa_nil)) (pe_callB (call_reprD hg0 hr.units) (by rfl) T.repr (by decide +kernel) (pa_cons (pv 1) pa_nil)) (nomark _)))))))), ?_⟩
  refine ⟨_, rfl, a, ns, rfl, hs, fun i H1 e1 => ⟨i, rfl, fun xs zs n grd vp H2 e2 pr => ?_⟩⟩
  obtain ⟨d, pl⟩ := PL xs zs n grd
  have shS := shd_dS pl.sh
  have shG := shd_dG grd
  obtain ⟨p, t, u, rfl, hp, ft, fu⟩ := id pr
  refine ev_p0 (K := K) (σ := (L2.start N_law [.ref a]).set 1 (some (.ref p))) (ev_v rfl) hp H2 (Ex.refl _) _ fun H3 e3 => ev_p1 (K := K) (ev_v rfl) hp H3 e3 _ fun H4 e4 => fun x dx hx hdx hne => ?_
  have hp4 : ∀ {b : Addr}, H4 b ≠ none → b ≠ x ∧ b ≠ dx := fun h => ⟨fun e => h (e ▸ hx), fun e => h (e ▸ hdx)⟩
  have e24 := e3.trans e4
  have ft4 := ft.ex e24
  have fu4 := fu.ex e24
  have hft : t ≠ x ∧ t ≠ dx := hp4 (by obtain ⟨o, h, _⟩ := ft4; rw [h]; simp)
  have hfu : u ≠ x ∧ u ≠ dx := hp4 (by obtain ⟨o, h, _⟩ := fu4; rw [h]; simp)
  refine ⟨x, dx, t, u, xs, zs, n, rfl, upd_same, ft_upd (ft_upd ft4 hft.2) hft.1, ft_upd (ft_upd fu4 hfu.2) hfu.1, grd, fun H5 fs hk ha gf => ⟨rfl, ?_⟩⟩
  have e45 : Ex H4 H5 := fun b o hb => by
    have := hp4 (b := b) (by rw [hb]; simp)
    exact hk b o this.1 (by rw [upd_ne this.1, upd_ne this.2]; exact hb)
  have gr : GridI C H5 (.ref x) xs zs := ⟨x, dx, fs, t, u, rfl, ha, gf, ft4.ex e45, fu4.ex e45⟩
  have pr5 := pr.ex (e24.trans e45)
  have txt := (shd_dS pl.sh)
  -- the law's own text
  refine qd_asg (K := K) (ed_repr (A := Tt) (EvW.to (SpG.ev (R := PairI) (hR := PairI.ex) (A := Tt) n (ev_v rfl) pr5 ewa_nil pl.l).w (by rw [← pl.eq])) txt).w fun vt H6 e6 gt => ?_
  cases gt
  have pr6 := pr5.ex e6
  have gr6 := gr.ex e6
  have hpair : ∀ {σ : L2.St} {H' : Hp}, Ex H6 H' → σ[2]? = some (some (.ref x)) → EvD K Tt (tCB (rReprD K) (tCons (tMeth C "pair" (spGPair C) [] E0 (tVar 2) tNil) tNil)) σ H' (.str (dG xs zs).shown) := fun e0 s2 =>
    ed_reprP (fun H1 e Q q => ⟨_, s2, by
      have g1 := gr6.ex (e0.trans e)
      obtain ⟨x', dx', fs', t', u', ex, ha', gf', ft', fu'⟩ := id g1
      cases ex
      exact ⟨x, dx', fs', rfl, ha', gf'.p, .ref x, xs, zs, rfl, g1, q⟩⟩) shG
  have hlaw : ∀ {σ : L2.St} {H' : Hp}, Ex H6 H' → σ[1]? = some (some (.ref p)) → EvD K Tt (tCB (rReprD K) (tCons (tVar 1) tNil)) σ H' (.str (dG xs zs).shown) := fun e0 s1 =>
    ed_reprP (fun H1 e Q q => ⟨_, s1, q _ H1 (Ex.refl _) (pr6.ex (e0.trans e))⟩) shG
  have hkw : EvW K (tCallK (spAlx C K) (fun vs zs => vs ++ zs) E0 tNil (tCons (tVar 2) tNil)) ((((L2.start N_law [.ref a]).set 1 (some (.ref p))).set 2 (some (.ref x))).set 3 (some (.str (dS (plainS d)).shown))) H6 (dS (plainS d)) := fun H1 e Q q =>
    ⟨_, rfl, .ref x, [], xs, zs, (n, d), rfl, gr6.ex e, pl.a, .nil, fun v H2 e2 g => q v H2 e2 g.dd⟩
  have nes : ∀ y : Str, (!decide (y = y)) = false := fun y => by simp
  refine q_when (et_or (a := false) (b := false) (etD (K := K) (EvD.to (ed_neS (ed_repr (SpG.ev (R := GridI C) (hR := GridI.ex) (A := Tt) (n, d) (ev_v rfl) gr6 ewa_nil pl.a).w txt) (ed_v rfl (.str _))) (by rw [nes]))) fun _ => et_or (a := false) (b := false) (etD (K := K) (EvD.to (ed_neS (hpair (Ex.refl _) rfl) (hlaw (Ex.refl _) rfl)) (by rw [nes]))) fun _ =>
    etD (K := K) (EvD.to (ed_neS (ed_repr hkw txt) (ed_v rfl (.str _))) (by rw [nes]))) (fun hb => by cases hb) (fun _ H7 e7 => ?_)
  refine sd_ret (K := K) (EvD.to (ed_eqS (hpair e7 rfl) (hlaw e7 rfl)) (show _ = PyData.bool true by simp)).w fun v H8 e8 g8 => ?_
  cases g8
  exact q H8
end
end GK
set_option Elab.async false
set_option linter.all false
set_option maxRecDepth 100000
set_option maxHeartbeats 4000000
/-! GEnd: from the text's facts to the row. -/
namespace GK
open PySem PySem.Spec PyProof.Rows L2 Evl GM
/-- the law's call runs, from an abstract heap that holds the script -/
theorem law_run {P : Program} {w : World} {K : PySem.W.Frag} {mg : Str → Option Value} {base : Heap} (T : Tx K mg) (PL : ∀ xs zs n, Grd xs zs n → ∃ d, Pl xs zs n d) {f a : Addr} {fd : FuncData} {s : Shared} {H : Hp} {ns : List Int}
    (F : Fun K "law" "law" s_law f fd) (hb : BindsTo s fd ⟨[.ref a], []⟩ [("_law_script", .ref a)]) (e0 : Env0 P w K mg base callerA [] s H) (hs : SqL K H a (ns.map V.int)) :
    codeAny (model P w) callerA (.call (.ref f) ⟨[.ref a], []⟩) (CR CX0 [] P w H s (fun v _ => v = .bl true) E0) s := by
  obtain ⟨C, fI, fL, fP, G⟩ := T.gr
  have R7 : Room 7 callerA := ⟨rfl, by decide, by decide⟩
  obtain ⟨oc, od, kV, doc, pm, an, cdv, ct, osl, rfl, at_f, code⟩ := F.ex
  have inK : K.In s.heap := e0.mod.kin.keeps fun b o z => (e0.bs b o z).1
  have nolim : s.heap.NoLimit := e0.mod.nolimit.keeps fun b o z => (e0.bs b o z).1
  have vals : Vals [V.ref a] [Value.ref a] := .cons rfl .nil
  have kinds : ∀ y ∈ ([("_law_script", Value.ref a)] : List (Str × Value)), (defScope s_law).names.lookup y.1 = some .local ∨ ((defScope s_law).names.lookup y.1 = some .cell ∧ ((cellsFrom (s.heap.objs.size + 1) (defScope s_law).names []).lookup y.1).isSome = true) := fun y hy => by
    rw [List.mem_singleton.mp hy]
    exact .inl (show (defScope s_law).names.lookup (Str.ofString "_law_script") = some .local by decide +kernel)
  refine codeAny_call_function R7.depth (inK _ _ at_f) rfl sc_law.co sc_law.gen rfl (PySem.W.codeRec_of inK code) (hb _ _ _ _ (wpAny_newFunctionEnv_cells sc_law.kind kinds fun env ee s1 ic => ?_))
  subst ee
  refine ⟨nolim.keeps ic.toInCall.keep, codeAny_func ?_⟩
  obtain ⟨t, ht, hq⟩ := law_body (P := P) (w := w) (base := base) (s := s) (H := H) (f := f) (cdv := cdv) (outer := []) (Q := fun v _ => v = .bl true) (E := E0) T G PL (R7.deeper _) hs (fun _ => rfl)
  have J := inv_start (CX := CX0) (E := E0) (N := N_law) sc_law R7.hd e0 (us := [.ref a]) (vs := [.ref a]) rfl vals ic
  refine wpAny_mono (ht.nox.run [] s1 _ H _ J hq) (fun fl s' hf => ?_) fun _ _ hf => hf
  cases fl with
  | next =>
    obtain ⟨σ', H', J', q⟩ := hf
    cases q
  | ret u =>
    obtain ⟨v, σ', H', J', rv, q⟩ := hf
    exact ⟨v, H', J'.os, J'.bare, J'.base, J'.hok, rv, q⟩
  | brk => exact False.elim hf.choose_spec.choose_spec.2
  | cont => exact False.elim hf.choose_spec.choose_spec.2
/-- what the row's end wants of a call -/
abbrev EndsWell (s₁ : Shared) (r : Result) (s' : Shared) : Prop := r = .ok (.ret (.bool true)) ∧ OldK s₁.heap s'.heap ∧ s'.os = s₁.os ∧ AllBare s'.gens
/-- an abstract heap in which the script alone may stand, known to the object -/
structure Start (K : PySem.W.Frag) (H : Hp) (a : Addr) (o : Obj) (ns : List Int) : Prop where
  sq : SqL K H a (ns.map V.int)
  only : ∀ b u, H b = some u → b = a ∧ u = .frz o (.lst (ns.map V.int)) ∧ K.lookup a = none
theorem law_from {P : Program} {w : World} {K : PySem.W.Frag} {mg mb : Str → Option Value} (PL : ∀ xs zs n, Grd xs zs n → ∃ d, Pl xs zs n d) {f a : Addr} {fd : FuncData} {s₁ : Shared} {H : Hp} {o : Obj} {n : Nat} {vs : List Value} {ns : List Int}
    (inK : K.In s₁.heap) (hg : s₁.heap.Ns mainGlobals mg) (hb : s₁.heap.Ns builtinsNs mb) (hbb : ∀ x : Str, x ≠ "__name__" → mb x = bootBuiltins x) (nolim : s₁.heap.NoLimit) (gens : s₁.gens = #[])
    (T : Tx K mg) (F : Fun K "law" "law" s_law f fd) (bind : ∀ (s : Shared) (u : Value), BindsTo s fd ⟨[u], []⟩ [("_law_script", u)])
    (ho : s₁.heap.get? a = some o) (od : o.data = .seq vs.toArray n) (St : Start K H a o ns) (ok : HOk P w H s₁.heap) :
    codeAny (model P w) callerA (.call (.ref f) ⟨[.ref a], []⟩) (EndsWell s₁) s₁ := by
  -- no dict is tracked, nor what K knows
  have free : ∀ {b : Addr}, b ≠ a → H b = none := fun {b} hne => by
    cases q : H b with
    | none => rfl
    | some u => exact absurd (St.only b u q).1 hne
  have ns_of : ∀ {b : Addr} {m : Str → Option Value}, s₁.heap.Ns b m → (hidT s₁.heap H).Ns b m := fun {b m} h => by
    obtain ⟨ob, es, ep, e, d, rest⟩ := h
    refine ⟨ob, es, ep, hidT_get e (free fun z => ?_), d, rest⟩
    rw [z, ho] at e
    cases e
    rw [od] at d
    cases d
  have kin : K.In (hidT s₁.heap H) := fun b ob e => hidT_get (inK b ob e) (by
    cases q : H b with
    | none => rfl
    | some u =>
      obtain ⟨rfl, _, hk⟩ := St.only b u q
      rw [hk] at e
      cases e)
  obtain ⟨mc, lim1, lim2⟩ := nolim
  have e0 : Env0 P w K mg (hidT s₁.heap H) callerA [] s₁ H :=
    { frames := rfl, mod := ⟨kin, ns_of hg, ⟨mb, ns_of hb, hbb⟩, ⟨mc, ns_of lim1, lim2⟩⟩, bs := fun _ _ e => of_hidT e, bsz := Nat.le_of_eq (hidT_size _ _), funs := trivial, frf := fun b z => (by cases z), hok := ok, bare := .of_eq gens }
  refine codeAny_mono (law_run T PL F (bind s₁ (.ref a)) e0 St.sq) fun r s' hc => ?_
  rcases r with e | fl
  · exact absurd hc id
  cases fl with
  | ret u =>
    obtain ⟨v, H', os, bare, un, ok', rv, q⟩ := hc
    subst q
    cases (show u = Value.bool true from rv)
    refine ⟨rfl, OldK.of_keep fun b ob e => ?_, os, bare⟩
    cases q : H b with
    | none => exact un.keep b ob e q (fun z => by cases z) (by simp)
    | some v =>
      obtain ⟨_, rfl, _⟩ := St.only b v q
      have o1 := (ok b _ q).1
      rw [e] at o1
      cases o1
      exact (ok' b _ (un.frzs b _ _ q)).1
  | next => exact False.elim hc
  | brk => exact False.elim hc
  | cont => exact False.elim hc
/-- the row's last goal, from the text's facts -/
theorem walk {l : PySem.W.OpenLaw} {q : Program} {loose : List Str} {XP : (Str → Option Value) → Heap → Prop} {YP : World → Heap → Prop} {d : DefRec} {K : Params → PySem.W.Frag} (PL : ∀ xs zs n, Grd xs zs n → ∃ d, Pl xs zs n d) (hn : l.most = some 63) (hdf : d.params.defaults = [])
    (hY : ∀ (w : World) (h : Heap), YP w h → (K w.params).In h)
    (F : ∀ (w : World) (mg : Str → Option Value) (fa : Addr) (h : Heap), (K w.params).In h → h.Ns mainGlobals mg → mg d.name = some (.ref fa) →
      Tx (K w.params) mg ∧ ∃ fd : FuncData, Fun (K w.params) "law" "law" s_law fa fd ∧ ∀ (s : Shared) (u : Value), BindsTo s fd ⟨[u], []⟩ [("_law_script", u)]) :
    PySem.W.WalkO q loose XP YP l.row.toRowW d [] (fun f vs => PySem.call f vs) := by
  refine Att.attach_call hn hdf fun w s₀ s₁ mg mb fa fo pm cd doc a vs ns G Y _ _ _ hmg hobj hints hlen gens => ?_
  have inK := hY w _ Y
  obtain ⟨T, fd, Fu, bind⟩ := F w mg fa _ inK G.T.g hmg
  have rel := vals_ints hints
  have size : ns.length ≤ sizeLine := Nat.le_trans hlen (by decide)
  have step := fun {H : Hp} (St : Start (K w.params) H a { cls := .type "list", data := .seq vs.toArray } ns) (ok : HOk l.prog w H s₁.heap) => law_from PL inK G.T.g G.T.b G.T.builtins G.T.nolimit gens T Fu bind hobj rfl St ok
  cases known : (K w.params).lookup a with
  | some o =>
    have e := inK a o known
    rw [hobj] at e
    cases e
    refine step (H := fun _ => none) ⟨.inr ⟨_, vs.toArray, _, known, rfl, rfl, rfl, ?_, rel⟩, fun b u z => (by cases z)⟩ fun b u z => (by cases z)
    rw [List.size_toArray, hints.length]
    exact size
  | none =>
    obtain ⟨H, hH⟩ : ∃ H : Hp, H = fun b => if b = a then some (.frz { cls := .type "list", data := .seq vs.toArray } (.lst (ns.map V.int))) else none := ⟨_, rfl⟩
    have here : H a = some (.frz { cls := .type "list", data := .seq vs.toArray } (.lst (ns.map V.int))) := by rw [hH]; exact if_pos rfl
    have there : ∀ b u, H b = some u → b = a ∧ u = .frz { cls := .type "list", data := .seq vs.toArray } (.lst (ns.map V.int)) := fun b u z => by
      by_cases e : b = a
      · rw [e, here] at z
        exact ⟨e, (Option.some.inj z).symm⟩
      · rw [hH] at z
        have z' : (if b = a then _ else none) = some u := z
        rw [if_neg e] at z'
        cases z'
    refine step (H := H) ⟨.inl (.inr ⟨_, here⟩), fun b u z => ⟨(there b u z).1, (there b u z).2, known⟩⟩ fun b u z => ?_
    obtain ⟨rfl, rfl⟩ := there b u z
    exact ⟨hobj, by rw [List.length_map]; exact size, vs, _, rel, hobj⟩
/-- a def by what is read off the text's part -/
theorem df_mk {K : PySem.W.Frag} {mg : Str → Option Value} {h : Heap} {x : Str} {st : Stmt} {ps : List Str} {f : Addr} {oc : Value} {od an : Option Addr} {osl : Array (Option Value)} {kV doc pm cdv ct : Value} (X : K.In h) (G : h.Ns mainGlobals mg)
    (a : PySem.W.nsIn K mainGlobals x = some (some (.ref f))) (l : K.lookup f = some ⟨oc, od, .func (PySem.W.fnOf x x (defArgs st) (defBody st) (defScope st) .none kV doc pm an cdv ct), osl⟩) (c : PySem.W.codeIn K cdv x = true) (k : PySem.W.keepIn K (.ref f) = true)
    (hb : ∀ (kV doc pm : Value) (an : Option Addr) (cdv ct : Value) (us : List Value), us.length = ps.length → bindArgs (PySem.W.fnOf x x (defArgs st) (defBody st) (defScope st) .none kV doc pm an cdv ct) ⟨us, []⟩ = pure (ps.zip us)) : Df K mg x st ps :=
  ⟨f, _, fun_mk l c k, PySem.W.mg_of X G a, (fun_mk l c k).binds hb⟩
end GK
set_option Elab.async false
set_option linter.all false
set_option maxRecDepth 100000
set_option maxHeartbeats 4000000
/-! GTx: the facts of the text, gathered. -/
namespace GK
open PySem PySem.Spec PyProof.Rows L2 Evl GM

theorem tx_mk {K : PySem.W.Frag} {h : Heap} {mg : Str → Option Value} {fa : Addr} (X : K.In h) (G : h.Ns mainGlobals mg) (hfa : mg "law" = some (.ref fa))
    {f0 : Addr} {od0 an0 : Option Addr} {sl0 : Array (Option Value)} {oc0 kV0 dc0 pm0 cd0 ct0 : Value}
    (a0 : PySem.W.nsIn K mainGlobals "stands_between" = some (some (.ref f0))) (l0 : K.lookup f0 = some ⟨oc0, od0, .func (PySem.W.fnOf "stands_between" "stands_between" (defArgs s_stands_between) (defBody s_stands_between) (defScope s_stands_between) .none kV0 dc0 pm0 an0 cd0 ct0), sl0⟩) (c0 : PySem.W.codeIn K cd0 "stands_between" = true) (k0 : PySem.W.keepIn K (.ref f0) = true)
    {f1 : Addr} {od1 an1 : Option Addr} {sl1 : Array (Option Value)} {oc1 kV1 dc1 pm1 cd1 ct1 : Value}
    (a1 : PySem.W.nsIn K mainGlobals "sign_of" = some (some (.ref f1))) (l1 : K.lookup f1 = some ⟨oc1, od1, .func (PySem.W.fnOf "sign_of" "sign_of" (defArgs s_sign_of) (defBody s_sign_of) (defScope s_sign_of) .none kV1 dc1 pm1 an1 cd1 ct1), sl1⟩) (c1 : PySem.W.codeIn K cd1 "sign_of" = true) (k1 : PySem.W.keepIn K (.ref f1) = true)
    {f2 : Addr} {od2 an2 : Option Addr} {sl2 : Array (Option Value)} {oc2 kV2 dc2 pm2 cd2 ct2 : Value}
    (a2 : PySem.W.nsIn K mainGlobals "passed" = some (some (.ref f2))) (l2 : K.lookup f2 = some ⟨oc2, od2, .func (PySem.W.fnOf "passed" "passed" (defArgs s_passed) (defBody s_passed) (defScope s_passed) .none kV2 dc2 pm2 an2 cd2 ct2), sl2⟩) (c2 : PySem.W.codeIn K cd2 "passed" = true) (k2 : PySem.W.keepIn K (.ref f2) = true)
    {f3 : Addr} {od3 an3 : Option Addr} {sl3 : Array (Option Value)} {oc3 kV3 dc3 pm3 cd3 ct3 : Value}
    (a3 : PySem.W.nsIn K mainGlobals "lines_of" = some (some (.ref f3))) (l3 : K.lookup f3 = some ⟨oc3, od3, .func (PySem.W.fnOf "lines_of" "lines_of" (defArgs s_lines_of) (defBody s_lines_of) (defScope s_lines_of) .none kV3 dc3 pm3 an3 cd3 ct3), sl3⟩) (c3 : PySem.W.codeIn K cd3 "lines_of" = true) (k3 : PySem.W.keepIn K (.ref f3) = true)
    {f4 : Addr} {od4 an4 : Option Addr} {sl4 : Array (Option Value)} {oc4 kV4 dc4 pm4 cd4 ct4 : Value}
    (a4 : PySem.W.nsIn K mainGlobals "trimmed" = some (some (.ref f4))) (l4 : K.lookup f4 = some ⟨oc4, od4, .func (PySem.W.fnOf "trimmed" "trimmed" (defArgs s_trimmed) (defBody s_trimmed) (defScope s_trimmed) .none kV4 dc4 pm4 an4 cd4 ct4), sl4⟩) (c4 : PySem.W.codeIn K cd4 "trimmed" = true) (k4 : PySem.W.keepIn K (.ref f4) = true)
    {f5 : Addr} {od5 an5 : Option Addr} {sl5 : Array (Option Value)} {oc5 kV5 dc5 pm5 cd5 ct5 : Value}
    (a5 : PySem.W.nsIn K mainGlobals "less" = some (some (.ref f5))) (l5 : K.lookup f5 = some ⟨oc5, od5, .func (PySem.W.fnOf "less" "less" (defArgs s_less) (defBody s_less) (defScope s_less) .none kV5 dc5 pm5 an5 cd5 ct5), sl5⟩) (c5 : PySem.W.codeIn K cd5 "less" = true) (k5 : PySem.W.keepIn K (.ref f5) = true)
    {f6 : Addr} {od6 an6 : Option Addr} {sl6 : Array (Option Value)} {oc6 kV6 dc6 pm6 cd6 ct6 : Value}
    (a6 : PySem.W.nsIn K mainGlobals "product" = some (some (.ref f6))) (l6 : K.lookup f6 = some ⟨oc6, od6, .func (PySem.W.fnOf "product" "product" (defArgs s_product) (defBody s_product) (defScope s_product) .none kV6 dc6 pm6 an6 cd6 ct6), sl6⟩) (c6 : PySem.W.codeIn K cd6 "product" = true) (k6 : PySem.W.keepIn K (.ref f6) = true)
    {f7 : Addr} {od7 an7 : Option Addr} {sl7 : Array (Option Value)} {oc7 kV7 dc7 pm7 cd7 ct7 : Value}
    (a7 : PySem.W.nsIn K mainGlobals "divided" = some (some (.ref f7))) (l7 : K.lookup f7 = some ⟨oc7, od7, .func (PySem.W.fnOf "divided" "divided" (defArgs s_divided) (defBody s_divided) (defScope s_divided) .none kV7 dc7 pm7 an7 cd7 ct7), sl7⟩) (c7 : PySem.W.codeIn K cd7 "divided" = true) (k7 : PySem.W.keepIn K (.ref f7) = true)
    {f8 : Addr} {od8 an8 : Option Addr} {sl8 : Array (Option Value)} {oc8 kV8 dc8 pm8 cd8 ct8 : Value}
    (a8 : PySem.W.nsIn K mainGlobals "with_pivot" = some (some (.ref f8))) (l8 : K.lookup f8 = some ⟨oc8, od8, .func (PySem.W.fnOf "with_pivot" "with_pivot" (defArgs s_with_pivot) (defBody s_with_pivot) (defScope s_with_pivot) .none kV8 dc8 pm8 an8 cd8 ct8), sl8⟩) (c8 : PySem.W.codeIn K cd8 "with_pivot" = true) (k8 : PySem.W.keepIn K (.ref f8) = true)
    {f9 : Addr} {od9 an9 : Option Addr} {sl9 : Array (Option Value)} {oc9 kV9 dc9 pm9 cd9 ct9 : Value}
    (a9 : PySem.W.nsIn K mainGlobals "step" = some (some (.ref f9))) (l9 : K.lookup f9 = some ⟨oc9, od9, .func (PySem.W.fnOf "step" "step" (defArgs s_step) (defBody s_step) (defScope s_step) .none kV9 dc9 pm9 an9 cd9 ct9), sl9⟩) (c9 : PySem.W.codeIn K cd9 "step" = true) (k9 : PySem.W.keepIn K (.ref f9) = true)
    {f10 : Addr} {od10 an10 : Option Addr} {sl10 : Array (Option Value)} {oc10 kV10 dc10 pm10 cd10 ct10 : Value}
    (a10 : PySem.W.nsIn K mainGlobals "determinant" = some (some (.ref f10))) (l10 : K.lookup f10 = some ⟨oc10, od10, .func (PySem.W.fnOf "determinant" "determinant" (defArgs s_determinant) (defBody s_determinant) (defScope s_determinant) .none kV10 dc10 pm10 an10 cd10 ct10), sl10⟩) (c10 : PySem.W.codeIn K cd10 "determinant" = true) (k10 : PySem.W.keepIn K (.ref f10) = true)
    {f11 : Addr} {od11 an11 : Option Addr} {sl11 : Array (Option Value)} {oc11 kV11 dc11 pm11 cd11 ct11 : Value}
    (a11 : PySem.W.nsIn K mainGlobals "series_of" = some (some (.ref f11))) (l11 : K.lookup f11 = some ⟨oc11, od11, .func (PySem.W.fnOf "series_of" "series_of" (defArgs s_series_of) (defBody s_series_of) (defScope s_series_of) .none kV11 dc11 pm11 an11 cd11 ct11), sl11⟩) (c11 : PySem.W.codeIn K cd11 "series_of" = true) (k11 : PySem.W.keepIn K (.ref f11) = true)
    {f12 : Addr} {od12 an12 : Option Addr} {sl12 : Array (Option Value)} {oc12 kV12 dc12 pm12 cd12 ct12 : Value}
    (a12 : PySem.W.nsIn K mainGlobals "series_plus" = some (some (.ref f12))) (l12 : K.lookup f12 = some ⟨oc12, od12, .func (PySem.W.fnOf "series_plus" "series_plus" (defArgs s_series_plus) (defBody s_series_plus) (defScope s_series_plus) .none kV12 dc12 pm12 an12 cd12 ct12), sl12⟩) (c12 : PySem.W.codeIn K cd12 "series_plus" = true) (k12 : PySem.W.keepIn K (.ref f12) = true)
    {f13 : Addr} {od13 an13 : Option Addr} {sl13 : Array (Option Value)} {oc13 kV13 dc13 pm13 cd13 ct13 : Value}
    (a13 : PySem.W.nsIn K mainGlobals "series_times" = some (some (.ref f13))) (l13 : K.lookup f13 = some ⟨oc13, od13, .func (PySem.W.fnOf "series_times" "series_times" (defArgs s_series_times) (defBody s_series_times) (defScope s_series_times) .none kV13 dc13 pm13 an13 cd13 ct13), sl13⟩) (c13 : PySem.W.codeIn K cd13 "series_times" = true) (k13 : PySem.W.keepIn K (.ref f13) = true)
    {f14 : Addr} {od14 an14 : Option Addr} {sl14 : Array (Option Value)} {oc14 kV14 dc14 pm14 cd14 ct14 : Value}
    (a14 : PySem.W.nsIn K mainGlobals "line_series" = some (some (.ref f14))) (l14 : K.lookup f14 = some ⟨oc14, od14, .func (PySem.W.fnOf "line_series" "line_series" (defArgs s_line_series) (defBody s_line_series) (defScope s_line_series) .none kV14 dc14 pm14 an14 cd14 ct14), sl14⟩) (c14 : PySem.W.codeIn K cd14 "line_series" = true) (k14 : PySem.W.keepIn K (.ref f14) = true)
    {f15 : Addr} {od15 an15 : Option Addr} {sl15 : Array (Option Value)} {oc15 kV15 dc15 pm15 cd15 ct15 : Value}
    (a15 : PySem.W.nsIn K mainGlobals "least_exponent" = some (some (.ref f15))) (l15 : K.lookup f15 = some ⟨oc15, od15, .func (PySem.W.fnOf "least_exponent" "least_exponent" (defArgs s_least_exponent) (defBody s_least_exponent) (defScope s_least_exponent) .none kV15 dc15 pm15 an15 cd15 ct15), sl15⟩) (c15 : PySem.W.codeIn K cd15 "least_exponent" = true) (k15 : PySem.W.keepIn K (.ref f15) = true)
    {f16 : Addr} {od16 an16 : Option Addr} {sl16 : Array (Option Value)} {oc16 kV16 dc16 pm16 cd16 ct16 : Value}
    (a16 : PySem.W.nsIn K mainGlobals "polynomial" = some (some (.ref f16))) (l16 : K.lookup f16 = some ⟨oc16, od16, .func (PySem.W.fnOf "polynomial" "polynomial" (defArgs s_polynomial) (defBody s_polynomial) (defScope s_polynomial) .none kV16 dc16 pm16 an16 cd16 ct16), sl16⟩) (c16 : PySem.W.codeIn K cd16 "polynomial" = true) (k16 : PySem.W.keepIn K (.ref f16) = true)
    {f17 : Addr} {od17 an17 : Option Addr} {sl17 : Array (Option Value)} {oc17 kV17 dc17 pm17 cd17 ct17 : Value}
    (a17 : PySem.W.nsIn K mainGlobals "polynomials" = some (some (.ref f17))) (l17 : K.lookup f17 = some ⟨oc17, od17, .func (PySem.W.fnOf "polynomials" "polynomials" (defArgs s_polynomials) (defBody s_polynomials) (defScope s_polynomials) .none kV17 dc17 pm17 an17 cd17 ct17), sl17⟩) (c17 : PySem.W.codeIn K cd17 "polynomials" = true) (k17 : PySem.W.keepIn K (.ref f17) = true)
    {f18 : Addr} {od18 an18 : Option Addr} {sl18 : Array (Option Value)} {oc18 kV18 dc18 pm18 cd18 ct18 : Value}
    (a18 : PySem.W.nsIn K mainGlobals "made_plain" = some (some (.ref f18))) (l18 : K.lookup f18 = some ⟨oc18, od18, .func (PySem.W.fnOf "made_plain" "made_plain" (defArgs s_made_plain) (defBody s_made_plain) (defScope s_made_plain) .none kV18 dc18 pm18 an18 cd18 ct18), sl18⟩) (c18 : PySem.W.codeIn K cd18 "made_plain" = true) (k18 : PySem.W.keepIn K (.ref f18) = true)
    {f19 : Addr} {od19 an19 : Option Addr} {sl19 : Array (Option Value)} {oc19 kV19 dc19 pm19 cd19 ct19 : Value}
    (a19 : PySem.W.nsIn K mainGlobals "alexander" = some (some (.ref f19))) (l19 : K.lookup f19 = some ⟨oc19, od19, .func (PySem.W.fnOf "alexander" "alexander" (defArgs s_alexander) (defBody s_alexander) (defScope s_alexander) .none kV19 dc19 pm19 an19 cd19 ct19), sl19⟩) (c19 : PySem.W.codeIn K cd19 "alexander" = true) (k19 : PySem.W.keepIn K (.ref f19) = true)
    {f20 : Addr} {od20 an20 : Option Addr} {sl20 : Array (Option Value)} {oc20 kV20 dc20 pm20 cd20 ct20 : Value}
    (a20 : PySem.W.nsIn K mainGlobals "is_integer" = some (some (.ref f20))) (l20 : K.lookup f20 = some ⟨oc20, od20, .func (PySem.W.fnOf "is_integer" "is_integer" (defArgs s_is_integer) (defBody s_is_integer) (defScope s_is_integer) .none kV20 dc20 pm20 an20 cd20 ct20), sl20⟩) (c20 : PySem.W.codeIn K cd20 "is_integer" = true) (k20 : PySem.W.keepIn K (.ref f20) = true)
    {f21 : Addr} {od21 an21 : Option Addr} {sl21 : Array (Option Value)} {oc21 kV21 dc21 pm21 cd21 ct21 : Value}
    (a21 : PySem.W.nsIn K mainGlobals "is_place_below" = some (some (.ref f21))) (l21 : K.lookup f21 = some ⟨oc21, od21, .func (PySem.W.fnOf "is_place_below" "is_place_below" (defArgs s_is_place_below) (defBody s_is_place_below) (defScope s_is_place_below) .none kV21 dc21 pm21 an21 cd21 ct21), sl21⟩) (c21 : PySem.W.codeIn K cd21 "is_place_below" = true) (k21 : PySem.W.keepIn K (.ref f21) = true)
    {f22 : Addr} {od22 an22 : Option Addr} {sl22 : Array (Option Value)} {oc22 kV22 dc22 pm22 cd22 ct22 : Value}
    (a22 : PySem.W.nsIn K mainGlobals "is_rows" = some (some (.ref f22))) (l22 : K.lookup f22 = some ⟨oc22, od22, .func (PySem.W.fnOf "is_rows" "is_rows" (defArgs s_is_rows) (defBody s_is_rows) (defScope s_is_rows) .none kV22 dc22 pm22 an22 cd22 ct22), sl22⟩) (c22 : PySem.W.codeIn K cd22 "is_rows" = true) (k22 : PySem.W.keepIn K (.ref f22) = true)
    {f23 : Addr} {od23 an23 : Option Addr} {sl23 : Array (Option Value)} {oc23 kV23 dc23 pm23 cd23 ct23 : Value}
    (a23 : PySem.W.nsIn K mainGlobals "is_pair_of_grid" = some (some (.ref f23))) (l23 : K.lookup f23 = some ⟨oc23, od23, .func (PySem.W.fnOf "is_pair_of_grid" "is_pair_of_grid" (defArgs s_is_pair_of_grid) (defBody s_is_pair_of_grid) (defScope s_is_pair_of_grid) .none kV23 dc23 pm23 an23 cd23 ct23), sl23⟩) (c23 : PySem.W.codeIn K cd23 "is_pair_of_grid" = true) (k23 : PySem.W.keepIn K (.ref f23) = true)
    {f24 : Addr} {od24 an24 : Option Addr} {sl24 : Array (Option Value)} {oc24 kV24 dc24 pm24 cd24 ct24 : Value}
    (a24 : PySem.W.nsIn K mainGlobals "_law_cell" = some (some (.ref f24))) (l24 : K.lookup f24 = some ⟨oc24, od24, .func (PySem.W.fnOf "_law_cell" "_law_cell" (defArgs s_law_cell) (defBody s_law_cell) (defScope s_law_cell) .none kV24 dc24 pm24 an24 cd24 ct24), sl24⟩) (c24 : PySem.W.codeIn K cd24 "_law_cell" = true) (k24 : PySem.W.keepIn K (.ref f24) = true)
    {f25 : Addr} {od25 an25 : Option Addr} {sl25 : Array (Option Value)} {oc25 kV25 dc25 pm25 cd25 ct25 : Value}
    (a25 : PySem.W.nsIn K mainGlobals "_law_draws" = some (some (.ref f25))) (l25 : K.lookup f25 = some ⟨oc25, od25, .func (PySem.W.fnOf "_law_draws" "_law_draws" (defArgs s_law_draws) (defBody s_law_draws) (defScope s_law_draws) .none kV25 dc25 pm25 an25 cd25 ct25), sl25⟩) (c25 : PySem.W.codeIn K cd25 "_law_draws" = true) (k25 : PySem.W.keepIn K (.ref f25) = true)
    {f26 : Addr} {od26 an26 : Option Addr} {sl26 : Array (Option Value)} {oc26 kV26 dc26 pm26 cd26 ct26 : Value}
    (a26 : PySem.W.nsIn K mainGlobals "_law_mixed_row" = some (some (.ref f26))) (l26 : K.lookup f26 = some ⟨oc26, od26, .func (PySem.W.fnOf "_law_mixed_row" "_law_mixed_row" (defArgs s_law_mixed_row) (defBody s_law_mixed_row) (defScope s_law_mixed_row) .none kV26 dc26 pm26 an26 cd26 ct26), sl26⟩) (c26 : PySem.W.codeIn K cd26 "_law_mixed_row" = true) (k26 : PySem.W.keepIn K (.ref f26) = true)
    {f27 : Addr} {od27 an27 : Option Addr} {sl27 : Array (Option Value)} {oc27 kV27 dc27 pm27 cd27 ct27 : Value}
    (a27 : PySem.W.nsIn K mainGlobals "_law_grid" = some (some (.ref f27))) (l27 : K.lookup f27 = some ⟨oc27, od27, .func (PySem.W.fnOf "_law_grid" "_law_grid" (defArgs s_law_grid) (defBody s_law_grid) (defScope s_law_grid) .none kV27 dc27 pm27 an27 cd27 ct27), sl27⟩) (c27 : PySem.W.codeIn K cd27 "_law_grid" = true) (k27 : PySem.W.keepIn K (.ref f27) = true)
    {f28 : Addr} {od28 an28 : Option Addr} {sl28 : Array (Option Value)} {oc28 kV28 dc28 pm28 cd28 ct28 : Value}
    (a28 : PySem.W.nsIn K mainGlobals "_law_columns" = some (some (.ref f28))) (l28 : K.lookup f28 = some ⟨oc28, od28, .func (PySem.W.fnOf "_law_columns" "_law_columns" (defArgs s_law_columns) (defBody s_law_columns) (defScope s_law_columns) .none kV28 dc28 pm28 an28 cd28 ct28), sl28⟩) (c28 : PySem.W.codeIn K cd28 "_law_columns" = true) (k28 : PySem.W.keepIn K (.ref f28) = true)
    {f29 : Addr} {od29 an29 : Option Addr} {sl29 : Array (Option Value)} {oc29 kV29 dc29 pm29 cd29 ct29 : Value}
    (a29 : PySem.W.nsIn K mainGlobals "_law_between" = some (some (.ref f29))) (l29 : K.lookup f29 = some ⟨oc29, od29, .func (PySem.W.fnOf "_law_between" "_law_between" (defArgs s_law_between) (defBody s_law_between) (defScope s_law_between) .none kV29 dc29 pm29 an29 cd29 ct29), sl29⟩) (c29 : PySem.W.codeIn K cd29 "_law_between" = true) (k29 : PySem.W.keepIn K (.ref f29) = true)
    {f30 : Addr} {od30 an30 : Option Addr} {sl30 : Array (Option Value)} {oc30 kV30 dc30 pm30 cd30 ct30 : Value}
    (a30 : PySem.W.nsIn K mainGlobals "_law_over" = some (some (.ref f30))) (l30 : K.lookup f30 = some ⟨oc30, od30, .func (PySem.W.fnOf "_law_over" "_law_over" (defArgs s_law_over) (defBody s_law_over) (defScope s_law_over) .none kV30 dc30 pm30 an30 cd30 ct30), sl30⟩) (c30 : PySem.W.codeIn K cd30 "_law_over" = true) (k30 : PySem.W.keepIn K (.ref f30) = true)
    {f31 : Addr} {od31 an31 : Option Addr} {sl31 : Array (Option Value)} {oc31 kV31 dc31 pm31 cd31 ct31 : Value}
    (a31 : PySem.W.nsIn K mainGlobals "_law_sign" = some (some (.ref f31))) (l31 : K.lookup f31 = some ⟨oc31, od31, .func (PySem.W.fnOf "_law_sign" "_law_sign" (defArgs s_law_sign) (defBody s_law_sign) (defScope s_law_sign) .none kV31 dc31 pm31 an31 cd31 ct31), sl31⟩) (c31 : PySem.W.codeIn K cd31 "_law_sign" = true) (k31 : PySem.W.keepIn K (.ref f31) = true)
    {f32 : Addr} {od32 an32 : Option Addr} {sl32 : Array (Option Value)} {oc32 kV32 dc32 pm32 cd32 ct32 : Value}
    (a32 : PySem.W.nsIn K mainGlobals "_law_told" = some (some (.ref f32))) (l32 : K.lookup f32 = some ⟨oc32, od32, .func (PySem.W.fnOf "_law_told" "_law_told" (defArgs s_law_told) (defBody s_law_told) (defScope s_law_told) .none kV32 dc32 pm32 an32 cd32 ct32), sl32⟩) (c32 : PySem.W.codeIn K cd32 "_law_told" = true) (k32 : PySem.W.keepIn K (.ref f32) = true)
    {f33 : Addr} {od33 an33 : Option Addr} {sl33 : Array (Option Value)} {oc33 kV33 dc33 pm33 cd33 ct33 : Value}
    (a33 : PySem.W.nsIn K mainGlobals "_law_plus" = some (some (.ref f33))) (l33 : K.lookup f33 = some ⟨oc33, od33, .func (PySem.W.fnOf "_law_plus" "_law_plus" (defArgs s_law_plus) (defBody s_law_plus) (defScope s_law_plus) .none kV33 dc33 pm33 an33 cd33 ct33), sl33⟩) (c33 : PySem.W.codeIn K cd33 "_law_plus" = true) (k33 : PySem.W.keepIn K (.ref f33) = true)
    {f34 : Addr} {od34 an34 : Option Addr} {sl34 : Array (Option Value)} {oc34 kV34 dc34 pm34 cd34 ct34 : Value}
    (a34 : PySem.W.nsIn K mainGlobals "_law_times" = some (some (.ref f34))) (l34 : K.lookup f34 = some ⟨oc34, od34, .func (PySem.W.fnOf "_law_times" "_law_times" (defArgs s_law_times) (defBody s_law_times) (defScope s_law_times) .none kV34 dc34 pm34 an34 cd34 ct34), sl34⟩) (c34 : PySem.W.codeIn K cd34 "_law_times" = true) (k34 : PySem.W.keepIn K (.ref f34) = true)
    {f35 : Addr} {od35 an35 : Option Addr} {sl35 : Array (Option Value)} {oc35 kV35 dc35 pm35 cd35 ct35 : Value}
    (a35 : PySem.W.nsIn K mainGlobals "_law_line" = some (some (.ref f35))) (l35 : K.lookup f35 = some ⟨oc35, od35, .func (PySem.W.fnOf "_law_line" "_law_line" (defArgs s_law_line) (defBody s_law_line) (defScope s_law_line) .none kV35 dc35 pm35 an35 cd35 ct35), sl35⟩) (c35 : PySem.W.codeIn K cd35 "_law_line" = true) (k35 : PySem.W.keepIn K (.ref f35) = true)
    {f36 : Addr} {od36 an36 : Option Addr} {sl36 : Array (Option Value)} {oc36 kV36 dc36 pm36 cd36 ct36 : Value}
    (a36 : PySem.W.nsIn K mainGlobals "_law_normed" = some (some (.ref f36))) (l36 : K.lookup f36 = some ⟨oc36, od36, .func (PySem.W.fnOf "_law_normed" "_law_normed" (defArgs s_law_normed) (defBody s_law_normed) (defScope s_law_normed) .none kV36 dc36 pm36 an36 cd36 ct36), sl36⟩) (c36 : PySem.W.codeIn K cd36 "_law_normed" = true) (k36 : PySem.W.keepIn K (.ref f36) = true)
    {f37 : Addr} {od37 an37 : Option Addr} {sl37 : Array (Option Value)} {oc37 kV37 dc37 pm37 cd37 ct37 : Value}
    (a37 : PySem.W.nsIn K mainGlobals "_law_alexander" = some (some (.ref f37))) (l37 : K.lookup f37 = some ⟨oc37, od37, .func (PySem.W.fnOf "_law_alexander" "_law_alexander" (defArgs s_law_alexander) (defBody s_law_alexander) (defScope s_law_alexander) .none kV37 dc37 pm37 an37 cd37 ct37), sl37⟩) (c37 : PySem.W.codeIn K cd37 "_law_alexander" = true) (k37 : PySem.W.keepIn K (.ref f37) = true)
    {f38 : Addr} {od38 an38 : Option Addr} {sl38 : Array (Option Value)} {oc38 kV38 dc38 pm38 cd38 ct38 : Value}
    (a38 : PySem.W.nsIn K mainGlobals "law" = some (some (.ref f38))) (l38 : K.lookup f38 = some ⟨oc38, od38, .func (PySem.W.fnOf "law" "law" (defArgs s_law) (defBody s_law) (defScope s_law) .none kV38 dc38 pm38 an38 cd38 ct38), sl38⟩) (c38 : PySem.W.codeIn K cd38 "law" = true) (k38 : PySem.W.keepIn K (.ref f38) = true)
    {C : Addr} (aC : PySem.W.nsIn K mainGlobals "Grid" = some (some (.ref C)))
    {fI : Addr} {odI anI : Option Addr} {slI : Array (Option Value)} {ocI kVI dcI pmI cdI ctI : Value}
    (aI : PySem.W.findIn K (.ref C) "__init__" = some (some (.ref fI))) (lI : K.lookup fI = some ⟨ocI, odI, .func (PySem.W.fnOf "__init__" "Grid.__init__" (defArgs s_init) (defBody s_init) (defScope s_init) .none kVI dcI pmI anI cdI ctI), slI⟩) (cI : PySem.W.codeIn K cdI "Grid.__init__" = true) (kI : PySem.W.keepIn K (.ref fI) = true)
    (iI : PySem.W.isFn K (.ref fI) = true)
    {fL : Addr} {odL anL : Option Addr} {slL : Array (Option Value)} {ocL kVL dcL pmL cdL ctL : Value}
    (aL : PySem.W.findIn K (.ref C) "__len__" = some (some (.ref fL))) (lL : K.lookup fL = some ⟨ocL, odL, .func (PySem.W.fnOf "__len__" "Grid.__len__" (defArgs s_len) (defBody s_len) (defScope s_len) .none kVL dcL pmL anL cdL ctL), slL⟩) (cL : PySem.W.codeIn K cdL "Grid.__len__" = true) (kL : PySem.W.keepIn K (.ref fL) = true)
    (iL : PySem.W.isFn K (.ref fL) = true)
    {fP : Addr} {odP anP : Option Addr} {slP : Array (Option Value)} {ocP kVP dcP pmP cdP ctP : Value}
    (aP : PySem.W.findIn K (.ref C) "pair" = some (some (.ref fP))) (lP : K.lookup fP = some ⟨ocP, odP, .func (PySem.W.fnOf "pair" "Grid.pair" (defArgs s_pair) (defBody s_pair) (defScope s_pair) .none kVP dcP pmP anP cdP ctP), slP⟩) (cP : PySem.W.codeIn K cdP "Grid.pair" = true) (kP : PySem.W.keepIn K (.ref fP) = true)
    (iP : PySem.W.isFn K (.ref fP) = true)
    (pg : PySem.W.plainGet K C Str.empty = true)
    (hd : PySem.W.hasDictIn K C = true)
    (po : PySem.W.plainOver K C = true)
    (sa : PySem.W.findIn K (.ref C) "__setattr__" = some (some (.builtin "object.__setattr__")))
    (mk : PySem.W.makesIn K C = true)
    (kc : PySem.W.keepIn K (.ref C) = true)
    (nX : PySem.W.findIn K (.ref C) "xs" = some none)
    (nO : PySem.W.findIn K (.ref C) "ohs" = some none)
    (z_range : PySem.W.nsIn K mainGlobals "range" = some none)
    (z_enumerate : PySem.W.nsIn K mainGlobals "enumerate" = some none)
    (z_zip : PySem.W.nsIn K mainGlobals "zip" = some none)
    (z_len : PySem.W.nsIn K mainGlobals "len" = some none)
    (z_min : PySem.W.nsIn K mainGlobals "min" = some none)
    (z_max : PySem.W.nsIn K mainGlobals "max" = some none)
    (z_abs : PySem.W.nsIn K mainGlobals "abs" = some none)
    (z_all : PySem.W.nsIn K mainGlobals "all" = some none)
    (z_sorted : PySem.W.nsIn K mainGlobals "sorted" = some none)
    (z_repr : PySem.W.nsIn K mainGlobals "repr" = some none)
    (z_isinstance : PySem.W.nsIn K mainGlobals "isinstance" = some none)
    (z_int : PySem.W.nsIn K mainGlobals "int" = some none)
    (z_tuple : PySem.W.nsIn K mainGlobals "tuple" = some none)
    (z_list : PySem.W.nsIn K mainGlobals "list" = some none)
    (z_bool : PySem.W.nsIn K mainGlobals "bool" = some none)
    {tl : Tok} (ls : PySem.W.nsIn K mainGlobals "LEAST_SIZE" = some (some (.int 2 tl))) :
    Tx K mg ∧ ∃ fd : FuncData, Fun K "law" "law" s_law fa fd ∧ ∀ (s : Shared) (u : Value), BindsTo s fd ⟨[u], []⟩ [("_law_script", u)] := by
  have e := hfa.symm.trans (PySem.W.mg_of X G a38)
  cases e
  refine ⟨?_, _, fun_mk l38 c38 k38, fun s u => .of_eq rfl⟩
  exact
    { range := PySem.W.mg_none_of X G z_range,
      enumerate := PySem.W.mg_none_of X G z_enumerate,
      zip := PySem.W.mg_none_of X G z_zip,
      len := PySem.W.mg_none_of X G z_len,
      min := PySem.W.mg_none_of X G z_min,
      max := PySem.W.mg_none_of X G z_max,
      abs := PySem.W.mg_none_of X G z_abs,
      all := PySem.W.mg_none_of X G z_all,
      sorted := PySem.W.mg_none_of X G z_sorted,
      repr := PySem.W.mg_none_of X G z_repr,
      isinstance := PySem.W.mg_none_of X G z_isinstance,
      int := PySem.W.mg_none_of X G z_int,
      tuple := PySem.W.mg_none_of X G z_tuple,
      list := PySem.W.mg_none_of X G z_list,
      bool := PySem.W.mg_none_of X G z_bool,
      LEAST_SIZE := ⟨tl, PySem.W.mg_of X G ls⟩,
      d_stands_between := df_mk X G a0 l0 c0 k0 (fun _ _ _ _ _ _ us hl => match us, hl with | [_, _, _], _ => rfl),
      d_sign_of := df_mk X G a1 l1 c1 k1 (fun _ _ _ _ _ _ us hl => match us, hl with | [_, _, _], _ => rfl),
      d_passed := df_mk X G a2 l2 c2 k2 (fun _ _ _ _ _ _ us hl => match us, hl with | [_, _, _, _], _ => rfl),
      d_lines_of := df_mk X G a3 l3 c3 k3 (fun _ _ _ _ _ _ us hl => match us, hl with | [_], _ => rfl),
      d_trimmed := df_mk X G a4 l4 c4 k4 (fun _ _ _ _ _ _ us hl => match us, hl with | [_], _ => rfl),
      d_less := df_mk X G a5 l5 c5 k5 (fun _ _ _ _ _ _ us hl => match us, hl with | [_, _], _ => rfl),
      d_product := df_mk X G a6 l6 c6 k6 (fun _ _ _ _ _ _ us hl => match us, hl with | [_, _], _ => rfl),
      d_divided := df_mk X G a7 l7 c7 k7 (fun _ _ _ _ _ _ us hl => match us, hl with | [_, _], _ => rfl),
      d_with_pivot := df_mk X G a8 l8 c8 k8 (fun _ _ _ _ _ _ us hl => match us, hl with | [_, _], _ => rfl),
      d_step := df_mk X G a9 l9 c9 k9 (fun _ _ _ _ _ _ us hl => match us, hl with | [_, _, _], _ => rfl),
      d_determinant := df_mk X G a10 l10 c10 k10 (fun _ _ _ _ _ _ us hl => match us, hl with | [_], _ => rfl),
      d_series_of := df_mk X G a11 l11 c11 k11 (fun _ _ _ _ _ _ us hl => match us, hl with | [_], _ => rfl),
      d_series_plus := df_mk X G a12 l12 c12 k12 (fun _ _ _ _ _ _ us hl => match us, hl with | [_, _], _ => rfl),
      d_series_times := df_mk X G a13 l13 c13 k13 (fun _ _ _ _ _ _ us hl => match us, hl with | [_, _], _ => rfl),
      d_line_series := df_mk X G a14 l14 c14 k14 (fun _ _ _ _ _ _ us hl => match us, hl with | [_, _], _ => rfl),
      d_least_exponent := df_mk X G a15 l15 c15 k15 (fun _ _ _ _ _ _ us hl => match us, hl with | [_], _ => rfl),
      d_polynomial := df_mk X G a16 l16 c16 k16 (fun _ _ _ _ _ _ us hl => match us, hl with | [_, _], _ => rfl),
      d_polynomials := df_mk X G a17 l17 c17 k17 (fun _ _ _ _ _ _ us hl => match us, hl with | [_], _ => rfl),
      d_made_plain := df_mk X G a18 l18 c18 k18 (fun _ _ _ _ _ _ us hl => match us, hl with | [_], _ => rfl),
      d_alexander := df_mk X G a19 l19 c19 k19 (fun _ _ _ _ _ _ us hl => match us, hl with | [_], _ => rfl),
      d_is_integer := df_mk X G a20 l20 c20 k20 (fun _ _ _ _ _ _ us hl => match us, hl with | [_], _ => rfl),
      d_is_place_below := df_mk X G a21 l21 c21 k21 (fun _ _ _ _ _ _ us hl => match us, hl with | [_, _], _ => rfl),
      d_is_rows := df_mk X G a22 l22 c22 k22 (fun _ _ _ _ _ _ us hl => match us, hl with | [_, _], _ => rfl),
      d_is_pair_of_grid := df_mk X G a23 l23 c23 k23 (fun _ _ _ _ _ _ us hl => match us, hl with | [_, _], _ => rfl),
      d_law_cell := df_mk X G a24 l24 c24 k24 (fun _ _ _ _ _ _ us hl => match us, hl with | [_, _], _ => rfl),
      d_law_draws := df_mk X G a25 l25 c25 k25 (fun _ _ _ _ _ _ us hl => match us, hl with | [_, _], _ => rfl),
      d_law_mixed_row := df_mk X G a26 l26 c26 k26 (fun _ _ _ _ _ _ us hl => match us, hl with | [_, _], _ => rfl),
      d_law_grid := df_mk X G a27 l27 c27 k27 (fun _ _ _ _ _ _ us hl => match us, hl with | [_, _, _], _ => rfl),
      d_law_columns := df_mk X G a28 l28 c28 k28 (fun _ _ _ _ _ _ us hl => match us, hl with | [_, _], _ => rfl),
      d_law_between := df_mk X G a29 l29 c29 k29 (fun _ _ _ _ _ _ us hl => match us, hl with | [_, _, _], _ => rfl),
      d_law_over := df_mk X G a30 l30 c30 k30 (fun _ _ _ _ _ _ us hl => match us, hl with | [_, _], _ => rfl),
      d_law_sign := df_mk X G a31 l31 c31 k31 (fun _ _ _ _ _ _ us hl => match us, hl with | [_, _, _], _ => rfl),
      d_law_told := df_mk X G a32 l32 c32 k32 (fun _ _ _ _ _ _ us hl => match us, hl with | [_], _ => rfl),
      d_law_plus := df_mk X G a33 l33 c33 k33 (fun _ _ _ _ _ _ us hl => match us, hl with | [_, _], _ => rfl),
      d_law_times := df_mk X G a34 l34 c34 k34 (fun _ _ _ _ _ _ us hl => match us, hl with | [_, _], _ => rfl),
      d_law_line := df_mk X G a35 l35 c35 k35 (fun _ _ _ _ _ _ us hl => match us, hl with | [_, _], _ => rfl),
      d_law_normed := df_mk X G a36 l36 c36 k36 (fun _ _ _ _ _ _ us hl => match us, hl with | [_], _ => rfl),
      d_law_alexander := df_mk X G a37 l37 c37 k37 (fun _ _ _ _ _ _ us hl => match us, hl with | [_], _ => rfl),
      d_law := df_mk X G a38 l38 c38 k38 (fun _ _ _ _ _ _ us hl => match us, hl with | [_], _ => rfl),
      gr := ⟨C, fI, fL, fP, { cl := ⟨pg, hd, po, sa⟩, mgC := PySem.W.mg_of X G aC, mkI := ⟨mk, aI, iI, kc⟩, nX := nX, nO := nO, ln := ⟨aL, iL, kL⟩, pr := ⟨aP, iP, kP⟩, dI := ⟨_, fun_mk lI cI kI, (fun_mk lI cI kI).binds (fun _ _ _ _ _ _ us hl => match us, hl with | [_, _, _], _ => rfl)⟩, dL := ⟨_, fun_mk lL cL kL, (fun_mk lL cL kL).binds (fun _ _ _ _ _ _ us hl => match us, hl with | [_], _ => rfl)⟩, dP := ⟨_, fun_mk lP cP kP, (fun_mk lP cP kP).binds (fun _ _ _ _ _ _ us hl => match us, hl with | [_], _ => rfl)⟩ }⟩ }
end GK
set_option linter.all false
set_option maxRecDepth 100000
set_option maxHeartbeats 40000000
/-! GDet: determinants by the last row; the identities that the elimination rests on, sizes up to five. -/
namespace GM
abbrev MI := Nat → Nat → Int
/-- rows: the last one first -/
def mn (A : MI) : List Nat → List Int → Int
  | [], _ => 1
  | r :: rs, S => (S.map fun c => sgU (S.erase c) c * mn A rs (S.erase c) * A r c.toNat).sum
def dt1 (A : MI) : Int := mn A [0] [0]
def dt2 (A : MI) : Int := mn A [1, 0] [0, 1]
def dt3 (A : MI) : Int := mn A [2, 1, 0] [0, 1, 2]
def dt4 (A : MI) : Int := mn A [3, 2, 1, 0] [0, 1, 2, 3]
def dt5 (A : MI) : Int := mn A [4, 3, 2, 1, 0] [0, 1, 2, 3, 4]
theorem dt1_eq (A : MI) : dt1 A = A 0 0 := by
  simp [dt1, mn, sgU]
theorem dt2_eq (A : MI) : dt2 A = A 0 0 * A 1 1 - A 0 1 * A 1 0 := by
  simp [dt2, mn, sgU, List.erase]
  grind
theorem dt3_eq (A : MI) : dt3 A = A 0 0 * (A 1 1 * A 2 2 - A 1 2 * A 2 1) - A 0 1 * (A 1 0 * A 2 2 - A 1 2 * A 2 0) + A 0 2 * (A 1 0 * A 2 1 - A 1 1 * A 2 0) := by
  simp [dt3, mn, sgU, List.erase]
  grind
theorem dt4_eq (A : MI) : dt4 A = 0 - ((0 - (A 0 3) * A 1 2 + (A 0 2) * A 1 3) * A 2 1 - (0 - (A 0 3) * A 1 1 + (A 0 1) * A 1 3) * A 2 2 + (0 - (A 0 2) * A 1 1 + (A 0 1) * A 1 2) * A 2 3) * A 3 0 + ((0 - (A 0 3) * A 1 2 + (A 0 2) * A 1 3) * A 2 0 - (0 - (A 0 3) * A 1 0 + (A 0 0) * A 1 3) * A 2 2 + (0 - (A 0 2) * A 1 0 + (A 0 0) * A 1 2) * A 2 3) * A 3 1 - ((0 - (A 0 3) * A 1 1 + (A 0 1) * A 1 3) * A 2 0 - (0 - (A 0 3) * A 1 0 + (A 0 0) * A 1 3) * A 2 1 + (0 - (A 0 1) * A 1 0 + (A 0 0) * A 1 1) * A 2 3) * A 3 2 + ((0 - (A 0 2) * A 1 1 + (A 0 1) * A 1 2) * A 2 0 - (0 - (A 0 2) * A 1 0 + (A 0 0) * A 1 2) * A 2 1 + (0 - (A 0 1) * A 1 0 + (A 0 0) * A 1 1) * A 2 2) * A 3 3 := by
  simp [dt4, mn, sgU, List.erase]
  try grind
theorem dt5_eq (A : MI) : dt5 A = (0 - ((0 - (A 0 4) * A 1 3 + (A 0 3) * A 1 4) * A 2 2 - (0 - (A 0 4) * A 1 2 + (A 0 2) * A 1 4) * A 2 3 + (0 - (A 0 3) * A 1 2 + (A 0 2) * A 1 3) * A 2 4) * A 3 1 + ((0 - (A 0 4) * A 1 3 + (A 0 3) * A 1 4) * A 2 1 - (0 - (A 0 4) * A 1 1 + (A 0 1) * A 1 4) * A 2 3 + (0 - (A 0 3) * A 1 1 + (A 0 1) * A 1 3) * A 2 4) * A 3 2 - ((0 - (A 0 4) * A 1 2 + (A 0 2) * A 1 4) * A 2 1 - (0 - (A 0 4) * A 1 1 + (A 0 1) * A 1 4) * A 2 2 + (0 - (A 0 2) * A 1 1 + (A 0 1) * A 1 2) * A 2 4) * A 3 3 + ((0 - (A 0 3) * A 1 2 + (A 0 2) * A 1 3) * A 2 1 - (0 - (A 0 3) * A 1 1 + (A 0 1) * A 1 3) * A 2 2 + (0 - (A 0 2) * A 1 1 + (A 0 1) * A 1 2) * A 2 3) * A 3 4) * A 4 0 - (0 - ((0 - (A 0 4) * A 1 3 + (A 0 3) * A 1 4) * A 2 2 - (0 - (A 0 4) * A 1 2 + (A 0 2) * A 1 4) * A 2 3 + (0 - (A 0 3) * A 1 2 + (A 0 2) * A 1 3) * A 2 4) * A 3 0 + ((0 - (A 0 4) * A 1 3 + (A 0 3) * A 1 4) * A 2 0 - (0 - (A 0 4) * A 1 0 + (A 0 0) * A 1 4) * A 2 3 + (0 - (A 0 3) * A 1 0 + (A 0 0) * A 1 3) * A 2 4) * A 3 2 - ((0 - (A 0 4) * A 1 2 + (A 0 2) * A 1 4) * A 2 0 - (0 - (A 0 4) * A 1 0 + (A 0 0) * A 1 4) * A 2 2 + (0 - (A 0 2) * A 1 0 + (A 0 0) * A 1 2) * A 2 4) * A 3 3 + ((0 - (A 0 3) * A 1 2 + (A 0 2) * A 1 3) * A 2 0 - (0 - (A 0 3) * A 1 0 + (A 0 0) * A 1 3) * A 2 2 + (0 - (A 0 2) * A 1 0 + (A 0 0) * A 1 2) * A 2 3) * A 3 4) * A 4 1 + (0 - ((0 - (A 0 4) * A 1 3 + (A 0 3) * A 1 4) * A 2 1 - (0 - (A 0 4) * A 1 1 + (A 0 1) * A 1 4) * A 2 3 + (0 - (A 0 3) * A 1 1 + (A 0 1) * A 1 3) * A 2 4) * A 3 0 + ((0 - (A 0 4) * A 1 3 + (A 0 3) * A 1 4) * A 2 0 - (0 - (A 0 4) * A 1 0 + (A 0 0) * A 1 4) * A 2 3 + (0 - (A 0 3) * A 1 0 + (A 0 0) * A 1 3) * A 2 4) * A 3 1 - ((0 - (A 0 4) * A 1 1 + (A 0 1) * A 1 4) * A 2 0 - (0 - (A 0 4) * A 1 0 + (A 0 0) * A 1 4) * A 2 1 + (0 - (A 0 1) * A 1 0 + (A 0 0) * A 1 1) * A 2 4) * A 3 3 + ((0 - (A 0 3) * A 1 1 + (A 0 1) * A 1 3) * A 2 0 - (0 - (A 0 3) * A 1 0 + (A 0 0) * A 1 3) * A 2 1 + (0 - (A 0 1) * A 1 0 + (A 0 0) * A 1 1) * A 2 3) * A 3 4) * A 4 2 - (0 - ((0 - (A 0 4) * A 1 2 + (A 0 2) * A 1 4) * A 2 1 - (0 - (A 0 4) * A 1 1 + (A 0 1) * A 1 4) * A 2 2 + (0 - (A 0 2) * A 1 1 + (A 0 1) * A 1 2) * A 2 4) * A 3 0 + ((0 - (A 0 4) * A 1 2 + (A 0 2) * A 1 4) * A 2 0 - (0 - (A 0 4) * A 1 0 + (A 0 0) * A 1 4) * A 2 2 + (0 - (A 0 2) * A 1 0 + (A 0 0) * A 1 2) * A 2 4) * A 3 1 - ((0 - (A 0 4) * A 1 1 + (A 0 1) * A 1 4) * A 2 0 - (0 - (A 0 4) * A 1 0 + (A 0 0) * A 1 4) * A 2 1 + (0 - (A 0 1) * A 1 0 + (A 0 0) * A 1 1) * A 2 4) * A 3 2 + ((0 - (A 0 2) * A 1 1 + (A 0 1) * A 1 2) * A 2 0 - (0 - (A 0 2) * A 1 0 + (A 0 0) * A 1 2) * A 2 1 + (0 - (A 0 1) * A 1 0 + (A 0 0) * A 1 1) * A 2 2) * A 3 4) * A 4 3 + (0 - ((0 - (A 0 3) * A 1 2 + (A 0 2) * A 1 3) * A 2 1 - (0 - (A 0 3) * A 1 1 + (A 0 1) * A 1 3) * A 2 2 + (0 - (A 0 2) * A 1 1 + (A 0 1) * A 1 2) * A 2 3) * A 3 0 + ((0 - (A 0 3) * A 1 2 + (A 0 2) * A 1 3) * A 2 0 - (0 - (A 0 3) * A 1 0 + (A 0 0) * A 1 3) * A 2 2 + (0 - (A 0 2) * A 1 0 + (A 0 0) * A 1 2) * A 2 3) * A 3 1 - ((0 - (A 0 3) * A 1 1 + (A 0 1) * A 1 3) * A 2 0 - (0 - (A 0 3) * A 1 0 + (A 0 0) * A 1 3) * A 2 1 + (0 - (A 0 1) * A 1 0 + (A 0 0) * A 1 1) * A 2 3) * A 3 2 + ((0 - (A 0 2) * A 1 1 + (A 0 1) * A 1 2) * A 2 0 - (0 - (A 0 2) * A 1 0 + (A 0 0) * A 1 2) * A 2 1 + (0 - (A 0 1) * A 1 0 + (A 0 0) * A 1 1) * A 2 2) * A 3 3) * A 4 4 := by
  simp [dt5, mn, sgU, List.erase]
  try grind
end GM
set_option linter.all false
set_option maxRecDepth 100000
set_option maxHeartbeats 400000000
namespace GM
def sb (A : MI) (a i j : Nat) : MI := fun p q => A (if p = a then i else p) (if q = a then j else q)
theorem syl0 (A : MI) (i j : Nat) : dt1 (sb A 0 0 0) * dt1 (sb A 0 i j) - dt1 (sb A 0 i 0) * dt1 (sb A 0 0 j) = 1 * dt2 (sb A 1 i j) := by
  simp only [dt1_eq, dt2_eq, sb]
  simp
  try grind
theorem syl1 (A : MI) (i j : Nat) : dt2 (sb A 1 1 1) * dt2 (sb A 1 i j) - dt2 (sb A 1 i 1) * dt2 (sb A 1 1 j) = dt1 A * dt3 (sb A 2 i j) := by
  simp only [dt1_eq, dt2_eq, dt3_eq, sb]
  simp
  try grind
theorem syl2 (A : MI) (i j : Nat) : dt3 (sb A 2 2 2) * dt3 (sb A 2 i j) - dt3 (sb A 2 i 2) * dt3 (sb A 2 2 j) = dt2 A * dt4 (sb A 3 i j) := by
  simp only [dt2_eq, dt3_eq, dt4_eq, sb]
  simp
  try grind
theorem syl3 (A : MI) (i j : Nat) : dt4 (sb A 3 3 3) * dt4 (sb A 3 i j) - dt4 (sb A 3 i 3) * dt4 (sb A 3 3 j) = dt3 A * dt5 (sb A 4 i j) := by
  simp only [dt3_eq, dt4_eq, dt5_eq, sb]
  simp
  try grind
end GM
set_option linter.all false
set_option maxRecDepth 100000
set_option maxHeartbeats 400000000
/-! GSwp: rows swapped. -/
namespace GM
def swr (A : MI) (a r : Nat) : MI := fun p q => A (if p = r then a else if p = a then r else p) q
theorem swp2_01 (A : MI) : dt2 (swr A 0 1) = - dt2 A := by
  simp only [dt2_eq, swr]
  simp
  try grind
theorem swp3_01 (A : MI) : dt3 (swr A 0 1) = - dt3 A := by
  simp only [dt3_eq, swr]
  simp
  try grind
theorem swp3_02 (A : MI) : dt3 (swr A 0 2) = - dt3 A := by
  simp only [dt3_eq, swr]
  simp
  try grind
theorem swp3_12 (A : MI) : dt3 (swr A 1 2) = - dt3 A := by
  simp only [dt3_eq, swr]
  simp
  try grind
theorem swp4_01 (A : MI) : dt4 (swr A 0 1) = - dt4 A := by
  simp only [dt4_eq, swr]
  simp
  try grind
theorem swp4_02 (A : MI) : dt4 (swr A 0 2) = - dt4 A := by
  simp only [dt4_eq, swr]
  simp
  try grind
theorem swp4_03 (A : MI) : dt4 (swr A 0 3) = - dt4 A := by
  simp only [dt4_eq, swr]
  simp
  try grind
theorem swp4_12 (A : MI) : dt4 (swr A 1 2) = - dt4 A := by
  simp only [dt4_eq, swr]
  simp
  try grind
theorem swp4_13 (A : MI) : dt4 (swr A 1 3) = - dt4 A := by
  simp only [dt4_eq, swr]
  simp
  try grind
theorem swp4_23 (A : MI) : dt4 (swr A 2 3) = - dt4 A := by
  simp only [dt4_eq, swr]
  simp
  try grind
theorem swp5_01 (A : MI) : dt5 (swr A 0 1) = - dt5 A := by
  simp only [dt5_eq, swr]
  simp
  try grind
theorem swp5_02 (A : MI) : dt5 (swr A 0 2) = - dt5 A := by
  simp only [dt5_eq, swr]
  simp
  try grind
theorem swp5_03 (A : MI) : dt5 (swr A 0 3) = - dt5 A := by
  simp only [dt5_eq, swr]
  simp
  try grind
theorem swp5_04 (A : MI) : dt5 (swr A 0 4) = - dt5 A := by
  simp only [dt5_eq, swr]
  simp
  try grind
theorem swp5_12 (A : MI) : dt5 (swr A 1 2) = - dt5 A := by
  simp only [dt5_eq, swr]
  simp
  try grind
theorem swp5_13 (A : MI) : dt5 (swr A 1 3) = - dt5 A := by
  simp only [dt5_eq, swr]
  simp
  try grind
theorem swp5_14 (A : MI) : dt5 (swr A 1 4) = - dt5 A := by
  simp only [dt5_eq, swr]
  simp
  try grind
theorem swp5_23 (A : MI) : dt5 (swr A 2 3) = - dt5 A := by
  simp only [dt5_eq, swr]
  simp
  try grind
theorem swp5_24 (A : MI) : dt5 (swr A 2 4) = - dt5 A := by
  simp only [dt5_eq, swr]
  simp
  try grind
theorem swp5_34 (A : MI) : dt5 (swr A 3 4) = - dt5 A := by
  simp only [dt5_eq, swr]
  simp
  try grind
end GM
set_option linter.all false
set_option maxRecDepth 100000
set_option maxHeartbeats 400000000
/-! GKer: a column that hangs on the others. -/
namespace GM
/-- without row r and column a -/
def cut (A : MI) (r a : Nat) : MI := fun p q => A (if p < r then p else p + 1) (if q < a then q else q + 1)
theorem ker2_0 (A : MI) (x0 x1 : Int) : x0 * dt2 A = dt1 (cut A 0 0) * (A 0 0 * x0 + A 0 1 * x1) - dt1 (cut A 1 0) * (A 1 0 * x0 + A 1 1 * x1) := by
  simp only [dt2_eq, dt1_eq, cut]
  simp
  try grind
theorem ker3_0 (A : MI) (x0 x1 x2 : Int) : x0 * dt3 A = dt2 (cut A 0 0) * (A 0 0 * x0 + A 0 1 * x1 + A 0 2 * x2) - dt2 (cut A 1 0) * (A 1 0 * x0 + A 1 1 * x1 + A 1 2 * x2) + dt2 (cut A 2 0) * (A 2 0 * x0 + A 2 1 * x1 + A 2 2 * x2) := by
  simp only [dt3_eq, dt2_eq, cut]
  simp
  try grind
theorem ker3_1 (A : MI) (x0 x1 x2 : Int) : x1 * dt3 A = 0 - dt2 (cut A 0 1) * (A 0 0 * x0 + A 0 1 * x1 + A 0 2 * x2) + dt2 (cut A 1 1) * (A 1 0 * x0 + A 1 1 * x1 + A 1 2 * x2) - dt2 (cut A 2 1) * (A 2 0 * x0 + A 2 1 * x1 + A 2 2 * x2) := by
  simp only [dt3_eq, dt2_eq, cut]
  simp
  try grind
theorem ker4_0 (A : MI) (x0 x1 x2 x3 : Int) : x0 * dt4 A = dt3 (cut A 0 0) * (A 0 0 * x0 + A 0 1 * x1 + A 0 2 * x2 + A 0 3 * x3) - dt3 (cut A 1 0) * (A 1 0 * x0 + A 1 1 * x1 + A 1 2 * x2 + A 1 3 * x3) + dt3 (cut A 2 0) * (A 2 0 * x0 + A 2 1 * x1 + A 2 2 * x2 + A 2 3 * x3) - dt3 (cut A 3 0) * (A 3 0 * x0 + A 3 1 * x1 + A 3 2 * x2 + A 3 3 * x3) := by
  simp only [dt4_eq, dt3_eq, cut]
  simp
  try grind
theorem ker4_1 (A : MI) (x0 x1 x2 x3 : Int) : x1 * dt4 A = 0 - dt3 (cut A 0 1) * (A 0 0 * x0 + A 0 1 * x1 + A 0 2 * x2 + A 0 3 * x3) + dt3 (cut A 1 1) * (A 1 0 * x0 + A 1 1 * x1 + A 1 2 * x2 + A 1 3 * x3) - dt3 (cut A 2 1) * (A 2 0 * x0 + A 2 1 * x1 + A 2 2 * x2 + A 2 3 * x3) + dt3 (cut A 3 1) * (A 3 0 * x0 + A 3 1 * x1 + A 3 2 * x2 + A 3 3 * x3) := by
  simp only [dt4_eq, dt3_eq, cut]
  simp
  try grind
theorem ker4_2 (A : MI) (x0 x1 x2 x3 : Int) : x2 * dt4 A = dt3 (cut A 0 2) * (A 0 0 * x0 + A 0 1 * x1 + A 0 2 * x2 + A 0 3 * x3) - dt3 (cut A 1 2) * (A 1 0 * x0 + A 1 1 * x1 + A 1 2 * x2 + A 1 3 * x3) + dt3 (cut A 2 2) * (A 2 0 * x0 + A 2 1 * x1 + A 2 2 * x2 + A 2 3 * x3) - dt3 (cut A 3 2) * (A 3 0 * x0 + A 3 1 * x1 + A 3 2 * x2 + A 3 3 * x3) := by
  simp only [dt4_eq, dt3_eq, cut]
  simp
  try grind
theorem ker5_0 (A : MI) (x0 x1 x2 x3 x4 : Int) : x0 * dt5 A = dt4 (cut A 0 0) * (A 0 0 * x0 + A 0 1 * x1 + A 0 2 * x2 + A 0 3 * x3 + A 0 4 * x4) - dt4 (cut A 1 0) * (A 1 0 * x0 + A 1 1 * x1 + A 1 2 * x2 + A 1 3 * x3 + A 1 4 * x4) + dt4 (cut A 2 0) * (A 2 0 * x0 + A 2 1 * x1 + A 2 2 * x2 + A 2 3 * x3 + A 2 4 * x4) - dt4 (cut A 3 0) * (A 3 0 * x0 + A 3 1 * x1 + A 3 2 * x2 + A 3 3 * x3 + A 3 4 * x4) + dt4 (cut A 4 0) * (A 4 0 * x0 + A 4 1 * x1 + A 4 2 * x2 + A 4 3 * x3 + A 4 4 * x4) := by
  simp only [dt5_eq, dt4_eq, cut]
  simp
  try grind
theorem ker5_1 (A : MI) (x0 x1 x2 x3 x4 : Int) : x1 * dt5 A = 0 - dt4 (cut A 0 1) * (A 0 0 * x0 + A 0 1 * x1 + A 0 2 * x2 + A 0 3 * x3 + A 0 4 * x4) + dt4 (cut A 1 1) * (A 1 0 * x0 + A 1 1 * x1 + A 1 2 * x2 + A 1 3 * x3 + A 1 4 * x4) - dt4 (cut A 2 1) * (A 2 0 * x0 + A 2 1 * x1 + A 2 2 * x2 + A 2 3 * x3 + A 2 4 * x4) + dt4 (cut A 3 1) * (A 3 0 * x0 + A 3 1 * x1 + A 3 2 * x2 + A 3 3 * x3 + A 3 4 * x4) - dt4 (cut A 4 1) * (A 4 0 * x0 + A 4 1 * x1 + A 4 2 * x2 + A 4 3 * x3 + A 4 4 * x4) := by
  simp only [dt5_eq, dt4_eq, cut]
  simp
  try grind
theorem ker5_2 (A : MI) (x0 x1 x2 x3 x4 : Int) : x2 * dt5 A = dt4 (cut A 0 2) * (A 0 0 * x0 + A 0 1 * x1 + A 0 2 * x2 + A 0 3 * x3 + A 0 4 * x4) - dt4 (cut A 1 2) * (A 1 0 * x0 + A 1 1 * x1 + A 1 2 * x2 + A 1 3 * x3 + A 1 4 * x4) + dt4 (cut A 2 2) * (A 2 0 * x0 + A 2 1 * x1 + A 2 2 * x2 + A 2 3 * x3 + A 2 4 * x4) - dt4 (cut A 3 2) * (A 3 0 * x0 + A 3 1 * x1 + A 3 2 * x2 + A 3 3 * x3 + A 3 4 * x4) + dt4 (cut A 4 2) * (A 4 0 * x0 + A 4 1 * x1 + A 4 2 * x2 + A 4 3 * x3 + A 4 4 * x4) := by
  simp only [dt5_eq, dt4_eq, cut]
  simp
  try grind
theorem ker5_3 (A : MI) (x0 x1 x2 x3 x4 : Int) : x3 * dt5 A = 0 - dt4 (cut A 0 3) * (A 0 0 * x0 + A 0 1 * x1 + A 0 2 * x2 + A 0 3 * x3 + A 0 4 * x4) + dt4 (cut A 1 3) * (A 1 0 * x0 + A 1 1 * x1 + A 1 2 * x2 + A 1 3 * x3 + A 1 4 * x4) - dt4 (cut A 2 3) * (A 2 0 * x0 + A 2 1 * x1 + A 2 2 * x2 + A 2 3 * x3 + A 2 4 * x4) + dt4 (cut A 3 3) * (A 3 0 * x0 + A 3 1 * x1 + A 3 2 * x2 + A 3 3 * x3 + A 3 4 * x4) - dt4 (cut A 4 3) * (A 4 0 * x0 + A 4 1 * x1 + A 4 2 * x2 + A 4 3 * x3 + A 4 4 * x4) := by
  simp only [dt5_eq, dt4_eq, cut]
  simp
  try grind
end GM
set_option linter.all false
/-! GNorm: sums of absolute coefficients; functions of N that are polynomials of bounded size. -/
namespace GM
def nP : List Int → Nat
  | [] => 0
  | c :: r => c.natAbs + nP r
theorem nP_mem : ∀ {p : List Int} {x : Int}, x ∈ p → x.natAbs ≤ nP p
  | c :: r, x, h => by
    rcases List.mem_cons.mp h with rfl | h
    · exact Nat.le_add_right _ _
    · exact Nat.le_trans (nP_mem h) (Nat.le_add_left _ _)
theorem nP_trim : ∀ p : List Int, nP (trim p) ≤ nP p
  | [] => Nat.le_refl _
  | c :: r => by
    have ih := nP_trim r
    unfold trim
    cases h : trim r with
    | nil =>
      by_cases hc : c = 0
      · simp [hc, nP]
      · simp [hc, nP]
    | cons d t =>
      rw [h] at ih
      show c.natAbs + nP (d :: t) ≤ c.natAbs + nP r
      omega
theorem nP_subP : ∀ p q : List Int, nP (subP p q) ≤ nP p + nP q
  | [], [] => by simp [subP, nP]
  | [], d :: q => by
    have := nP_subP [] q
    simp only [subP, nP] at this ⊢
    omega
  | c :: p, [] => by
    have := nP_subP p []
    simp only [subP, nP] at this ⊢
    omega
  | c :: p, d :: q => by
    have := nP_subP p q
    simp only [subP, nP] at this ⊢
    omega
theorem nP_smul (c : Int) : ∀ p : List Int, nP (smul c p) = c.natAbs * nP p
  | [] => by simp [smul, nP]
  | d :: p => by
    have := nP_smul c p
    unfold smul at this ⊢
    simp only [List.map_cons, nP, this, Int.natAbs_mul, Nat.mul_add]
theorem nP_addP (p q : List Int) : nP (addP p q) ≤ nP p + nP q := by
  unfold addP
  have := nP_subP p (smul (-1) q)
  rw [nP_smul] at this
  simpa using this
def pm : List Int → List Int → List Int
  | [], _ => []
  | c :: r, q => addP (smul c q) (0 :: pm r q)
theorem ev_pm : ∀ (p q : List Int) (N : Int), ev (pm p q) N = ev p N * ev q N
  | [], q, N => by simp [pm, ev]
  | c :: r, q, N => by
    show ev (addP (smul c q) (0 :: pm r q)) N = (c + N * ev r N) * ev q N
    rw [ev_addP, ev_smul, ev_cons, ev_pm r q N]
    grind
theorem pm_len : ∀ p q : List Int, (pm p q).length ≤ p.length + q.length
  | [], q => by simp [pm]
  | c :: r, q => by
    have := pm_len r q
    show (addP (smul c q) (0 :: pm r q)).length ≤ _
    rw [addP_len, smul_len, List.length_cons, List.length_cons]
    omega
theorem nP_pm : ∀ p q : List Int, nP (pm p q) ≤ nP p * nP q
  | [], q => by simp [pm, nP]
  | c :: r, q => by
    have h := nP_pm r q
    have h1 := nP_addP (smul c q) (0 :: pm r q)
    rw [nP_smul] at h1
    have h2 : nP (0 :: pm r q) = nP (pm r q) := by simp [nP]
    show nP (addP (smul c q) (0 :: pm r q)) ≤ (c.natAbs + nP r) * nP q
    rw [Nat.add_mul]
    omega
/-- f is a polynomial, of so many places, of so great a sum of coefficients -/
def Rp (l b : Nat) (f : Int → Int) : Prop := ∃ p, Tr p ∧ p.length ≤ l ∧ nP p ≤ b ∧ ∀ N, ev p N = f N
theorem rp_of {p : List Int} {l b : Nat} {f : Int → Int} (h1 : p.length ≤ l) (h2 : nP p ≤ b) (h3 : ∀ N, ev p N = f N) : Rp l b f :=
  ⟨trim p, tr_trim p, Nat.le_trans (trim_len p) h1, Nat.le_trans (nP_trim p) h2, fun N => by rw [ev_trim, h3]⟩
theorem Rp.mono {l b l' b' : Nat} {f : Int → Int} (h : Rp l b f) (h1 : l ≤ l') (h2 : b ≤ b') : Rp l' b' f := by
  obtain ⟨p, g1, g2, g3, g4⟩ := h
  exact ⟨p, g1, Nat.le_trans g2 h1, Nat.le_trans g3 h2, g4⟩
theorem Rp.mul {l b l' b' : Nat} {f g : Int → Int} (h : Rp l b f) (h' : Rp l' b' g) : Rp (l + l') (b * b') fun N => f N * g N := by
  obtain ⟨p, _, g2, g3, g4⟩ := h
  obtain ⟨q, _, k2, k3, k4⟩ := h'
  refine rp_of (p := pm p q) (Nat.le_trans (pm_len p q) (by omega)) (Nat.le_trans (nP_pm p q) (Nat.mul_le_mul g3 k3)) fun N => ?_
  rw [ev_pm, g4, k4]
theorem Rp.add {l b b' : Nat} {f g : Int → Int} (h : Rp l b f) (h' : Rp l b' g) : Rp l (b + b') fun N => f N + g N := by
  obtain ⟨p, _, g2, g3, g4⟩ := h
  obtain ⟨q, _, k2, k3, k4⟩ := h'
  refine rp_of (p := addP p q) (by rw [addP_len]; omega) (Nat.le_trans (nP_addP p q) (by omega)) fun N => ?_
  rw [ev_addP, g4, k4]
theorem Rp.smul {l b : Nat} {f : Int → Int} (c : Int) (h : Rp l b f) : Rp l (c.natAbs * b) fun N => c * f N := by
  obtain ⟨p, _, g2, g3, g4⟩ := h
  refine rp_of (p := GM.smul c p) (by rw [smul_len]; exact g2) (by rw [nP_smul]; exact Nat.mul_le_mul_left _ g3) fun N => ?_
  rw [ev_smul, g4]
theorem rp_one : Rp 1 1 fun _ => 1 := rp_of (p := [1]) (Nat.le_refl _) (by decide) fun N => by simp [ev]
theorem rp_zero (l : Nat) : Rp l 0 fun _ => 0 := rp_of (p := []) (Nat.zero_le _) (Nat.le_refl _) fun N => rfl
theorem rp_sum {α : Type} {l b : Nat} {F : α → Int → Int} : ∀ (S : List α), (∀ c ∈ S, Rp l b (F c)) → Rp l (S.length * b) fun N => (S.map fun c => F c N).sum
  | [], _ => by
    simpa using rp_zero l
  | c :: S, h => by
    have h1 := h c List.mem_cons_self
    have h2 := rp_sum S fun c hc => h c (List.mem_cons_of_mem _ hc)
    have := h1.add h2
    rw [List.length_cons, Nat.add_mul, Nat.one_mul, Nat.add_comm]
    simpa [List.map_cons, List.sum_cons] using this
theorem rp_mn {l b : Nat} {A : Int → MI} : ∀ (rs : List Nat) (S : List Int), S.length ≤ 5 → (∀ r ∈ rs, ∀ c ∈ S, Rp l b fun N => A N r c.toNat) → Rp (rs.length * l + 1) ((5 * b) ^ rs.length) fun N => mn (A N) rs S
  | [], S, _, _ => by simpa [mn] using rp_one
  | r :: rs, S, hS, h => by
    have key : ∀ c ∈ S, Rp (rs.length * l + 1 + l) (1 * (5 * b) ^ rs.length * b) fun N => sgU (S.erase c) c * mn (A N) rs (S.erase c) * A N r c.toNat := fun c hc => by
      have ih := rp_mn (A := A) rs (S.erase c) (Nat.le_trans (List.length_erase_le ..) hS) fun r' hr c' hc' => h r' (List.mem_cons_of_mem _ hr) c' (List.mem_of_mem_erase hc')
      have := (ih.smul (sgU (S.erase c) c)).mul (h r List.mem_cons_self c hc)
      rw [sgU_abs] at this
      exact this
    have := rp_sum S key
    refine Rp.mono (by simpa only [mn] using this) ?_ ?_
    · rw [List.length_cons, Nat.succ_mul]
      omega
    · rw [List.length_cons, Nat.pow_succ, Nat.one_mul]
      have : S.length * ((5 * b) ^ rs.length * b) ≤ 5 * ((5 * b) ^ rs.length * b) := Nat.mul_le_mul_right _ hS
      refine Nat.le_trans this (Nat.le_of_eq ?_)
      rw [Nat.mul_left_comm]
/-- far out a polynomial is small against the next power, and a nonzero one is not 0 -/
theorem ev_lt : ∀ (q : List Int) (N : Int), (nP q : Int) < N → (ev q N).natAbs < N.toNat ^ q.length
  | [], N, _ => by simp [ev]
  | c :: r, N, h => by
    have h' : (c.natAbs : Int) + (nP r : Int) < N := by
      have : nP (c :: r) = c.natAbs + nP r := rfl
      rw [this] at h
      omega
    have ih := ev_lt r N (by omega)
    have h1 : (ev (c :: r) N).natAbs ≤ c.natAbs + N.toNat * (ev r N).natAbs := by
      rw [ev_cons]
      refine Nat.le_trans (Int.natAbs_add_le _ _) ?_
      rw [Int.natAbs_mul]
      have : N.natAbs = N.toNat := by omega
      rw [this]
      exact Nat.le_refl _
    have h2 : N.toNat * (ev r N).natAbs ≤ N.toNat * (N.toNat ^ r.length - 1) := Nat.mul_le_mul_left _ (by omega)
    have h3 : N.toNat * (N.toNat ^ r.length - 1) + N.toNat = N.toNat ^ (r.length + 1) := by
      rw [Nat.pow_succ, Nat.mul_comm _ N.toNat, Nat.mul_sub, Nat.mul_one]
      have : N.toNat ≤ N.toNat * N.toNat ^ r.length := Nat.le_mul_of_pos_right _ (by omega)
      omega
    rw [List.length_cons]
    omega
theorem ev_far {p : List Int} (h : Tr p) (hn : p ≠ []) : ∃ B : Int, ∀ N, B < N → ev p N ≠ 0 := by
  refine ⟨nP p, fun N hN e => ?_⟩
  obtain ⟨q, x, rfl⟩ := snoc_of hn
  have hx := tr_last h hn
  rw [List.getLast_concat] at hx
  have hq : nP q ≤ nP (q ++ [x]) := by
    clear hn h hN e hx
    induction q with
    | nil => exact Nat.zero_le _
    | cons c q ih =>
      show c.natAbs + nP q ≤ c.natAbs + nP (q ++ [x])
      omega
  have h1 := ev_lt q N (by omega)
  rw [ev_snoc] at e
  have h2 : ev q N = - (N ^ q.length * x) := by omega
  rw [h2, Int.natAbs_neg, Int.natAbs_mul, Int.natAbs_pow] at h1
  have : N.natAbs = N.toNat := by omega
  rw [this] at h1
  have h3 : N.toNat ^ q.length * 1 ≤ N.toNat ^ q.length * x.natAbs := Nat.mul_le_mul_left _ (by omega)
  omega
end GM
set_option linter.all false
set_option maxRecDepth 100000
set_option maxHeartbeats 40000000
/-! GElimA: the elimination runs, and what it leaves is the determinant but for the sign. -/
namespace GK
open GM
def dn (k : Nat) (A : MI) : Int := mn A (List.range k).reverse ((List.range k).map fun (i : Nat) => (i : Int))
theorem dnz0 (A : MI) : dn 0 A = 1 := rfl
theorem dnz1 (A : MI) : dn 1 A = dt1 A := rfl
theorem dnz2 (A : MI) : dn 2 A = dt2 A := rfl
theorem dnz3 (A : MI) : dn 3 A = dt3 A := rfl
theorem dnz4 (A : MI) : dn 4 A = dt4 A := rfl
theorem dnz5 (A : MI) : dn 5 A = dt5 A := rfl
theorem mn_congr {A A' : MI} : ∀ (rs : List Nat) (S : List Int), (∀ p ∈ rs, ∀ c ∈ S, A p c.toNat = A' p c.toNat) → mn A rs S = mn A' rs S
  | [], _, _ => rfl
  | r :: rs, S, h => by
    unfold mn
    congr 1
    refine List.map_congr_left fun c hc => ?_
    rw [mn_congr rs (S.erase c) fun p hp c' hc' => h p (List.mem_cons_of_mem _ hp) c' (List.mem_of_mem_erase hc'), h r List.mem_cons_self c hc]
theorem dn_congr {k : Nat} {A A' : MI} (h : ∀ p q, p < k → q < k → A p q = A' p q) : dn k A = dn k A' := mn_congr _ _ fun p hp c hc => by
  obtain ⟨q, hq, rfl⟩ := List.mem_map.mp hc
  rw [List.mem_reverse] at hp
  exact h p _ (List.mem_range.mp hp) (by have := List.mem_range.mp hq; omega)
theorem sylv (A : MI) {a : Nat} (i j : Nat) (ha : a ≤ 3) : dn (a + 1) (sb A a a a) * dn (a + 1) (sb A a i j) - dn (a + 1) (sb A a i a) * dn (a + 1) (sb A a a j) = dn a A * dn (a + 2) (sb A (a + 1) i j) := by
  have : a = 0 ∨ a = 1 ∨ a = 2 ∨ a = 3 := by omega
  rcases this with rfl | rfl | rfl | rfl
  · exact syl0 A i j
  · exact syl1 A i j
  · exact syl2 A i j
  · exact syl3 A i j
theorem dn_swr (A : MI) {m a r : Nat} (hm : m ≤ 5) (h1 : a < r) (h2 : r < m) : dn m (swr A a r) = - dn m A := by
  have hm2 : m = 2 ∨ m = 3 ∨ m = 4 ∨ m = 5 := by omega
  rcases hm2 with rfl | rfl | rfl | rfl
  · have ha : a = 0 := by omega
    rcases ha with rfl
    · have hr : r = 1 := by omega
      rcases hr with rfl
      · exact swp2_01 A
  · have ha : a = 0 ∨ a = 1 := by omega
    rcases ha with rfl | rfl
    · have hr : r = 1 ∨ r = 2 := by omega
      rcases hr with rfl | rfl
      · exact swp3_01 A
      · exact swp3_02 A
    · have hr : r = 2 := by omega
      rcases hr with rfl
      · exact swp3_12 A
  · have ha : a = 0 ∨ a = 1 ∨ a = 2 := by omega
    rcases ha with rfl | rfl | rfl
    · have hr : r = 1 ∨ r = 2 ∨ r = 3 := by omega
      rcases hr with rfl | rfl | rfl
      · exact swp4_01 A
      · exact swp4_02 A
      · exact swp4_03 A
    · have hr : r = 2 ∨ r = 3 := by omega
      rcases hr with rfl | rfl
      · exact swp4_12 A
      · exact swp4_13 A
    · have hr : r = 3 := by omega
      rcases hr with rfl
      · exact swp4_23 A
  · have ha : a = 0 ∨ a = 1 ∨ a = 2 ∨ a = 3 := by omega
    rcases ha with rfl | rfl | rfl | rfl
    · have hr : r = 1 ∨ r = 2 ∨ r = 3 ∨ r = 4 := by omega
      rcases hr with rfl | rfl | rfl | rfl
      · exact swp5_01 A
      · exact swp5_02 A
      · exact swp5_03 A
      · exact swp5_04 A
    · have hr : r = 2 ∨ r = 3 ∨ r = 4 := by omega
      rcases hr with rfl | rfl | rfl
      · exact swp5_12 A
      · exact swp5_13 A
      · exact swp5_14 A
    · have hr : r = 3 ∨ r = 4 := by omega
      rcases hr with rfl | rfl
      · exact swp5_23 A
      · exact swp5_24 A
    · have hr : r = 4 := by omega
      rcases hr with rfl
      · exact swp5_34 A
def kx00 (A : MI) : Int := 1
theorem kr0 (A : MI) (r : Nat) : A r 0 * kx00 A = dt1 (sb A 0 r 0) := by
  simp only [dt1_eq, sb, kx00]
  simp
  try grind
def kx10 (A : MI) : Int := -(A 0 1)
def kx11 (A : MI) : Int := A 0 0
theorem kr1 (A : MI) (r : Nat) : A r 0 * kx10 A + A r 1 * kx11 A = dt2 (sb A 1 r 1) := by
  simp only [dt2_eq, sb, kx10, kx11]
  simp
  try grind
theorem kr1_0 (A : MI) : dt2 (sb A 1 0 1) = 0 := by
  simp only [dt2_eq, sb]
  simp
  try grind
theorem kl1 (A : MI) : kx11 A = dt1 A := by
  simp only [dt1_eq, kx11]
  try grind
def kx20 (A : MI) : Int := 0 - (A 0 2) * A 1 1 + (A 0 1) * A 1 2
def kx21 (A : MI) : Int := -(0 - (A 0 2) * A 1 0 + (A 0 0) * A 1 2)
def kx22 (A : MI) : Int := 0 - (A 0 1) * A 1 0 + (A 0 0) * A 1 1
theorem kr2 (A : MI) (r : Nat) : A r 0 * kx20 A + A r 1 * kx21 A + A r 2 * kx22 A = dt3 (sb A 2 r 2) := by
  simp only [dt3_eq, sb, kx20, kx21, kx22]
  simp
  try grind
theorem kr2_0 (A : MI) : dt3 (sb A 2 0 2) = 0 := by
  simp only [dt3_eq, sb]
  simp
  try grind
theorem kr2_1 (A : MI) : dt3 (sb A 2 1 2) = 0 := by
  simp only [dt3_eq, sb]
  simp
  try grind
theorem kl2 (A : MI) : kx22 A = dt2 A := by
  simp only [dt2_eq, kx22]
  try grind
def kx30 (A : MI) : Int := -((0 - (A 0 3) * A 1 2 + (A 0 2) * A 1 3) * A 2 1 - (0 - (A 0 3) * A 1 1 + (A 0 1) * A 1 3) * A 2 2 + (0 - (A 0 2) * A 1 1 + (A 0 1) * A 1 2) * A 2 3)
def kx31 (A : MI) : Int := (0 - (A 0 3) * A 1 2 + (A 0 2) * A 1 3) * A 2 0 - (0 - (A 0 3) * A 1 0 + (A 0 0) * A 1 3) * A 2 2 + (0 - (A 0 2) * A 1 0 + (A 0 0) * A 1 2) * A 2 3
def kx32 (A : MI) : Int := -((0 - (A 0 3) * A 1 1 + (A 0 1) * A 1 3) * A 2 0 - (0 - (A 0 3) * A 1 0 + (A 0 0) * A 1 3) * A 2 1 + (0 - (A 0 1) * A 1 0 + (A 0 0) * A 1 1) * A 2 3)
def kx33 (A : MI) : Int := (0 - (A 0 2) * A 1 1 + (A 0 1) * A 1 2) * A 2 0 - (0 - (A 0 2) * A 1 0 + (A 0 0) * A 1 2) * A 2 1 + (0 - (A 0 1) * A 1 0 + (A 0 0) * A 1 1) * A 2 2
theorem kr3 (A : MI) (r : Nat) : A r 0 * kx30 A + A r 1 * kx31 A + A r 2 * kx32 A + A r 3 * kx33 A = dt4 (sb A 3 r 3) := by
  simp only [dt4_eq, sb, kx30, kx31, kx32, kx33]
  simp
  try grind
theorem kr3_0 (A : MI) : dt4 (sb A 3 0 3) = 0 := by
  simp only [dt4_eq, sb]
  simp
  try grind
theorem kr3_1 (A : MI) : dt4 (sb A 3 1 3) = 0 := by
  simp only [dt4_eq, sb]
  simp
  try grind
theorem kr3_2 (A : MI) : dt4 (sb A 3 2 3) = 0 := by
  simp only [dt4_eq, sb]
  simp
  try grind
theorem kl3 (A : MI) : kx33 A = dt3 A := by
  simp only [dt3_eq, kx33]
  try grind
theorem zero_col (A : MI) {m a : Nat} (hm : m ≤ 5) (ha : a < m) (h0 : dn a A ≠ 0) (h : ∀ r, a ≤ r → r < m → dn (a + 1) (sb A a r a) = 0) : dn m A = 0 := by
  by_cases e : m = a + 1
  · have := h a (Nat.le_refl a) ha
    rw [e]
    rw [← this]
    refine dn_congr fun p q _ _ => ?_
    unfold sb
    by_cases e1 : p = a <;> by_cases e2 : q = a <;> simp [e1, e2]
  have hm2 : m = 2 ∨ m = 3 ∨ m = 4 ∨ m = 5 := by omega
  rcases hm2 with rfl | rfl | rfl | rfl
  · have ha2 : a = 0 := by omega
    rcases ha2 with rfl
    · have key := ker2_0 A (kx00 A) 0
      have g0 : A 0 0 * kx00 A + A 0 1 * 0 = 0 := by
        have z : dt1 (sb A 0 0 0) = 0 := h 0 (by omega) (by omega)
        have k := kr0 A 0
        rw [z] at k
        simpa using k
      have g1 : A 1 0 * kx00 A + A 1 1 * 0 = 0 := by
        have z : dt1 (sb A 0 1 0) = 0 := h 1 (by omega) (by omega)
        have k := kr0 A 1
        rw [z] at k
        simpa using k
      rw [g0, g1] at key
      simp only [Int.mul_zero, Int.add_zero, Int.sub_zero] at key
      have k0 : kx00 A = 1 := rfl
      rw [k0, Int.one_mul] at key
      exact key
  · have ha2 : a = 0 ∨ a = 1 := by omega
    rcases ha2 with rfl | rfl
    · have key := ker3_0 A (kx00 A) 0 0
      have g0 : A 0 0 * kx00 A + A 0 1 * 0 + A 0 2 * 0 = 0 := by
        have z : dt1 (sb A 0 0 0) = 0 := h 0 (by omega) (by omega)
        have k := kr0 A 0
        rw [z] at k
        simpa using k
      have g1 : A 1 0 * kx00 A + A 1 1 * 0 + A 1 2 * 0 = 0 := by
        have z : dt1 (sb A 0 1 0) = 0 := h 1 (by omega) (by omega)
        have k := kr0 A 1
        rw [z] at k
        simpa using k
      have g2 : A 2 0 * kx00 A + A 2 1 * 0 + A 2 2 * 0 = 0 := by
        have z : dt1 (sb A 0 2 0) = 0 := h 2 (by omega) (by omega)
        have k := kr0 A 2
        rw [z] at k
        simpa using k
      rw [g0, g1, g2] at key
      simp only [Int.mul_zero, Int.add_zero, Int.sub_zero] at key
      have k0 : kx00 A = 1 := rfl
      rw [k0, Int.one_mul] at key
      exact key
    · have key := ker3_1 A (kx10 A) (kx11 A) 0
      have g0 : A 0 0 * kx10 A + A 0 1 * kx11 A + A 0 2 * 0 = 0 := by
        have z : dt2 (sb A 1 0 1) = 0 := kr1_0 A
        have k := kr1 A 0
        rw [z] at k
        simpa using k
      have g1 : A 1 0 * kx10 A + A 1 1 * kx11 A + A 1 2 * 0 = 0 := by
        have z : dt2 (sb A 1 1 1) = 0 := h 1 (by omega) (by omega)
        have k := kr1 A 1
        rw [z] at k
        simpa using k
      have g2 : A 2 0 * kx10 A + A 2 1 * kx11 A + A 2 2 * 0 = 0 := by
        have z : dt2 (sb A 1 2 1) = 0 := h 2 (by omega) (by omega)
        have k := kr1 A 2
        rw [z] at k
        simpa using k
      rw [g0, g1, g2] at key
      simp only [Int.mul_zero, Int.add_zero, Int.sub_zero] at key
      rw [kl1] at key
      exact (Int.mul_eq_zero.mp key).resolve_left h0
  · have ha2 : a = 0 ∨ a = 1 ∨ a = 2 := by omega
    rcases ha2 with rfl | rfl | rfl
    · have key := ker4_0 A (kx00 A) 0 0 0
      have g0 : A 0 0 * kx00 A + A 0 1 * 0 + A 0 2 * 0 + A 0 3 * 0 = 0 := by
        have z : dt1 (sb A 0 0 0) = 0 := h 0 (by omega) (by omega)
        have k := kr0 A 0
        rw [z] at k
        simpa using k
      have g1 : A 1 0 * kx00 A + A 1 1 * 0 + A 1 2 * 0 + A 1 3 * 0 = 0 := by
        have z : dt1 (sb A 0 1 0) = 0 := h 1 (by omega) (by omega)
        have k := kr0 A 1
        rw [z] at k
        simpa using k
      have g2 : A 2 0 * kx00 A + A 2 1 * 0 + A 2 2 * 0 + A 2 3 * 0 = 0 := by
        have z : dt1 (sb A 0 2 0) = 0 := h 2 (by omega) (by omega)
        have k := kr0 A 2
        rw [z] at k
        simpa using k
      have g3 : A 3 0 * kx00 A + A 3 1 * 0 + A 3 2 * 0 + A 3 3 * 0 = 0 := by
        have z : dt1 (sb A 0 3 0) = 0 := h 3 (by omega) (by omega)
        have k := kr0 A 3
        rw [z] at k
        simpa using k
      rw [g0, g1, g2, g3] at key
      simp only [Int.mul_zero, Int.add_zero, Int.sub_zero] at key
      have k0 : kx00 A = 1 := rfl
      rw [k0, Int.one_mul] at key
      exact key
    · have key := ker4_1 A (kx10 A) (kx11 A) 0 0
      have g0 : A 0 0 * kx10 A + A 0 1 * kx11 A + A 0 2 * 0 + A 0 3 * 0 = 0 := by
        have z : dt2 (sb A 1 0 1) = 0 := kr1_0 A
        have k := kr1 A 0
        rw [z] at k
        simpa using k
      have g1 : A 1 0 * kx10 A + A 1 1 * kx11 A + A 1 2 * 0 + A 1 3 * 0 = 0 := by
        have z : dt2 (sb A 1 1 1) = 0 := h 1 (by omega) (by omega)
        have k := kr1 A 1
        rw [z] at k
        simpa using k
      have g2 : A 2 0 * kx10 A + A 2 1 * kx11 A + A 2 2 * 0 + A 2 3 * 0 = 0 := by
        have z : dt2 (sb A 1 2 1) = 0 := h 2 (by omega) (by omega)
        have k := kr1 A 2
        rw [z] at k
        simpa using k
      have g3 : A 3 0 * kx10 A + A 3 1 * kx11 A + A 3 2 * 0 + A 3 3 * 0 = 0 := by
        have z : dt2 (sb A 1 3 1) = 0 := h 3 (by omega) (by omega)
        have k := kr1 A 3
        rw [z] at k
        simpa using k
      rw [g0, g1, g2, g3] at key
      simp only [Int.mul_zero, Int.add_zero, Int.sub_zero] at key
      rw [kl1] at key
      exact (Int.mul_eq_zero.mp key).resolve_left h0
    · have key := ker4_2 A (kx20 A) (kx21 A) (kx22 A) 0
      have g0 : A 0 0 * kx20 A + A 0 1 * kx21 A + A 0 2 * kx22 A + A 0 3 * 0 = 0 := by
        have z : dt3 (sb A 2 0 2) = 0 := kr2_0 A
        have k := kr2 A 0
        rw [z] at k
        simpa using k
      have g1 : A 1 0 * kx20 A + A 1 1 * kx21 A + A 1 2 * kx22 A + A 1 3 * 0 = 0 := by
        have z : dt3 (sb A 2 1 2) = 0 := kr2_1 A
        have k := kr2 A 1
        rw [z] at k
        simpa using k
      have g2 : A 2 0 * kx20 A + A 2 1 * kx21 A + A 2 2 * kx22 A + A 2 3 * 0 = 0 := by
        have z : dt3 (sb A 2 2 2) = 0 := h 2 (by omega) (by omega)
        have k := kr2 A 2
        rw [z] at k
        simpa using k
      have g3 : A 3 0 * kx20 A + A 3 1 * kx21 A + A 3 2 * kx22 A + A 3 3 * 0 = 0 := by
        have z : dt3 (sb A 2 3 2) = 0 := h 3 (by omega) (by omega)
        have k := kr2 A 3
        rw [z] at k
        simpa using k
      rw [g0, g1, g2, g3] at key
      simp only [Int.mul_zero, Int.add_zero, Int.sub_zero] at key
      rw [kl2] at key
      exact (Int.mul_eq_zero.mp key).resolve_left h0
  · have ha2 : a = 0 ∨ a = 1 ∨ a = 2 ∨ a = 3 := by omega
    rcases ha2 with rfl | rfl | rfl | rfl
    · have key := ker5_0 A (kx00 A) 0 0 0 0
      have g0 : A 0 0 * kx00 A + A 0 1 * 0 + A 0 2 * 0 + A 0 3 * 0 + A 0 4 * 0 = 0 := by
        have z : dt1 (sb A 0 0 0) = 0 := h 0 (by omega) (by omega)
        have k := kr0 A 0
        rw [z] at k
        simpa using k
      have g1 : A 1 0 * kx00 A + A 1 1 * 0 + A 1 2 * 0 + A 1 3 * 0 + A 1 4 * 0 = 0 := by
        have z : dt1 (sb A 0 1 0) = 0 := h 1 (by omega) (by omega)
        have k := kr0 A 1
        rw [z] at k
        simpa using k
      have g2 : A 2 0 * kx00 A + A 2 1 * 0 + A 2 2 * 0 + A 2 3 * 0 + A 2 4 * 0 = 0 := by
        have z : dt1 (sb A 0 2 0) = 0 := h 2 (by omega) (by omega)
        have k := kr0 A 2
        rw [z] at k
        simpa using k
      have g3 : A 3 0 * kx00 A + A 3 1 * 0 + A 3 2 * 0 + A 3 3 * 0 + A 3 4 * 0 = 0 := by
        have z : dt1 (sb A 0 3 0) = 0 := h 3 (by omega) (by omega)
        have k := kr0 A 3
        rw [z] at k
        simpa using k
      have g4 : A 4 0 * kx00 A + A 4 1 * 0 + A 4 2 * 0 + A 4 3 * 0 + A 4 4 * 0 = 0 := by
        have z : dt1 (sb A 0 4 0) = 0 := h 4 (by omega) (by omega)
        have k := kr0 A 4
        rw [z] at k
        simpa using k
      rw [g0, g1, g2, g3, g4] at key
      simp only [Int.mul_zero, Int.add_zero, Int.sub_zero] at key
      have k0 : kx00 A = 1 := rfl
      rw [k0, Int.one_mul] at key
      exact key
    · have key := ker5_1 A (kx10 A) (kx11 A) 0 0 0
      have g0 : A 0 0 * kx10 A + A 0 1 * kx11 A + A 0 2 * 0 + A 0 3 * 0 + A 0 4 * 0 = 0 := by
        have z : dt2 (sb A 1 0 1) = 0 := kr1_0 A
        have k := kr1 A 0
        rw [z] at k
        simpa using k
      have g1 : A 1 0 * kx10 A + A 1 1 * kx11 A + A 1 2 * 0 + A 1 3 * 0 + A 1 4 * 0 = 0 := by
        have z : dt2 (sb A 1 1 1) = 0 := h 1 (by omega) (by omega)
        have k := kr1 A 1
        rw [z] at k
        simpa using k
      have g2 : A 2 0 * kx10 A + A 2 1 * kx11 A + A 2 2 * 0 + A 2 3 * 0 + A 2 4 * 0 = 0 := by
        have z : dt2 (sb A 1 2 1) = 0 := h 2 (by omega) (by omega)
        have k := kr1 A 2
        rw [z] at k
        simpa using k
      have g3 : A 3 0 * kx10 A + A 3 1 * kx11 A + A 3 2 * 0 + A 3 3 * 0 + A 3 4 * 0 = 0 := by
        have z : dt2 (sb A 1 3 1) = 0 := h 3 (by omega) (by omega)
        have k := kr1 A 3
        rw [z] at k
        simpa using k
      have g4 : A 4 0 * kx10 A + A 4 1 * kx11 A + A 4 2 * 0 + A 4 3 * 0 + A 4 4 * 0 = 0 := by
        have z : dt2 (sb A 1 4 1) = 0 := h 4 (by omega) (by omega)
        have k := kr1 A 4
        rw [z] at k
        simpa using k
      rw [g0, g1, g2, g3, g4] at key
      simp only [Int.mul_zero, Int.add_zero, Int.sub_zero] at key
      rw [kl1] at key
      exact (Int.mul_eq_zero.mp key).resolve_left h0
    · have key := ker5_2 A (kx20 A) (kx21 A) (kx22 A) 0 0
      have g0 : A 0 0 * kx20 A + A 0 1 * kx21 A + A 0 2 * kx22 A + A 0 3 * 0 + A 0 4 * 0 = 0 := by
        have z : dt3 (sb A 2 0 2) = 0 := kr2_0 A
        have k := kr2 A 0
        rw [z] at k
        simpa using k
      have g1 : A 1 0 * kx20 A + A 1 1 * kx21 A + A 1 2 * kx22 A + A 1 3 * 0 + A 1 4 * 0 = 0 := by
        have z : dt3 (sb A 2 1 2) = 0 := kr2_1 A
        have k := kr2 A 1
        rw [z] at k
        simpa using k
      have g2 : A 2 0 * kx20 A + A 2 1 * kx21 A + A 2 2 * kx22 A + A 2 3 * 0 + A 2 4 * 0 = 0 := by
        have z : dt3 (sb A 2 2 2) = 0 := h 2 (by omega) (by omega)
        have k := kr2 A 2
        rw [z] at k
        simpa using k
      have g3 : A 3 0 * kx20 A + A 3 1 * kx21 A + A 3 2 * kx22 A + A 3 3 * 0 + A 3 4 * 0 = 0 := by
        have z : dt3 (sb A 2 3 2) = 0 := h 3 (by omega) (by omega)
        have k := kr2 A 3
        rw [z] at k
        simpa using k
      have g4 : A 4 0 * kx20 A + A 4 1 * kx21 A + A 4 2 * kx22 A + A 4 3 * 0 + A 4 4 * 0 = 0 := by
        have z : dt3 (sb A 2 4 2) = 0 := h 4 (by omega) (by omega)
        have k := kr2 A 4
        rw [z] at k
        simpa using k
      rw [g0, g1, g2, g3, g4] at key
      simp only [Int.mul_zero, Int.add_zero, Int.sub_zero] at key
      rw [kl2] at key
      exact (Int.mul_eq_zero.mp key).resolve_left h0
    · have key := ker5_3 A (kx30 A) (kx31 A) (kx32 A) (kx33 A) 0
      have g0 : A 0 0 * kx30 A + A 0 1 * kx31 A + A 0 2 * kx32 A + A 0 3 * kx33 A + A 0 4 * 0 = 0 := by
        have z : dt4 (sb A 3 0 3) = 0 := kr3_0 A
        have k := kr3 A 0
        rw [z] at k
        simpa using k
      have g1 : A 1 0 * kx30 A + A 1 1 * kx31 A + A 1 2 * kx32 A + A 1 3 * kx33 A + A 1 4 * 0 = 0 := by
        have z : dt4 (sb A 3 1 3) = 0 := kr3_1 A
        have k := kr3 A 1
        rw [z] at k
        simpa using k
      have g2 : A 2 0 * kx30 A + A 2 1 * kx31 A + A 2 2 * kx32 A + A 2 3 * kx33 A + A 2 4 * 0 = 0 := by
        have z : dt4 (sb A 3 2 3) = 0 := kr3_2 A
        have k := kr3 A 2
        rw [z] at k
        simpa using k
      have g3 : A 3 0 * kx30 A + A 3 1 * kx31 A + A 3 2 * kx32 A + A 3 3 * kx33 A + A 3 4 * 0 = 0 := by
        have z : dt4 (sb A 3 3 3) = 0 := h 3 (by omega) (by omega)
        have k := kr3 A 3
        rw [z] at k
        simpa using k
      have g4 : A 4 0 * kx30 A + A 4 1 * kx31 A + A 4 2 * kx32 A + A 4 3 * kx33 A + A 4 4 * 0 = 0 := by
        have z : dt4 (sb A 3 4 3) = 0 := h 4 (by omega) (by omega)
        have k := kr3 A 4
        rw [z] at k
        simpa using k
      rw [g0, g1, g2, g3, g4] at key
      simp only [Int.mul_zero, Int.add_zero, Int.sub_zero] at key
      rw [kl3] at key
      exact (Int.mul_eq_zero.mp key).resolve_left h0
end GK
set_option linter.all false
set_option maxRecDepth 100000
set_option maxHeartbeats 2000000
/-! GElim: the elimination runs, and what it leaves is the determinant but for the sign. -/
namespace GK
open GM
theorem piv_ex (n : Nat) (M : Nat → Nat → List Int) (a : Nat) : (∀ r, a ≤ r → r < n → M r a = []) ∨ ∃ r, a ≤ r ∧ r < n ∧ M r a ≠ [] ∧ ∀ s, a ≤ s → s < r → M s a = [] := by
  by_cases h : ∃ r, a ≤ r ∧ r < n ∧ M r a ≠ []
  · right
    obtain ⟨r, hr⟩ := h
    induction r using Nat.strongRecOn with
    | ind r ih =>
      by_cases h2 : ∃ s, s < r ∧ a ≤ s ∧ M s a ≠ []
      · obtain ⟨s, hs, h3, h4⟩ := h2
        exact ih s hs ⟨h3, by omega, h4⟩
      · exact ⟨r, hr.1, hr.2.1, hr.2.2, fun s h3 h4 => Decidable.byContradiction fun h5 => h2 ⟨s, h4, h3, h5⟩⟩
  · left
    exact fun r h1 h2 => Decidable.byContradiction fun h3 => h ⟨r, h1, h2, h3⟩
/-- the row that stands at p -/
abbrev perm (A : Int → MI) (ρ : Nat → Nat) (N : Int) : MI := fun p q => A N (ρ p) q
structure Est (m a : Nat) (A : Int → MI) (ρ : Nat → Nat) (M : Nat → Nat → List Int) (b : List Int) : Prop where
  mt : ∀ i j, a ≤ i → i < m → a ≤ j → j < m → Tr (M i j) ∧ ∀ N, ev (M i j) N = dn (a + 1) (sb (perm A ρ N) a i j)
  bt : Tr b
  b0 : b ≠ []
  be : ∀ N, ev b N = dn a (perm A ρ N)
  sz : ∀ i j, i < m → j < m → (M i j).length ≤ 60 ∧ nP (M i j) ≤ 2 ^ 50
  bz : b.length ≤ 60 ∧ nP b ≤ 2 ^ 50
  rho : ∀ p, p < m → ρ p < m
theorem sm_of {p : List Int} (h : nP p ≤ 2 ^ 50) : Sm 5000 p := fun x hx => Nat.lt_of_le_of_lt (Nat.le_trans (nP_mem hx) h) (Nat.pow_lt_pow_right (by decide) (by decide))
def swi (a r i : Nat) : Nat := if i = r then a else if i = a then r else i
theorem swp_eq (M : Nat → Nat → List Int) (a r i j : Nat) : swp M a r i j = M (swi a r i) j := by
  unfold swp swi
  by_cases h1 : i = r
  · rw [if_pos h1, if_pos h1]
  · rw [if_neg h1, if_neg h1]
    by_cases h2 : i = a
    · rw [if_pos h2, if_pos h2]
    · rw [if_neg h2, if_neg h2]
theorem swi_lt {a r i m : Nat} (ha : a < m) (hr : r < m) (hi : i < m) : swi a r i < m := by
  unfold swi
  split
  · exact ha
  · split
    · exact hr
    · exact hi
theorem swi_ge {a r i : Nat} (har : a ≤ r) (hi : a ≤ i) : a ≤ swi a r i := by
  unfold swi
  split
  · exact Nat.le_refl a
  · split
    · exact har
    · exact hi
theorem swi_low {a r i : Nat} (har : a ≤ r) (hi : i < a) : swi a r i = i := by
  unfold swi
  rw [if_neg (by omega), if_neg (by omega)]
/-- after the swap -/
theorem Est.swap {m a : Nat} {A : Int → MI} {ρ : Nat → Nat} {M : Nat → Nat → List Int} {b : List Int} (E : Est m a A ρ M b) {r : Nat} (har : a ≤ r) (hr : r < m) : Est m a A (fun p => ρ (swi a r p)) (swp M a r) b := by
  have ha : a < m := by omega
  refine ⟨fun i j h1 h2 h3 h4 => ?_, E.bt, E.b0, fun N => ?_, fun i j h1 h2 => ?_, E.bz, fun p hp => E.rho _ (swi_lt ha hr hp)⟩
  · rw [swp_eq]
    obtain ⟨g1, g2⟩ := E.mt (swi a r i) j (swi_ge har h1) (swi_lt ha hr h2) h3 h4
    refine ⟨g1, fun N => (g2 N).trans (dn_congr fun p q hp hq => ?_)⟩
    unfold sb perm
    by_cases e : p = a
    · rw [if_pos e, if_pos e]
    · rw [if_neg e, if_neg e]
      show A N (ρ p) _ = A N (ρ (swi a r p)) _
      rw [swi_low har (by omega)]
  · rw [E.be N]
    refine dn_congr fun p q hp hq => ?_
    show A N (ρ p) q = A N (ρ (swi a r p)) q
    rw [swi_low har hp]
  · rw [swp_eq]
    exact E.sz _ _ (swi_lt ha hr h1) h2
theorem dn_swi {m a r : Nat} (hm : m ≤ 5) (har : a ≤ r) (hr : r < m) : ∃ δ : Int, (δ = 1 ∨ δ = -1) ∧ ∀ B : MI, dn m (fun p q => B (swi a r p) q) = δ * dn m B := by
  by_cases e : a = r
  · refine ⟨1, .inl rfl, fun B => ?_⟩
    subst e
    rw [Int.one_mul]
    refine dn_congr fun p q _ _ => ?_
    unfold swi
    by_cases h : p = a
    · rw [if_pos h, h]
    · rw [if_neg h, if_neg h]
  · refine ⟨-1, .inr rfl, fun B => ?_⟩
    have := dn_swr B hm (show a < r by omega) hr
    rw [Int.neg_mul, Int.one_mul]
    exact this
theorem sb_self (A : MI) (a : Nat) : sb A a a a = A := by
  funext p q
  unfold sb
  by_cases e1 : p = a <;> by_cases e2 : q = a <;> simp [e1, e2]
theorem rp_minor {m k i j : Nat} {A : Int → MI} {ρ : Nat → Nat} (hA : ∀ r c, r < m → c < m → Rp 11 81 fun N => A N r c) (hρ : ∀ p, p < m → ρ p < m) (hm : m ≤ 5) (hk : k + 1 ≤ m) (hi : i < m) (hj : j < m) : Rp 60 (2 ^ 50) fun N => dn (k + 1) (sb (perm A ρ N) k i j) := by
  have h := rp_mn (l := 11) (b := 81) (A := fun N => sb (perm A ρ N) k i j) (List.range (k + 1)).reverse ((List.range (k + 1)).map fun (i : Nat) => (i : Int)) (by rw [List.length_map, List.length_range]; omega) (fun r hr c hc => by
    obtain ⟨q, hq, rfl⟩ := List.mem_map.mp hc
    have hq := List.mem_range.mp hq
    have hr := List.mem_range.mp (List.mem_reverse.mp hr)
    unfold sb perm
    refine hA _ _ (hρ _ ?_) ?_
    · split <;> omega
    · split <;> omega)
  rw [List.length_reverse, List.length_range] at h
  refine Rp.mono h (by omega) ?_
  exact Nat.le_trans (Nat.pow_le_pow_right (by decide) (show k + 1 ≤ 5 by omega)) (by decide)
/-- one step -/
theorem Est.step {m a : Nat} {A : Int → MI} {ρ : Nat → Nat} {M : Nat → Nat → List Int} {b : List Int} (hm : m ≤ 5) (ha : a < m) (hA : ∀ r c, r < m → c < m → Rp 11 81 fun N => A N r c) (E : Est m a A ρ M b) (hp : M a a ≠ []) :
    ∃ Qt, StepOk m M a b Qt ∧ Est m (a + 1) A ρ (nxt M Qt a) (M a a) := by
  have ex : ∀ i k, ∃ q : List Int, (a + 1 < m ∧ i < m ∧ k < m) → Tr q ∧ q.length ≤ 60 ∧ nP q ≤ 2 ^ 50 ∧ ∀ N, ev q N = dn (a + 1 + 1) (sb (perm A ρ N) (a + 1) i k) := fun i k => by
    by_cases h : a + 1 < m ∧ i < m ∧ k < m
    · obtain ⟨q, h1, h2, h3, h4⟩ := rp_minor (k := a + 1) (i := i) (j := k) hA E.rho hm (by omega) h.2.1 h.2.2
      exact ⟨q, fun _ => ⟨h1, h2, h3, h4⟩⟩
    · exact ⟨[], fun z => absurd z h⟩
  obtain ⟨Qt, hQ⟩ : ∃ Qt : Nat → Nat → List Int, ∀ i k, (a + 1 < m ∧ i < m ∧ k < m) → Tr (Qt i k) ∧ (Qt i k).length ≤ 60 ∧ nP (Qt i k) ≤ 2 ^ 50 ∧ ∀ N, ev (Qt i k) N = dn (a + 1 + 1) (sb (perm A ρ N) (a + 1) i k) :=
    ⟨fun i k => (ex i k).choose, fun i k => (ex i k).choose_spec⟩
  have paa := E.mt a a (Nat.le_refl a) ha (Nat.le_refl a) ha
  refine ⟨Qt, ⟨fun i k h1 h2 => Nat.le_trans (E.sz i k h1 h2).1 (by decide), fun i k h1 h2 => sm_of (E.sz i k h1 h2).2, fun i k h1 h2 h3 h4 => ?_⟩, ?_⟩
  · obtain ⟨q1, q2, q3, q4⟩ := hQ i k ⟨by omega, h2, h4⟩
    have ml : ∀ {x y : List Int}, x.length ≤ 60 → y.length ≤ 60 → (mul x y).length ≤ 120 := fun h1 h2 => Nat.le_trans (mul_len _ _) (by omega)
    have s1 := (E.sz i k h2 h4).1
    have s2 := (E.sz a a ha ha).1
    have s3 := (E.sz i a h2 ha).1
    have s4 := (E.sz a k ha h4).1
    refine ⟨Nat.le_trans (less_len _ _) ?_, Nat.le_trans E.bz.1 (by decide), Nat.le_trans q2 (by decide), less_tr _ _, E.bt, q1, E.b0, sm_of E.bz.2, sm_of q3, fun N => ?_⟩
    · have := ml s1 s2
      have := ml s3 s4
      omega
    · rw [ev_less, ev_mul, ev_mul, paa.2, (E.mt i k (by omega) h2 (by omega) h4).2, (E.mt i a (by omega) h2 (Nat.le_refl a) ha).2, (E.mt a k (Nat.le_refl a) ha (by omega) h4).2, q4, E.be]
      have := sylv (perm A ρ N) (a := a) i k (by omega)
      rw [Int.mul_comm (dn (a + 1 + 1) _) _, ← this, Int.mul_comm (dn (a + 1) (sb (perm A ρ N) a i k))]
  · refine ⟨fun i j h1 h2 h3 h4 => ?_, paa.1, hp, fun N => ?_, fun i j h1 h2 => ?_, E.sz a a ha ha, E.rho⟩
    · obtain ⟨q1, q2, q3, q4⟩ := hQ i j ⟨by omega, h2, h4⟩
      unfold nxt
      rw [if_pos (by omega), if_neg (by omega), if_pos (by omega)]
      exact ⟨q1, q4⟩
    · rw [paa.2, sb_self]
    · unfold nxt
      by_cases e1 : a < i
      · rw [if_pos e1]
        by_cases e2 : j = a
        · rw [if_pos e2]
          exact ⟨Nat.zero_le _, Nat.zero_le _⟩
        · rw [if_neg e2]
          by_cases e3 : a < j
          · rw [if_pos e3]
            obtain ⟨q1, q2, q3, q4⟩ := hQ i j ⟨by omega, h1, h2⟩
            exact ⟨q2, q3⟩
          · rw [if_neg e3]
            exact E.sz i j h1 h2
      · rw [if_neg e1]
        exact E.sz i j h1 h2
theorem run_from {m : Nat} {A : Int → MI} (hm : m ≤ 5) (hA : ∀ r c, r < m → c < m → Rp 11 81 fun N => A N r c) : ∀ (k a : Nat) (ρ : Nat → Nat) (M : Nat → Nat → List Int) (b : List Int), m - a = k → a ≤ m → Est m a A ρ M b →
    ∃ d, Run m a M b d ∧ Tr d ∧ d.length ≤ 60 ∧ nP d ≤ 2 ^ 50 ∧ ∃ ε B : Int, (ε = 1 ∨ ε = -1) ∧ ∀ N, B < N → ev d N = ε * dn m (perm A ρ N)
  | 0, a, ρ, M, b, hk, ham, E => by
    obtain rfl : a = m := by omega
    exact ⟨b, .done, E.bt, E.bz.1, E.bz.2, 1, 0, .inl rfl, fun N _ => by rw [Int.one_mul]; exact E.be N⟩
  | k + 1, a, ρ, M, b, hk, ham, E => by
    have ha : a < m := by omega
    rcases piv_ex m M a with hz | ⟨r, h1, h2, h3, h4⟩
    · refine ⟨[], .zero ha (.no hz), tr_nil, Nat.zero_le _, Nat.zero_le _, 1, ?_⟩
      obtain ⟨B, hB⟩ := ev_far E.bt E.b0
      refine ⟨B, .inl rfl, fun N hN => ?_⟩
      rw [ev_nil, Int.one_mul]
      refine (zero_col (perm A ρ N) hm ha ?_ fun r g1 g2 => ?_).symm
      · rw [← E.be N]
        exact hB N hN
      · rw [← (E.mt r a g1 g2 (Nat.le_refl a) ha).2 N, hz r g1 g2]
        rfl
    · have E' := E.swap h1 h2
      have hp : swp M a r a a ≠ [] := by
        rw [swp_eq]
        have : swi a r a = r := by
          unfold swi
          by_cases e : a = r
          · rw [if_pos e, e]
          · rw [if_neg e, if_pos rfl]
        rw [this]
        exact h3
      obtain ⟨Qt, sok, E2⟩ := E'.step hm ha hA hp
      obtain ⟨d, run, t1, t2, t3, ε, B, hε, hd⟩ := run_from hm hA k (a + 1) _ _ _ (by omega) (by omega) E2
      obtain ⟨δ, hδ, hsw⟩ := dn_swi (a := a) (r := r) hm h1 h2
      refine ⟨d, .next ha (.yes h1 h2 h3 h4) sok run, t1, t2, t3, ε * δ, B, ?_, fun N hN => ?_⟩
      · rcases hε with rfl | rfl <;> rcases hδ with rfl | rfl <;> decide
      · rw [hd N hN, Int.mul_assoc, ← hsw (perm A ρ N)]
/-- the elimination of a matrix of polynomials -/
theorem run_ex {m : Nat} {A : Int → MI} {M : Nat → Nat → List Int} (hm : m ≤ 5) (hA : ∀ r c, r < m → c < m → Rp 11 81 fun N => A N r c) (hM : ∀ r c, r < m → c < m → Tr (M r c) ∧ (M r c).length ≤ 60 ∧ nP (M r c) ≤ 2 ^ 50 ∧ ∀ N, ev (M r c) N = A N r c) :
    ∃ d, Run m 0 M [1] d ∧ Tr d ∧ d.length ≤ 60 ∧ nP d ≤ 2 ^ 50 ∧ ∃ ε B : Int, (ε = 1 ∨ ε = -1) ∧ ∀ N, B < N → ev d N = ε * dn m (A N) := by
  refine run_from hm hA m 0 (fun p => p) M [1] (by omega) (Nat.zero_le _) ⟨fun i j _ h2 _ h4 => ⟨(hM i j h2 h4).1, fun N => ?_⟩, by simp [Tr, trim], by simp, fun N => ?_, fun i j h1 h2 => ⟨(hM i j h1 h2).2.1, (hM i j h1 h2).2.2.1⟩, ⟨by decide, by decide⟩, fun p hp => hp⟩
  · rw [(hM i j h2 h4).2.2.2 N]
    show _ = dt1 _
    rw [dt1_eq]
    rfl
  · simp [ev, dn, mn]
end GK
set_option linter.all false
set_option maxRecDepth 100000
set_option maxHeartbeats 2000000
/-! GBook: the law's sums are the minors of the first rows. -/
namespace GM
theorem erase_insI {c : Int} : ∀ {u : List Int}, u.Pairwise (· < ·) → c ∉ u → (insI c u).erase c = u
  | [], _, _ => by simp [insI]
  | x :: u, h, hc => by
    have h' := List.pairwise_cons.mp h
    have hc' : c ≠ x ∧ c ∉ u := by simpa using hc
    unfold insI
    split
    · rw [List.erase_cons, if_neg (by simp; exact fun e => hc'.1 e.symm), erase_insI h'.2 hc'.2]
    · rw [List.erase_cons_head]
theorem insI_erase {c : Int} {S : List Int} (h : S.Pairwise (· < ·)) (hc : c ∈ S) : insI c (S.erase c) = S := by
  have hnd : S.Nodup := h.imp fun h e => by rw [e] at h; exact Int.lt_irrefl _ h
  have hs : (S.erase c).Pairwise (· < ·) := h.sublist List.erase_sublist
  have hn : c ∉ S.erase c := fun z => ((hnd.mem_erase_iff).mp z).1 rfl
  have hp : (insI c (S.erase c)).Perm S := (insI_perm c (S.erase c)).trans ((List.perm_append_comm (l₁ := S.erase c) (l₂ := [c])).trans (List.perm_cons_erase hc).symm)
  exact List.Perm.eq_of_pairwise (le := fun a b : Int => a < b) (fun a b _ _ h1 h2 => by omega) (insI_srt c _ hs hn) h hp
theorem ins_iff {c : Int} {u S : List Int} (hu : u.Pairwise (· < ·)) (hS : S.Pairwise (· < ·)) : (c ∉ u ∧ insI c u = S) ↔ (c ∈ S ∧ u = S.erase c) := by
  constructor
  · rintro ⟨h1, rfl⟩
    exact ⟨insI_mem.mpr (.inr rfl), (erase_insI hu h1).symm⟩
  · rintro ⟨h1, rfl⟩
    have hnd : S.Nodup := hS.imp fun h e => by rw [e] at h; exact Int.lt_irrefl _ h
    exact ⟨fun z => ((hnd.mem_erase_iff).mp z).1 rfl, insI_erase hS h1⟩
/-- sums over lists -/
theorem sum_zero {α : Type} {f : α → Int} : ∀ (l : List α), (∀ x ∈ l, f x = 0) → (l.map f).sum = 0
  | [], _ => rfl
  | x :: l, h => by
    rw [List.map_cons, List.sum_cons, h x List.mem_cons_self, sum_zero l fun y hy => h y (List.mem_cons_of_mem _ hy)]
    rfl
theorem sum_add {α : Type} {f g : α → Int} : ∀ (l : List α), (l.map fun x => f x + g x).sum = (l.map f).sum + (l.map g).sum
  | [] => rfl
  | x :: l => by
    simp only [List.map_cons, List.sum_cons, sum_add l]
    omega
theorem sum_swap {α β : Type} {f : α → β → Int} : ∀ (l : List α) (m : List β), (l.map fun x => (m.map fun y => f x y).sum).sum = (m.map fun y => (l.map fun x => f x y).sum).sum
  | [], m => by
    simp only [List.map_nil, List.sum_nil]
    exact (sum_zero m fun _ _ => rfl).symm
  | x :: l, m => by
    simp only [List.map_cons, List.sum_cons, sum_swap l m, sum_add]
theorem sum_one {α : Type} [DecidableEq α] {v : α} {g : α → Int} : ∀ (l : List α), l.Nodup → (l.map fun x => if x = v then g x else 0).sum = if v ∈ l then g v else 0
  | [], _ => rfl
  | x :: l, h => by
    have h' := List.nodup_cons.mp h
    rw [List.map_cons, List.sum_cons, sum_one l h'.2]
    by_cases e : x = v
    · subst e
      rw [if_pos rfl, if_neg h'.1, if_pos List.mem_cons_self]
      omega
    · rw [if_neg e]
      have : (v ∈ x :: l) ↔ v ∈ l := by
        rw [List.mem_cons]
        exact ⟨fun z => z.resolve_left fun z => e z.symm, .inr⟩
      by_cases hv : v ∈ l
      · rw [if_pos hv, if_pos (this.mpr hv)]
        omega
      · rw [if_neg hv, if_neg fun z => hv (this.mp z)]
        rfl
theorem sum_congr {α : Type} {f g : α → Int} {l : List α} (h : ∀ x ∈ l, f x = g x) : (l.map f).sum = (l.map g).sum := by rw [List.map_congr_left h]
/-- the sum over the places below m that lie in a rising list is the list's own -/
theorem sum_in {m : Nat} {S : List Int} {G : Int → Int} (hS : S.Nodup) (hr : ∀ x ∈ S, 0 ≤ x ∧ x < m) : ((List.range m).map fun (c : Nat) => if (c : Int) ∈ S then G c else 0).sum = (S.map G).sum := by
  have h1 : ((List.range m).map fun (c : Nat) => if (c : Int) ∈ S then G c else 0).sum = ((List.range m).map fun (c : Nat) => (S.map fun s => if s = (c : Int) then G s else 0).sum).sum := sum_congr fun c _ => by
    rw [sum_one S hS]
  rw [h1, sum_swap]
  refine sum_congr fun s hs => ?_
  have hs' := hr s hs
  have h2 : ((List.range m).map fun (x : Nat) => if s = (x : Int) then G s else 0).sum = ((List.range m).map fun (x : Nat) => if x = s.toNat then (fun _ => G s) x else 0).sum := sum_congr fun x _ => by
    by_cases e : s = (x : Int)
    · rw [if_pos e, if_pos (by omega)]
    · rw [if_neg e, if_neg (by omega)]
  rw [h2, sum_one _ List.nodup_range, if_pos (List.mem_range.mpr (by omega))]
/-! what a book comes to -/
theorem evS_lawIn {L : Nat → Ser} {e : List Int × Ser} {c : Nat} {w : TBk} {O o : Int} {S : List Int} (he : ∀ p ∈ e.2, 0 ≤ p.1 + O) (hl : ∀ p ∈ L c, 0 ≤ p.1 + o) (N : Int) :
    evS (O + o) (tget (lawIn L e c w) S) N = evS (O + o) (tget w S) N + (if (c : Int) ∉ e.1 ∧ insI c e.1 = S then sgU e.1 c * (evS O e.2 N * evS o (L c) N) else 0) := by
  unfold lawIn
  by_cases h1 : (c : Int) ∈ e.1
  · rw [if_pos (.inl h1), if_neg fun z => z.1 h1]
    omega
  · by_cases h2 : L c = []
    · rw [if_pos (.inr h2), h2]
      simp [evS]
    · rw [if_neg (fun z => z.elim h1 h2), tget_put]
      by_cases h3 : insI c e.1 = S
      · rw [if_pos h3.symm, if_pos ⟨h1, h3⟩, h3, evS_plus]
        congr 1
        have hp : ∀ p ∈ sTimes e.2 (L c), 0 ≤ p.1 + (O + o) := fun p hp => by
          have k1 := ((told_mem (times_nd e.2 (L c))).mp hp).1
          rcases (timesB_ok (L c) e.2 [] List.nodup_nil).2.1 _ (mem_key k1) with k2 | ⟨q, hq, r, hr, k2⟩
          · simp [keys] at k2
          · have := he q hq
            have := hl r hr
            omega
        have := evS_times (a := sTimes e.2 (L c)) (b := [(0, sgU e.1 c)]) (m := O + o) (n := 0) hp (fun r hr => by rw [List.mem_singleton.mp hr]; exact Int.le_refl _) N
        rw [Int.add_zero] at this
        rw [this, evS_times he hl]
        simp [evS, Int.mul_comm]
      · rw [if_neg (fun z => h3 z.symm), if_neg (fun z => h3 z.2)]
        omega
theorem evS_lawC {L : Nat → Ser} {e : List Int × Ser} {O o : Int} {S : List Int} (he : ∀ p ∈ e.2, 0 ≤ p.1 + O) (N : Int) : ∀ (cs : List Nat) (w : TBk), (∀ c ∈ cs, ∀ p ∈ L c, 0 ≤ p.1 + o) →
    evS (O + o) (tget (lawC L e cs w) S) N = evS (O + o) (tget w S) N + (cs.map fun (c : Nat) => if (c : Int) ∉ e.1 ∧ insI c e.1 = S then sgU e.1 c * (evS O e.2 N * evS o (L c) N) else 0).sum
  | [], w, _ => by simp [lawC]
  | c :: cs, w, h => by
    show evS (O + o) (tget (lawC L e cs (lawIn L e c w)) S) N = _
    rw [evS_lawC he N cs _ fun c hc => h c (List.mem_cons_of_mem _ hc), evS_lawIn he (h c List.mem_cons_self), List.map_cons, List.sum_cons]
    omega
theorem evS_lawE {L : Nat → Ser} {m : Nat} {O o : Int} {S : List Int} (hl : ∀ c, c < m → ∀ p ∈ L c, 0 ≤ p.1 + o) (N : Int) : ∀ (b w : TBk), (∀ e ∈ b, ∀ p ∈ e.2, 0 ≤ p.1 + O) →
    evS (O + o) (tget (lawE L m b w) S) N = evS (O + o) (tget w S) N + (b.map fun e => ((List.range m).map fun (c : Nat) => if (c : Int) ∉ e.1 ∧ insI c e.1 = S then sgU e.1 c * (evS O e.2 N * evS o (L c) N) else 0).sum).sum
  | [], w, _ => by simp [lawE]
  | e :: b, w, h => by
    show evS (O + o) (tget (lawE L m b (lawC L e (List.range m) w)) S) N = _
    rw [evS_lawE hl N b _ fun e he => h e (List.mem_cons_of_mem _ he), evS_lawC (h e List.mem_cons_self) N _ _ fun c hc => hl c (List.mem_range.mp hc), List.map_cons, List.sum_cons]
    omega
def Os (o : Nat → Int) : Nat → Int
  | 0 => 0
  | r + 1 => Os o r + o r
theorem tget_in {b : TBk} (h : (tkeys b).Nodup) {e : List Int × Ser} (he : e ∈ b) : tget b e.1 = e.2 := by
  induction b with
  | nil => cases he
  | cons f b ih =>
    have h' : (f.1 :: tkeys b).Nodup := h
    rw [List.nodup_cons] at h'
    rcases List.mem_cons.mp he with rfl | he
    · exact tget_cons_pos rfl
    · rw [tget_cons_neg fun z => h'.1 (List.mem_map.mpr ⟨e, he, z.symm⟩)]
      exact ih h'.2 he
theorem tget_out {b : TBk} {k : List Int} (h : k ∉ tkeys b) : tget b k = [] := by
  rcases tget_mem (b := b) (k := k) with z | z
  · exact z
  · exact absurd (List.mem_map.mpr ⟨_, z, rfl⟩) h
theorem book_lo {m : Nat} {L : Nat → Nat → Ser} {o : Nat → Int} (hL : ∀ r, r < m → LOk m (-5) 5 81 (L r)) (ho : ∀ r, r < m → ∀ c, c < m → ∀ p ∈ L r c, 0 ≤ p.1 + o r) : ∀ r, r ≤ m → ∃ hi B, TOk m r (-(Os o r)) hi B (lawSum L m r)
  | 0, _ => by
    refine ⟨0, 1, fun e he => ?_, by simp [lawSum, tkeys]⟩
    rw [show lawSum L m 0 = [([], [(0, 1)])] from rfl, List.mem_singleton] at he
    subst he
    refine ⟨List.Pairwise.nil, rfl, fun x hx => (by cases hx), ⟨List.pairwise_singleton _ _, fun p hp => ?_⟩, fun p hp => ?_, (by decide)⟩
    · rw [List.mem_singleton.mp hp]
      decide
    · rw [List.mem_singleton.mp hp]
      simp [Os]
  | r + 1, hr => by
    obtain ⟨hi, B, h⟩ := book_lo hL ho r (by omega)
    have l := hL r (by omega)
    have l' : LOk m (-(o r)) 5 81 (L r) := ⟨l.can, fun c hc p hp => ⟨by have := ho r (by omega) c hc p hp; omega, (l.rg c hc p hp).2⟩, l.ns⟩
    obtain ⟨g, _⟩ := lawE_ok l' (lawSum L m r) 0 [] h.ent (tok_nil _ _ _ _ _) (Nat.le_refl _)
    have e : -(Os o r) + -(o r) = -(Os o (r + 1)) := by
      show _ = -(Os o r + o r)
      omega
    rw [e] at g
    exact ⟨_, _, g⟩
theorem book_mn {m : Nat} {L : Nat → Nat → Ser} {o : Nat → Int} (hL : ∀ r, r < m → LOk m (-5) 5 81 (L r)) (ho : ∀ r, r < m → ∀ c, c < m → ∀ p ∈ L r c, 0 ≤ p.1 + o r) (N : Int) : ∀ r, r ≤ m → ∀ S : List Int, S.Pairwise (· < ·) → S.length = r → (∀ x ∈ S, 0 ≤ x ∧ x < m) →
    evS (Os o r) (tget (lawSum L m r) S) N = mn (fun r c => evS (o r) (L r c) N) (List.range r).reverse S
  | 0, _, S, _, hl, _ => by
    obtain rfl : S = [] := List.eq_nil_of_length_eq_zero hl
    simp [lawSum, tget, evS, mn, Os]
  | r + 1, hr, S, hS, hl, hx => by
    obtain ⟨hi, B, tok⟩ := book_lo hL ho r (by omega)
    obtain ⟨b, hb⟩ : ∃ b, b = lawSum L m r := ⟨_, rfl⟩
    obtain ⟨A, hA⟩ : ∃ A : MI, A = fun r c => evS (o r) (L r c) N := ⟨_, rfl⟩
    have ih := book_mn hL ho N r (by omega)
    rw [← hb] at tok ih
    rw [← hA] at ih ⊢
    have hnd : S.Nodup := hS.imp fun h e => by rw [e] at h; exact Int.lt_irrefl _ h
    have lower : ∀ e ∈ b, ∀ p ∈ e.2, 0 ≤ p.1 + Os o r := fun e he p hp => by
      have := (tok.ent e he).rg p hp
      omega
    have key := evS_lawE (S := S) (ho r (by omega)) N b [] lower
    have e0 : lawSum L m (r + 1) = lawE (L r) m b [] := by rw [hb]; rfl
    have es : (S.map fun c => sgU (S.erase c) c * mn A (List.range r).reverse (S.erase c) * A r c.toNat) = S.map fun c => sgU (S.erase c) c * (mn A (List.range r).reverse (S.erase c) * A r c.toNat) := List.map_congr_left fun c _ => by rw [Int.mul_assoc]
    rw [List.range_succ, List.reverse_append]
    show evS (Os o r + o r) _ N = (S.map fun c => sgU (S.erase c) c * mn A (List.range r).reverse (S.erase c) * A r c.toNat).sum
    rw [es, e0, key]
    have z0 : evS (Os o r + o r) (tget [] S) N = 0 := rfl
    rw [z0, Int.zero_add]
    -- by the keys
    have h1 : (b.map fun e => ((List.range m).map fun (c : Nat) => if (c : Int) ∉ e.1 ∧ insI c e.1 = S then sgU e.1 c * (evS (Os o r) e.2 N * evS (o r) (L r c) N) else 0).sum).sum =
        ((tkeys b).map fun u => ((List.range m).map fun (c : Nat) => if u = S.erase (c : Int) then (if (c : Int) ∈ S then sgU u c * (mn A (List.range r).reverse u * A r c) else 0) else 0).sum).sum := by
      unfold tkeys
      rw [List.map_map]
      refine sum_congr fun e he => ?_
      have te := tok.ent e he
      show _ = ((List.range m).map fun (c : Nat) => if e.1 = S.erase (c : Int) then (if (c : Int) ∈ S then sgU e.1 c * (mn A (List.range r).reverse e.1 * A r c) else 0) else 0).sum
      refine sum_congr fun c _ => ?_
      have hv : evS (Os o r) e.2 N = mn A (List.range r).reverse e.1 := by
        rw [← ih e.1 te.srt te.len te.rng, tget_in tok.nd he]
      have hac : evS (o r) (L r c) N = A r c := by rw [hA]
      rw [hv, hac]
      have iff := ins_iff (c := (c : Int)) te.srt hS
      by_cases q : (c : Int) ∉ e.1 ∧ insI c e.1 = S
      · obtain ⟨q1, q2⟩ := iff.mp q
        rw [if_pos q, if_pos q2, if_pos q1]
      · rw [if_neg q]
        by_cases q2 : e.1 = S.erase (c : Int)
        · rw [if_pos q2, if_neg fun q1 => q (iff.mpr ⟨q1, q2⟩)]
        · rw [if_neg q2]
    rw [h1, sum_swap]
    have h2 : ((List.range m).map fun (c : Nat) => ((tkeys b).map fun u => if u = S.erase (c : Int) then (if (c : Int) ∈ S then sgU u c * (mn A (List.range r).reverse u * A r c) else 0) else 0).sum).sum =
        ((List.range m).map fun (c : Nat) => if (c : Int) ∈ S then (fun s : Int => sgU (S.erase s) s * (mn A (List.range r).reverse (S.erase s) * A r s.toNat)) (c : Int) else 0).sum := by
      refine sum_congr fun c _ => ?_
      rw [sum_one (tkeys b) tok.nd]
      by_cases hc : (c : Int) ∈ S
      · rw [if_pos hc, if_pos hc]
        by_cases hk : S.erase (c : Int) ∈ tkeys b
        · rw [if_pos hk]
          rfl
        · rw [if_neg hk]
          have h3 := ih (S.erase (c : Int)) (hS.sublist List.erase_sublist) (by rw [List.length_erase_of_mem hc]; omega) fun x hx' => hx x (List.mem_of_mem_erase hx')
          rw [tget_out hk] at h3
          have h4 : mn A (List.range r).reverse (S.erase (c : Int)) = 0 := h3.symm
          show (0 : Int) = sgU _ _ * (mn A (List.range r).reverse (S.erase (c : Int)) * _)
          rw [h4, Int.zero_mul, Int.mul_zero]
      · rw [if_neg hc, if_neg hc]
        split <;> rfl
    rw [h2]
    exact sum_in (G := fun s : Int => sgU (S.erase s) s * (mn A (List.range r).reverse (S.erase s) * A r s.toNat)) hnd hx
end GM
set_option linter.all false
set_option maxRecDepth 100000
set_option maxHeartbeats 2000000
/-! GFin: the plain law. -/
namespace GK
open GM
/-! ### series and polynomials -/
theorem ev_putT (least N : Int) : ∀ (s : Ser) (row : List Int), (keys s).Nodup → (∀ p ∈ s, least ≤ p.1 ∧ p.1 - least < row.length ∧ row.getD (p.1 - least).toNat 0 = 0) → ev (putT least s row) N = ev row N + evS (-least) s N
  | [], row, _, _ => by simp [putT, evS]
  | p :: s, row, hn, h => by
    have hn' : p.1 ∉ keys s ∧ (keys s).Nodup := by simpa [keys] using hn
    obtain ⟨h1, h2, h3⟩ := h p List.mem_cons_self
    show ev (putT least s (row.set (p.1 - least).toNat p.2)) N = ev row N + (p.2 * N ^ (p.1 + -least).toNat + evS (-least) s N)
    rw [ev_putT least N s _ hn'.2 fun q hq => ?_]
    · have := ev_set row (p.1 - least).toNat p.2 N (by omega)
      rw [h3, Int.zero_add] at this
      rw [this, show (p.1 + -least).toNat = (p.1 - least).toNat by omega]
      omega
    · obtain ⟨k1, k2, k3⟩ := h q (List.mem_cons_of_mem _ hq)
      have hne : q.1 ≠ p.1 := fun e => hn'.1 (e ▸ mem_key hq)
      refine ⟨k1, by rw [List.length_set]; exact k2, ?_⟩
      rw [List.getD_eq_getElem?_getD, List.getElem?_set_ne (by omega), ← List.getD_eq_getElem?_getD]
      exact k3
theorem nP_set : ∀ (row : List Int) (i : Nat) (x : Int), nP (row.set i x) ≤ nP row + x.natAbs
  | [], _, _ => by simp [nP]
  | c :: r, 0, x => by
    show x.natAbs + nP r ≤ c.natAbs + nP r + x.natAbs
    omega
  | c :: r, i + 1, x => by
    have := nP_set r i x
    show c.natAbs + nP (r.set i x) ≤ c.natAbs + nP r + x.natAbs
    omega
theorem nP_putT (least : Int) : ∀ (s : Ser) (row : List Int), nP (putT least s row) ≤ nP row + nS s
  | [], row => Nat.le_refl _
  | p :: s, row => by
    have h1 := nP_putT least s (row.set (p.1 - least).toNat p.2)
    have h2 := nP_set row (p.1 - least).toNat p.2
    show nP (putT least s (row.set (p.1 - least).toNat p.2)) ≤ nP row + (p.2.natAbs + nS s)
    omega
theorem nP_rep0 : ∀ n : Nat, nP (List.replicate n 0) = 0
  | 0 => rfl
  | n + 1 => by
    show (0 : Int).natAbs + nP (List.replicate n 0) = 0
    rw [nP_rep0 n]
    rfl
/-- the last exponent of a rising series is the greatest -/
theorem srt_last : ∀ {s : Ser} (_ : Srt s) (h : s ≠ []) (p : Int × Int), p ∈ s → p.1 ≤ (s.getLast h).1
  | [q], _, _, p, hp => by
    rw [List.mem_singleton.mp hp]
    exact Int.le_refl _
  | q :: r :: s, hs, h, p, hp => by
    have hc := List.pairwise_cons.mp hs
    rw [List.getLast_cons (by simp)]
    rcases List.mem_cons.mp hp with rfl | hp
    · exact Int.le_of_lt (hc.1 _ (List.getLast_mem _))
    · exact srt_last hc.2 (by simp) p hp
theorem poly_facts {s : Ser} {least : Int} (hc : Can s) (hr : Rg (-5) 5 s) (hn : nS s ≤ 81) (h5 : -5 ≤ least) (hl : ∀ p ∈ s, least ≤ p.1) : PyOk s least ∧ Tr (polyS s least) ∧ (polyS s least).length ≤ 11 ∧ nP (polyS s least) ≤ 81 ∧ ∀ N, ev (polyS s least) N = evS (-least) s N := by
  have hsz : ∀ h : s ≠ [], (s.getLast h).1 - least ≤ 10 := fun h => by
    have := (hr _ (List.getLast_mem h)).2
    omega
  refine ⟨⟨Nat.le_trans (rg_len hc hr (by omega)) (by decide), hl, fun p hp h => srt_last hc.srt h p hp, fun h => by have := hsz h; omega⟩, ?_⟩
  by_cases h0 : s = []
  · subst h0
    exact ⟨tr_nil, Nat.zero_le _, Nat.zero_le _, fun N => rfl⟩
  · have hlo := hl _ (List.getLast_mem h0)
    have hs := hsz h0
    have e : polyS s least = trim (putT least s (List.replicate ((s.getLast h0).1 - least + 1).toNat 0)) := by
      unfold polyS
      rw [List.getLast?_eq_some_getLast h0]
    rw [e]
    refine ⟨tr_trim _, Nat.le_trans (trim_len _) ?_, Nat.le_trans (nP_trim _) (Nat.le_trans (nP_putT _ _ _) ?_), fun N => ?_⟩
    · rw [putT_len, List.length_replicate]
      omega
    · rw [nP_rep0]
      omega
    · rw [ev_trim, ev_putT least N s _ (srt_keys hc.srt) fun p hp => ⟨hl p hp, ?_, ?_⟩, ev_rep0, Int.zero_add]
      · have := srt_last hc.srt h0 p hp
        have := hl p hp
        rw [List.length_replicate]
        omega
      · rw [List.getD_eq_getElem?_getD, List.getElem?_replicate]
        split <;> rfl
/-! ### the lines -/
def Ln (k : Nat) (r : List Ser) : Prop := ∀ s ∈ r, Can s ∧ Rg (-(k : Int)) k s
theorem can_one : Can [(0, 1)] := ⟨List.pairwise_singleton _ _, fun p hp => by rw [List.mem_singleton.mp hp]; decide⟩
theorem ln_start (n a : Nat) : Ln 0 ((List.replicate n ([] : Ser)).set a [(0, 1)]) := fun s hs => by
  rcases List.mem_or_eq_of_mem_set hs with z | z
  · rw [(List.mem_replicate.mp z).2]
    exact ⟨can_nil, rg_nil _ _⟩
  · rw [z]
    exact ⟨can_one, fun p hp => by rw [List.mem_singleton.mp hp]; exact ⟨by decide, by decide⟩⟩
theorem rg_one {k : Nat} {e c : Int} (h : -(k : Int) ≤ e ∧ e ≤ k) : Rg (-(k : Int)) k [(e, c)] := fun p hp => by rw [List.mem_singleton.mp hp]; exact h
theorem ln_step {k : Nat} {r : List Ser} (h : Ln k r) (c : Nat) {sg : Int} (hs : sg = 1 ∨ sg = -1) : Ln (k + 1) (lstep r c sg) := by
  have ht : Ln (k + 1) (r.map (sTimes [(sg, 1)])) := fun s hs' => by
    obtain ⟨q, hq, rfl⟩ := List.mem_map.mp hs'
    refine ⟨can_times _ _, rg_mono (rg_times (lo := -1) (hi := 1) (fun p hp => ?_) (h q hq).2) (by omega) (by omega)⟩
    rw [List.mem_singleton.mp hp]
    rcases hs with rfl | rfl <;> exact ⟨by decide, by decide⟩
  intro s hs'
  rcases List.mem_or_eq_of_mem_set hs' with z | z
  · exact ht s z
  · rw [z]
    refine ⟨can_plus _ _, rg_plus ?_ (rg_plus (rg_one (by omega)) (rg_one (by omega)))⟩
    by_cases hc : c < (r.map (sTimes [(sg, 1)])).length
    · exact (ht _ (getD_mem hc)).2
    · rw [List.getD_eq_getElem?_getD, List.getElem?_eq_none (by omega)]
      exact rg_nil _ _
theorem ln_fold : ∀ (over : List (Nat × Int)) (k : Nat) (r : List Ser), (∀ p ∈ over, p.2 = 1 ∨ p.2 = -1) → Ln k r → Ln (k + over.length) (lfold over r)
  | [], k, r, _, h => h
  | p :: over, k, r, hp, h => by
    have := ln_fold over (k + 1) _ (fun q hq => hp q (List.mem_cons_of_mem _ hq)) (ln_step h p.1 (hp p List.mem_cons_self))
    rw [List.length_cons, show k + (over.length + 1) = k + 1 + over.length by omega]
    exact this
theorem sgnC_pm (xs zs : List Int) (c : Nat) (b : Bool) : sgnC xs zs c b = 1 ∨ sgnC xs zs c b = -1 := by
  unfold sgnC
  split
  · exact .inr rfl
  · exact .inl rfl
theorem row_facts {xs zs : List Int} {n r : Nat} (h : RowAt xs zs n r) (hn : n ≤ 6) : ∀ s ∈ rowS xs zs n r, Can s ∧ Rg (-5) 5 s ∧ nS s ≤ 81 := by
  have ha := h.a
  have hb := h.b
  obtain ⟨a, ea⟩ : ∃ a, a = zs.idxOf (r : Int) := ⟨_, rfl⟩
  obtain ⟨b, eb⟩ : ∃ b, b = xs.idxOf (r : Int) := ⟨_, rfl⟩
  rw [← ea] at ha
  rw [← eb] at hb
  have hol : (overN xs zs r a b).length ≤ 5 := by
    unfold overN passN
    rw [List.length_map]
    refine Nat.le_trans (List.length_filter_le _ _) ?_
    unfold upto
    split <;> rw [List.length_map, List.length_range] <;> omega
  have hop : ∀ p ∈ overN xs zs r a b, p.2 = 1 ∨ p.2 = -1 := fun p hp => by
    obtain ⟨c, _, rfl⟩ := List.mem_map.mp hp
    exact sgnC_pm _ _ _ _
  have h1 := ln_fold (overN xs zs r a b) 0 _ hop (ln_start n a)
  have h2 := lb_fold (overN xs zs r a b) 1 _ (lb_start n a)
  intro s hs
  unfold rowS at hs
  rw [← ea, ← eb] at hs
  unfold lineS lend at hs
  rcases List.mem_or_eq_of_mem_set hs with z | z
  · have k1 := h1 s z
    have k2 := h2 s z
    exact ⟨k1.1, rg_mono k1.2 (by omega) (by omega), by omega⟩
  · rw [z]
    have k2 := lb_getD h2 b
    have k3 := nS_plus ((lfold (overN xs zs r a b) ((List.replicate n []).set a [(0, 1)])).getD b []) [(0, -1)]
    have k4 : nS [((0 : Int), (-1 : Int))] = 1 := rfl
    refine ⟨can_plus _ _, rg_plus ?_ (fun p hp => by rw [List.mem_singleton.mp hp]; exact ⟨by decide, by decide⟩), by omega⟩
    by_cases hc : b < (lfold (overN xs zs r a b) ((List.replicate n []).set a [(0, 1)])).length
    · exact rg_mono (h1 _ (getD_mem hc)).2 (by omega) (by omega)
    · rw [List.getD_eq_getElem?_getD, List.getElem?_eq_none (by omega)]
      exact rg_nil _ _
theorem foldl_min : ∀ (l : List Int) (a : Int), l.foldl min a ≤ a ∧ (∀ x ∈ l, l.foldl min a ≤ x) ∧ (l.foldl min a = a ∨ l.foldl min a ∈ l)
  | [], a => ⟨Int.le_refl _, fun x hx => (by cases hx), .inl rfl⟩
  | y :: l, a => by
    obtain ⟨h1, h2, h3⟩ := foldl_min l (min a y)
    refine ⟨by show l.foldl min (min a y) ≤ a; omega, fun x hx => ?_, ?_⟩
    · show l.foldl min (min a y) ≤ x
      rcases List.mem_cons.mp hx with rfl | hx
      · omega
      · exact h2 x hx
    · show l.foldl min (min a y) = a ∨ l.foldl min (min a y) ∈ y :: l
      rcases h3 with h3 | h3
      · rcases Int.le_total a y with z | z
        · left
          omega
        · right
          have : l.foldl min (min a y) = y := by omega
          rw [this]
          exact List.mem_cons_self
      · exact .inr (List.mem_cons_of_mem _ h3)
theorem minL_facts (l : List Int) : (∀ x ∈ l, minL 0 l ≤ x) ∧ (minL 0 l = 0 ∨ minL 0 l ∈ l) := by
  cases l with
  | nil => exact ⟨fun x hx => (by cases hx), .inl rfl⟩
  | cons a l =>
    obtain ⟨h1, h2, h3⟩ := foldl_min l a
    refine ⟨fun x hx => ?_, .inr ?_⟩
    · show l.foldl min a ≤ x
      rcases List.mem_cons.mp hx with rfl | hx
      · exact h1
      · exact h2 x hx
    · show l.foldl min a ∈ a :: l
      rcases h3 with h3 | h3
      · rw [h3]
        exact List.mem_cons_self
      · exact List.mem_cons_of_mem _ h3
theorem least_facts {r : List Ser} (h : ∀ s ∈ r, Can s ∧ Rg (-5) 5 s) : -5 ≤ leastE r ∧ ∀ s ∈ r, ∀ p ∈ s, leastE r ≤ p.1 := by
  obtain ⟨h1, h2⟩ := minL_facts ((r.filter fun s : Ser => decide (0 < s.length)).map firstE)
  refine ⟨?_, fun s hs p hp => ?_⟩
  · rcases h2 with h2 | h2
    · show -5 ≤ minL 0 _
      omega
    · obtain ⟨s, hs, e⟩ := List.mem_map.mp h2
      obtain ⟨hs1, hs2⟩ := List.mem_filter.mp hs
      show -5 ≤ minL 0 _
      rw [← e]
      cases s with
      | nil => cases hs2
      | cons q s => exact ((h _ hs1).2 q List.mem_cons_self).1
  · cases s with
    | nil => cases hp
    | cons q s =>
      have h3 : leastE r ≤ q.1 := h1 _ (List.mem_map.mpr ⟨q :: s, List.mem_filter.mpr ⟨hs, by simp⟩, rfl⟩)
      rcases List.mem_cons.mp hp with rfl | hp
      · exact h3
      · have := (List.pairwise_cons.mp (h _ hs).1.srt).1 p hp
        omega
/-! ### two series that come to the same far out -/
theorem getD_putT : ∀ (s : Ser) (row : List Int) (i : Nat), (keys s).Nodup → (∀ p ∈ s, 0 ≤ p.1 ∧ p.1 < row.length) → (putT 0 s row).getD i 0 = if (i : Int) ∈ keys s then bget s i else row.getD i 0
  | [], row, i, _, _ => rfl
  | p :: s, row, i, hn, h => by
    have hn' : p.1 ∉ keys s ∧ (keys s).Nodup := by simpa [keys] using hn
    obtain ⟨h1, h2⟩ := h p List.mem_cons_self
    show (putT 0 s (row.set (p.1 - 0).toNat p.2)).getD i 0 = _
    rw [getD_putT s _ i hn'.2 fun q hq => by rw [List.length_set]; exact h q (List.mem_cons_of_mem _ hq)]
    have hk : ((i : Int) ∈ keys (p :: s)) ↔ ((i : Int) = p.1 ∨ (i : Int) ∈ keys s) := by simp [keys]
    by_cases hi : (i : Int) ∈ keys s
    · rw [if_pos hi, if_pos (hk.mpr (.inr hi)), bget_cons_neg fun e => hn'.1 (e ▸ hi)]
    · rw [if_neg hi]
      by_cases e : p.1 = (i : Int)
      · rw [if_pos (hk.mpr (.inl e.symm)), bget_cons_pos e, List.getD_eq_getElem?_getD, show (p.1 - 0).toNat = i by omega, List.getElem?_set_self (by omega)]
        rfl
      · rw [if_neg fun z => (hk.mp z).elim (fun z => e z.symm) hi, List.getD_eq_getElem?_getD, List.getElem?_set_ne (by omega), ← List.getD_eq_getElem?_getD]
theorem top_of : ∀ s : Ser, ∃ k : Nat, ∀ p ∈ s, p.1 < k
  | [] => ⟨0, fun p hp => (by cases hp)⟩
  | q :: s => by
    obtain ⟨k, h⟩ := top_of s
    refine ⟨k + q.1.toNat + 1, fun p hp => ?_⟩
    rcases List.mem_cons.mp hp with rfl | hp
    · omega
    · have := h p hp
      omega
theorem ser_uniq {s t : Ser} (hs : Can s) (ht : Can t) (ps : ∀ p ∈ s, 0 ≤ p.1) (pt : ∀ p ∈ t, 0 ≤ p.1) {B : Int} (h : ∀ N, B < N → evS 0 s N = evS 0 t N) : s = t := by
  obtain ⟨k1, hk1⟩ := top_of s
  obtain ⟨k2, hk2⟩ := top_of t
  have rs : ∀ p ∈ s, 0 ≤ p.1 ∧ p.1 < (List.replicate (k1 + k2) (0 : Int)).length := fun p hp => ⟨ps p hp, by rw [List.length_replicate]; have := hk1 p hp; omega⟩
  have rt : ∀ p ∈ t, 0 ≤ p.1 ∧ p.1 < (List.replicate (k1 + k2) (0 : Int)).length := fun p hp => ⟨pt p hp, by rw [List.length_replicate]; have := hk2 p hp; omega⟩
  have z0 : ∀ i, (List.replicate (k1 + k2) (0 : Int)).getD i 0 = 0 := fun i => by
    rw [List.getD_eq_getElem?_getD, List.getElem?_replicate]
    split <;> rfl
  have e1 : ∀ N, ev (putT 0 s (List.replicate (k1 + k2) 0)) N = evS 0 s N := fun N => by
    rw [ev_putT 0 N s _ (srt_keys hs.srt) fun p hp => ⟨ps p hp, by have := rs p hp; omega, z0 _⟩, ev_rep0, Int.zero_add]
    rfl
  have e2 : ∀ N, ev (putT 0 t (List.replicate (k1 + k2) 0)) N = evS 0 t N := fun N => by
    rw [ev_putT 0 N t _ (srt_keys ht.srt) fun p hp => ⟨pt p hp, by have := rt p hp; omega, z0 _⟩, ev_rep0, Int.zero_add]
    rfl
  have key := ev_inj (p := putT 0 s (List.replicate (k1 + k2) 0)) (q := putT 0 t (List.replicate (k1 + k2) 0)) (B := B) fun N hN => by rw [e1, e2, h N hN]
  have kk : ∀ i : Nat, bget s i = bget t i := fun i => by
    have := key i
    rw [getD_putT s _ i (srt_keys hs.srt) rs, getD_putT t _ i (srt_keys ht.srt) rt, z0] at this
    by_cases h1 : (i : Int) ∈ keys s <;> by_cases h2 : (i : Int) ∈ keys t
    · rw [if_pos h1, if_pos h2] at this
      exact this
    · rw [if_pos h1, if_neg h2] at this
      rw [this, bget_none h2]
    · rw [if_neg h1, if_pos h2] at this
      rw [bget_none h1, this]
    · rw [bget_none h1, bget_none h2]
  have half : ∀ {s t : Ser}, Can s → Can t → (∀ p ∈ s, 0 ≤ p.1) → (∀ i : Nat, bget s i = bget t i) → ∀ p, p ∈ s → p ∈ t := fun {s t} hs ht ps kk p hp => by
    obtain ⟨e, c⟩ := p
    have h0 := ps _ hp
    have hc := hs.nz _ hp
    obtain ⟨h1, h2⟩ := (mem_book (srt_keys hs.srt)).mp hp
    have h3 := kk e.toNat
    rw [show ((e.toNat : Nat) : Int) = e by omega, h2] at h3
    refine (mem_book (srt_keys ht.srt)).mpr ⟨Decidable.byContradiction fun z => ?_, h3.symm⟩
    rw [bget_none z] at h3
    exact hc h3
  exact srt_ext hs.srt ht.srt fun p => ⟨half hs ht ps kk p, half ht hs pt (fun i => (kk i).symm) p⟩
theorem sgn1_mul {ε x : Int} (hε : ε = 1 ∨ ε = -1) (hx : x ≠ 0) : sgn1 (ε * x) * ε = sgn1 x := by
  unfold sgn1
  rcases hε with rfl | rfl
  · rw [Int.one_mul, Int.mul_one]
  · by_cases h : x > 0
    · rw [if_pos h, if_neg (by omega)]
      decide
    · rw [if_neg h, if_pos (by omega)]
      decide
theorem evS_shift (O ε N : Int) : ∀ s : Ser, evS 0 (s.map fun p => (p.1 + O, ε * p.2)) N = ε * evS O s N
  | [] => by simp [evS]
  | p :: s => by
    show ε * p.2 * N ^ (p.1 + O + 0).toNat + evS 0 (s.map fun p => (p.1 + O, ε * p.2)) N = ε * (p.2 * N ^ (p.1 + O).toNat + evS O s N)
    rw [evS_shift O ε N s, Int.add_zero, Int.mul_add, Int.mul_assoc]
theorem plainT_eq {s t : Ser} {O ε B : Int} (hs : Can s) (ht : Can t) (ps : ∀ p ∈ s, 0 ≤ p.1 + O) (pt : ∀ p ∈ t, 0 ≤ p.1) (hε : ε = 1 ∨ ε = -1) (h : ∀ N, B < N → evS 0 t N = ε * evS O s N) : plainT s = plainT t := by
  have hε0 : ε ≠ 0 := by rcases hε with rfl | rfl <;> decide
  have e : s.map (fun p => (p.1 + O, ε * p.2)) = t := by
    refine ser_uniq (B := B) ⟨?_, fun p hp => ?_⟩ ht (fun p hp => ?_) pt fun N hN => ?_
    · unfold Srt
      rw [List.pairwise_map]
      exact hs.srt.imp fun h => by
        show _ + O < _ + O
        omega
    · obtain ⟨q, hq, rfl⟩ := List.mem_map.mp hp
      exact Int.mul_ne_zero hε0 (hs.nz q hq)
    · obtain ⟨q, hq, rfl⟩ := List.mem_map.mp hp
      exact ps q hq
    · rw [evS_shift, h N hN]
  rw [← e]
  cases s with
  | nil => rfl
  | cons l r =>
    have hl := hs.nz l List.mem_cons_self
    show (l :: r).map (fun p => (p.1 - l.1, sgn1 l.2 * p.2)) = ((l :: r).map fun p => (p.1 + O, ε * p.2)).map fun p => (p.1 - (l.1 + O), sgn1 (ε * l.2) * p.2)
    rw [List.map_map]
    refine List.map_congr_left fun p _ => ?_
    show (p.1 - l.1, sgn1 l.2 * p.2) = (p.1 + O - (l.1 + O), sgn1 (ε * l.2) * (ε * p.2))
    rw [← Int.mul_assoc, sgn1_mul hε hl]
    congr 1
    omega
/-! ### a polynomial's terms -/
theorem enum_srt (d : List Int) : Srt (d.mapIdx fun i c => ((i : Int), c)) := by
  unfold Srt
  rw [List.pairwise_iff_getElem]
  intro i j hi hj hij
  rw [List.getElem_mapIdx, List.getElem_mapIdx]
  show (i : Int) < (j : Int)
  omega
theorem terms_can (d : List Int) : Can (termsP d) := ⟨(enum_srt d).filter _, fun p hp => by
  have := (List.mem_filter.mp hp).2
  simpa using this⟩
theorem terms_rng {d : List Int} {p : Int × Int} (hp : p ∈ termsP d) : 0 ≤ p.1 ∧ p.1 < d.length := by
  obtain ⟨i, hi, e⟩ := List.getElem_of_mem (List.mem_filter.mp hp).1
  rw [List.getElem_mapIdx] at e
  rw [List.length_mapIdx] at hi
  rw [← e]
  exact ⟨Int.natCast_nonneg _, by show (i : Int) < _; omega⟩
theorem evS_enum (N : Int) : ∀ (d : List Int) (k : Nat), evS 0 (d.mapIdx fun i c => (((i + k : Nat) : Int), c)) N = N ^ k * ev d N
  | [], k => by simp [evS, ev]
  | c :: d, k => by
    have ih := evS_enum N d (k + 1)
    have e : (c :: d).mapIdx (fun i c => (((i + k : Nat) : Int), c)) = (((k : Nat) : Int), c) :: d.mapIdx (fun i c => (((i + (k + 1) : Nat) : Int), c)) := by
      rw [List.mapIdx_cons]
      congr 1
      · rw [Nat.zero_add]
      · refine List.ext_getElem? fun i => ?_
        rw [List.getElem?_mapIdx, List.getElem?_mapIdx]
        congr 1
        funext x
        rw [show i + 1 + k = i + (k + 1) by omega]
    rw [e]
    show c * N ^ ((k : Int) + 0).toNat + evS 0 (d.mapIdx fun i c => (((i + (k + 1) : Nat) : Int), c)) N = N ^ k * (c + N * ev d N)
    rw [ih, Int.add_zero, Int.toNat_natCast, Int.pow_succ]
    grind
theorem evS_terms (d : List Int) (N : Int) : evS 0 (termsP d) N = ev d N := by
  have h1 := evS_filter 0 N (d.mapIdx fun i c => ((i : Int), c))
  have h2 := evS_enum N d 0
  simp only [Nat.add_zero] at h2
  rw [h2] at h1
  simp only [Int.pow_zero, Int.one_mul] at h1
  rw [← h1]
  unfold termsP
  congr 2
  funext p
  by_cases h : p.2 = 0 <;> simp [h]
/-! ### the law -/
theorem rows_all {xs : List Int} {n : Nat} (h : RowsOk xs n) (r : Nat) (hr : r < n) : (r : Int) ∈ xs := Decidable.byContradiction fun z => by
  have h1 : ((r : Int) :: xs).Nodup := List.nodup_cons.mpr ⟨z, h.nd⟩
  have h2 := nodup_range_len (l := (r : Int) :: xs) (lo := 0) (n := n) h1 fun x hx => by
    rcases List.mem_cons.mp hx with rfl | hx
    · omega
    · have := h.rng x hx
      omega
  rw [List.length_cons, h.len] at h2
  omega
theorem head_at {xs zs : List Int} {n r c : Nat} (hc : c < n - 1) : (headS xs zs n r).getD c [] = LS xs zs n r c := by
  unfold headS LS
  rw [List.getD_eq_getElem?_getD, List.getElem?_take_of_lt hc, ← List.getD_eq_getElem?_getD]
theorem plain_law : ∀ xs zs n, Grd xs zs n → ∃ d, Pl xs zs n d := fun xs zs n g => by
  have lin : LinOk xs zs n := ⟨g.rx.len, g.rz.len, g.rx.sz, fun r hr => rows_all g.rx r hr, fun r hr => rows_all g.rz r hr⟩
  have n2 := g.lo
  have n6 := g.hi
  obtain ⟨m, hm⟩ : ∃ m, m = n - 1 := ⟨_, rfl⟩
  have hm5 : m ≤ 5 := by omega
  have facts : ∀ r, r < n → ∀ s ∈ rowS xs zs n r, Can s ∧ Rg (-5) 5 s ∧ nS s ≤ 81 := fun r hr => row_facts ⟨lin, hr⟩ n6
  have hfacts : ∀ r, r < n → ∀ s ∈ headS xs zs n r, Can s ∧ Rg (-5) 5 s ∧ nS s ≤ 81 := fun r hr s hs => facts r hr s (List.mem_of_mem_take hs)
  have lf : ∀ r, r < n → -5 ≤ leastE (headS xs zs n r) ∧ ∀ s ∈ headS xs zs n r, ∀ p ∈ s, leastE (headS xs zs n r) ≤ p.1 := fun r hr => least_facts fun s hs => ⟨(hfacts r hr s hs).1, (hfacts r hr s hs).2.1⟩
  have pf : ∀ r, r < n → ∀ s ∈ headS xs zs n r, PyOk s (leastE (headS xs zs n r)) ∧ Tr (polyS s (leastE (headS xs zs n r))) ∧ (polyS s (leastE (headS xs zs n r))).length ≤ 11 ∧ nP (polyS s (leastE (headS xs zs n r))) ≤ 81 ∧ ∀ N, ev (polyS s (leastE (headS xs zs n r))) N = evS (-(leastE (headS xs zs n r))) s N := fun r hr s hs => by
    obtain ⟨f1, f2, f3⟩ := hfacts r hr s hs
    exact poly_facts f1 f2 f3 (lf r hr).1 ((lf r hr).2 s hs)
  have mem : ∀ r c, c < m → (LS xs zs n r c) ∈ headS xs zs n r := fun r c hc => by
    rw [← head_at (by omega)]
    exact getD_mem (by rw [headS_len]; omega)
  have lok : ∀ r, r < m → LOk m (-5) 5 81 (LS xs zs n r) := fun r hr => ⟨fun c hc => (hfacts r (by omega) _ (mem r c hc)).1, fun c hc => (hfacts r (by omega) _ (mem r c hc)).2.1, fun c hc => (hfacts r (by omega) _ (mem r c hc)).2.2⟩
  obtain ⟨o, ho⟩ : ∃ o : Nat → Int, o = fun r => -(leastE (headS xs zs n r)) := ⟨_, rfl⟩
  obtain ⟨A, hA⟩ : ∃ A : Int → MI, A = fun N r c => evS (o r) (LS xs zs n r c) N := ⟨_, rfl⟩
  have hM : ∀ r c, r < m → c < m → Tr (MxP xs zs n r c) ∧ (MxP xs zs n r c).length ≤ 11 ∧ nP (MxP xs zs n r c) ≤ 81 ∧ ∀ N, ev (MxP xs zs n r c) N = A N r c := fun r c hr hc => by
    obtain ⟨_, h2, h3, h4, h5⟩ := pf r (by omega) _ (mem r c hc)
    unfold MxP
    rw [head_at (by omega), hA, ho]
    exact ⟨h2, h3, h4, h5⟩
  obtain ⟨d, run, dt, dl, dn', ε, B, hε, hd⟩ := run_ex (m := m) (A := A) (M := MxP xs zs n) hm5 (fun r c hr hc => ⟨_, hM r c hr hc⟩) fun r c hr hc => by
    obtain ⟨h1, h2, h3, h4⟩ := hM r c hr hc
    exact ⟨h1, Nat.le_trans h2 (by decide), Nat.le_trans h3 (by decide), h4⟩
  have hlo : ∀ r, r < m → ∀ c, c < m → ∀ p ∈ LS xs zs n r c, 0 ≤ p.1 + o r := fun r hr c hc p hp => by
    have := (lf r (by omega)).2 _ (mem r c hc) p hp
    rw [ho]
    show 0 ≤ p.1 + -(leastE (headS xs zs n r))
    omega
  obtain ⟨hi, Bd, tok⟩ := book_lo lok hlo m (Nat.le_refl m)
  obtain ⟨s1, s2, _⟩ := tget_ok tok (upTo m)
  have up : (upTo m).Pairwise (· < ·) := by
    unfold upTo
    rw [List.pairwise_map]
    exact List.pairwise_lt_range.imp fun h => by omega
  have bk := fun N => book_mn (o := o) lok hlo N m (Nat.le_refl m) (upTo m) up (by simp [upTo]) fun x hx => by
    obtain ⟨i, hi, rfl⟩ := List.mem_map.mp hx
    have := List.mem_range.mp hi
    omega
  refine ⟨d, ⟨lin, by omega, n6, ?_, fun r hr s hs => (pf r (by omega) s hs).1, Nat.le_trans dl (by decide), sm_of dn'⟩, ⟨lin, n2, n6, ?_⟩, ?_, ?_⟩
  · rw [← hm]
    exact run
  · rw [← hm]
    exact lok
  · rw [← hm]
    refine (plainT_eq (O := Os o m) (ε := ε) (B := B) s1 (terms_can d) (fun p hp => ?_) (fun p hp => (terms_rng hp).1) hε fun N hN => ?_).symm
    · have := (s2 p hp).1
      omega
    · rw [evS_terms, hd N hN, bk N, hA]
      rfl
  · have hlen : (termsP d).length ≤ 60 := by
      unfold termsP
      refine Nat.le_trans (List.length_filter_le _ _) ?_
      rw [List.length_mapIdx]
      exact dl
    have small : ∀ x : Int, x.natAbs < 2 ^ 60 → x.natAbs.log2 < 1920 := fun x hx => by
      by_cases h0 : x.natAbs = 0
      · rw [h0]
        decide
      · have := (Nat.log2_lt h0).mpr hx
        omega
    have hb : (2 : Nat) ^ 50 < 2 ^ 60 := by decide
    unfold plainS plainT
    split
    · exact ⟨Nat.zero_le _, fun p hp => (by cases hp)⟩
    · rename_i f r heq
      refine ⟨by rw [List.length_map]; omega, fun p hp => ?_⟩
      obtain ⟨q, hq, rfl⟩ := List.mem_map.mp hp
      have r1 := terms_rng hq
      have r2 := terms_rng (p := f) (by rw [heq]; exact List.mem_cons_self)
      refine ⟨small _ ?_, small _ ?_⟩
      · show (q.1 - f.1).natAbs < 2 ^ 60
        have : (2 : Nat) ^ 60 = 1152921504606846976 := by decide
        omega
      · show (sgn1 f.2 * q.2).natAbs < 2 ^ 60
        have h1 := nP_mem (terms_mem hq)
        have h2 : (sgn1 f.2).natAbs = 1 := by
          unfold sgn1
          split <;> rfl
        rw [Int.natAbs_mul, h2]
        omega
end GK
open PySem PySem.W PyProof.Rows in
set_option maxRecDepth 100000 in
set_option maxHeartbeats 0 in
theorem PySem.Challenge.cw_gridknot_k34_alexander_by_own_expansion_holds : PySem.Challenge.rw_gridknot_k34_alexander_by_own_expansion.Holds := by
  w_on; o_law; k_head; (case hw => w_witness2)
  k_fill
  refine GK.walk (l := PySem.Challenge.rw_gridknot_k34_alexander_by_own_expansion) GK.plain_law rfl rfl (fun w h Y => PySem.W.kIn_of Y) ?F
  case F =>
    intro w mg fa h KX G hmg
    refine' GK.tx_mk KX G hmg ?a0 ?l0 ?c0 ?k0 ?a1 ?l1 ?c1 ?k1 ?a2 ?l2 ?c2 ?k2 ?a3 ?l3 ?c3 ?k3 ?a4 ?l4 ?c4 ?k4 ?a5 ?l5 ?c5 ?k5 ?a6 ?l6 ?c6 ?k6 ?a7 ?l7 ?c7 ?k7 ?a8 ?l8 ?c8 ?k8 ?a9 ?l9 ?c9 ?k9 ?a10 ?l10 ?c10 ?k10 ?a11 ?l11 ?c11 ?k11 ?a12 ?l12 ?c12 ?k12 ?a13 ?l13 ?c13 ?k13 ?a14 ?l14 ?c14 ?k14 ?a15 ?l15 ?c15 ?k15 ?a16 ?l16 ?c16 ?k16 ?a17 ?l17 ?c17 ?k17 ?a18 ?l18 ?c18 ?k18 ?a19 ?l19 ?c19 ?k19 ?a20 ?l20 ?c20 ?k20 ?a21 ?l21 ?c21 ?k21 ?a22 ?l22 ?c22 ?k22 ?a23 ?l23 ?c23 ?k23 ?a24 ?l24 ?c24 ?k24 ?a25 ?l25 ?c25 ?k25 ?a26 ?l26 ?c26 ?k26 ?a27 ?l27 ?c27 ?k27 ?a28 ?l28 ?c28 ?k28 ?a29 ?l29 ?c29 ?k29 ?a30 ?l30 ?c30 ?k30 ?a31 ?l31 ?c31 ?k31 ?a32 ?l32 ?c32 ?k32 ?a33 ?l33 ?c33 ?k33 ?a34 ?l34 ?c34 ?k34 ?a35 ?l35 ?c35 ?k35 ?a36 ?l36 ?c36 ?k36 ?a37 ?l37 ?c37 ?k37 ?a38 ?l38 ?c38 ?k38 ?aC ?aI ?lI ?cI ?kI ?iI ?aL ?lL ?cL ?kL ?iL ?aP ?lP ?cP ?kP ?iP ?pg ?hd ?po ?sa ?mk ?kc ?nX ?nO ?z_range ?z_enumerate ?z_zip ?z_len ?z_min ?z_max ?z_abs ?z_all ?z_sorted ?z_repr ?z_isinstance ?z_int ?z_tuple ?z_list ?z_bool ?ls
    (case a0 => k_is)
    (case l0 => k_is)
    (case c0 => k_is)
    (case k0 => k_is)
    (case a1 => k_is)
    (case l1 => k_is)
    (case c1 => k_is)
    (case k1 => k_is)
    (case a2 => k_is)
    (case l2 => k_is)
    (case c2 => k_is)
    (case k2 => k_is)
    (case a3 => k_is)
    (case l3 => k_is)
    (case c3 => k_is)
    (case k3 => k_is)
    (case a4 => k_is)
    (case l4 => k_is)
    (case c4 => k_is)
    (case k4 => k_is)
    (case a5 => k_is)
    (case l5 => k_is)
    (case c5 => k_is)
    (case k5 => k_is)
    (case a6 => k_is)
    (case l6 => k_is)
    (case c6 => k_is)
    (case k6 => k_is)
    (case a7 => k_is)
    (case l7 => k_is)
    (case c7 => k_is)
    (case k7 => k_is)
    (case a8 => k_is)
    (case l8 => k_is)
    (case c8 => k_is)
    (case k8 => k_is)
    (case a9 => k_is)
    (case l9 => k_is)
    (case c9 => k_is)
    (case k9 => k_is)
    (case a10 => k_is)
    (case l10 => k_is)
    (case c10 => k_is)
    (case k10 => k_is)
    (case a11 => k_is)
    (case l11 => k_is)
    (case c11 => k_is)
    (case k11 => k_is)
    (case a12 => k_is)
    (case l12 => k_is)
    (case c12 => k_is)
    (case k12 => k_is)
    (case a13 => k_is)
    (case l13 => k_is)
    (case c13 => k_is)
    (case k13 => k_is)
    (case a14 => k_is)
    (case l14 => k_is)
    (case c14 => k_is)
    (case k14 => k_is)
    (case a15 => k_is)
    (case l15 => k_is)
    (case c15 => k_is)
    (case k15 => k_is)
    (case a16 => k_is)
    (case l16 => k_is)
    (case c16 => k_is)
    (case k16 => k_is)
    (case a17 => k_is)
    (case l17 => k_is)
    (case c17 => k_is)
    (case k17 => k_is)
    (case a18 => k_is)
    (case l18 => k_is)
    (case c18 => k_is)
    (case k18 => k_is)
    (case a19 => k_is)
    (case l19 => k_is)
    (case c19 => k_is)
    (case k19 => k_is)
    (case a20 => k_is)
    (case l20 => k_is)
    (case c20 => k_is)
    (case k20 => k_is)
    (case a21 => k_is)
    (case l21 => k_is)
    (case c21 => k_is)
    (case k21 => k_is)
    (case a22 => k_is)
    (case l22 => k_is)
    (case c22 => k_is)
    (case k22 => k_is)
    (case a23 => k_is)
    (case l23 => k_is)
    (case c23 => k_is)
    (case k23 => k_is)
    (case a24 => k_is)
    (case l24 => k_is)
    (case c24 => k_is)
    (case k24 => k_is)
    (case a25 => k_is)
    (case l25 => k_is)
    (case c25 => k_is)
    (case k25 => k_is)
    (case a26 => k_is)
    (case l26 => k_is)
    (case c26 => k_is)
    (case k26 => k_is)
    (case a27 => k_is)
    (case l27 => k_is)
    (case c27 => k_is)
    (case k27 => k_is)
    (case a28 => k_is)
    (case l28 => k_is)
    (case c28 => k_is)
    (case k28 => k_is)
    (case a29 => k_is)
    (case l29 => k_is)
    (case c29 => k_is)
    (case k29 => k_is)
    (case a30 => k_is)
    (case l30 => k_is)
    (case c30 => k_is)
    (case k30 => k_is)
    (case a31 => k_is)
    (case l31 => k_is)
    (case c31 => k_is)
    (case k31 => k_is)
    (case a32 => k_is)
    (case l32 => k_is)
    (case c32 => k_is)
    (case k32 => k_is)
    (case a33 => k_is)
    (case l33 => k_is)
    (case c33 => k_is)
    (case k33 => k_is)
    (case a34 => k_is)
    (case l34 => k_is)
    (case c34 => k_is)
    (case k34 => k_is)
    (case a35 => k_is)
    (case l35 => k_is)
    (case c35 => k_is)
    (case k35 => k_is)
    (case a36 => k_is)
    (case l36 => k_is)
    (case c36 => k_is)
    (case k36 => k_is)
    (case a37 => k_is)
    (case l37 => k_is)
    (case c37 => k_is)
    (case k37 => k_is)
    (case a38 => k_is)
    (case l38 => k_is)
    (case c38 => k_is)
    (case k38 => k_is)
    (case aC => k_is)
    (case aI => k_is)
    (case lI => k_is)
    (case cI => k_is)
    (case kI => k_is)
    (case iI => k_is)
    (case aL => k_is)
    (case lL => k_is)
    (case cL => k_is)
    (case kL => k_is)
    (case iL => k_is)
    (case aP => k_is)
    (case lP => k_is)
    (case cP => k_is)
    (case kP => k_is)
    (case iP => k_is)
    (case pg => k_is)
    (case hd => k_is)
    (case po => k_is)
    (case sa => k_is)
    (case mk => k_is)
    (case kc => k_is)
    (case nX => k_is)
    (case nO => k_is)
    (case z_range => k_is)
    (case z_enumerate => k_is)
    (case z_zip => k_is)
    (case z_len => k_is)
    (case z_min => k_is)
    (case z_max => k_is)
    (case z_abs => k_is)
    (case z_all => k_is)
    (case z_sorted => k_is)
    (case z_repr => k_is)
    (case z_isinstance => k_is)
    (case z_int => k_is)
    (case z_tuple => k_is)
    (case z_list => k_is)
    (case z_bool => k_is)
    (case ls => k_is)
