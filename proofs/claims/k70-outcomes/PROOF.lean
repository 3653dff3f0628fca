import PyProof.Rows.All
import Wide.All
import OpenK.AllK
import Wide.FinOn
import HandS.ForMost
import HandS.ForExc
import HandS.Lambda
import HandS.EndTab
import HandS.Gcd
import HandS.IsInst
import HandS.ExcIs
import HandS.Deep
import HandS.Wide
import HandS.Style
import HandS.TupMul
import HandS.TupAny
import HandS.More
import HandS.Zip0
import PyProof.ListStr
import KE.SortData
import HandS.TupSets
import KE.KeyNested
import KE.KDictZip
import PyProof.ListNew
import KE.DatumOrd
import PySem.Challenge.RW_swaytold_k70_outcomes_and_losses
section
set_option Elab.async false
set_option linter.all false
set_option maxRecDepth 100000
namespace Pd
open PySem PySem.Spec L2 LamX
open PyProof.Rows hiding St

/-- pure data -/
inductive D where
  | non | bl (b : Bool) | int (i : Int) | str (x : Str) | tup (xs : List D) | lst (xs : List D) | scr (xs : List D)
  | dct (ks : List Key) (vs : List D) | ref (n : Nat) | fn (f : Str) | exc (c : Str)
inductive Ob where
  | lst (xs : List D) | dct (ks : List Key) (vs : List D)
abbrev Sto := List Ob
abbrev En := List (Option D)
inductive R (α : Type) where
  | ok (a : α) (st : Sto) | ex (c : Str) (st : Sto)
abbrev Den := En → Sto → Option (R D)
abbrev DenL := En → Sto → Option (R (List D))
abbrev DenB := En → Sto → Option (R Bool)
def bindR {α β : Type} (m : Option (R α)) (f : α → Sto → Option (R β)) : Option (R β) :=
  match m with | none => none | some (.ok a st) => f a st | some (.ex c st) => some (.ex c st)

/-- what is fixed: the written part, the module's names, the tables of code objects -/
structure Ct where
  K : PySem.W.Frag
  mg : Str → Option Value
  T : List (Addr × Str)

def ExcO (cls a : Addr) : HO := .ext fun h => ∃ ox vs, h.get? a = some ox ∧ ox.cls = .ref cls ∧ ox.dict = none ∧ ox.data = .fields vs
/-- readable, not of the store, not in the making -/
def Rz (ρ Z : List Addr) (H : Hp) (a : Addr) (o : HO) : Prop := H a = some o ∧ a ∉ ρ ∧ a ∉ Z
def KT (C : Ct) (a : Addr) (xs : List V) : Prop :=
  ∃ (o : Obj) (its : Array Value) (n : Nat), C.K.lookup a = some o ∧ o.cls = .type "tuple" ∧ o.data = .seq its n ∧ its.size ≤ sizeLine ∧ Vals xs its.toList
def KLs (C : Ct) (a : Addr) (xs : List V) : Prop :=
  ∃ (o : Obj) (its : Array Value) (n : Nat), C.K.lookup a = some o ∧ o.cls = .type "list" ∧ o.dict = none ∧ o.data = .seq its n ∧ its.size ≤ sizeLine ∧ Vals xs its.toList
mutual
def RV (C : Ct) (ρ Z : List Addr) (H : Hp) : D → V → Prop
  | .non, v => v = .non
  | .bl b, v => v = .bl b
  | .int i, v => v = .int i
  | .str x, v => v = .str x
  | .tup ds, v => ∃ a vs, v = .ref a ∧ (Rz ρ Z H a (.tup vs) ∨ KT C a vs) ∧ RVs C ρ Z H ds vs
  | .lst ds, v => ∃ a vs, v = .ref a ∧ Rz ρ Z H a (.lst vs) ∧ RVs C ρ Z H ds vs
  | .scr ds, v => ∃ a vs, v = .ref a ∧ ((∃ o, Rz ρ Z H a (.frz o (.lst vs))) ∨ KLs C a vs) ∧ RVs C ρ Z H ds vs
  | .dct ks ds, v => ∃ a vs, v = .ref a ∧ ks.length = vs.length ∧ Rz ρ Z H a (.dK (ks.zip vs)) ∧ RVs C ρ Z H ds vs
  | .ref n, v => ∃ a, v = .ref a ∧ ρ[n]? = some a
  | .fn f, v => ∃ a, v = .ref a ∧ C.mg f = some (.ref a)
  | .exc c, v => ∃ a cls, v = .ref a ∧ C.mg c = some (.ref cls) ∧ Rz ρ Z H a (ExcO cls a)
def RVs (C : Ct) (ρ Z : List Addr) (H : Hp) : List D → List V → Prop
  | [], vs => vs = []
  | d :: ds, vs => ∃ v r, vs = v :: r ∧ RV C ρ Z H d v ∧ RVs C ρ Z H ds r
end

structure Ext (ρ : List Addr) (H : Hp) (ρ' : List Addr) (H' : Hp) : Prop where
  pre : ρ <+: ρ'
  keep : ∀ a o, H a = some o → a ∉ ρ → (∀ ps, o ≠ .tbl ps) → H' a = some o
  new : ∀ a, a ∈ ρ' → a ∉ ρ → ∀ o, H a = some o → ∃ ps, o = .tbl ps
theorem Ext.refl (ρ : List Addr) (H : Hp) : Ext ρ H ρ H := ⟨List.prefix_rfl, fun _ _ h _ _ => h, fun _ h h' => absurd h h'⟩
theorem Ext.nin {ρ ρ1 : List Addr} {H H1 : Hp} (x : Ext ρ H ρ1 H1) {a : Addr} {o : HO} (h : H a = some o) (n : a ∉ ρ) (t : ∀ ps, o ≠ .tbl ps) : a ∉ ρ1 := fun m => by
  obtain ⟨ps, e⟩ := x.new a m n o h
  exact t ps e
theorem tbl_or (o : HO) : (∀ ps, o ≠ .tbl ps) ∨ ∃ ps, o = .tbl ps := by
  cases o with
  | tbl ps => exact .inr ⟨ps, rfl⟩
  | _ => exact .inl fun _ z => by cases z
theorem Ext.trans {ρ ρ1 ρ2 : List Addr} {H H1 H2 : Hp} (a : Ext ρ H ρ1 H1) (b : Ext ρ1 H1 ρ2 H2) : Ext ρ H ρ2 H2 := by
  refine ⟨a.pre.trans b.pre, fun x o h n t => b.keep x o (a.keep x o h n t) (a.nin h n t) t, fun x h n o e => ?_⟩
  rcases tbl_or o with t | t
  · by_cases m : x ∈ ρ1
    · exact a.new x m n o e
    · exact b.new x h m o (a.keep x o e n t)
  · exact t
/-- a fresh object that is no cell of the store -/
theorem Ext.fresh {ρ : List Addr} {H : Hp} {p : Addr} {o : HO} (h : H p = none) : Ext ρ H ρ (upd H p o) :=
  ⟨List.prefix_rfl, fun a o' e _ _ => by rw [upd_ne (ne_of_none e h)]; exact e, fun _ h h' => absurd h h'⟩
theorem Ext.cell {ρ : List Addr} {H : Hp} {p : Addr} {o : HO} (h : H p = none) : Ext ρ H (ρ ++ [p]) (upd H p o) :=
  ⟨List.prefix_append _ _, fun a o' e _ _ => by rw [upd_ne (ne_of_none e h)]; exact e, fun a m n o' e => by
    rcases List.mem_append.mp m with z | z
    · exact absurd z n
    · rw [List.mem_singleton.mp z, h] at e; cases e⟩
/-- a cell is written -/
theorem Ext.write {ρ : List Addr} {H : Hp} {p : Addr} {o : HO} (h : p ∈ ρ) : Ext ρ H ρ (upd H p o) :=
  ⟨List.prefix_rfl, fun a o' e n _ => by rw [upd_ne (fun z => n (by rw [z]; exact h))]; exact e, fun _ h h' => absurd h h'⟩
theorem Rz.ext {ρ ρ' Z : List Addr} {H H' : Hp} {a : Addr} {o : HO} (x : Ext ρ H ρ' H') (h : Rz ρ Z H a o) (t : ∀ ps, o ≠ .tbl ps) : Rz ρ' Z H' a o :=
  And.intro (x.keep a o h.1 h.2.1 t) (And.intro (x.nin h.1 h.2.1 t) h.2.2)

section
variable {C : Ct} {ρ ρ' Z : List Addr} {H H' : Hp}
mutual
/-- what is known of a value stays, whatever Rz's places become, if each of its places stays -/
theorem RV.map {Z' : List Addr} (f : ∀ a o, (∀ ps, o ≠ .tbl ps) → Rz ρ Z H a o → Rz ρ' Z' H' a o) (g : ∀ (n : Nat) (a : Addr), ρ[n]? = some a → ρ'[n]? = some a) : ∀ (d : D) (v : V), RV C ρ Z H d v → RV C ρ' Z' H' d v
  | .non, _, h => h
  | .bl _, _, h => h
  | .int _, _, h => h
  | .str _, _, h => h
  | .tup ds, v, h => by
    unfold RV at h ⊢
    obtain ⟨a, vs, e, t, r⟩ := h
    exact ⟨a, vs, e, t.elim (fun z => .inl (f _ _ (fun _ z => by cases z) z)) .inr, RVs.map f g ds vs r⟩
  | .lst ds, v, h => by
    unfold RV at h ⊢
    obtain ⟨a, vs, e, t, r⟩ := h
    exact ⟨a, vs, e, f _ _ (fun _ z => by cases z) t, RVs.map f g ds vs r⟩
  | .scr ds, v, h => by
    unfold RV at h ⊢
    obtain ⟨a, vs, e, t, r⟩ := h
    exact ⟨a, vs, e, t.imp (fun ⟨o, z⟩ => ⟨o, f _ _ (fun _ z => by cases z) z⟩) id, RVs.map f g ds vs r⟩
  | .dct ks ds, v, h => by
    unfold RV at h ⊢
    obtain ⟨a, vs, e, l, t, r⟩ := h
    exact ⟨a, vs, e, l, f _ _ (fun _ z => by cases z) t, RVs.map f g ds vs r⟩
  | .ref n, v, h => by
    unfold RV at h ⊢
    obtain ⟨a, e, q⟩ := h
    exact ⟨a, e, g n a q⟩
  | .fn _, _, h => by unfold RV at h ⊢; exact h
  | .exc c, v, h => by
    unfold RV at h ⊢
    obtain ⟨a, cls, e, m, t⟩ := h
    exact ⟨a, cls, e, m, f _ _ (fun _ z => by cases z) t⟩
theorem RVs.map {Z' : List Addr} (f : ∀ a o, (∀ ps, o ≠ .tbl ps) → Rz ρ Z H a o → Rz ρ' Z' H' a o) (g : ∀ (n : Nat) (a : Addr), ρ[n]? = some a → ρ'[n]? = some a) : ∀ (ds : List D) (vs : List V), RVs C ρ Z H ds vs → RVs C ρ' Z' H' ds vs
  | [], _, h => by unfold RVs at h ⊢; exact h
  | d :: ds, vs, h => by
    unfold RVs at h ⊢
    obtain ⟨v, r, e, h1, h2⟩ := h
    exact ⟨v, r, e, RV.map f g d v h1, RVs.map f g ds r h2⟩
end
theorem pre_get {α : Type} {l l' : List α} (h : l <+: l') {n : Nat} {a : α} (e : l[n]? = some a) : l'[n]? = some a := by
  obtain ⟨t, rfl⟩ := h
  have hl : n < l.length := by
    have z := List.getElem?_eq_some_iff.mp e
    exact z.1
  rw [List.getElem?_append_left hl]
  exact e
theorem RV.ext (x : Ext ρ H ρ' H') {d : D} {v : V} (h : RV C ρ Z H d v) : RV C ρ' Z H' d v := RV.map (fun _ _ t z => z.ext x t) (fun _ _ => pre_get x.pre) d v h
theorem RVs.ext (x : Ext ρ H ρ' H') {d : List D} {v : List V} (h : RVs C ρ Z H d v) : RVs C ρ' Z H' d v := RVs.map (fun _ _ t z => z.ext x t) (fun _ _ => pre_get x.pre) d v h
theorem RVs.length : ∀ {ds : List D} {vs : List V}, RVs C ρ Z H ds vs → ds.length = vs.length
  | [], _, h => by unfold RVs at h; rw [h]; rfl
  | d :: ds, _, h => by
    unfold RVs at h
    obtain ⟨v, r, rfl, _, q⟩ := h
    rw [List.length_cons, List.length_cons, RVs.length q]
theorem RVs.nil : RVs C ρ Z H [] [] := by unfold RVs; rfl
theorem RVs.cons {d : D} {v : V} {ds : List D} {vs : List V} (h : RV C ρ Z H d v) (t : RVs C ρ Z H ds vs) : RVs C ρ Z H (d :: ds) (v :: vs) := by
  unfold RVs; exact ⟨v, vs, rfl, h, t⟩
theorem RVs.get : ∀ {ds : List D} {vs : List V} {i : Nat} {d : D}, RVs C ρ Z H ds vs → ds[i]? = some d → ∃ v, vs[i]? = some v ∧ RV C ρ Z H d v
  | [], _, _, _, _, e => by simp at e
  | d :: ds, _, 0, x, h, e => by
    unfold RVs at h
    obtain ⟨v, r, rfl, h1, _⟩ := h
    rw [List.getElem?_cons_zero] at e
    cases e
    exact ⟨v, rfl, h1⟩
  | d :: ds, _, i + 1, x, h, e => by
    unfold RVs at h
    obtain ⟨v, r, rfl, _, h2⟩ := h
    rw [List.getElem?_cons_succ] at e
    obtain ⟨u, q, z⟩ := RVs.get h2 e
    exact ⟨u, by rw [List.getElem?_cons_succ]; exact q, z⟩
theorem RVs.app : ∀ {ds es : List D} {vs ws : List V}, RVs C ρ Z H ds vs → RVs C ρ Z H es ws → RVs C ρ Z H (ds ++ es) (vs ++ ws)
  | [], _, _, _, h, t => by unfold RVs at h; subst h; exact t
  | d :: ds, _, _, _, h, t => by
    unfold RVs at h
    obtain ⟨v, r, rfl, h1, h2⟩ := h
    exact RVs.cons h1 (RVs.app h2 t)
theorem RVs.take : ∀ {ds : List D} {vs : List V} (n : Nat), RVs C ρ Z H ds vs → RVs C ρ Z H (ds.take n) (vs.take n)
  | _, _, 0, _ => by rw [List.take_zero, List.take_zero]; exact RVs.nil
  | [], _, n + 1, h => by unfold RVs at h; subst h; simp only [List.take_nil]; exact RVs.nil
  | d :: ds, _, n + 1, h => by
    unfold RVs at h
    obtain ⟨v, r, rfl, h1, h2⟩ := h
    exact RVs.cons h1 (RVs.take n h2)
theorem RVs.drop : ∀ {ds : List D} {vs : List V} (n : Nat), RVs C ρ Z H ds vs → RVs C ρ Z H (ds.drop n) (vs.drop n)
  | _, _, 0, h => h
  | [], _, n + 1, h => by unfold RVs at h; subst h; simp only [List.drop_nil]; exact RVs.nil
  | d :: ds, _, n + 1, h => by
    unfold RVs at h
    obtain ⟨v, r, rfl, h1, h2⟩ := h
    exact RVs.drop n h2
theorem RVs.set : ∀ {ds : List D} {vs : List V} {d : D} {v : V} (n : Nat), RVs C ρ Z H ds vs → RV C ρ Z H d v → RVs C ρ Z H (ds.set n d) (vs.set n v)
  | [], _, _, _, n, h, _ => by unfold RVs at h; subst h; simp only [List.set_nil]; exact RVs.nil
  | d :: ds, _, _, _, 0, h, q => by
    unfold RVs at h
    obtain ⟨v, r, rfl, h1, h2⟩ := h
    exact RVs.cons q h2
  | d :: ds, _, _, _, n + 1, h, q => by
    unfold RVs at h
    obtain ⟨v, r, rfl, h1, h2⟩ := h
    exact RVs.cons h1 (RVs.set n h2 q)
theorem RVs.eraseIdx : ∀ {ds : List D} {vs : List V} (n : Nat), RVs C ρ Z H ds vs → RVs C ρ Z H (ds.eraseIdx n) (vs.eraseIdx n)
  | [], _, n, h => by unfold RVs at h; subst h; simp only [List.eraseIdx_nil]; exact RVs.nil
  | d :: ds, _, 0, h => by
    unfold RVs at h
    obtain ⟨v, r, rfl, h1, h2⟩ := h
    exact h2
  | d :: ds, _, n + 1, h => by
    unfold RVs at h
    obtain ⟨v, r, rfl, h1, h2⟩ := h
    exact RVs.cons h1 (RVs.eraseIdx n h2)
theorem RVs.snoc {ds : List D} {vs : List V} {d : D} {v : V} (h : RVs C ρ Z H ds vs) (q : RV C ρ Z H d v) : RVs C ρ Z H (ds ++ [d]) (vs ++ [v]) := h.app (RVs.cons q RVs.nil)
/-- what stands at a cell -/
def RO (C : Ct) (ρ Z : List Addr) (H : Hp) (a : Addr) : Ob → Prop
  | .lst ds => ∃ vs, H a = some (.lst vs) ∧ RVs C ρ Z H ds vs
  | .dct ks ds => ∃ vs, ks.length = vs.length ∧ H a = some (.dK (ks.zip vs)) ∧ RVs C ρ Z H ds vs
structure RS (C : Ct) (ρ Z : List Addr) (H : Hp) (st : Sto) : Prop where
  len : ρ.length = st.length
  nd : ρ.Nodup
  ob : ∀ (n : Nat) (a : Addr) (o : Ob), ρ[n]? = some a → st[n]? = some o → RO C ρ Z H a o
  tab : Tabs C.T H
  zs : ∀ a, a ∈ Z → ∃ o, H a = some o ∧ ∀ ps, o ≠ .tbl ps
  dj : ∀ a, a ∈ Z → a ∉ ρ
theorem RO.mut {a : Addr} {o : Ob} (h : RO C ρ Z H a o) : (∃ vs, H a = some (.lst vs)) ∨ ∃ kvs, H a = some (.dK kvs) := by
  cases o with
  | lst ds => obtain ⟨vs, e, _⟩ := h; exact .inl ⟨vs, e⟩
  | dct ks ds => obtain ⟨vs, _, e, _⟩ := h; exact .inr ⟨_, e⟩
theorem RS.at {st : Sto} (S : RS C ρ Z H st) {n : Nat} {o : Ob} (e : st[n]? = some o) : ∃ a, ρ[n]? = some a ∧ RO C ρ Z H a o := by
  have hl : n < st.length := (List.getElem?_eq_some_iff.mp e).1
  have h2 : n < ρ.length := by rw [S.len]; exact hl
  exact ⟨ρ[n], List.getElem?_eq_getElem h2, S.ob n _ o (List.getElem?_eq_getElem h2) e⟩
theorem RS.mem {st : Sto} (S : RS C ρ Z H st) {a : Addr} (m : a ∈ ρ) : ∃ o, H a = some o := by
  obtain ⟨n, hn, e⟩ := List.mem_iff_getElem.mp m
  have h2 : n < st.length := by rw [← S.len]; exact hn
  rcases (S.ob n a st[n] (by rw [List.getElem?_eq_getElem hn, e]) (List.getElem?_eq_getElem h2)).mut with ⟨vs, q⟩ | ⟨vs, q⟩
  · exact ⟨_, q⟩
  · exact ⟨_, q⟩
theorem RS.fresh {st : Sto} (S : RS C ρ Z H st) {p : Addr} (h : H p = none) : p ∉ ρ := fun m => by
  obtain ⟨o, q⟩ := S.mem m
  rw [h] at q; cases q
theorem zs_fresh {p : Addr} {o : HO} (t : ∀ ps, o ≠ .tbl ps) (z : ∀ a, a ∈ Z → ∃ o, H a = some o ∧ ∀ ps, o ≠ .tbl ps) : ∀ a, a ∈ Z → ∃ u, upd H p o a = some u ∧ ∀ ps, u ≠ .tbl ps := fun a m => by
  by_cases h : a = p
  · subst h; exact ⟨o, upd_same, t⟩
  · obtain ⟨u, q, t'⟩ := z a m
    exact ⟨u, by rw [upd_ne h]; exact q, t'⟩
theorem RS.nz {st : Sto} (S : RS C ρ Z H st) {p : Addr} (h : H p = none) : p ∉ Z := fun m => by
  obtain ⟨o, q, _⟩ := S.zs p m
  rw [h] at q; cases q
theorem tabs_fresh {T : List (Addr × Str)} {p : Addr} {o : HO} (h : H p = none) (t : Tabs T H) : Tabs T (upd H p o) := Tabs.ext t fun b u e => by rw [upd_ne (ne_of_none e h)]; exact e
theorem tabs_write {T : List (Addr × Str)} {a : Addr} {o u : HO} (h : H a = some u) (h1 : ∀ ps, u ≠ .tbl ps) (h2 : ∀ f, u ≠ .ext f) (t : Tabs T H) : Tabs T (upd H a o) := fun p m => by
  obtain ⟨ps, e, tr, q⟩ := t p m
  refine ⟨ps, ?_, tr, fun pos cv z => ?_⟩
  · rw [upd_ne (ne_of e h fun z => h1 _ z.symm)]; exact e
  · obtain ⟨c, e1, e2⟩ := q pos cv z
    exact ⟨c, e1, by rw [upd_ne (ne_of e2 h fun z => by unfold CodeO at z; exact h2 _ z.symm)]; exact e2⟩
theorem RO.ext {a : Addr} {o : Ob} {st : Sto} (x : Ext ρ H ρ' H') (e : H' a = H a) (h : RO C ρ Z H a o) : RO C ρ' Z H' a o := by
  cases o with
  | lst ds => obtain ⟨vs, q, r⟩ := h; exact ⟨vs, e.trans q, r.ext x⟩
  | dct ks ds => obtain ⟨vs, l, q, r⟩ := h; exact ⟨vs, l, e.trans q, r.ext x⟩
/-- a fresh object -/
theorem RS.val {st : Sto} (S : RS C ρ Z H st) {p : Addr} {o : HO} (h : H p = none) (t : ∀ ps, o ≠ .tbl ps := by intro _ z; cases z) : RS C ρ Z (upd H p o) st :=
  ⟨S.len, S.nd, fun n a ob e1 e2 => by
    have q := S.ob n a ob e1 e2
    obtain ⟨u, z⟩ := S.mem (List.mem_of_getElem? e1)
    exact RO.ext (st := st) (Ext.fresh h) (upd_ne (ne_of_none z h)) q, tabs_fresh h S.tab, zs_fresh t S.zs, S.dj⟩
/-- a fresh cell -/
theorem RS.cell {st : Sto} (S : RS C ρ Z H st) {p : Addr} {o : HO} {ob : Ob} (h : H p = none) (q : RO C (ρ ++ [p]) Z (upd H p o) p ob) (t : ∀ ps, o ≠ .tbl ps := by intro _ z; cases z) : RS C (ρ ++ [p]) Z (upd H p o) (st ++ [ob]) := by
  refine ⟨by rw [List.length_append, List.length_append, S.len]; rfl, ?_, fun n a o' e1 e2 => ?_, tabs_fresh h S.tab, zs_fresh t S.zs, fun a m mm => (List.mem_append.mp mm).elim (S.dj a m) fun z => by obtain ⟨u, q, _⟩ := S.zs a m; rw [List.mem_singleton.mp z, h] at q; cases q⟩
  · rw [List.nodup_append]
    refine ⟨S.nd, by simp, fun a m b m' e => ?_⟩
    rw [List.mem_singleton.mp m'] at e
    subst e
    exact S.fresh h m
  · by_cases hn : n < ρ.length
    · rw [List.getElem?_append_left hn] at e1
      rw [List.getElem?_append_left (by rw [← S.len]; exact hn)] at e2
      have z := S.ob n a o' e1 e2
      obtain ⟨u, z2⟩ := S.mem (List.mem_of_getElem? e1)
      exact RO.ext (st := st) (Ext.cell h) (upd_ne (ne_of_none z2 h)) z
    · have hn' : n = ρ.length := by
        have z := (List.getElem?_eq_some_iff.mp e1).1
        rw [List.length_append, List.length_singleton] at z
        omega
      subst hn'
      rw [List.getElem?_append_right (Nat.le_refl _), Nat.sub_self] at e1
      rw [S.len, List.getElem?_append_right (Nat.le_refl _), Nat.sub_self] at e2
      cases e1
      cases e2
      exact q
/-- a cell written -/
theorem RS.write {st : Sto} (S : RS C ρ Z H st) {n : Nat} {a : Addr} {o : HO} {ob : Ob} (e : ρ[n]? = some a) (q : RO C ρ Z (upd H a o) a ob) (t : ∀ ps, o ≠ .tbl ps := by intro _ z; cases z) : RS C ρ Z (upd H a o) (st.set n ob) := by
  have hm := List.mem_of_getElem? e
  have hl : n < st.length := by rw [← S.len]; exact (List.getElem?_eq_some_iff.mp e).1
  refine ⟨by rw [List.length_set]; exact S.len, S.nd, fun m b o' e1 e2 => ?_, ?_, zs_fresh t S.zs, S.dj⟩
  · by_cases hb : m = n
    · subst hb
      rw [e] at e1
      cases e1
      rw [List.getElem?_set_self hl] at e2
      cases e2
      exact q
    · rw [List.getElem?_set_ne (Ne.symm hb)] at e2
      have hne : b ≠ a := fun z => by
        subst z
        have h1 := List.getElem?_eq_some_iff.mp e
        have h2 := List.getElem?_eq_some_iff.mp e1
        exact hb ((List.getElem_inj S.nd).mp (h2.2.trans h1.2.symm))
      exact RO.ext (st := st) (Ext.write hm) (upd_ne hne) (S.ob m b o' e1 e2)
  · rcases (S.ob n a st[n] e (List.getElem?_eq_getElem hl)).mut with ⟨vs, q⟩ | ⟨vs, q⟩
    · exact tabs_write q (fun _ z => by cases z) (fun _ z => by cases z) S.tab
    · exact tabs_write q (fun _ z => by cases z) (fun _ z => by cases z) S.tab
/-- the slots -/
structure RE (C : Ct) (ρ Z : List Addr) (H : Hp) (env : En) (σ : St) : Prop where
  len : env.length = σ.length
  at_ : ∀ (i : Nat) (d : D), env[i]? = some (some d) → ∃ v, σ[i]? = some (some v) ∧ RV C ρ Z H d v
theorem RE.ext {env : En} {σ : St} (x : Ext ρ H ρ' H') (h : RE C ρ Z H env σ) : RE C ρ' Z H' env σ :=
  ⟨h.len, fun i d e => by obtain ⟨v, q, r⟩ := h.at_ i d e; exact ⟨v, q, r.ext x⟩⟩
theorem RE.set {env : En} {σ : St} {i : Nat} {d : D} {v : V} (h : RE C ρ Z H env σ) (r : RV C ρ Z H d v) : RE C ρ Z H (env.set i (some d)) (σ.set i (some v)) := by
  refine ⟨by rw [List.length_set, List.length_set]; exact h.len, fun j e q => ?_⟩
  by_cases hj : i = j
  · subst hj
    have hl : i < env.length := by
      have z := (List.getElem?_eq_some_iff.mp q).1
      rw [List.length_set] at z
      exact z
    rw [List.getElem?_set_self hl] at q
    cases q
    exact ⟨v, List.getElem?_set_self (by rw [← h.len]; exact hl), r⟩
  · rw [List.getElem?_set_ne hj] at q
    obtain ⟨u, z1, z2⟩ := h.at_ j e q
    exact ⟨u, by rw [List.getElem?_set_ne hj]; exact z1, z2⟩
theorem RE.unset {env : En} {σ : St} {i : Nat} (h : RE C ρ Z H env σ) : RE C ρ Z H (env.set i none) (σ.set i none) := by
  refine ⟨by rw [List.length_set, List.length_set]; exact h.len, fun j e q => ?_⟩
  by_cases hj : i = j
  · subst hj
    have hl : i < env.length := by
      have z := (List.getElem?_eq_some_iff.mp q).1
      rw [List.length_set] at z
      exact z
    rw [List.getElem?_set_self hl] at q
    cases q
  · rw [List.getElem?_set_ne hj] at q
    obtain ⟨u, z1, z2⟩ := h.at_ j e q
    exact ⟨u, by rw [List.getElem?_set_ne hj]; exact z1, z2⟩
/-- only tables have changed -/
theorem RS.extN {st : Sto} (S : RS C ρ Z H st) (x : ExtN H H') (t : Tabs C.T H') : RS C ρ Z H' st := by
  have e : Ext ρ H ρ H' := ⟨List.prefix_rfl, fun a o h _ t => x a o h t, fun _ h h' => absurd h h'⟩
  refine ⟨S.len, S.nd, fun n a o e1 e2 => ?_, t, fun a m => ?_, S.dj⟩
  · have q := S.ob n a o e1 e2
    cases o with
    | lst ds => obtain ⟨vs, h1, h2⟩ := q; exact ⟨vs, x _ _ h1 (fun _ z => by cases z), h2.ext e⟩
    | dct ks ds => obtain ⟨vs, h0, h1, h2⟩ := q; exact ⟨vs, h0, x _ _ h1 (fun _ z => by cases z), h2.ext e⟩
  · obtain ⟨o, h1, h2⟩ := S.zs a m
    exact ⟨o, x _ _ h1 h2, h2⟩
theorem Ext.ofN {ρ : List Addr} {H H' : Hp} (x : ExtN H H') : Ext ρ H ρ H' := ⟨List.prefix_rfl, fun a o h _ t => x a o h t, fun _ h h' => absurd h h'⟩
def wipeE (env : En) : List Nat → En
  | [] => env
  | v :: vs => (wipeE env vs).set v none
theorem RE.wipe {env : En} {σ : St} (h : RE C ρ Z H env σ) : ∀ vs : List Nat, RE C ρ Z H (wipeE env vs) (wipe σ vs)
  | [] => h
  | v :: vs => (RE.wipe h vs).unset
end

/-! ### judgements -/
section
variable (C : Ct) (W : WX)
def After (ρ Z : List Addr) (H : Hp) (σ : St) (m : Option (R D)) (Q : VK) : Prop :=
  match m with
  | none => False
  | some (.ok r st') => ∀ ρ' H' v, Ext ρ H ρ' H' → RS C ρ' Z H' st' → RV C ρ' Z H' r v → Q v H'
  | some (.ex c st') => ∀ ρ' H' cls, Ext ρ H ρ' H' → RS C ρ' Z H' st' → C.mg c = some (.ref cls) → W (.ref cls) none σ H'
def AfterL (ρ Z : List Addr) (H : Hp) (σ : St) (m : Option (R (List D))) (Q : List V → Hp → Prop) : Prop :=
  match m with
  | none => False
  | some (.ok r st') => ∀ ρ' H' v, Ext ρ H ρ' H' → RS C ρ' Z H' st' → RVs C ρ' Z H' r v → Q v H'
  | some (.ex c st') => ∀ ρ' H' cls, Ext ρ H ρ' H' → RS C ρ' Z H' st' → C.mg c = some (.ref cls) → W (.ref cls) none σ H'
def AfterB (ρ Z : List Addr) (H : Hp) (σ : St) (m : Option (R Bool)) (Q : Bool → Hp → Prop) : Prop :=
  match m with
  | none => False
  | some (.ok r st') => ∀ ρ' H', Ext ρ H ρ' H' → RS C ρ' Z H' st' → Q r H'
  | some (.ex c st') => ∀ ρ' H' cls, Ext ρ H ρ' H' → RS C ρ' Z H' st' → C.mg c = some (.ref cls) → W (.ref cls) none σ H'
def tD (d : Den) : TE := fun σ H Q => ∃ ρ Z env st, RS C ρ Z H st ∧ RE C ρ Z H env σ ∧ After C W ρ Z H σ (d env st) Q
def tDL (d : DenL) : TA := fun σ H Q => ∃ ρ Z env st, RS C ρ Z H st ∧ RE C ρ Z H env σ ∧ AfterL C W ρ Z H σ (d env st) Q
def tDB (d : DenB) : TT := fun σ H Q => ∃ ρ Z env st, RS C ρ Z H st ∧ RE C ρ Z H env σ ∧ AfterB C W ρ Z H σ (d env st) Q
end
class Go (X : Cx) (C : outParam Ct) (W : outParam WX) (k : outParam Nat) : Prop where
  hK : X.K = C.K
  hm : X.mg = C.mg
  tk : Takes X W
  hr : Room k X.A
  calm : X.calm = true
  nd : X.N.Nodup
  po : PassesOwn (model X.prog X.w) X.A X.env X.xe
abbrev PD (X : Cx) (C : Ct) (W : WX) (e : Expr) (d : Den) : Prop := PE X e (tD C W d)
abbrev PDL (X : Cx) (C : Ct) (W : WX) (es : List Expr) (d : DenL) : Prop := PA X es (tDL C W d)
abbrev PDB (X : Cx) (C : Ct) (W : WX) (e : Expr) (d : DenB) : Prop := PT X e (tDB C W d)
abbrev PDW (X : Cx) (C : Ct) (W : WX) (e : Expr) (d : DenB) : Prop := PW X e (tDB C W d)
theorem pe_imp {X : Cx} {e : Expr} {t t' : TE} (h : PE X e t) (i : ∀ σ H Q, t' σ H Q → t σ H Q) : PE X e t' := ⟨fun p s σ H Q I q => h.run p s σ H Q I (i σ H Q q)⟩
theorem pa_imp {X : Cx} {e : List Expr} {t t' : TA} (h : PA X e t) (i : ∀ σ H Q, t' σ H Q → t σ H Q) : PA X e t' := ⟨fun o p s σ H Q I q => h.run o p s σ H Q I (i σ H Q q)⟩
theorem pt_imp {X : Cx} {e : Expr} {t t' : TT} (h : PT X e t) (i : ∀ σ H Q, t' σ H Q → t σ H Q) : PT X e t' := ⟨fun p s σ H Q I q => h.run p s σ H Q I (i σ H Q q)⟩
theorem pw_imp {X : Cx} {e : Expr} {t t' : TT} (h : PW X e t) (i : ∀ σ H Q, t' σ H Q → t σ H Q) : PW X e t' := ⟨fun o p s σ H Q I q => h.run o p s σ H Q I (i σ H Q q)⟩
theorem ps_imp {X : Cx} {e : Stmt} {t t' : TS} (h : PS X e t) (i : ∀ Q σ H, t' Q σ H → t Q σ H) : PS X e t' := ⟨fun p s σ H Q I q => h.run p s σ H Q I (i Q σ H q)⟩
theorem pss_imp {X : Cx} {e : List Stmt} {t t' : TS} (h : PSs X e t) (i : ∀ Q σ H, t' Q σ H → t Q σ H) : PSs X e t' := ⟨fun p s σ H Q I q => h.run p s σ H Q I (i Q σ H q)⟩
theorem pe_alt {X : Cx} {e : Expr} {t t' : TE} (h : PE X e t) (h' : PE X e t') : PE X e (fun σ H Q => t σ H Q ∨ t' σ H Q) := ⟨fun p s σ H Q I q => q.elim (h.run p s σ H Q I) (h'.run p s σ H Q I)⟩

section
variable {C : Ct} {W : WX} {ρ Z : List Addr} {H : Hp} {σ : St} {env : En} {st : Sto}
theorem After.mono {m : Option (R D)} {Q Q' : VK} (h : After C W ρ Z H σ m Q) (i : ∀ v H', Q v H' → Q' v H') : After C W ρ Z H σ m Q' := by
  unfold After at h ⊢
  split at h
  · exact h
  · exact fun ρ' H' v a b c => i v H' (h ρ' H' v a b c)
  · exact h
/-- an expression, then what is made of its value -/
theorem seqE {da : Den} {f : D → Sto → Option (R D)} {Q : VK} (S : RS C ρ Z H st) (E : RE C ρ Z H env σ) (h : After C W ρ Z H σ (bindR (da env st) f) Q) :
    tD C W da σ H fun v H1 => ∃ ρ1 st1 r, RS C ρ1 Z H1 st1 ∧ RE C ρ1 Z H1 env σ ∧ RV C ρ1 Z H1 r v ∧ Ext ρ H ρ1 H1 ∧ da env st = some (.ok r st1) ∧ After C W ρ1 Z H1 σ (f r st1) Q := by
  refine ⟨ρ, Z, env, st, S, E, ?_⟩
  cases e : da env st with
  | none => rw [e] at h; exact h
  | some x =>
    rw [e] at h
    cases x with
    | ok r st1 =>
      intro ρ1 H1 v x1 S1 r1
      refine ⟨ρ1, st1, r, S1, E.ext x1, r1, x1, rfl, ?_⟩
      unfold bindR at h
      dsimp only at h
      unfold After at h ⊢
      split
      · rename_i z; rw [z] at h; exact h
      · rename_i z; rw [z] at h; exact fun ρ' H' v a => h ρ' H' v (x1.trans a)
      · rename_i z; rw [z] at h; exact fun ρ' H' v a => h ρ' H' v (x1.trans a)
    | ex c st1 => exact h
end
end Pd
end
section
set_option Elab.async false
set_option linter.all false
set_option maxRecDepth 100000
namespace Pd
open PySem PySem.Spec L2 LamX
open PyProof.Rows hiding St

section
variable {C : Ct} {W : WX} {ρ Z : List Addr} {H : Hp} {σ : St} {env : En} {st : Sto}
theorem tD_mono {d : Den} {Q Q' : VK} (h : tD C W d σ H Q) (i : ∀ v H', Q v H' → Q' v H') : tD C W d σ H Q' := by
  obtain ⟨ρ, Z, env, st, S, E, a⟩ := h
  exact ⟨ρ, Z, env, st, S, E, a.mono i⟩
theorem AfterL.mono {m : Option (R (List D))} {Q Q' : List V → Hp → Prop} (h : AfterL C W ρ Z H σ m Q) (i : ∀ v H', Q v H' → Q' v H') : AfterL C W ρ Z H σ m Q' := by
  unfold AfterL at h ⊢
  split at h
  · exact h
  · exact fun ρ' H' v a b c => i v H' (h ρ' H' v a b c)
  · exact h
theorem tDL_mono {d : DenL} {Q Q' : List V → Hp → Prop} (h : tDL C W d σ H Q) (i : ∀ v H', Q v H' → Q' v H') : tDL C W d σ H Q' := by
  obtain ⟨ρ, Z, env, st, S, E, a⟩ := h
  exact ⟨ρ, Z, env, st, S, E, a.mono i⟩
theorem AfterB.mono {m : Option (R Bool)} {Q Q' : Bool → Hp → Prop} (h : AfterB C W ρ Z H σ m Q) (i : ∀ v H', Q v H' → Q' v H') : AfterB C W ρ Z H σ m Q' := by
  unfold AfterB at h ⊢
  split at h
  · exact h
  · exact fun ρ' H' a b => i _ H' (h ρ' H' a b)
  · exact h
theorem tDB_mono {d : DenB} {Q Q' : Bool → Hp → Prop} (h : tDB C W d σ H Q) (i : ∀ v H', Q v H' → Q' v H') : tDB C W d σ H Q' := by
  obtain ⟨ρ, Z, env, st, S, E, a⟩ := h
  exact ⟨ρ, Z, env, st, S, E, a.mono i⟩
/-- a wish carried back over what came before -/
theorem After.back {ρ1 : List Addr} {H1 : Hp} {m : Option (R D)} {Q : VK} (x : Ext ρ H ρ1 H1) (h : After C W ρ Z H σ m Q) : After C W ρ1 Z H1 σ m Q := by
  unfold After at h ⊢
  split
  · exact h
  · exact fun ρ' H' v a => h ρ' H' v (x.trans a)
  · exact fun ρ' H' v a => h ρ' H' v (x.trans a)
theorem AfterL.back {ρ1 : List Addr} {H1 : Hp} {m : Option (R (List D))} {Q : List V → Hp → Prop} (x : Ext ρ H ρ1 H1) (h : AfterL C W ρ Z H σ m Q) : AfterL C W ρ1 Z H1 σ m Q := by
  unfold AfterL at h ⊢
  split
  · exact h
  · exact fun ρ' H' v a => h ρ' H' v (x.trans a)
  · exact fun ρ' H' v a => h ρ' H' v (x.trans a)
theorem AfterB.back {ρ1 : List Addr} {H1 : Hp} {m : Option (R Bool)} {Q : Bool → Hp → Prop} (x : Ext ρ H ρ1 H1) (h : AfterB C W ρ Z H σ m Q) : AfterB C W ρ1 Z H1 σ m Q := by
  unfold AfterB at h ⊢
  split
  · exact h
  · exact fun ρ' H' a => h ρ' H' (x.trans a)
  · exact fun ρ' H' v a => h ρ' H' v (x.trans a)
theorem seqEL {da : Den} {f : D → Sto → Option (R (List D))} {Q : List V → Hp → Prop} (S : RS C ρ Z H st) (E : RE C ρ Z H env σ) (h : AfterL C W ρ Z H σ (bindR (da env st) f) Q) :
    tD C W da σ H fun v H1 => ∃ ρ1 st1 r, RS C ρ1 Z H1 st1 ∧ RE C ρ1 Z H1 env σ ∧ RV C ρ1 Z H1 r v ∧ Ext ρ H ρ1 H1 ∧ da env st = some (.ok r st1) ∧ AfterL C W ρ1 Z H1 σ (f r st1) Q := by
  refine ⟨ρ, Z, env, st, S, E, ?_⟩
  cases e : da env st with
  | none => rw [e] at h; exact h
  | some x =>
    rw [e] at h
    cases x with
    | ok r st1 => exact fun ρ1 H1 v x1 S1 r1 => ⟨ρ1, st1, r, S1, E.ext x1, r1, x1, rfl, AfterL.back (m := f r st1) x1 h⟩
    | ex c st1 => exact h
theorem seqEB {da : Den} {f : D → Sto → Option (R Bool)} {Q : Bool → Hp → Prop} (S : RS C ρ Z H st) (E : RE C ρ Z H env σ) (h : AfterB C W ρ Z H σ (bindR (da env st) f) Q) :
    tD C W da σ H fun v H1 => ∃ ρ1 st1 r, RS C ρ1 Z H1 st1 ∧ RE C ρ1 Z H1 env σ ∧ RV C ρ1 Z H1 r v ∧ Ext ρ H ρ1 H1 ∧ da env st = some (.ok r st1) ∧ AfterB C W ρ1 Z H1 σ (f r st1) Q := by
  refine ⟨ρ, Z, env, st, S, E, ?_⟩
  cases e : da env st with
  | none => rw [e] at h; exact h
  | some x =>
    rw [e] at h
    cases x with
    | ok r st1 => exact fun ρ1 H1 v x1 S1 r1 => ⟨ρ1, st1, r, S1, E.ext x1, r1, x1, rfl, AfterB.back (m := f r st1) x1 h⟩
    | ex c st1 => exact h
theorem seqLE {da : DenL} {f : List D → Sto → Option (R D)} {Q : VK} (S : RS C ρ Z H st) (E : RE C ρ Z H env σ) (h : After C W ρ Z H σ (bindR (da env st) f) Q) :
    tDL C W da σ H fun v H1 => ∃ ρ1 st1 r, RS C ρ1 Z H1 st1 ∧ RE C ρ1 Z H1 env σ ∧ RVs C ρ1 Z H1 r v ∧ Ext ρ H ρ1 H1 ∧ da env st = some (.ok r st1) ∧ After C W ρ1 Z H1 σ (f r st1) Q := by
  refine ⟨ρ, Z, env, st, S, E, ?_⟩
  cases e : da env st with
  | none => rw [e] at h; exact h
  | some x =>
    rw [e] at h
    cases x with
    | ok r st1 => exact fun ρ1 H1 v x1 S1 r1 => ⟨ρ1, st1, r, S1, E.ext x1, r1, x1, rfl, After.back (m := f r st1) x1 h⟩
    | ex c st1 => exact h
theorem seqLL {da : DenL} {f : List D → Sto → Option (R (List D))} {Q : List V → Hp → Prop} (S : RS C ρ Z H st) (E : RE C ρ Z H env σ) (h : AfterL C W ρ Z H σ (bindR (da env st) f) Q) :
    tDL C W da σ H fun v H1 => ∃ ρ1 st1 r, RS C ρ1 Z H1 st1 ∧ RE C ρ1 Z H1 env σ ∧ RVs C ρ1 Z H1 r v ∧ Ext ρ H ρ1 H1 ∧ da env st = some (.ok r st1) ∧ AfterL C W ρ1 Z H1 σ (f r st1) Q := by
  refine ⟨ρ, Z, env, st, S, E, ?_⟩
  cases e : da env st with
  | none => rw [e] at h; exact h
  | some x =>
    rw [e] at h
    cases x with
    | ok r st1 => exact fun ρ1 H1 v x1 S1 r1 => ⟨ρ1, st1, r, S1, E.ext x1, r1, x1, rfl, AfterL.back (m := f r st1) x1 h⟩
    | ex c st1 => exact h
theorem seqBE {da : DenB} {f : Bool → Sto → Option (R D)} {Q : VK} (S : RS C ρ Z H st) (E : RE C ρ Z H env σ) (h : After C W ρ Z H σ (bindR (da env st) f) Q) :
    tDB C W da σ H fun b H1 => ∃ ρ1 st1, RS C ρ1 Z H1 st1 ∧ RE C ρ1 Z H1 env σ ∧ Ext ρ H ρ1 H1 ∧ da env st = some (.ok b st1) ∧ After C W ρ1 Z H1 σ (f b st1) Q := by
  refine ⟨ρ, Z, env, st, S, E, ?_⟩
  cases e : da env st with
  | none => rw [e] at h; exact h
  | some x =>
    rw [e] at h
    cases x with
    | ok r st1 => exact fun ρ1 H1 x1 S1 => ⟨ρ1, st1, S1, E.ext x1, x1, rfl, After.back (m := f r st1) x1 h⟩
    | ex c st1 => exact h
theorem seqBB {da : DenB} {f : Bool → Sto → Option (R Bool)} {Q : Bool → Hp → Prop} (S : RS C ρ Z H st) (E : RE C ρ Z H env σ) (h : AfterB C W ρ Z H σ (bindR (da env st) f) Q) :
    tDB C W da σ H fun b H1 => ∃ ρ1 st1, RS C ρ1 Z H1 st1 ∧ RE C ρ1 Z H1 env σ ∧ Ext ρ H ρ1 H1 ∧ da env st = some (.ok b st1) ∧ AfterB C W ρ1 Z H1 σ (f b st1) Q := by
  refine ⟨ρ, Z, env, st, S, E, ?_⟩
  cases e : da env st with
  | none => rw [e] at h; exact h
  | some x =>
    rw [e] at h
    cases x with
    | ok r st1 => exact fun ρ1 H1 x1 S1 => ⟨ρ1, st1, S1, E.ext x1, x1, rfl, AfterB.back (m := f r st1) x1 h⟩
    | ex c st1 => exact h
/-- what is known now, as a start -/
theorem tD_of {d : Den} {Q : VK} (S : RS C ρ Z H st) (E : RE C ρ Z H env σ) (h : After C W ρ Z H σ (d env st) Q) : tD C W d σ H Q := ⟨ρ, Z, env, st, S, E, h⟩
theorem tDB_of {d : DenB} {Q : Bool → Hp → Prop} (S : RS C ρ Z H st) (E : RE C ρ Z H env σ) (h : AfterB C W ρ Z H σ (d env st) Q) : tDB C W d σ H Q := ⟨ρ, Z, env, st, S, E, h⟩
theorem tDL_of {d : DenL} {Q : List V → Hp → Prop} (S : RS C ρ Z H st) (E : RE C ρ Z H env σ) (h : AfterL C W ρ Z H σ (d env st) Q) : tDL C W d σ H Q := ⟨ρ, Z, env, st, S, E, h⟩
/-- the end of an operation that changes nothing -/
theorem After.now {r : D} {Q : VK} {v : V} (h : After C W ρ Z H σ (some (.ok r st)) Q) (S : RS C ρ Z H st) (q : RV C ρ Z H r v) : Q v H := h ρ H v (Ext.refl _ _) S q
theorem AfterB.now {r : Bool} {Q : Bool → Hp → Prop} (h : AfterB C W ρ Z H σ (some (.ok r st)) Q) (S : RS C ρ Z H st) : Q r H := h ρ H (Ext.refl _ _) S
end

/-! ### lists of the store and lists as values -/
def mkL (cell : Bool) (ds : List D) (st : Sto) : Option (R D) := if cell then some (.ok (.ref st.length) (st ++ [.lst ds])) else some (.ok (.lst ds) st)
/-- the items of a list (a cell's as they stand) -/
def asL (st : Sto) : D → Option (List D)
  | .lst ds => some ds
  | .scr ds => some ds
  | .ref n => match st[n]? with | some (.lst ds) => some ds | _ => none
  | _ => none
/-- of a list that is no script -/
def asM (st : Sto) : D → Option (List D)
  | .lst ds => some ds
  | .ref n => match st[n]? with | some (.lst ds) => some ds | _ => none
  | _ => none
def asT : D → Option (List D)
  | .tup ds => some ds
  | _ => none
def asS (st : Sto) (d : D) : Option (List D) := match d with | .tup ds => some ds | d => asL st d
section
variable {C : Ct} {W : WX} {ρ Z : List Addr} {H : Hp} {σ : St} {env : En} {st : Sto}
theorem mkL_ok {cell : Bool} {ds : List D} {vs : List V} {Q : VK} {p : Addr} (S : RS C ρ Z H st) (hp : H p = none) (r : RVs C ρ Z H ds vs) (h : After C W ρ Z H σ (mkL cell ds st) Q) : Q (.ref p) (upd H p (.lst vs)) := by
  unfold mkL at h
  cases cell with
  | true =>
    refine h (ρ ++ [p]) (upd H p (.lst vs)) (.ref p) (Ext.cell hp) (S.cell hp ⟨vs, upd_same, r.ext (Ext.cell hp)⟩) ?_
    unfold RV
    exact ⟨p, rfl, by rw [← S.len, List.getElem?_append_right (Nat.le_refl _), Nat.sub_self]; rfl⟩
  | false =>
    refine h ρ (upd H p (.lst vs)) (.ref p) (Ext.fresh hp) (S.val hp) ?_
    unfold RV
    exact ⟨p, vs, rfl, ⟨upd_same, S.fresh hp, S.nz hp⟩, r.ext (Ext.fresh hp)⟩
theorem asM_ok {d : D} {v : V} {ds : List D} (S : RS C ρ Z H st) (r : RV C ρ Z H d v) (h : asM st d = some ds) : ∃ a vs, v = .ref a ∧ H a = some (.lst vs) ∧ RVs C ρ Z H ds vs := by
  unfold asM at h
  split at h
  · cases h
    unfold RV at r
    obtain ⟨a, vs, e, t, q⟩ := r
    exact ⟨a, vs, e, t.1, q⟩
  · split at h
    · rename_i n _ ds' e
      cases h
      unfold RV at r
      obtain ⟨a, ea, e2⟩ := r
      obtain ⟨vs, e3, q⟩ := S.ob n a _ e2 e
      exact ⟨a, vs, ea, e3, q⟩
    · cases h
  · cases h
theorem asL_ok {d : D} {v : V} {ds : List D} (S : RS C ρ Z H st) (r : RV C ρ Z H d v) (h : asL st d = some ds) : ∃ a vs, v = .ref a ∧ SqL C.K H a vs ∧ RVs C ρ Z H ds vs := by
  unfold asL at h
  split at h
  · cases h
    unfold RV at r
    obtain ⟨a, vs, e, t, q⟩ := r
    exact ⟨a, vs, e, .inl (.inl t.1), q⟩
  · cases h
    unfold RV at r
    obtain ⟨a, vs, e, t, q⟩ := r
    exact ⟨a, vs, e, t.elim (fun ⟨o, t⟩ => .inl (.inr ⟨o, t.1⟩)) .inr, q⟩
  · split at h
    · rename_i n _ ds' e
      cases h
      unfold RV at r
      obtain ⟨a, ea, e2⟩ := r
      obtain ⟨vs, e3, q⟩ := S.ob n a _ e2 e
      exact ⟨a, vs, ea, .inl (.inl e3), q⟩
    · cases h
  · cases h
theorem tup_ok {v : V} {ds : List D} (r : RV C ρ Z H (.tup ds) v) : ∃ a vs, v = .ref a ∧ SqT C.K H a vs ∧ RVs C ρ Z H ds vs := by
  unfold RV at r
  obtain ⟨a, vs, e, t, q⟩ := r
  exact ⟨a, vs, e, t.elim (fun z => .inl (.inl z.1)) .inr, q⟩
theorem asT_ok {d : D} {v : V} {ds : List D} (r : RV C ρ Z H d v) (h : asT d = some ds) : ∃ a vs, v = .ref a ∧ SqT C.K H a vs ∧ RVs C ρ Z H ds vs := by
  unfold asT at h
  split at h
  · cases h
    exact tup_ok r
  · cases h
theorem asS_ok {d : D} {v : V} {ds : List D} (S : RS C ρ Z H st) (r : RV C ρ Z H d v) (h : asS st d = some ds) : ∃ a vs, v = .ref a ∧ (SqL C.K H a vs ∨ SqT C.K H a vs) ∧ RVs C ρ Z H ds vs := by
  unfold asS at h
  split at h
  · cases h
    obtain ⟨a, vs, e, t, q⟩ := tup_ok r
    exact ⟨a, vs, e, .inr t, q⟩
  · obtain ⟨a, vs, e, t, q⟩ := asL_ok S r h
    exact ⟨a, vs, e, .inl t, q⟩
end
end Pd
end
section
set_option Elab.async false
set_option linter.all false
set_option maxRecDepth 100000
namespace Pd
open PySem PySem.Spec L2 LamX
open PyProof.Rows hiding St

/-! ### denotations -/
def dVar (i : Nat) : Den := fun env st => match env[i]? with | some (some d) => some (.ok d st) | _ => none
def dC (d : D) : Den := fun _ st => some (.ok d st)
def dBin (f : D → D → Sto → Option (R D)) (a b : Den) : Den := fun env st => bindR (a env st) fun x st => bindR (b env st) fun y st => f x y st
def dUn (f : D → Sto → Option (R D)) (a : Den) : Den := fun env st => bindR (a env st) fun x st => f x st
def dChain (f g : D → D → Sto → Option (R D)) (a b c : Den) : Den := fun env st => bindR (a env st) fun x st => bindR (b env st) fun y st => bindR (f x y st) fun k st =>
  match k with | .bl true => bindR (c env st) fun z st => g y z st | .bl false => some (.ok (.bl false) st) | _ => none
def dNil : DenL := fun _ st => some (.ok [] st)
def dCons (a : Den) (b : DenL) : DenL := fun env st => bindR (a env st) fun x st => bindR (b env st) fun xs st => some (.ok (x :: xs) st)
def dArgs (f : List D → Sto → Option (R D)) (a : DenL) : Den := fun env st => bindR (a env st) fun xs st => f xs st
def dIf (t : DenB) (a b : Den) : Den := fun env st => bindR (t env st) fun k st => if k then a env st else b env st
/-- a value that is a truth, as a test -/
def dTruth (f : D → Sto → Option Bool) (a : Den) : DenB := fun env st => bindR (a env st) fun x st => match f x st with | some k => some (.ok k st) | none => none
def isBl (d : D) (_ : Sto) : Option Bool := match d with | .bl k => some k | _ => none
def dAnd (a b : DenB) : DenB := fun env st => bindR (a env st) fun k st => if k then b env st else some (.ok false st)
def dOr (a b : DenB) : DenB := fun env st => bindR (a env st) fun k st => if k then some (.ok true st) else b env st
def dNot (a : DenB) : DenB := fun env st => bindR (a env st) fun k st => some (.ok (!k) st)
def dAndV (a b : Den) : Den := fun env st => bindR (a env st) fun k st => match k with | .bl true => b env st | .bl false => some (.ok (.bl false) st) | _ => none
def dOrV (a b : Den) : Den := fun env st => bindR (a env st) fun k st => match k with | .bl false => b env st | .bl true => some (.ok (.bl true) st) | _ => none
def dNotV (a : Den) : Den := fun env st => bindR (a env st) fun k st => match k with | .bl k => some (.ok (.bl (!k)) st) | _ => none

section
variable {X : Cx} {C : Ct} {W : WX} {k : Nat} {a b c : Expr} {da db dc : Den} {ta tb : DenB} {pos : Pos}

/-! ### leaves -/
theorem pd_var (i : Nat) {x : Str} {pos : Pos} (hN : X.N[i]? = some x := by rfl) (hv : Vis X.env.scope x := by first | exact Or.inl rfl | exact Or.inr (Or.inl rfl) | exact Or.inr (Or.inr rfl)) (hd : (x == ("__debug__" : Str)) = false := by decide)
    (hcd : (x == ("__classdict__" : Str)) = false := by decide) : PD X C W (.Name x pos) (dVar i) :=
  pe_imp (pe_var hN hv hd hcd) fun σ H Q ⟨ρ, Z, env, st, S, E, h⟩ => by
    unfold dVar at h
    split at h
    · rename_i d e
      obtain ⟨v, q, r⟩ := E.at_ i d e
      exact ⟨v, q, h.now S r⟩
    · exact h.elim
theorem pd_int {i j} : PD X C W (.Constant (.int i) j pos) (dC (.int i)) := pe_imp pe_int fun σ H Q ⟨ρ, Z, env, st, S, E, h⟩ => h.now S (by unfold RV; rfl)
theorem pd_bl {b j} : PD X C W (.Constant (.bool b) j pos) (dC (.bl b)) := pe_imp pe_bl fun σ H Q ⟨ρ, Z, env, st, S, E, h⟩ => h.now S (by unfold RV; rfl)
theorem pd_non {j} : PD X C W (.Constant .none j pos) (dC .non) := pe_imp pe_non fun σ H Q ⟨ρ, Z, env, st, S, E, h⟩ => h.now S (by unfold RV; rfl)
theorem pd_str {x j} : PD X C W (.Constant (.str x) j pos) (dC (.str x)) := pe_imp pe_str fun σ H Q ⟨ρ, Z, env, st, S, E, h⟩ => h.now S (by unfold RV; rfl)
/-- a constant of the module -/
structure GV (C : Ct) (x : Str) (d : D) : Prop where
  ex : ∃ v u, C.mg x = some u ∧ RelV v u ∧ ∀ ρ Z H, RV C ρ Z H d v
theorem pd_glob [g : Go X C W k] {x : Str} {d : D} {pos : Pos} (G : GV C x d) (hg : Gl X x := by rfl) (hd : (x == ("__debug__" : Str)) = false := by decide) : PD X C W (.Name x pos) (dC d) := by
  obtain ⟨v, u, m, r, q⟩ := G.ex
  exact pe_imp (pe_glob hg (by rw [g.hm]; exact m) r hd) fun σ H Q ⟨ρ, Z, env, st, S, E, h⟩ => h.now S (q _ _ _)
theorem GV.int {x : Str} {i : Int} {t : Tok} (h : C.mg x = some (.int i t)) : GV C x (.int i) := ⟨.int i, _, h, ⟨t, rfl⟩, fun _ _ _ => by unfold RV; rfl⟩
theorem GV.str {x : Str} {y : Str} {t : Tok} (h : C.mg x = some (.str y t)) : GV C x (.str y) := ⟨.str y, _, h, ⟨t, rfl⟩, fun _ _ _ => by unfold RV; rfl⟩
theorem GV.fn {x : Str} {f : Addr} (h : C.mg x = some (.ref f)) : GV C x (.fn x) := ⟨.ref f, _, h, rfl, fun _ _ _ => by unfold RV; exact ⟨f, rfl, h⟩⟩

/-! ### operators -/
/-- what a two-place rule gives, by data -/
def Sem2 (C : Ct) (f : D → D → Sto → Option (R D)) (r : R2) : Prop :=
  ∀ (W : WX) (ρ Z : List Addr) (H : Hp) (st : Sto) (σ : St) (x y : D) (v u : V) (Q : VK), RS C ρ Z H st → RV C ρ Z H x v → RV C ρ Z H y u → After C W ρ Z H σ (f x y st) Q → r v u H Q
def Sem1 (C : Ct) (f : D → Sto → Option (R D)) (r : V → Hp → VK → Prop) : Prop :=
  ∀ (W : WX) (ρ Z : List Addr) (H : Hp) (st : Sto) (σ : St) (x : D) (v : V) (Q : VK), RS C ρ Z H st → RV C ρ Z H x v → After C W ρ Z H σ (f x st) Q → r v H Q
def SemL (C : Ct) (f : List D → Sto → Option (R D)) (r : List V → Hp → VK → Prop) : Prop :=
  ∀ (W : WX) (ρ Z : List Addr) (H : Hp) (st : Sto) (σ : St) (x : List D) (v : List V) (Q : VK), RS C ρ Z H st → RVs C ρ Z H x v → After C W ρ Z H σ (f x st) Q → r v H Q
theorem t2 {f : D → D → Sto → Option (R D)} {r : R2} (s : Sem2 C f r) {σ : St} {H : Hp} {Q : VK} (h : tD C W (dBin f da db) σ H Q) : tOp r (tD C W da) (tD C W db) σ H Q := by
  obtain ⟨ρ, Z, env, st, S, E, h⟩ := h
  refine tD_mono (seqE S E h) fun v H1 ⟨ρ1, st1, x, S1, E1, rx, _, _, h1⟩ => tD_mono (seqE S1 E1 h1) fun u H2 ⟨ρ2, st2, y, S2, E2, ry, x2, _, h2⟩ => ?_
  exact s _ _ _ _ _ _ _ _ _ _ _ S2 (rx.ext x2) ry h2
theorem pd_op {op : Operator} {r : R2} {f : D → D → Sto → Option (R D)} (ho : OpR X (binaryOp op) r) (s : Sem2 C f r) (ha : PD X C W a da) (hb : PD X C W b db) : PD X C W (.BinOp a op b pos) (dBin f da db) :=
  pe_imp (pe_op ho ha hb) fun _ _ _ h => t2 s h
theorem pd_cmp {op : CmpOp} {r : R2} {f : D → D → Sto → Option (R D)} (ho : OpR X (compareOp op) r) (s : Sem2 C f r) (ha : PD X C W a da) (hb : PD X C W b db) (hm : behindInMarks op b = false) : PD X C W (.Compare a [op] [b] pos) (dBin f da db) :=
  pe_imp (pe_cmpR ho ha hb hm) fun _ _ _ h => t2 s h
theorem pd_un {op : UnaryOp} {r : V → Hp → VK → Prop} {f : D → Sto → Option (R D)} (ho : UnR X (unaryOp op) r) (s : Sem1 C f r) (ha : PD X C W a da) : PD X C W (.UnaryOp op a pos) (dUn f da) :=
  pe_imp (pe_un ho ha) fun σ H Q ⟨ρ, Z, env, st, S, E, h⟩ => tD_mono (seqE S E h) fun v H1 ⟨ρ1, st1, x, S1, E1, rx, _, _, h1⟩ => s _ _ _ _ _ _ _ _ _ S1 rx h1
theorem pd_chain {op op' : CmpOp} {r r' : R2} {f f' : D → D → Sto → Option (R D)} (ho : OpR X (compareOp op) r) (ho' : OpR X (compareOp op') r') (s : Sem2 C f r) (s' : Sem2 C f' r') (ha : PD X C W a da) (hb : PD X C W b db) (hc : PD X C W c dc)
    (hm : lastMarks [op, op'] [b, c] = false := by with_unfolding_all rfl) : PD X C W (.Compare a [op, op'] [b, c] pos) (dChain f f' da db dc) :=
  pe_imp (pe_chain ho ho' ha hb hc hm) fun σ H Q ⟨ρ, Z, env, st, S, E, h⟩ => by
    refine tD_mono (seqE S E h) fun v H1 ⟨ρ1, st1, x, S1, E1, rx, _, _, h1⟩ => tD_mono (seqE S1 E1 h1) fun u H2 ⟨ρ2, st2, y, S2, E2, ry, x2, _, h2⟩ => ?_
    -- the first comparison
    cases e : f x y st2 with
    | none => rw [e] at h2; exact h2.elim
    | some m =>
      cases m with
      | ex c st3 =>
        refine s W ρ2 Z H2 st2 σ x y v u _ S2 (rx.ext x2) ry ?_
        rw [e] at h2 ⊢
        exact h2
      | ok kd st3 =>
        refine s W ρ2 Z H2 st2 σ x y v u _ S2 (rx.ext x2) ry ?_
        rw [e] at h2 ⊢
        intro ρ3 H3 w x3 S3 r3
        unfold bindR at h2
        dsimp only at h2
        split at h2
        · unfold RV at r3
          subst r3
          refine ⟨true, rfl, ?_⟩
          rw [if_pos rfl]
          refine tD_mono (seqE S3 (E2.ext x3) (After.back x3 h2)) fun w' H4 ⟨ρ4, st4, z, S4, E4, rz, x4, _, h4⟩ => s' _ _ _ _ _ _ _ _ _ _ _ S4 ((ry.ext x3).ext x4) rz h4
        · unfold RV at r3
          subst r3
          refine ⟨false, rfl, ?_⟩
          rw [if_neg (by simp)]
          exact (After.back x3 h2).now S3 (by unfold RV; rfl)
        · exact h2.elim

/-! ### tests -/
theorem pdb_bool {e : Expr} {d : Den} (h : PT X e (tTest (tD C W d))) : PDB X C W e (dTruth isBl d) :=
  pt_imp h fun σ H Q ⟨ρ, Z, env, st, S, E, h⟩ => tD_mono (seqEB S E h) fun v H1 ⟨ρ1, st1, x, S1, E1, rx, _, _, h1⟩ => by
    cases x <;> first | exact h1.elim | skip
    unfold RV at rx
    exact ⟨_, rx, h1.now S1⟩
theorem pdb_cmp {op : CmpOp} {r : R2} {f : D → D → Sto → Option (R D)} (ho : OpR X (compareOp op) r) (s : Sem2 C f r) (ha : PD X C W a da) (hb : PD X C W b db) (hm : behindInMarks op b = false) : PDB X C W (.Compare a [op] [b] pos) (dTruth isBl (dBin f da db)) :=
  pt_imp (pt_cmpR ho ha hb hm) fun σ H Q ⟨ρ, Z, env, st, S, E, h⟩ => t2 s (tD_mono (seqEB S E h) fun v H1 ⟨ρ1, st1, x, S1, E1, rx, _, _, h1⟩ => by
    cases x <;> first | exact h1.elim | skip
    unfold RV at rx
    exact ⟨_, rx, h1.now S1⟩)
theorem pdb_chain {op op' : CmpOp} {r r' : R2} {f f' : D → D → Sto → Option (R D)} (ho : OpR X (compareOp op) r) (ho' : OpR X (compareOp op') r') (s : Sem2 C f r) (s' : Sem2 C f' r') (ha : PD X C W a da) (hb : PD X C W b db) (hc : PD X C W c dc)
    (hm : lastMarks [op, op'] [b, c] = false := by with_unfolding_all rfl) : PDB X C W (.Compare a [op, op'] [b, c] pos) (dTruth isBl (dChain f f' da db dc)) := by
  have q := pt_chain (pos := pos) ho ho' ha hb hc hm
  refine pt_imp q fun σ H Q h => ?_
  obtain ⟨ρ, Z, env, st, S, E, h⟩ := h
  have z : tD C W (dChain f f' da db dc) σ H fun x H' => ∃ k, x = .bl k ∧ Q k H' := tD_mono (seqEB S E h) fun v H1 ⟨ρ1, st1, x, S1, E1, rx, _, _, h1⟩ => by
    cases x <;> first | exact h1.elim | skip
    unfold RV at rx
    exact ⟨_, rx, h1.now S1⟩
  clear h
  obtain ⟨ρ, Z, env, st, S, E, h⟩ := z
  refine tD_mono (seqE S E h) fun v H1 ⟨ρ1, st1, x, S1, E1, rx, _, _, h1⟩ => tD_mono (seqE S1 E1 h1) fun u H2 ⟨ρ2, st2, y, S2, E2, ry, x2, _, h2⟩ => ?_
  cases e : f x y st2 with
  | none => rw [e] at h2; exact h2.elim
  | some m =>
    cases m with
    | ex c st3 =>
      refine s W ρ2 Z H2 st2 σ x y v u _ S2 (rx.ext x2) ry ?_
      rw [e] at h2 ⊢
      exact h2
    | ok kd st3 =>
      refine s W ρ2 Z H2 st2 σ x y v u _ S2 (rx.ext x2) ry ?_
      rw [e] at h2 ⊢
      intro ρ3 H3 w x3 S3 r3
      unfold bindR at h2
      dsimp only at h2
      split at h2
      · unfold RV at r3
        subst r3
        refine ⟨true, rfl, ?_⟩
        rw [if_pos rfl]
        refine tD_mono (seqE S3 (E2.ext x3) (After.back x3 h2)) fun w' H4 ⟨ρ4, st4, z, S4, E4, rz, x4, _, h4⟩ => s' _ _ _ _ _ _ _ _ _ _ _ S4 ((ry.ext x3).ext x4) rz h4
      · unfold RV at r3
        subst r3
        refine ⟨false, rfl, ?_⟩
        rw [if_neg (by simp)]
        exact (After.back x3 h2).now S3 (by unfold RV; rfl)
      · exact h2.elim
/-- truth of a value -/
def truD (d : D) (st : Sto) : Option Bool := match d with
  | .non => some false
  | .bl b => some b
  | .int i => some (i != 0)
  | .str y => if y.length ≤ sizeLine then some ((y.length : Int) != 0) else none
  | .tup ds => some (!ds.isEmpty)
  | d => (asL st d).map fun ds => !ds.isEmpty
theorem RVs.isEmpty {ρ Z : List Addr} {H : Hp} {ds : List D} {vs : List V} (r : RVs C ρ Z H ds vs) : ds.isEmpty = vs.isEmpty := by
  have z := r.length
  cases ds <;> cases vs <;> first | rfl | simp at z
theorem truD_ok {ρ Z : List Addr} {H : Hp} {st : Sto} {d : D} {v : V} {k : Bool} (S : RS C ρ Z H st) (r : RV C ρ Z H d v) (h : truD d st = some k) : TruV C.K v H k := by
  unfold truD at h
  split at h
  · cases h; unfold RV at r; subst r; rfl
  · cases h; unfold RV at r; subst r; rfl
  · cases h; unfold RV at r; subst r; rfl
  · split at h
    · cases h; unfold RV at r; subst r; exact ⟨by assumption, rfl⟩
    · cases h
  · cases h
    obtain ⟨a, vs, e, t, q⟩ := tup_ok r
    subst e
    exact .inr (.inl ⟨vs, t, by rw [q.isEmpty]⟩)
  · obtain ⟨ds, e, rfl⟩ := Option.map_eq_some_iff.mp h
    obtain ⟨a, vs, e, t, q⟩ := asL_ok S r e
    subst e
    exact .inl ⟨vs, t, by rw [q.isEmpty]⟩
theorem pdb_truth [g : Go X C W k] (ha : PD X C W a da) (he : ∀ whole, isTrue a X.env whole = (do let v ← whole; standAt a.pos; holding [v] (truthy v)) := by intro _; rfl) : PDB X C W a (dTruth truD da) :=
  pt_imp (pt_truth ha he) fun σ H Q ⟨ρ, Z, env, st, S, E, h⟩ => tD_mono (seqEB S E h) fun v H1 ⟨ρ1, st1, x, S1, E1, rx, _, _, h1⟩ => by
    cases e : truD x st1 with
    | none => rw [e] at h1; exact h1.elim
    | some k =>
      rw [e] at h1
      have z := truD_ok S1 rx e
      rw [← g.hK] at z
      exact ⟨k, z, h1.now S1⟩
theorem pdb_not (ha : PDB X C W a ta) : PDB X C W (.UnaryOp .Not a pos) (dNot ta) :=
  pt_imp (pt_not ha) fun σ H Q ⟨ρ, Z, env, st, S, E, h⟩ => tDB_mono (seqBB S E h) fun k H1 ⟨ρ1, st1, S1, E1, _, _, h1⟩ => h1.now S1
theorem pdw_and1 (ha : PDB X C W a ta) : PDW X C W (.BoolOp .And [a] pos) ta := pw_and1 ha
theorem pdw_or1 (ha : PDB X C W a ta) : PDW X C W (.BoolOp .Or [a] pos) ta := pw_or1 ha
theorem pdw_and {rest : List Expr} (ha : PDB X C W a ta) (hb : PDW X C W (.BoolOp .And (b :: rest) pos) tb) : PDW X C W (.BoolOp .And (a :: b :: rest) pos) (dAnd ta tb) :=
  pw_imp (pw_and ha hb) fun σ H Q ⟨ρ, Z, env, st, S, E, h⟩ => tDB_mono (seqBB S E h) fun k H1 ⟨ρ1, st1, S1, E1, _, _, h1⟩ => by
    cases k with
    | true => exact tDB_of S1 E1 h1
    | false => exact h1.now S1
theorem pdw_or {rest : List Expr} (ha : PDB X C W a ta) (hb : PDW X C W (.BoolOp .Or (b :: rest) pos) tb) : PDW X C W (.BoolOp .Or (a :: b :: rest) pos) (dOr ta tb) :=
  pw_imp (pw_or ha hb) fun σ H Q ⟨ρ, Z, env, st, S, E, h⟩ => tDB_mono (seqBB S E h) fun k H1 ⟨ρ1, st1, S1, E1, _, _, h1⟩ => by
    cases k with
    | false => exact tDB_of S1 E1 h1
    | true => exact h1.now S1
theorem pdb_w {e : Expr} (h : PDW X C W e ta) : PDB X C W e ta := h.pt
theorem pd_one {op} (h : PD X C W a da) : PD X C W (.BoolOp op [a] pos) da := pe_one h
theorem pd_and {rest : List Expr} (ha : PD X C W a da) (hb : PD X C W (.BoolOp .And (b :: rest) pos) db) : PD X C W (.BoolOp .And (a :: b :: rest) pos) (dAndV da db) :=
  pe_imp (pe_and ha hb) fun σ H Q ⟨ρ, Z, env, st, S, E, h⟩ => tD_mono (seqE S E h) fun v H1 ⟨ρ1, st1, x, S1, E1, rx, _, _, h1⟩ => by
    split at h1
    · unfold RV at rx; exact ⟨true, rx, tD_of S1 E1 h1⟩
    · unfold RV at rx; exact ⟨false, rx, h1.now S1 (by unfold RV; rfl)⟩
    · exact h1.elim
theorem pd_or {rest : List Expr} (ha : PD X C W a da) (hb : PD X C W (.BoolOp .Or (b :: rest) pos) db) : PD X C W (.BoolOp .Or (a :: b :: rest) pos) (dOrV da db) :=
  pe_imp (L2.pe_or ha hb) fun σ H Q ⟨ρ, Z, env, st, S, E, h⟩ => tD_mono (seqE S E h) fun v H1 ⟨ρ1, st1, x, S1, E1, rx, _, _, h1⟩ => by
    split at h1
    · unfold RV at rx; exact ⟨false, rx, tD_of S1 E1 h1⟩
    · unfold RV at rx; exact ⟨true, rx, h1.now S1 (by unfold RV; rfl)⟩
    · exact h1.elim
theorem pd_not (ha : PD X C W a da) : PD X C W (.UnaryOp .Not a pos) (dNotV da) :=
  pe_imp (pe_not ha) fun σ H Q ⟨ρ, Z, env, st, S, E, h⟩ => tD_mono (seqE S E h) fun v H1 ⟨ρ1, st1, x, S1, E1, rx, _, _, h1⟩ => by
    split at h1
    · unfold RV at rx; exact ⟨_, rx, h1.now S1 (by unfold RV; rfl)⟩
    · exact h1.elim
theorem pd_if (hc : PDB X C W c ta) (ha : PD X C W a da) (hb : PD X C W b db) : PD X C W (.IfExp c a b pos) (dIf ta da db) :=
  pe_imp (pe_ifExp hc ha hb) fun σ H Q ⟨ρ, Z, env, st, S, E, h⟩ => tDB_mono (seqBE S E h) fun k H1 ⟨ρ1, st1, S1, E1, _, _, h1⟩ => by
    cases k with
    | true => exact tD_of S1 E1 h1
    | false => exact tD_of S1 E1 h1

/-! ### argument lists, displays -/
variable {e : Expr} {es : List Expr} {de : Den} {dl : DenL}
theorem pdl_nil : PDL X C W [] dNil := pa_imp pa_nil fun σ H Q ⟨ρ, Z, env, st, S, E, h⟩ => h ρ H [] (Ext.refl _ _) S RVs.nil
theorem pdl_cons (ha : PD X C W e de) (hr : PDL X C W es dl) (hs : starEach (e :: es) X.env = (false, eval e X.env) :: starEach es X.env := by rfl) : PDL X C W (e :: es) (dCons de dl) :=
  pa_imp (pa_cons ha hr hs) fun σ H Q ⟨ρ, Z, env, st, S, E, h⟩ => tD_mono (seqEL S E h) fun v H1 ⟨ρ1, st1, x, S1, E1, rx, _, _, h1⟩ =>
    tDL_mono (seqLL S1 E1 h1) fun vs H2 ⟨ρ2, st2, xs, S2, E2, rxs, x2, _, h2⟩ => h2 ρ2 H2 _ (Ext.refl _ _) S2 (RVs.cons (rx.ext x2) rxs)
def fTup (ds : List D) (st : Sto) : Option (R D) := if ds.length ≤ sizeLine then some (.ok (.tup ds) st) else none
def fLst (cell : Bool) (ds : List D) (st : Sto) : Option (R D) := if ds.length ≤ sizeLine then mkL cell ds st else none
theorem tup_new {ρ Z : List Addr} {H : Hp} {st : Sto} {σ : St} {ds : List D} {vs : List V} {Q : VK} {p : Addr} (S : RS C ρ Z H st) (hp : H p = none) (r : RVs C ρ Z H ds vs) (h : After C W ρ Z H σ (some (.ok (.tup ds) st)) Q) : Q (.ref p) (upd H p (.tup vs)) := by
  refine h ρ (upd H p (.tup vs)) (.ref p) (Ext.fresh hp) (S.val hp) ?_
  unfold RV
  exact ⟨p, vs, rfl, .inl ⟨upd_same, S.fresh hp, S.nz hp⟩, r.ext (Ext.fresh hp)⟩
theorem pd_tup {x1} (h : PDL X C W es dl) : PD X C W (.Tuple es x1 pos) (dArgs fTup dl) :=
  pe_imp (pe_tup h) fun σ H Q ⟨ρ, Z, env, st, S, E, h⟩ => tDL_mono (seqLE S E h) fun vs H1 ⟨ρ1, st1, xs, S1, E1, rx, _, _, h1⟩ => by
    unfold fTup at h1
    split at h1
    · exact ⟨by rw [← rx.length]; assumption, fun p hp => tup_new S1 hp rx h1⟩
    · exact h1.elim
theorem pd_lst (cell : Bool) (h : PDL X C W es dl) : PD X C W (.List es pos) (dArgs (fLst cell) dl) :=
  pe_imp (pe_lst h) fun σ H Q ⟨ρ, Z, env, st, S, E, h⟩ => tDL_mono (seqLE S E h) fun vs H1 ⟨ρ1, st1, xs, S1, E1, rx, _, _, h1⟩ => by
    unfold fLst at h1
    split at h1
    · exact ⟨by rw [← rx.length]; assumption, fun p hp => mkL_ok S1 hp rx h1⟩
    · exact h1.elim

/-! ### subscripts, slices -/
theorem pd_ix {r : R2} {f : D → D → Sto → Option (R D)} (hr : IxR X r) (s : Sem2 C f r) (ha : PD X C W a da) (hb : PD X C W b db) (hs : PlainIx b := by exact fun _ _ => rfl) : PD X C W (.Subscript a b pos) (dBin f da db) :=
  pe_imp (pe_ix hr ha hb hs) fun _ _ _ h => t2 s h
abbrev DenO := En → Sto → Option (R (Option Int))
def dNoPart : DenO := fun _ st => some (.ok none st)
def dPart (a : Den) : DenO := fun env st => bindR (a env st) fun x st => match x with | .int i => some (.ok (some i) st) | _ => none
def AfterO (C : Ct) (W : WX) (ρ Z : List Addr) (H : Hp) (σ : St) (m : Option (R (Option Int))) (Q : Option Int → Hp → Prop) : Prop :=
  match m with
  | none => False
  | some (.ok r st') => ∀ ρ' H', Ext ρ H ρ' H' → RS C ρ' Z H' st' → Q r H'
  | some (.ex c st') => ∀ ρ' H' cls, Ext ρ H ρ' H' → RS C ρ' Z H' st' → C.mg c = some (.ref cls) → W (.ref cls) none σ H'
def tDO (C : Ct) (W : WX) (d : DenO) : TO := fun σ H Q => ∃ ρ Z env st, RS C ρ Z H st ∧ RE C ρ Z H env σ ∧ AfterO C W ρ Z H σ (d env st) Q
theorem AfterO.mono {ρ Z : List Addr} {H : Hp} {σ : St} {m : Option (R (Option Int))} {Q Q' : Option Int → Hp → Prop} (h : AfterO C W ρ Z H σ m Q) (i : ∀ v H', Q v H' → Q' v H') : AfterO C W ρ Z H σ m Q' := by
  unfold AfterO at h ⊢
  split at h
  · exact h
  · exact fun ρ' H' a b => i _ H' (h ρ' H' a b)
  · exact h
theorem tDO_mono {d : DenO} {σ : St} {H : Hp} {Q Q' : Option Int → Hp → Prop} (h : tDO C W d σ H Q) (i : ∀ v H', Q v H' → Q' v H') : tDO C W d σ H Q' := by
  obtain ⟨ρ, Z, env, st, S, E, a⟩ := h
  exact ⟨ρ, Z, env, st, S, E, a.mono i⟩
theorem seqOE {ρ Z : List Addr} {H : Hp} {σ : St} {env : En} {st : Sto} {da : DenO} {f : Option Int → Sto → Option (R D)} {Q : VK} (S : RS C ρ Z H st) (E : RE C ρ Z H env σ) (h : After C W ρ Z H σ (bindR (da env st) f) Q) :
    tDO C W da σ H fun b H1 => ∃ ρ1 st1, RS C ρ1 Z H1 st1 ∧ RE C ρ1 Z H1 env σ ∧ Ext ρ H ρ1 H1 ∧ After C W ρ1 Z H1 σ (f b st1) Q := by
  refine ⟨ρ, Z, env, st, S, E, ?_⟩
  cases e : da env st with
  | none => rw [e] at h; exact h
  | some x =>
    rw [e] at h
    cases x with
    | ok r st1 => exact fun ρ1 H1 x1 S1 => ⟨ρ1, st1, S1, E.ext x1, x1, After.back (m := f r st1) x1 h⟩
    | ex c st1 => exact h
theorem pdo_none : PO X none (tDO C W dNoPart) := ⟨fun pins s σ H Q I q => po_none.run pins s σ H Q I (by
  obtain ⟨ρ, Z, env, st, S, E, h⟩ := q
  exact h ρ H (Ext.refl _ _) S)⟩
theorem pdo_some (h : PD X C W e de) : PO X (some e) (tDO C W (dPart de)) := ⟨fun pins s σ H Q I q => (po_some h).run pins s σ H Q I (by
  obtain ⟨ρ, Z, env, st, S, E, h⟩ := q
  refine ⟨ρ, Z, env, st, S, E, ?_⟩
  unfold dPart at h
  cases e : de env st with
  | none => rw [e] at h; exact h.elim
  | some x =>
    rw [e] at h
    cases x with
    | ok r st1 =>
      intro ρ1 H1 v x1 S1 r1
      unfold bindR at h
      dsimp only at h
      split at h
      · unfold RV at r1
        exact ⟨_, r1, h ρ1 H1 x1 S1⟩
      · exact h.elim
    | ex c st1 => exact h)⟩
def dSlice (f : D → Option Int → Option Int → Sto → Option (R D)) (a : Den) (l u : DenO) : Den := fun env st => bindR (a env st) fun x st => bindR (l env st) fun i st => bindR (u env st) fun j st => f x i j st
def SemS (C : Ct) (f : D → Option Int → Option Int → Sto → Option (R D)) (r : V → Option Int → Option Int → Hp → VK → Prop) : Prop :=
  ∀ (W : WX) (ρ Z : List Addr) (H : Hp) (st : Sto) (σ : St) (x : D) (v : V) (i j : Option Int) (Q : VK), RS C ρ Z H st → RV C ρ Z H x v → After C W ρ Z H σ (f x i j st) Q → r v i j H Q
theorem pd_slice {r : V → Option Int → Option Int → Hp → VK → Prop} {f : D → Option Int → Option Int → Sto → Option (R D)} {lo hi : Option Expr} {dlo dhi : DenO} {p2 : Pos} (hr : SlR X r) (s : SemS C f r) (he : PD X C W e de) (hl : PO X lo (tDO C W dlo)) (hu : PO X hi (tDO C W dhi)) :
    PD X C W (.Subscript e (.Slice lo hi none p2) pos) (dSlice f de dlo dhi) :=
  pe_imp (pe_slice hr he hl hu) fun σ H Q ⟨ρ, Z, env, st, S, E, h⟩ => tD_mono (seqE S E h) fun v H1 ⟨ρ1, st1, x, S1, E1, rx, _, _, h1⟩ =>
    tDO_mono (seqOE S1 E1 h1) fun i H2 ⟨ρ2, st2, S2, E2, x2, h2⟩ => tDO_mono (seqOE S2 E2 h2) fun j H3 ⟨ρ3, st3, S3, E3, x3, h3⟩ => s _ _ _ _ _ _ _ _ _ _ _ S3 ((rx.ext x2).ext x3) h3

/-! ### calls -/
theorem pd_callB {id : String} {r : List V → Hp → VK → Prop} {f : List D → Sto → Option (R D)} {x : Str} {p : Pos} [g : Go X C W k] (hc : CallR X (.builtin id) r) (s : SemL C f r) (hm : C.mg x = none) (ha : PDL X C W (e :: es) dl) (hg : Gl X x := by rfl) (hv : bootBuiltins x = some (.builtin id) := by decide +kernel)
    (hn : x ≠ "__name__" := by decide) (hdb : (x == ("__debug__" : Str)) = false := by decide)
    (he : starEach (e :: es) X.env = (false, eval e X.env) :: starEach es X.env := by rfl) (hpl : (backTo pos (starEach es X.env)).any (·.1) = false := by rfl) : PD X C W (.Call (.Name x p) (e :: es) [] pos) (dArgs f dl) :=
  pe_imp (pe_callB hc hg (by rw [g.hm]; exact hm) hv ha hn hdb he hpl) fun σ H Q ⟨ρ, Z, env, st, S, E, h⟩ => tDL_mono (seqLE S E h) fun vs H1 ⟨ρ1, st1, xs, S1, E1, rx, _, _, h1⟩ => s _ _ _ _ _ _ _ _ _ S1 rx h1
theorem pd_callTy {id : String} {r : List V → Hp → VK → Prop} {f : List D → Sto → Option (R D)} {x : Str} {p : Pos} [g : Go X C W k] (hc : CallR X (.type id) r) (s : SemL C f r) (hm : C.mg x = none) (ha : PDL X C W (e :: es) dl) (hg : Gl X x := by rfl) (hv : bootBuiltins x = some (.type id) := by decide +kernel)
    (hn : x ≠ "__name__" := by decide) (hdb : (x == ("__debug__" : Str)) = false := by decide)
    (he : starEach (e :: es) X.env = (false, eval e X.env) :: starEach es X.env := by rfl) (hpl : (backTo pos (starEach es X.env)).any (·.1) = false := by rfl) : PD X C W (.Call (.Name x p) (e :: es) [] pos) (dArgs f dl) :=
  pe_imp (pe_callTy hc hg (by rw [g.hm]; exact hm) hv ha hn hdb he hpl) fun σ H Q ⟨ρ, Z, env, st, S, E, h⟩ => tDL_mono (seqLE S E h) fun vs H1 ⟨ρ1, st1, xs, S1, E1, rx, _, _, h1⟩ => s _ _ _ _ _ _ _ _ _ S1 rx h1
theorem pd_callBfun {id : String} {r : List V → Hp → VK → Prop} {f : List D → Sto → Option (R D)} {x : Str} {p : Pos} [g : Go X C W k] (hc : CallR X (.builtin id) r) (s : SemL C f r) (hm : C.mg x = some (.builtin id)) (ha : PDL X C W (e :: es) dl) (hg : Gl X x := by rfl)
    (hdb : (x == ("__debug__" : Str)) = false := by decide)
    (he : starEach (e :: es) X.env = (false, eval e X.env) :: starEach es X.env := by rfl) (hpl : (backTo pos (starEach es X.env)).any (·.1) = false := by rfl) : PD X C W (.Call (.Name x p) (e :: es) [] pos) (dArgs f dl) :=
  pe_imp (pe_callBfun hc hg (by rw [g.hm]; exact hm) ha hdb he hpl) fun σ H Q ⟨ρ, Z, env, st, S, E, h⟩ => tDL_mono (seqLE S E h) fun vs H1 ⟨ρ1, st1, xs, S1, E1, rx, _, _, h1⟩ => s _ _ _ _ _ _ _ _ _ S1 rx h1
/-- a method of a built-in's -/
def dMeth (f : D → List D → Sto → Option (R D)) (a : Den) (l : DenL) : Den := fun env st => bindR (a env st) fun x st => bindR (l env st) fun xs st => f x xs st
def SemM (C : Ct) (f : D → List D → Sto → Option (R D)) (r : V → List V → Hp → VK → Prop) : Prop :=
  ∀ (W : WX) (ρ Z : List Addr) (H : Hp) (st : Sto) (σ : St) (x : D) (v : V) (xs : List D) (vs : List V) (Q : VK), RS C ρ Z H st → RV C ρ Z H x v → RVs C ρ Z H xs vs → After C W ρ Z H σ (f x xs st) Q → r v vs H Q
end
end Pd
end
section
set_option Elab.async false
set_option linter.all false
set_option maxRecDepth 100000
namespace Pd
open PySem PySem.Spec L2 LamX
open PyProof.Rows hiding St

inductive Out where
  | nx (env : En) (st : Sto) | rt (d : D) (st : Sto) | bk (env : En) (st : Sto) | ct (env : En) (st : Sto) | ex (c : Str) (env : En) (st : Sto)
abbrev DenS := En → Sto → Option Out
def AfterS (C : Ct) (W : WX) (ρ Z : List Addr) (H : Hp) (m : Option Out) (T : Ends) : Prop :=
  match m with
  | none => False
  | some (.nx env' st') => ∀ ρ' H' σ', Ext ρ H ρ' H' → RS C ρ' Z H' st' → RE C ρ' Z H' env' σ' → T.nx σ' H'
  | some (.rt d st') => ∀ ρ' H' v, Ext ρ H ρ' H' → RS C ρ' Z H' st' → RV C ρ' Z H' d v → T.rt v H'
  | some (.bk env' st') => ∀ ρ' H' σ', Ext ρ H ρ' H' → RS C ρ' Z H' st' → RE C ρ' Z H' env' σ' → T.bk σ' H'
  | some (.ct env' st') => ∀ ρ' H' σ', Ext ρ H ρ' H' → RS C ρ' Z H' st' → RE C ρ' Z H' env' σ' → T.ct σ' H'
  | some (.ex c env' st') => ∀ ρ' H' σ' cls, Ext ρ H ρ' H' → RS C ρ' Z H' st' → RE C ρ' Z H' env' σ' → C.mg c = some (.ref cls) → W (.ref cls) none σ' H'
def tS (C : Ct) (W : WX) (d : DenS) : TS := fun T σ H => ∃ ρ Z env st, RS C ρ Z H st ∧ RE C ρ Z H env σ ∧ AfterS C W ρ Z H (d env st) T
abbrev PSD (X : Cx) (C : Ct) (W : WX) (s : Stmt) (d : DenS) : Prop := PS X s (tS C W d)
abbrev PSsD (X : Cx) (C : Ct) (W : WX) (s : List Stmt) (d : DenS) : Prop := PSs X s (tS C W d)
section
variable {C : Ct} {W : WX} {ρ Z : List Addr} {H : Hp} {σ : St} {env : En} {st : Sto}
theorem AfterS.back {ρ1 : List Addr} {H1 : Hp} {m : Option Out} {T : Ends} (x : Ext ρ H ρ1 H1) (h : AfterS C W ρ Z H m T) : AfterS C W ρ1 Z H1 m T := by
  unfold AfterS at h ⊢
  split
  · exact h
  · exact fun ρ' H' v a => h ρ' H' v (x.trans a)
  · exact fun ρ' H' v a => h ρ' H' v (x.trans a)
  · exact fun ρ' H' v a => h ρ' H' v (x.trans a)
  · exact fun ρ' H' v a => h ρ' H' v (x.trans a)
  · exact fun ρ' H' v c a => h ρ' H' v c (x.trans a)
/-- an expression of a statement, then the rest -/
def bindS (m : Option (R D)) (env : En) (f : D → Sto → Option Out) : Option Out :=
  match m with | none => none | some (.ok a st) => f a st | some (.ex c st) => some (.ex c env st)
def bindSB (m : Option (R Bool)) (env : En) (f : Bool → Sto → Option Out) : Option Out :=
  match m with | none => none | some (.ok a st) => f a st | some (.ex c st) => some (.ex c env st)
theorem seqES {da : Den} {f : D → Sto → Option Out} {T : Ends} (S : RS C ρ Z H st) (E : RE C ρ Z H env σ) (h : AfterS C W ρ Z H (bindS (da env st) env f) T) :
    tD C W da σ H fun v H1 => ∃ ρ1 st1 r, RS C ρ1 Z H1 st1 ∧ RE C ρ1 Z H1 env σ ∧ RV C ρ1 Z H1 r v ∧ Ext ρ H ρ1 H1 ∧ da env st = some (.ok r st1) ∧ AfterS C W ρ1 Z H1 (f r st1) T := by
  refine ⟨ρ, Z, env, st, S, E, ?_⟩
  cases e : da env st with
  | none => rw [e] at h; exact h
  | some x =>
    rw [e] at h
    cases x with
    | ok r st1 => exact fun ρ1 H1 v x1 S1 r1 => ⟨ρ1, st1, r, S1, E.ext x1, r1, x1, rfl, AfterS.back (m := f r st1) x1 h⟩
    | ex c st1 => exact fun ρ1 H1 cls x1 S1 m => h ρ1 H1 σ cls x1 S1 (E.ext x1) m
theorem seqBS {da : DenB} {f : Bool → Sto → Option Out} {T : Ends} (S : RS C ρ Z H st) (E : RE C ρ Z H env σ) (h : AfterS C W ρ Z H (bindSB (da env st) env f) T) :
    tDB C W da σ H fun b H1 => ∃ ρ1 st1, RS C ρ1 Z H1 st1 ∧ RE C ρ1 Z H1 env σ ∧ Ext ρ H ρ1 H1 ∧ da env st = some (.ok b st1) ∧ AfterS C W ρ1 Z H1 (f b st1) T := by
  refine ⟨ρ, Z, env, st, S, E, ?_⟩
  cases e : da env st with
  | none => rw [e] at h; exact h
  | some x =>
    rw [e] at h
    cases x with
    | ok r st1 => exact fun ρ1 H1 x1 S1 => ⟨ρ1, st1, S1, E.ext x1, x1, rfl, AfterS.back (m := f r st1) x1 h⟩
    | ex c st1 => exact fun ρ1 H1 cls x1 S1 m => h ρ1 H1 σ cls x1 S1 (E.ext x1) m
theorem AfterS.nxt {env' : En} {T : Ends} {σ' : St} (h : AfterS C W ρ Z H (some (.nx env' st)) T) (S : RS C ρ Z H st) (E : RE C ρ Z H env' σ') : T.nx σ' H := h ρ H σ' (Ext.refl _ _) S E
theorem tS_of {d : DenS} {T : Ends} (S : RS C ρ Z H st) (E : RE C ρ Z H env σ) (h : AfterS C W ρ Z H (d env st) T) : tS C W d T σ H := ⟨ρ, Z, env, st, S, E, h⟩
end

/-! ### statements -/
def sSkip : DenS := fun env st => some (.nx env st)
def sSeq (a b : DenS) : DenS := fun env st => match a env st with | some (.nx env st) => b env st | r => r
def sSet (i : Nat) (d : Den) : DenS := fun env st => bindS (d env st) env fun x st => some (.nx (env.set i (some x)) st)
def sRet (d : Den) : DenS := fun env st => bindS (d env st) env fun x st => some (.rt x st)
def sRetN : DenS := fun _ st => some (.rt .non st)
def sExpr (d : Den) : DenS := fun env st => bindS (d env st) env fun _ st => some (.nx env st)
def sIf (t : DenB) (a b : DenS) : DenS := fun env st => bindSB (t env st) env fun k st => if k then a env st else b env st
def sBreak : DenS := fun env st => some (.bk env st)
def sCont : DenS := fun env st => some (.ct env st)
def sRaise (c : Str) : DenS := fun env st => some (.ex c env st)
section
variable {X : Cx} {C : Ct} {W : WX} {k : Nat} {e c : Expr} {de : Den} {ta : DenB} {pos : Pos} {s : Stmt} {ss sa sb : List Stmt} {da db : DenS}
theorem psd_nil : PSsD X C W [] sSkip := pss_imp pss_nil fun T σ H ⟨ρ, Z, env, st, S, E, h⟩ => h.nxt S E
theorem psd_cons (h1 : PSD X C W s da) (h2 : PSsD X C W ss db) : PSsD X C W (s :: ss) (sSeq da db) :=
  pss_imp (pss_cons h1 h2) fun T σ H ⟨ρ, Z, env, st, S, E, h⟩ => by
    refine ⟨ρ, Z, env, st, S, E, ?_⟩
    unfold sSeq at h
    cases e : da env st with
    | none => rw [e] at h; exact h
    | some o =>
      rw [e] at h
      cases o with
      | nx env' st' => exact fun ρ' H' σ' x S' E' => ⟨ρ', Z, env', st', S', E', AfterS.back (m := db env' st') x h⟩
      | _ => exact h
theorem psd_one (h1 : PSD X C W s da) : PSsD X C W [s] da := pss_one h1
theorem psd_pass : PSD X C W (.Pass pos) sSkip := ps_imp ps_pass fun T σ H ⟨ρ, Z, env, st, S, E, h⟩ => h.nxt S E
theorem psd_break : PSD X C W (.Break pos) sBreak := ps_imp ps_break fun T σ H ⟨ρ, Z, env, st, S, E, h⟩ => h ρ H σ (Ext.refl _ _) S E
theorem psd_continue : PSD X C W (.Continue pos) sCont := ps_imp ps_continue fun T σ H ⟨ρ, Z, env, st, S, E, h⟩ => h ρ H σ (Ext.refl _ _) S E
theorem psd_expr (he : PD X C W e de) (hs : swapsWith e none pos.line X.env = pure false := by rfl) : PSD X C W (.Expr e pos) (sExpr de) :=
  ps_imp (ps_expr he hs) fun T σ H ⟨ρ, Z, env, st, S, E, h⟩ => tD_mono (seqES S E h) fun v H1 ⟨ρ1, st1, x, S1, E1, rx, _, _, h1⟩ => h1.nxt S1 E1
theorem psd_ret (he : PD X C W e de) : PSD X C W (.Return (some e) pos) (sRet de) :=
  ps_imp (ps_ret he) fun T σ H ⟨ρ, Z, env, st, S, E, h⟩ => tD_mono (seqES S E h) fun v H1 ⟨ρ1, st1, x, S1, E1, rx, _, _, h1⟩ => h1 ρ1 H1 v (Ext.refl _ _) S1 rx
theorem psd_retN : PSD X C W (.Return none pos) sRetN :=
  ps_imp ps_retN fun T σ H ⟨ρ, Z, env, st, S, E, h⟩ => h ρ H _ (Ext.refl _ _) S (by unfold RV; rfl)
theorem psd_if (hc : PDB X C W c ta) (ha : PSsD X C W sa da) (hb : PSsD X C W sb db) : PSD X C W (.If c sa sb pos) (sIf ta da db) :=
  ps_imp (ps_if hc ha hb) fun T σ H ⟨ρ, Z, env, st, S, E, h⟩ => tDB_mono (seqBS S E h) fun b H1 ⟨ρ1, st1, S1, E1, _, _, h1⟩ => by
    cases b with
    | true => exact tS_of S1 E1 h1
    | false => exact tS_of S1 E1 h1
/-- name = value -/
theorem psd_set {i : Nat} {x : Str} {pos' : Pos} [g : Go X C W k] (he : PD X C W e de) (hi : X.N[i]? = some x := by rfl) (hx : Loc X.env.scope x := by first | exact Or.inl rfl | exact Or.inr rfl) (hs : swapsWith e (some (.Name x pos')) pos.line X.env = pure false := by rfl)
    (hf : X.fn x = true ∨ X.env.scope.names.lookup x = some .local := by first | exact .inl rfl | exact .inr rfl | assumption) : PSD X C W (.Assign [.Name x pos'] e pos) (sSet i de) :=
  ps_imp (ps_set g.nd hi hx he hs hf) fun T σ H ⟨ρ, Z, env, st, S, E, h⟩ => tD_mono (seqES S E h) fun v H1 ⟨ρ1, st1, x, S1, E1, rx, _, _, h1⟩ => h1.nxt S1 (E1.set rx)

/-! ### targets -/
abbrev DenG := D → En → Sto → Option (R En)
def Tou (σ σ' : St) (vs : List Nat) : Prop := σ'.length = σ.length ∧ ∀ j, j ∉ vs → σ'[j]? = σ[j]?
theorem Tou.refl (σ : St) (vs : List Nat) : Tou σ σ vs := ⟨rfl, fun _ _ => rfl⟩
theorem Tou.trans {σ σ1 σ2 : St} {vs : List Nat} (a : Tou σ σ1 vs) (b : Tou σ1 σ2 vs) : Tou σ σ2 vs := ⟨b.1.trans a.1, fun j h => (b.2 j h).trans (a.2 j h)⟩
theorem Tou.mono {σ σ1 : St} {vs ws : List Nat} (a : Tou σ σ1 vs) (h : ∀ j ∈ vs, j ∈ ws) : Tou σ σ1 ws := ⟨a.1, fun j n => a.2 j fun m => n (h j m)⟩
def AfterG (C : Ct) (W : WX) (ρ Z : List Addr) (H : Hp) (σ : St) (vs : List Nat) (m : Option (R En)) (Q : St → Hp → Prop) : Prop :=
  match m with
  | none => False
  | some (.ok env' st') => ∀ ρ' H' σ', Ext ρ H ρ' H' → RS C ρ' Z H' st' → RE C ρ' Z H' env' σ' → Tou σ σ' vs → Q σ' H'
  | some (.ex c st') => ∀ ρ' H' cls σ', Ext ρ H ρ' H' → RS C ρ' Z H' st' → C.mg c = some (.ref cls) → Tou σ σ' vs → W (.ref cls) none σ' H'
def tG (C : Ct) (W : WX) (vs : List Nat) (d : DenG) : TG := fun v σ H Q => ∃ ρ Z env st x, RS C ρ Z H st ∧ RE C ρ Z H env σ ∧ RV C ρ Z H x v ∧ AfterG C W ρ Z H σ vs (d x env st) Q
abbrev PGD (X : Cx) (C : Ct) (W : WX) (vs : List Nat) (e : Expr) (d : DenG) : Prop := PG X e (tG C W vs d)
abbrev DenGs := List D → En → Sto → Option (R En)
def tGs (C : Ct) (W : WX) (vs : List Nat) (d : DenGs) : TGs := fun v σ H Q => ∃ ρ Z env st x, RS C ρ Z H st ∧ RE C ρ Z H env σ ∧ RVs C ρ Z H x v ∧ AfterG C W ρ Z H σ vs (d x env st) Q
abbrev PGsD (X : Cx) (C : Ct) (W : WX) (vs : List Nat) (e : List Expr) (d : DenGs) : Prop := PGs X e (tGs C W vs d)
def gNm (i : Nat) : DenG := fun x env st => some (.ok (env.set i (some x)) st)
def gsNil : DenGs := fun xs env st => match xs with | [] => some (.ok env st) | _ => none
def gsCons (a : DenG) (b : DenGs) : DenGs := fun xs env st => match xs with | x :: r => bindR (a x env st) fun env st => b r env st | [] => none
def gUnp (n : Nat) (b : DenGs) : DenG := fun x env st => match x with | .tup ds => if ds.length = n then b ds env st else none | _ => none
theorem pg_imp {tg : Expr} {t t' : TG} (h : PG X tg t) (i : ∀ v σ H Q, t' v σ H Q → t v σ H Q) : PG X tg t' := ⟨fun p s σ H v u Q I r q => h.run p s σ H v u Q I r (i v σ H Q q)⟩
theorem pgs_imp {tg : List Expr} {t t' : TGs} (h : PGs X tg t) (i : ∀ v σ H Q, t' v σ H Q → t v σ H Q) : PGs X tg t' := ⟨fun p s σ H v u Q I r q => h.run p s σ H v u Q I r (i v σ H Q q)⟩
theorem pgd_name (i : Nat) {x : Str} [g : Go X C W k] (hi : X.N[i]? = some x := by rfl) (hx : Loc X.env.scope x := by first | exact Or.inl rfl | exact Or.inr rfl)
    (hf : X.fn x = true ∨ X.env.scope.names.lookup x = some .local := by first | exact .inl rfl | exact .inr rfl | assumption) : PGD X C W [i] (.Name x pos) (gNm i) :=
  pg_imp (pg_name g.nd hi hx hf) fun v σ H Q ⟨ρ, Z, env, st, x, S, E, r, h⟩ => h ρ H _ (Ext.refl _ _) S (E.set r) ⟨List.length_set .., fun j hj => List.getElem?_set_ne (fun z => hj (by rw [← z]; exact List.mem_singleton.mpr rfl))⟩
theorem pgsd_nil : PGsD X C W [] [] gsNil :=
  pgs_imp pgs_nil fun v σ H Q ⟨ρ, Z, env, st, x, S, E, r, h⟩ => by
    unfold gsNil at h
    split at h
    · unfold RVs at r; exact ⟨r, h ρ H σ (Ext.refl _ _) S E (Tou.refl _ _)⟩
    · exact h.elim
theorem AfterG.back {ρ ρ1 Z : List Addr} {H H1 : Hp} {σ σ1 : St} {vs : List Nat} {m : Option (R En)} {Q : St → Hp → Prop} (x : Ext ρ H ρ1 H1) (t : Tou σ σ1 vs) (h : AfterG C W ρ Z H σ vs m Q) : AfterG C W ρ1 Z H1 σ1 vs m Q := by
  unfold AfterG at h ⊢
  split
  · exact h
  · exact fun ρ' H' σ' a b c d => h ρ' H' σ' (x.trans a) b c (t.trans d)
  · exact fun ρ' H' cls σ' a b c d => h ρ' H' cls σ' (x.trans a) b c (t.trans d)
theorem pgsd_cons {es : List Expr} {dg : DenG} {dgs : DenGs} {v1 v2 : List Nat} (h1 : PGD X C W v1 e dg) (h2 : PGsD X C W v2 es dgs)
    (hs : (assignEach (e :: es) X.env).map (·.2) = assign e X.env :: (assignEach es X.env).map (·.2) := by rfl) : PGsD X C W (v1 ++ v2) (e :: es) (gsCons dg dgs) :=
  pgs_imp (pgs_cons h1 h2 hs) fun v σ H Q ⟨ρ, Z, env, st, x, S, E, r, h⟩ => by
    unfold gsCons at h
    split at h
    · rename_i x xs
      unfold RVs at r
      obtain ⟨v0, vr, e0, r1, r2⟩ := r
      refine ⟨v0, vr, e0, ρ, Z, env, st, x, S, E, r1, ?_⟩
      cases e1 : dg x env st with
      | none => rw [e1] at h; exact h
      | some z =>
        rw [e1] at h
        cases z with
        | ex c st' => exact fun ρ' H' cls σ' a b c d => h ρ' H' cls σ' a b c (d.mono fun j m => List.mem_append_left _ m)
        | ok env1 st1 =>
          intro ρ1 H1 σ1 x1 S1 E1 t1
          refine ⟨ρ1, Z, env1, st1, xs, S1, E1, r2.ext x1, ?_⟩
          have q := AfterG.back (m := dgs xs env1 st1) x1 (t1.mono fun j m => List.mem_append_left v2 m) h
          revert q
          unfold AfterG
          split
          · exact id
          · exact fun q ρ' H' σ' a b c d => q ρ' H' σ' a b c (d.mono fun j m => List.mem_append_right _ m)
          · exact fun q ρ' H' cls σ' a b c d => q ρ' H' cls σ' a b c (d.mono fun j m => List.mem_append_right _ m)
    · exact h.elim
theorem pgd_tup {es : List Expr} {dgs : DenGs} {vs : List Nat} {n kk : Nat} [g : Go X C W k] (h : PGsD X C W vs es dgs)
    (hn : (assignEach es X.env).length = n := by rfl) (hst : (assignEach es X.env).findIdx? (·.1) = none := by rfl) : PGD X C W vs (.Tuple es kk pos) (gUnp n dgs) :=
  pg_imp (pg_tup g.calm h hn hst) fun v σ H Q ⟨ρ, Z, env, st, x, S, E, r, h⟩ => by
    unfold gUnp at h
    split at h
    · split at h
      · rename_i ds hl
        obtain ⟨a, us, e, t, q⟩ := tup_ok r
        exact ⟨a, us, e, by rw [g.hK]; exact t, by rw [← q.length]; exact hl, ρ, Z, env, st, ds, S, E, q, h⟩
      · exact h.elim
    · exact h.elim
/-- target = value -/
def sAsg (d : Den) (dg : DenG) : DenS := fun env st => bindS (d env st) env fun x st => match dg x env st with | none => none | some (.ok env' st') => some (.nx env' st') | some (.ex _ _) => none
theorem psd_asg {tg : Expr} {dg : DenG} {vs : List Nat} (he : PD X C W e de) (hg : PGD X C W vs tg dg) (hs : swapsWithSole [tg] e pos.line X.env = pure false := by rfl) (hw : swappedStores [tg] e X.env = pure none := by rfl)
    (h1 : (assignEach [tg] X.env).map (·.2) = [assign tg X.env] := by rfl) : PSD X C W (.Assign [tg] e pos) (sAsg de dg) :=
  ps_imp (ps_asg he hg hs hw h1) fun T σ H ⟨ρ, Z, env, st, S, E, h⟩ => tD_mono (seqES S E h) fun v H1 ⟨ρ1, st1, x, S1, E1, rx, _, _, h1⟩ => by
    refine ⟨ρ1, Z, env, st1, x, S1, E1, rx, ?_⟩
    cases e1 : dg x env st1 with
    | none => rw [e1] at h1; exact h1
    | some z =>
      rw [e1] at h1
      cases z with
      | ex c st' => exact h1.elim
      | ok env' st' => exact fun ρ' H' σ' a b c _ => h1 ρ' H' σ' a b c
/-- a, b = x, y -/
def sPar (i j : Nat) (d : DenL) : DenS := fun env st => match d env st with | some (.ok [x, y] st) => some (.nx ((env.set i (some x)).set j (some y)) st) | _ => none
theorem psd_par {i j : Nat} {x y : Str} {a b : Expr} {dl : DenL} {px py pt : Pos} {kt k2 pt2} [g : Go X C W k] (ha : PDL X C W [a, b] dl) (hi : X.N[i]? = some x := by rfl) (hj : X.N[j]? = some y := by rfl) (hij : i ≠ j := by decide)
    (hx : X.env.scope.names.lookup x = some .local := by rfl) (hy : X.env.scope.names.lookup y = some .local := by rfl)
    (hw : swappedStores [.Tuple [.Name x px, .Name y py] kt pt] (.Tuple [a, b] k2 pt2) X.env = pure (some [x, y]) := by rfl)
    (hs : swapsWithSole [.Tuple [.Name x px, .Name y py] kt pt] (.Tuple [a, b] k2 pt2) pos.line X.env = pure false := by rfl) :
    PSD X C W (.Assign [.Tuple [.Name x px, .Name y py] kt pt] (.Tuple [a, b] k2 pt2) pos) (sPar i j dl) :=
  ps_imp (ps_par g.calm g.nd hi hj hij hx hy ha hw hs) fun T σ H ⟨ρ, Z, env, st, S, E, h⟩ => by
    refine ⟨ρ, Z, env, st, S, E, ?_⟩
    unfold sPar at h
    split at h
    · rename_i u w st' e1
      rw [e1]
      intro ρ' H' vs x' S' r'
      unfold RVs at r'
      obtain ⟨v0, vr, rfl, r0, r'⟩ := r'
      unfold RVs at r'
      obtain ⟨v1, vr', rfl, r1, r'⟩ := r'
      unfold RVs at r'
      subst r'
      exact ⟨v0, v1, rfl, h ρ' H' _ x' S' (((E.ext x').set r0).set r1)⟩
    · exact h.elim
/-- o[i] = e -/
def gSb (f : D → D → D → Sto → Option Sto) (o i : Den) : DenG := fun v env st => match o env st with
  | some (.ok x st) => (match i env st with | some (.ok y st) => (match f x y v st with | some st => some (.ok env st) | none => none) | _ => none) | _ => none
def SemSet (C : Ct) (f : D → D → D → Sto → Option Sto) (r : TSet) : Prop :=
  ∀ (ρ Z : List Addr) (H : Hp) (st st' : Sto) (x y z : D) (o i v : V) (Q : Hp → Prop), RS C ρ Z H st → RV C ρ Z H x o → RV C ρ Z H y i → RV C ρ Z H z v → f x y z st = some st' → (∀ H', Ext ρ H ρ H' → RS C ρ Z H' st' → Q H') → r o i v H Q
theorem pgd_sub {o i : Expr} {d1 d2 : Den} {r : TSet} {f : D → D → D → Sto → Option Sto} (hs : PSet X r) (s : SemSet C f r) (ho : PD X C W o d1) (hi : PD X C W i d2)
    (ha : ∀ v, assign (.Subscript o i pos) X.env v = (do
      let ov ← holding [v] (eval o X.env)
      let iv ← holding [v, ov] (eval i X.env)
      standAt pos
      holding [v, ov, iv] (setItem ov iv v)
      release [v, ov, iv] []) := by intro _; rfl) : PGD X C W [] (.Subscript o i pos) (gSb f d1 d2) :=
  pg_imp (pg_sub ho hi hs ha) fun v σ H Q ⟨ρ, Z, env, st, x, S, E, r, h⟩ => by
    refine ⟨ρ, Z, env, st, S, E, ?_⟩
    unfold gSb at h
    split at h
    · rename_i x1 st1 e1
      rw [e1]
      intro ρ1 H1 v1 ext1 S1 r1
      refine ⟨ρ1, Z, env, st1, S1, E.ext ext1, ?_⟩
      split at h
      · rename_i x2 st2 e2
        rw [e2]
        intro ρ2 H2 v2 ext2 S2 r2
        split at h
        · rename_i st3 e3
          exact s ρ2 Z H2 st2 st3 x1 x2 x v1 v2 v _ S2 (r1.ext ext2) r2 ((r.ext ext1).ext ext2) e3 fun H' x3 S3 => h ρ2 H' σ ((ext1.trans ext2).trans x3) S3 (((E.ext ext1).ext ext2).ext x3) (Tou.refl _ _)
        · exact h.elim
      · exact h.elim
    · exact h.elim
end
end Pd
end
section
set_option Elab.async false
set_option linter.all false
set_option maxRecDepth 100000
namespace Pd
open PySem PySem.Spec L2 LamX
open PyProof.Rows hiding St

/-! ### what is walked -/
/-- the items that an iterator gives, whatever is made meanwhile -/
structure ItOk (C : Ct) (J : It) (ρ0 Z : List Addr) (H0 : Hp) (items : List D) : Prop where
  go : ∀ (i : Nat) (ρ Z' : List Addr) (H : Hp) (st : Sto), Ext ρ0 H0 ρ H → (∀ a ∈ Z', a ∈ Z ∨ H0 a = none) → RS C ρ Z' H st → i < items.length → J.go i H
  yld : ∀ (i : Nat) (ρ Z' : List Addr) (H : Hp) (st : Sto) (x : V) (H' : Hp) (d : D), Ext ρ0 H0 ρ H → (∀ a ∈ Z', a ∈ Z ∨ H0 a = none) → RS C ρ Z' H st → items[i]? = some d → J.yld i H x H' →
    Ext ρ H ρ H' ∧ RS C ρ Z' H' st ∧ RV C ρ Z' H' d x ∧ ∀ a o, H a = some o → H' a = some o
  stop : ∀ (i : Nat) (ρ Z' : List Addr) (H : Hp) (st : Sto), Ext ρ0 H0 ρ H → (∀ a ∈ Z', a ∈ Z ∨ H0 a = none) → RS C ρ Z' H st → items.length ≤ i → J.stop i H
def AfterI (C : Ct) (W : WX) (ρ Z : List Addr) (H : Hp) (σ : St) (m : Option (R (List D))) (Rr : It → Hp → Prop) : Prop :=
  match m with
  | none => False
  | some (.ok ds st') => ∀ ρ' H' J, Ext ρ H ρ' H' → RS C ρ' Z H' st' → ItOk C J ρ' Z H' ds → Rr J H'
  | some (.ex c st') => ∀ ρ' H' cls, Ext ρ H ρ' H' → RS C ρ' Z H' st' → C.mg c = some (.ref cls) → W (.ref cls) none σ H'
def tI (C : Ct) (W : WX) (d : DenL) : TI := fun σ H Rr => ∃ ρ Z env st, RS C ρ Z H st ∧ RE C ρ Z H env σ ∧ AfterI C W ρ Z H σ (d env st) Rr
abbrev PID (X : Cx) (C : Ct) (W : WX) (tg iter : Expr) (d : DenL) : Prop := PI X tg iter (tI C W d)
theorem pi_imp {X : Cx} {tg iter : Expr} {t t' : TI} (h : PI X tg iter t) (i : ∀ σ H Q, t' σ H Q → t σ H Q) : PI X tg iter t' := ⟨fun p s σ H R I q => h.run p s σ H R I (i σ H R q)⟩
theorem pi_alt {X : Cx} {tg iter : Expr} {t t' : TI} (h : PI X tg iter t) (h' : PI X tg iter t') : PI X tg iter (fun σ H Q => t σ H Q ∨ t' σ H Q) := ⟨fun p s σ H R I q => q.elim (h.run p s σ H R I) (h'.run p s σ H R I)⟩
section
variable {C : Ct} {W : WX} {ρ Z : List Addr} {H : Hp} {σ : St} {env : En} {st : Sto}
theorem AfterI.back {ρ1 : List Addr} {H1 : Hp} {m : Option (R (List D))} {Q : It → Hp → Prop} (x : Ext ρ H ρ1 H1) (h : AfterI C W ρ Z H σ m Q) : AfterI C W ρ1 Z H1 σ m Q := by
  unfold AfterI at h ⊢
  split
  · exact h
  · exact fun ρ' H' v a => h ρ' H' v (x.trans a)
  · exact fun ρ' H' v a => h ρ' H' v (x.trans a)
theorem seqEI {da : Den} {f : D → Sto → Option (R (List D))} {Q : It → Hp → Prop} (S : RS C ρ Z H st) (E : RE C ρ Z H env σ) (h : AfterI C W ρ Z H σ (bindR (da env st) f) Q) :
    tD C W da σ H fun v H1 => ∃ ρ1 st1 r, RS C ρ1 Z H1 st1 ∧ RE C ρ1 Z H1 env σ ∧ RV C ρ1 Z H1 r v ∧ Ext ρ H ρ1 H1 ∧ da env st = some (.ok r st1) ∧ AfterI C W ρ1 Z H1 σ (f r st1) Q := by
  refine ⟨ρ, Z, env, st, S, E, ?_⟩
  cases e : da env st with
  | none => rw [e] at h; exact h
  | some x =>
    rw [e] at h
    cases x with
    | ok r st1 => exact fun ρ1 H1 v x1 S1 r1 => ⟨ρ1, st1, r, S1, E.ext x1, r1, x1, rfl, AfterI.back (m := f r st1) x1 h⟩
    | ex c st1 => exact h
theorem seqLI {da : DenL} {f : List D → Sto → Option (R (List D))} {Q : It → Hp → Prop} (S : RS C ρ Z H st) (E : RE C ρ Z H env σ) (h : AfterI C W ρ Z H σ (bindR (da env st) f) Q) :
    tDL C W da σ H fun v H1 => ∃ ρ1 st1 r, RS C ρ1 Z H1 st1 ∧ RE C ρ1 Z H1 env σ ∧ RVs C ρ1 Z H1 r v ∧ Ext ρ H ρ1 H1 ∧ da env st = some (.ok r st1) ∧ AfterI C W ρ1 Z H1 σ (f r st1) Q := by
  refine ⟨ρ, Z, env, st, S, E, ?_⟩
  cases e : da env st with
  | none => rw [e] at h; exact h
  | some x =>
    rw [e] at h
    cases x with
    | ok r st1 => exact fun ρ1 H1 v x1 S1 r1 => ⟨ρ1, st1, r, S1, E.ext x1, r1, x1, rfl, AfterI.back (m := f r st1) x1 h⟩
    | ex c st1 => exact h
/-- a place that was readable stays so while new things are made -/
theorem Rz.later {ρ0 Z' : List Addr} {H0 : Hp} {a : Addr} {o : HO} (x : Ext ρ0 H0 ρ H) (hz : ∀ a ∈ Z', a ∈ Z ∨ H0 a = none) (t : ∀ ps, o ≠ .tbl ps) (h : Rz ρ0 Z H0 a o) : Rz ρ Z' H a o :=
  And.intro (x.keep a o h.1 h.2.1 t) (And.intro (x.nin h.1 h.2.1 t) fun m => (hz a m).elim h.2.2 fun z => by rw [h.1] at z; cases z)
theorem RV.later {ρ0 Z' : List Addr} {H0 : Hp} {d : D} {v : V} (x : Ext ρ0 H0 ρ H) (hz : ∀ a ∈ Z', a ∈ Z ∨ H0 a = none) (h : RV C ρ0 Z H0 d v) : RV C ρ Z' H d v := RV.map (fun _ _ t z => z.later x hz t) (fun _ _ => pre_get x.pre) d v h
theorem RVs.later {ρ0 Z' : List Addr} {H0 : Hp} {d : List D} {v : List V} (x : Ext ρ0 H0 ρ H) (hz : ∀ a ∈ Z', a ∈ Z ∨ H0 a = none) (h : RVs C ρ0 Z H0 d v) : RVs C ρ Z' H d v := RVs.map (fun _ _ t z => z.later x hz t) (fun _ _ => pre_get x.pre) d v h
theorem RE.later {ρ0 Z' : List Addr} {H0 : Hp} (x : Ext ρ0 H0 ρ H) (hz : ∀ a ∈ Z', a ∈ Z ∨ H0 a = none) (h : RE C ρ0 Z H0 env σ) : RE C ρ Z' H env σ :=
  ⟨h.len, fun i d e => by obtain ⟨v, q, r⟩ := h.at_ i d e; exact ⟨v, q, r.later x hz⟩⟩
end
theorem ref_inj {a b : Addr} (h : V.ref a = V.ref b) : a = b := by injection h

/-- a value that can be walked and is no cell -/
def itemsV (d : D) : Option (List D) := match d with | .lst ds => some ds | .tup ds => some ds | _ => none
/-- .. or the script -/
def itemsW (d : D) : Option (List D) := match d with | .lst ds => some ds | .scr ds => some ds | .tup ds => some ds | _ => none
def dItems (a : Den) : DenL := fun env st => bindR (a env st) fun x st => match itemsW x with | some ds => some (.ok ds st) | none => none
section
variable {X : Cx} {C : Ct} {W : WX} {k : Nat} {tg e : Expr} {de : Den} {dl : DenL} {pos : Pos}
variable {ρ Z : List Addr} {H : Hp} {σ : St} {env : En} {st : Sto}
theorem itl_ok {a : Addr} {ds : List D} {vs : List V} {o : HO} (ho : ∀ H : Hp, H a = some o → SqL C.K H a vs) (t : ∀ ps, o ≠ .tbl ps) (r : Rz ρ Z H a o) (q : RVs C ρ Z H ds vs) : ItOk C (Itl C.K a) ρ Z H ds where
  go := fun i ρ' Z' H' st' x hz S hl => by
    obtain ⟨v, e, _⟩ := RVs.get q (List.getElem?_eq_getElem hl)
    exact ⟨vs, v, ho H' (r.later x hz t).1, e⟩
  yld := fun i ρ' Z' H' st' v H'' d x hz S e y => by
    obtain ⟨rfl, f⟩ := y
    obtain ⟨v', e', r'⟩ := RVs.get q e
    have z := f vs (ho H'' (r.later x hz t).1)
    rw [e'] at z
    cases z
    exact ⟨Ext.refl _ _, S, r'.later x hz, fun _ _ h => h⟩
  stop := fun i ρ' Z' H' st' x hz S hl => ⟨vs, ho H' (r.later x hz t).1, by rw [← q.length]; exact hl⟩
theorem itk_ok {a : Addr} {ds : List D} {vs : List V} (t : KLs C a vs) (q : RVs C ρ Z H ds vs) : ItOk C (Itl C.K a) ρ Z H ds where
  go := fun i ρ' Z' H' st' x hz S hl => by
    obtain ⟨v, e, _⟩ := RVs.get q (List.getElem?_eq_getElem hl)
    exact ⟨vs, v, .inr t, e⟩
  yld := fun i ρ' Z' H' st' v H'' d x hz S e y => by
    obtain ⟨rfl, f⟩ := y
    obtain ⟨v', e', r'⟩ := RVs.get q e
    have z := f vs (.inr t)
    rw [e'] at z
    cases z
    exact ⟨Ext.refl _ _, S, r'.later x hz, fun _ _ h => h⟩
  stop := fun i ρ' Z' H' st' x hz S hl => ⟨vs, .inr t, by rw [← q.length]; exact hl⟩
theorem itt_ok {a : Addr} {ds : List D} {vs : List V} (r : Rz ρ Z H a (.tup vs) ∨ KT C a vs) (q : RVs C ρ Z H ds vs) : ItOk C (Itt C.K a) ρ Z H ds := by
  have ho : ∀ ρ' Z' H', Ext ρ H ρ' H' → (∀ a ∈ Z', a ∈ Z ∨ H a = none) → SqT C.K H' a vs := fun ρ' Z' H' x hz => r.elim (fun z => .inl (.inl (z.later x hz (fun _ z => by cases z)).1)) .inr
  refine ⟨fun i ρ' Z' H' st' x hz S hl => ?_, fun i ρ' Z' H' st' v H'' d x hz S e y => ?_, fun i ρ' Z' H' st' x hz S hl => ⟨vs, ho _ _ _ x hz, by rw [← q.length]; exact hl⟩⟩
  · obtain ⟨v, e, _⟩ := RVs.get q (List.getElem?_eq_getElem hl)
    exact ⟨vs, v, ho _ _ _ x hz, e⟩
  · obtain ⟨rfl, f⟩ := y
    obtain ⟨v', e', r'⟩ := RVs.get q e
    have z := f vs (ho _ _ _ x hz)
    rw [e'] at z
    cases z
    exact ⟨Ext.refl _ _, S, r'.later x hz, fun _ _ h => h⟩
theorem pid_seq [g : Go X C W k] (he : PD X C W e de) : PID X C W tg e (dItems de) :=
  pi_imp (pi_alt (pi_list he) (pi_tup he)) fun σ H Q ⟨ρ, Z, env, st, S, E, h⟩ => by
    rw [g.hK]
    have q := seqEI S E h
    unfold iList iTup
    -- which kind it is is known from the data
    cases ed : de env st with
    | none => unfold dItems at h; rw [ed] at h; exact h.elim
    | some m =>
      cases m with
      | ex c st1 => exact .inl (tD_mono q fun v H1 ⟨ρ1, st1, x, S1, E1, rx, _, e1, h1⟩ => by rw [ed] at e1; cases e1)
      | ok d st1 =>
        cases hd : d <;> first
          | (refine .inl (tD_mono q fun v H1 ⟨ρ1, st1, x, S1, E1, rx, _, e1, h1⟩ => ?_); rw [ed, hd] at e1; cases e1; exact h1.elim)
          | (refine .inl (tD_mono q fun v H1 ⟨ρ1, st1, x, S1, E1, rx, _, e1, h1⟩ => ?_); rw [ed, hd] at e1; cases e1
             unfold RV at rx
             obtain ⟨a, vs, e, t, q⟩ := rx
             exact ⟨a, e, ⟨vs, .inl (.inl t.1)⟩, h1 ρ1 H1 _ (Ext.refl _ _) S1 (itl_ok (fun H z => .inl (.inl z)) (fun _ z => by cases z) t q)⟩)
          | (refine .inl (tD_mono q fun v H1 ⟨ρ1, st1, x, S1, E1, rx, _, e1, h1⟩ => ?_); rw [ed, hd] at e1; cases e1
             unfold RV at rx
             obtain ⟨a, vs, e, t, q⟩ := rx
             rcases t with ⟨o, t⟩ | t
             · exact ⟨a, e, ⟨vs, .inl (.inr ⟨o, t.1⟩)⟩, h1 ρ1 H1 _ (Ext.refl _ _) S1 (itl_ok (fun H z => .inl (.inr ⟨o, z⟩)) (fun _ z => by cases z) t q)⟩
             · exact ⟨a, e, ⟨vs, .inr t⟩, h1 ρ1 H1 _ (Ext.refl _ _) S1 (itk_ok t q)⟩)
          | (refine .inr (tD_mono q fun v H1 ⟨ρ1, st1, x, S1, E1, rx, _, e1, h1⟩ => ?_); rw [ed, hd] at e1; cases e1
             unfold RV at rx
             obtain ⟨a, vs, e, t, q⟩ := rx
             exact ⟨a, e, ⟨vs, t.elim (fun z => .inl (.inl z.1)) .inr⟩, h1 ρ1 H1 _ (Ext.refl _ _) S1 (itt_ok t q)⟩)
/-! ### ranges -/
def rangeD (lo : Int) (n : Nat) : List D := (List.range n).map fun (i : Nat) => D.int (lo + i)
theorem itr_ok {lo : Int} {n : Nat} : ItOk C (Itr lo n) ρ Z H (rangeD lo n) where
  go := fun i ρ' Z' H' st' x hz S hl => by unfold rangeD at hl; rw [List.length_map, List.length_range] at hl; exact hl
  yld := fun i ρ' Z' H' st' v H'' d x hz S e y => by
    obtain ⟨rfl, rfl⟩ := y
    unfold rangeD at e
    rw [List.getElem?_map] at e
    have hl : i < n := by
      cases h : (List.range n)[i]? with
      | none => rw [h] at e; cases e
      | some j =>
        have z := (List.getElem?_eq_some_iff.mp h).1
        rw [List.length_range] at z
        exact z
    rw [List.getElem?_range hl] at e
    cases e
    exact ⟨Ext.refl _ _, S, by unfold RV; rfl, fun _ _ h => h⟩
  stop := fun i ρ' Z' H' st' x hz S hl => by unfold rangeD at hl; rw [List.length_map, List.length_range] at hl; exact hl
def dRange1 (a : DenL) : DenL := fun env st => bindR (a env st) fun xs st => match xs with
  | [.int j] => if j < 2 ^ 62 ∧ -(2 ^ 62) ≤ j then some (.ok (rangeD 0 j.toNat) st) else none
  | _ => none
def dRange2 (a : DenL) : DenL := fun env st => bindR (a env st) fun xs st => match xs with
  | [.int i, .int j] => if (-(2 ^ 62) ≤ i ∧ i < 2 ^ 62) ∧ -(2 ^ 62) ≤ j ∧ j < 2 ^ 62 then some (.ok (rangeD i (j - i).toNat) st) else none
  | _ => none
theorem vs1 {d : D} {vs : List V} (r : RVs C ρ Z H [d] vs) : ∃ v, vs = [v] ∧ RV C ρ Z H d v := by
  unfold RVs at r
  obtain ⟨v, r', e, h, t⟩ := r
  unfold RVs at t
  subst t
  exact ⟨v, e, h⟩
theorem vs2 {d d2 : D} {vs : List V} (r : RVs C ρ Z H [d, d2] vs) : ∃ v u, vs = [v, u] ∧ RV C ρ Z H d v ∧ RV C ρ Z H d2 u := by
  unfold RVs at r
  obtain ⟨v, r', e, h, t⟩ := r
  obtain ⟨u, e2, h2⟩ := vs1 t
  subst e2
  exact ⟨v, u, e, h, h2⟩
theorem pid_range1 {a : Expr} {p pos : Pos} [g : Go X C W k] (hm : C.mg "range" = none) (ha : PDL X C W [a] dl) (hg : Gl X "range" := by rfl) (hs : starEach [a] X.env = [(false, eval a X.env)] := by rfl) : PID X C W tg (.Call (.Name "range" p) [a] [] pos) (dRange1 dl) :=
  pi_imp (pi_range1 hg (by rw [g.hm]; exact hm) ha hs) fun σ H Q ⟨ρ, Z, env, st, S, E, h⟩ => tDL_mono (seqLI S E h) fun vs H1 ⟨ρ1, st1, xs, S1, E1, rx, _, _, h1⟩ => by
    split at h1
    · split at h1
      · rename_i hc
        obtain ⟨v, e, r⟩ := vs1 rx
        unfold RV at r
        subst r
        exact ⟨_, e, hc.2, hc.1, h1 ρ1 H1 _ (Ext.refl _ _) S1 itr_ok⟩
      · exact h1.elim
    · exact h1.elim
theorem pid_range2 {a b : Expr} {p pos : Pos} [g : Go X C W k] (hm : C.mg "range" = none) (ha : PDL X C W [a, b] dl) (hg : Gl X "range" := by rfl) (hs : starEach [a, b] X.env = [(false, eval a X.env), (false, eval b X.env)] := by rfl) (hs2 : starEach [b] X.env = [(false, eval b X.env)] := by rfl) : PID X C W tg (.Call (.Name "range" p) [a, b] [] pos) (dRange2 dl) :=
  pi_imp (pi_range2 hg (by rw [g.hm]; exact hm) ha hs hs2) fun σ H Q ⟨ρ, Z, env, st, S, E, h⟩ => tDL_mono (seqLI S E h) fun vs H1 ⟨ρ1, st1, xs, S1, E1, rx, _, _, h1⟩ => by
    split at h1
    · split at h1
      · rename_i hc
        obtain ⟨v, u, e, r, r'⟩ := vs2 rx
        unfold RV at r r'
        subst r r'
        exact ⟨_, _, e, ⟨hc.1.1, hc.1.2, hc.2.1, hc.2.2⟩, h1 ρ1 H1 _ (Ext.refl _ _) S1 itr_ok⟩
      · exact h1.elim
    · exact h1.elim

/-! ### for -/
def forL (dg : DenG) (db : DenS) : List D → En → Sto → Option Out
  | [], env, st => some (.nx env st)
  | d :: ds, env, st => match dg d env st with
    | some (.ok env st) => (match db env st with
      | some (.nx env st) => forL dg db ds env st
      | some (.ct env st) => forL dg db ds env st
      | some (.bk env st) => some (.nx env st)
      | r => r)
    | _ => none
def sFor (di : DenL) (dg : DenG) (db : DenS) : DenS := fun env st => match di env st with
  | some (.ok ds st) => forL dg db ds env st
  | some (.ex c st) => some (.ex c env st)
  | none => none
theorem psd_for {tg iter : Expr} {body : List Stmt} {di : DenL} {dg : DenG} {db : DenS} {vs : List Nat} [g : Go X C W k] (hi : PID X C W tg iter di) (hg : PGD X C W vs tg dg) (hb : PSsD X C W body db)
    (hs : ∀ x, foldedSetIterable iter X.env x = pure x := by intro _; rfl) : PSD X C W (.For tg iter body [] pos) (sFor di dg db) :=
  ps_imp (ps_for g.po g.calm hi hg hb hs) fun T σ H ⟨ρ, Z, env, st, S, E, h⟩ => by
    unfold sFor at h
    refine ⟨ρ, Z, env, st, S, E, ?_⟩
    cases e : di env st with
    | none => rw [e] at h; exact h.elim
    | some m =>
      rw [e] at h
      cases m with
      | ex c st' => exact fun ρ' H' cls a b c => h ρ' H' σ cls a b (E.ext a) c
      | ok items st' =>
        intro ρ0 H0 J x0 S0 J0
        have h0 := AfterS.back (m := forL dg db items env st') x0 h
        refine ⟨fun i m σ H => ∃ ρ env st, RS C ρ Z H st ∧ RE C ρ Z H env σ ∧ Ext ρ0 H0 ρ H ∧ m + i = items.length ∧ AfterS C W ρ Z H (forL dg db (items.drop i) env st) T, ⟨items.length, ρ0, env, st', S0, E.ext x0, Ext.refl _ _, rfl, h0⟩, ?_⟩
        intro i m σ H ⟨ρ, env, st, S, E, x, hm, h⟩
        have hz : ∀ a ∈ Z, a ∈ Z ∨ H0 a = none := fun a z => .inl z
        by_cases hl : i < items.length
        · rw [List.drop_eq_getElem_cons hl] at h
          refine .inr ⟨J0.go i ρ Z H st x hz S hl, fun σ' H' => ∃ ρ env st, RS C ρ Z H' st ∧ RE C ρ Z H' env σ' ∧ Ext ρ0 H0 ρ H' ∧ AfterS C W ρ Z H' (forL dg db (items.drop (i + 1)) env st) T, fun σ' H' hN => ?_, fun v H' y => ?_⟩
          · obtain ⟨ρ', env', st', a, b, c, d⟩ := hN
            exact ⟨m - 1, by omega, ρ', env', st', a, b, c, by omega, d⟩
          · obtain ⟨x1, S1, r1, _⟩ := J0.yld i ρ Z H st v H' items[i] x hz S (List.getElem?_eq_getElem hl) y
            refine ⟨ρ, Z, env, st, items[i], S1, E.ext x1, r1, ?_⟩
            have h' := AfterS.back x1 h
            unfold forL at h'
            cases e1 : dg items[i] env st with
            | none => rw [e1] at h'; exact h'.elim
            | some z =>
              rw [e1] at h'
              cases z with
              | ex c st1 => exact h'.elim
              | ok env1 st1 =>
                intro ρ2 H2 σ2 x2 S2 E2 _
                refine ⟨ρ2, Z, env1, st1, S2, E2, ?_⟩
                dsimp only at h'
                have h2 := AfterS.back x2 h'
                clear h'
                have xx : Ext ρ0 H0 ρ2 H2 := (x.trans x1).trans x2
                cases e2 : db env1 st1 with
                | none => rw [e2] at h2; exact h2.elim
                | some o =>
                  rw [e2] at h2
                  cases o with
                  | nx env2 st2 => exact fun ρ3 H3 σ3 x3 S3 E3 => ⟨ρ3, env2, st2, S3, E3, xx.trans x3, AfterS.back (m := forL dg db (items.drop (i + 1)) env2 st2) x3 h2⟩
                  | ct env2 st2 => exact fun ρ3 H3 σ3 x3 S3 E3 => ⟨ρ3, env2, st2, S3, E3, xx.trans x3, AfterS.back (m := forL dg db (items.drop (i + 1)) env2 st2) x3 h2⟩
                  | bk env2 st2 => exact h2
                  | rt d st2 => exact h2
                  | ex c env2 st2 => exact h2
        · refine .inl ⟨J0.stop i ρ Z H st x hz S (by omega), ?_⟩
          rw [List.drop_eq_nil_of_le (by omega)] at h
          exact h.nxt S E

/-! ### while -/
def whileN (c : DenB) (db : DenS) : Nat → En → Sto → Option Out
  | 0, _, _ => none
  | n + 1, env, st => bindSB (c env st) env fun k st => if k then (match db env st with
      | some (.nx env st) => whileN c db n env st
      | some (.ct env st) => whileN c db n env st
      | some (.bk env st) => some (.nx env st)
      | r => r) else some (.nx env st)
open Classical in
noncomputable def sWhile (c : DenB) (db : DenS) : DenS := fun env st => if h : ∃ n o, whileN c db n env st = some o then whileN c db (choose h) env st else none
theorem psd_while {c : Expr} {body : List Stmt} {dc : DenB} {db : DenS} [g : Go X C W k] (hc : PDB X C W c dc) (hb : PSsD X C W body db) : PSD X C W (.While c body [] pos) (sWhile dc db) :=
  ps_imp (ps_while g.po hc hb) fun T σ H ⟨ρ, Z, env, st, S, E, h⟩ => by
    unfold sWhile at h
    split at h
    · rename_i hx
      generalize Classical.choose hx = n at h
      refine ⟨fun m σ H => ∃ ρ env st, RS C ρ Z H st ∧ RE C ρ Z H env σ ∧ AfterS C W ρ Z H (whileN dc db m env st) T, ⟨n, ρ, env, st, S, E, h⟩, ?_⟩
      intro m σ H ⟨ρ, env, st, S, E, h⟩
      cases m with
      | zero => exact h.elim
      | succ m =>
        unfold whileN at h
        refine tDB_mono (seqBS S E h) fun b H1 ⟨ρ1, st1, S1, E1, x1, _, h1⟩ => ?_
        cases b with
        | false => exact h1.nxt S1 E1
        | true =>
          rw [if_pos rfl]
          refine ⟨fun σ' H' => ∃ ρ env st, RS C ρ Z H' st ∧ RE C ρ Z H' env σ' ∧ AfterS C W ρ Z H' (whileN dc db m env st) T, fun σ' H' hN => ⟨m, Nat.lt_succ_self m, hN⟩, ρ1, Z, env, st1, S1, E1, ?_⟩
          rw [if_pos rfl] at h1
          cases e2 : db env st1 with
          | none => rw [e2] at h1; exact h1.elim
          | some o =>
            rw [e2] at h1
            cases o with
            | nx env2 st2 => exact fun ρ3 H3 σ3 x3 S3 E3 => ⟨ρ3, env2, st2, S3, E3, AfterS.back (m := whileN dc db m env2 st2) x3 h1⟩
            | ct env2 st2 => exact fun ρ3 H3 σ3 x3 S3 E3 => ⟨ρ3, env2, st2, S3, E3, AfterS.back (m := whileN dc db m env2 st2) x3 h1⟩
            | bk env2 st2 => exact h1
            | rt d st2 => exact h1
            | ex c env2 st2 => exact h1
    · exact h.elim
/-- how a while is reckoned: any number of turns that is enough -/
theorem whileN_mono {c : DenB} {db : DenS} : ∀ {n m : Nat} {env : En} {st : Sto} {o : Out}, n ≤ m → whileN c db n env st = some o → whileN c db m env st = some o
  | 0, _, _, _, _, _, h => by cases h
  | n + 1, 0, _, _, _, hl, _ => absurd hl (Nat.not_succ_le_zero n)
  | n + 1, m + 1, env, st, o, hl, h => by
    unfold whileN at h ⊢
    cases e : c env st with
    | none => rw [e] at h; cases h
    | some z =>
      rw [e] at h
      cases z with
      | ex cc st1 => exact h
      | ok k st1 =>
        unfold bindSB at h ⊢
        dsimp only at h ⊢
        cases k with
        | false => exact h
        | true =>
          rw [if_pos rfl] at h ⊢
          cases e2 : db env st1 with
          | none => rw [e2] at h; cases h
          | some o2 =>
            rw [e2] at h
            cases o2 with
            | nx env2 st2 => exact whileN_mono (Nat.le_of_succ_le_succ hl) h
            | ct env2 st2 => exact whileN_mono (Nat.le_of_succ_le_succ hl) h
            | bk env2 st2 => exact h
            | rt d st2 => exact h
            | ex c env2 st2 => exact h
theorem sWhile_of {c : DenB} {db : DenS} {n : Nat} {env : En} {st : Sto} {o : Out} (h : whileN c db n env st = some o) : sWhile c db env st = some o := by
  unfold sWhile
  have hx : ∃ n o, whileN c db n env st = some o := ⟨n, o, h⟩
  rw [dif_pos hx]
  obtain ⟨o', q⟩ := Classical.choose_spec hx
  have a := whileN_mono (Nat.le_max_left (Classical.choose hx) n) q
  have b := whileN_mono (Nat.le_max_right (Classical.choose hx) n) h
  rw [a] at b
  rw [q]
  exact b
/-- one turn -/
theorem sWhile_turn {c : DenB} {db : DenS} {env : En} {st : Sto} {o : Out}
    (h : bindSB (c env st) env (fun k st => if k then (match db env st with
      | some (.nx env st) => sWhile c db env st
      | some (.ct env st) => sWhile c db env st
      | some (.bk env st) => some (.nx env st)
      | r => r) else some (.nx env st)) = some o) : sWhile c db env st = some o := by
  have fin : ∀ (env : En) (st : Sto), sWhile c db env st = some o → ∃ n, whileN c db n env st = some o := fun env st h => by
    unfold sWhile at h
    split at h
    · rename_i hx
      exact ⟨_, h⟩
    · cases h
  cases e : c env st with
  | none => rw [e] at h; cases h
  | some z =>
    rw [e] at h
    cases z with
    | ex cc st1 => exact sWhile_of (n := 1) (by unfold whileN; rw [e]; exact h)
    | ok k st1 =>
      unfold bindSB at h
      dsimp only at h
      cases k with
      | false => exact sWhile_of (n := 1) (by unfold whileN; rw [e]; exact h)
      | true =>
        rw [if_pos rfl] at h
        cases e2 : db env st1 with
        | none => rw [e2] at h; cases h
        | some o2 =>
          rw [e2] at h
          cases o2 with
          | nx env2 st2 =>
            obtain ⟨n, q⟩ := fin _ _ h
            refine sWhile_of (n := n + 1) ?_
            unfold whileN bindSB
            rw [e]
            dsimp only
            rw [if_pos rfl, e2]
            exact q
          | ct env2 st2 =>
            obtain ⟨n, q⟩ := fin _ _ h
            refine sWhile_of (n := n + 1) ?_
            unfold whileN bindSB
            rw [e]
            dsimp only
            rw [if_pos rfl, e2]
            exact q
          | bk env2 st2 => exact sWhile_of (n := 1) (by unfold whileN bindSB; rw [e]; dsimp only; rw [if_pos rfl, e2]; exact h)
          | rt d st2 => exact sWhile_of (n := 1) (by unfold whileN bindSB; rw [e]; dsimp only; rw [if_pos rfl, e2]; exact h)
          | ex c env2 st2 => exact sWhile_of (n := 1) (by unfold whileN bindSB; rw [e]; dsimp only; rw [if_pos rfl, e2]; exact h)
end
end Pd
end
section
set_option Elab.async false
set_option linter.all false
set_option maxRecDepth 100000
namespace Pd
open PySem PySem.Spec L2 LamX
open PyProof.Rows hiding St

/-! ### comprehensions -/
theorem wipe_in {σ : St} {i : Nat} : ∀ {vs : List Nat}, i ∈ vs → i < σ.length → (wipe σ vs)[i]? = some none
  | [], h, _ => nomatch h
  | v :: vs, h, hl => by
    show ((wipe σ vs).set v none)[i]? = some none
    by_cases e : v = i
    · subst e
      exact List.getElem?_set_self (by rw [wipe_length]; exact hl)
    · rw [List.getElem?_set_ne e]
      rcases List.mem_cons.mp h with z | z
      · exact absurd z.symm e
      · exact wipe_in z hl
theorem wipe_tou {σ σ' : St} {vs : List Nat} (t : Tou (wipe σ vs) σ' vs) : wipe σ' vs = wipe σ vs := by
  refine List.ext_getElem? fun i => ?_
  have hl : σ'.length = σ.length := by rw [t.1, wipe_length]
  by_cases h : i ∈ vs
  · by_cases hi : i < σ.length
    · rw [wipe_in h hi, wipe_in h (by rw [hl]; exact hi)]
    · rw [List.getElem?_eq_none (by rw [wipe_length]; omega), List.getElem?_eq_none (by rw [wipe_length]; omega)]
  · rw [wipe_out h, t.2 i h]
def lcL (dg : DenG) (dt : DenB) (de : Den) (env : En) : List D → Sto → List D → Option (List D × Sto)
  | [], st, acc => some (acc, st)
  | d :: ds, st, acc => match dg d env st with
    | some (.ok env2 st) => (match dt env2 st with
      | some (.ok true st) => (match de env2 st with
        | some (.ok y st) => if acc.length < sizeLine then lcL dg dt de env ds st (acc ++ [y]) else none
        | _ => none)
      | some (.ok false st) => lcL dg dt de env ds st acc
      | _ => none)
    | _ => none
def dLc (cell : Bool) (vs : List Nat) (di : DenL) (dg : DenG) (dt : DenB) (de : Den) : Den := fun env st => bindR (di env st) fun items st =>
  match lcL dg dt de (wipeE env vs) items st [] with | some (acc, st) => mkL cell acc st | none => none
def dYes : DenB := fun _ st => some (.ok true st)
abbrev W0 : WX := fun _ _ _ _ => False
section
variable {C : Ct} {W : WX} {ρ Z : List Addr} {H : Hp} {σ : St} {env : En} {st : Sto}
theorem Ext.hid {ρ1 : List Addr} {H1 : Hp} {dd : Addr} {o : HO} (x : Ext ρ H ρ1 H1) (h : H dd = none) : Ext ρ H ρ1 (upd H1 dd o) :=
  ⟨x.pre, fun a u e n t => by rw [upd_ne (ne_of_none e h)]; exact x.keep a u e n t, x.new⟩
theorem Rz.hid {a dd : Addr} {o u : HO} (m : dd ∈ Z) (h : Rz ρ Z H a o) : Rz ρ Z (upd H dd u) a o := ⟨by rw [upd_ne (fun z => h.2.2 (by rw [z]; exact m))]; exact h.1, h.2⟩
theorem RVs.hid {dd : Addr} {u : HO} {ds : List D} {vs : List V} (m : dd ∈ Z) (h : RVs C ρ Z H ds vs) : RVs C ρ Z (upd H dd u) ds vs := RVs.map (fun _ _ _ z => z.hid m) (fun _ _ z => z) ds vs h
theorem RV.hid {dd : Addr} {u : HO} {ds : D} {vs : V} (m : dd ∈ Z) (h : RV C ρ Z H ds vs) : RV C ρ Z (upd H dd u) ds vs := RV.map (fun _ _ _ z => z.hid m) (fun _ _ z => z) ds vs h
theorem RS.hid {dd : Addr} {u o' : HO} (S : RS C ρ Z H st) (m : dd ∈ Z) (n : dd ∉ ρ) (h : H dd = some u) (t1 : ∀ ps, u ≠ .tbl ps := by intro _ z; cases z) (t2 : ∀ f, u ≠ .ext f := by intro _ z; cases z) (t : ∀ ps, o' ≠ .tbl ps := by intro _ z; cases z) : RS C ρ Z (upd H dd o') st :=
  ⟨S.len, S.nd, fun i a o e1 e2 => by
    have q := S.ob i a o e1 e2
    have hne : a ≠ dd := fun z => n (by rw [← z]; exact List.mem_of_getElem? e1)
    cases o with
    | lst ds => obtain ⟨vs, h1, h2⟩ := q; exact ⟨vs, by rw [upd_ne hne]; exact h1, h2.hid m⟩
    | dct ks ds => obtain ⟨vs, h0, h1, h2⟩ := q; exact ⟨vs, h0, by rw [upd_ne hne]; exact h1, h2.hid m⟩,
   tabs_write h t1 t2 S.tab, zs_fresh t S.zs, S.dj⟩
/-- one more address in the making -/
theorem RS.more {dd : Addr} {o' : HO} (S : RS C ρ Z H st) (h : H dd = none) (t : ∀ ps, o' ≠ .tbl ps := by intro _ z; cases z) : RS C ρ (dd :: Z) (upd H dd o') st := by
  have x : Ext ρ H ρ (upd H dd o') := Ext.fresh h
  have hz : ∀ a ∈ dd :: Z, a ∈ Z ∨ H a = none := fun a m => (List.mem_cons.mp m).elim (fun z => .inr (by rw [z]; exact h)) .inl
  refine ⟨S.len, S.nd, fun i a o e1 e2 => ?_, tabs_fresh h S.tab, fun a m => ?_, fun a m => (List.mem_cons.mp m).elim (fun z => by rw [z]; exact S.fresh h) (S.dj a)⟩
  · have q := S.ob i a o e1 e2
    obtain ⟨u, z⟩ := S.mem (List.mem_of_getElem? e1)
    have hne : a ≠ dd := ne_of_none z h
    cases o with
    | lst ds => obtain ⟨vs, h1, h2⟩ := q; exact ⟨vs, by rw [upd_ne hne]; exact h1, h2.later x hz⟩
    | dct ks ds => obtain ⟨vs, h0, h1, h2⟩ := q; exact ⟨vs, h0, by rw [upd_ne hne]; exact h1, h2.later x hz⟩
  · rcases List.mem_cons.mp m with z | z
    · exact ⟨_, by rw [z]; exact upd_same, t⟩
    · obtain ⟨u, q, t'⟩ := S.zs a z
      exact ⟨u, by rw [upd_ne (ne_of_none q h)]; exact q, t'⟩
theorem Rz.less {a dd : Addr} {o : HO} (h : Rz ρ (dd :: Z) H a o) : Rz ρ Z H a o := ⟨h.1, h.2.1, fun m => h.2.2 (List.mem_cons_of_mem _ m)⟩
theorem RVs.less {dd : Addr} {ds : List D} {vs : List V} (h : RVs C ρ (dd :: Z) H ds vs) : RVs C ρ Z H ds vs := RVs.map (fun _ _ _ z => z.less) (fun _ _ z => z) ds vs h
theorem RS.less {dd : Addr} (S : RS C ρ (dd :: Z) H st) : RS C ρ Z H st :=
  ⟨S.len, S.nd, fun i a o e1 e2 => by
    have q := S.ob i a o e1 e2
    cases o with
    | lst ds => obtain ⟨vs, h1, h2⟩ := q; exact ⟨vs, h1, h2.less⟩
    | dct ks ds => obtain ⟨vs, h0, h1, h2⟩ := q; exact ⟨vs, h0, h1, h2.less⟩,
   S.tab, fun a m => S.zs a (List.mem_cons_of_mem _ m), fun a m => S.dj a (List.mem_cons_of_mem _ m)⟩
/-- a list that was in the making becomes a cell -/
theorem RS.grown {dd : Addr} {ob : Ob} (S : RS C ρ Z H st) (n : dd ∉ ρ) (r : RO C ρ (dd :: Z) H dd ob) (S' : RS C ρ (dd :: Z) H st) (nz : dd ∉ Z) : RS C (ρ ++ [dd]) Z H (st ++ [ob]) := by
  have mp : ∀ a o, (∀ ps, o ≠ .tbl ps) → Rz ρ (dd :: Z) H a o → Rz (ρ ++ [dd]) Z H a o := fun a o _ z => ⟨z.1, fun m => (List.mem_append.mp m).elim z.2.1 fun q => z.2.2 (by rw [List.mem_singleton.mp q]; exact List.mem_cons_self), fun m => z.2.2 (List.mem_cons_of_mem _ m)⟩
  have gp : ∀ (n : Nat) (a : Addr), ρ[n]? = some a → (ρ ++ [dd])[n]? = some a := fun n a => pre_get (List.prefix_append _ _)
  refine ⟨by rw [List.length_append, List.length_append, S.len]; rfl, ?_, fun m a o e1 e2 => ?_, S.tab, S.zs, fun a m mm => (List.mem_append.mp mm).elim (S.dj a m) fun z => nz (by rw [← List.mem_singleton.mp z]; exact m)⟩
  · rw [List.nodup_append]
    refine ⟨S.nd, by simp, fun a m b m' e => ?_⟩
    rw [List.mem_singleton.mp m'] at e
    subst e
    exact n m
  · by_cases hn : m < ρ.length
    · rw [List.getElem?_append_left hn] at e1
      rw [List.getElem?_append_left (by rw [← S.len]; exact hn)] at e2
      have q := S'.ob m a o e1 e2
      cases o with
      | lst es => obtain ⟨us, h1, h2⟩ := q; exact ⟨us, h1, RVs.map mp gp _ _ h2⟩
      | dct ks es => obtain ⟨us, h0, h1, h2⟩ := q; exact ⟨us, h0, h1, RVs.map mp gp _ _ h2⟩
    · have hn' : m = ρ.length := by
        have z := (List.getElem?_eq_some_iff.mp e1).1
        rw [List.length_append, List.length_singleton] at z
        omega
      subst hn'
      rw [List.getElem?_append_right (Nat.le_refl _), Nat.sub_self] at e1
      rw [S.len, List.getElem?_append_right (Nat.le_refl _), Nat.sub_self] at e2
      cases e1
      cases e2
      cases ob with
      | lst es => obtain ⟨us, h1, h2⟩ := r; exact ⟨us, h1, RVs.map mp gp _ _ h2⟩
      | dct ks es => obtain ⟨us, h0, h1, h2⟩ := r; exact ⟨us, h0, h1, RVs.map mp gp _ _ h2⟩
end
section
variable {X : Cx} {C : Ct} {W : WX} {k : Nat}
instance blkGo {s : Shared} {H : Hp} {scope : Scope} {cenv : Env} {fp : List Addr} [g : Go X C W k] : Go (X.blk s H scope cenv fp) C W0 k where
  hK := g.hK
  hm := g.hm
  tk := L2.takes0
  hr := g.hr
  calm := g.calm
  nd := g.nd
  po := PassesOwn.never
/-- the reading of a comprehension -/
theorem lc_read {σ : St} {H : Hp} {Q : VK} {cell : Bool} {vs vg : List Nat} {di : DenL} {dg : DenG} {dt : DenB} {de : Den} (hv : ∀ j ∈ vg, j ∈ vs) (h : tD C W (dLc cell vs di dg dt de) σ H Q) :
    tLc (tI C W di) (tG C W0 vg dg) (tDB C W0 dt) (tD C W0 de) vs σ H Q := by
  obtain ⟨ρ, Z, env, st, S, E, h⟩ := h
  refine ⟨ρ, Z, env, st, S, E, ?_⟩
  unfold dLc at h
  cases e : di env st with
  | none => rw [e] at h; exact h.elim
  | some m =>
    rw [e] at h
    cases m with
    | ex c st' => exact h
    | ok items st' =>
      intro ρ1 H1 J x1 S1 J1 dd hD
      have h1 := After.back (m := bindR (some (R.ok items st')) fun items st => match lcL dg dt de (wipeE env vs) items st [] with | some (acc, st) => mkL cell acc st | none => none) x1 h
      unfold bindR at h1
      dsimp only at h1
      split at h1
      · rename_i accF stF eF
        have hz : ∀ a ∈ dd :: Z, a ∈ Z ∨ H1 a = none := fun a m => (List.mem_cons.mp m).elim (fun z => .inr (by rw [z]; exact hD)) .inl
        have mD : dd ∈ dd :: Z := List.mem_cons_self
        have E1 := E.ext x1
        refine ⟨fun i m H => ∃ ρ st acc us, RS C ρ (dd :: Z) H st ∧ RVs C ρ (dd :: Z) H acc us ∧ H dd = some (.lst us) ∧ dd ∉ ρ ∧ Ext ρ1 H1 ρ H ∧ m + i = items.length ∧ lcL dg dt de (wipeE env vs) (items.drop i) st acc = some (accF, stF),
          ⟨items.length, ρ1, st', [], [], S1.more hD, RVs.nil, upd_same, S1.fresh hD, Ext.fresh hD, rfl, eF⟩, ?_⟩
        intro i m H2 ⟨ρ2, st2, acc, us, S2, r2, hD2, n2, x2, hm, e2⟩
        by_cases hl : i < items.length
        · refine .inr ⟨J1.go i ρ2 (dd :: Z) H2 st2 x2 hz S2 hl, fun H' => ∃ ρ st acc us, RS C ρ (dd :: Z) H' st ∧ RVs C ρ (dd :: Z) H' acc us ∧ H' dd = some (.lst us) ∧ dd ∉ ρ ∧ Ext ρ1 H1 ρ H' ∧ lcL dg dt de (wipeE env vs) (items.drop (i + 1)) st acc = some (accF, stF), fun H' hN => ?_, fun v H3 y => ?_⟩
          · obtain ⟨ρ', st', acc', us', a, b, c, d, f, q⟩ := hN
            exact ⟨m - 1, by omega, ρ', st', acc', us', a, b, c, d, f, by omega, q⟩
          · obtain ⟨x3, S3, r3, k3⟩ := J1.yld i ρ2 (dd :: Z) H2 st2 v H3 items[i] x2 hz S2 (List.getElem?_eq_getElem hl) y
            rw [List.drop_eq_getElem_cons hl] at e2
            unfold lcL at e2
            have hD3 := k3 dd _ hD2
            have a3 := r2.ext x3
            refine ⟨ρ2, dd :: Z, wipeE env vs, st2, items[i], S3, ((E1.later x2 hz).ext x3).wipe vs, r3, ?_⟩
            cases eg : dg items[i] (wipeE env vs) st2 with
            | none => rw [eg] at e2; cases e2
            | some zg =>
              rw [eg] at e2
              cases zg with
              | ex c st3 => cases e2
              | ok env3 st3 =>
                intro ρ4 H4 σ4 x4 S4 E4 t4
                refine ⟨wipe_tou (t4.mono hv), ρ4, dd :: Z, env3, st3, S4, E4, ?_⟩
                have hD4 := x4.keep dd _ hD3 n2 (fun _ z => by cases z)
                have n4 := x4.nin hD3 n2 (fun _ z => by cases z)
                have a4 := a3.ext x4
                have xx4 : Ext ρ1 H1 ρ4 H4 := (x2.trans x3).trans x4
                dsimp only at e2
                cases et : dt env3 st3 with
                | none => rw [et] at e2; cases e2
                | some zt =>
                  rw [et] at e2
                  cases zt with
                  | ex c st5 => cases e2
                  | ok b st5 =>
                    intro ρ5 H5 x5 S5
                    have hD5 := x5.keep dd _ hD4 n4 (fun _ z => by cases z)
                    have n5 := x5.nin hD4 n4 (fun _ z => by cases z)
                    have a5 := a4.ext x5
                    cases b with
                    | false =>
                      rw [if_neg (by simp)]
                      exact ⟨ρ5, st5, acc, us, S5, a5, hD5, n5, xx4.trans x5, e2⟩
                    | true =>
                      rw [if_pos rfl]
                      refine ⟨ρ5, dd :: Z, env3, st5, S5, E4.ext x5, ?_⟩
                      dsimp only at e2
                      cases ee : de env3 st5 with
                      | none => rw [ee] at e2; cases e2
                      | some ze =>
                        rw [ee] at e2
                        cases ze with
                        | ex c st6 => cases e2
                        | ok y st6 =>
                          intro ρ6 H6 yv x6 S6 r6
                          dsimp only at e2
                          split at e2
                          · rename_i hlen
                            have hD6 := x6.keep dd _ hD5 n5 (fun _ z => by cases z)
                            have n6 := x6.nin hD5 n5 (fun _ z => by cases z)
                            have a6 := a5.ext x6
                            refine ⟨us, hD6, by rw [← a6.length]; exact hlen, ρ6, st6, acc ++ [y], us ++ [yv], S6.hid mD n6 hD6, (a6.snoc r6).hid mD, upd_same, n6, ((xx4.trans x5).trans x6).hid hD, e2⟩
                          · cases e2
        · refine .inl ⟨J1.stop i ρ2 (dd :: Z) H2 st2 x2 hz S2 (by omega), ?_⟩
          rw [List.drop_eq_nil_of_le (by omega)] at e2
          unfold lcL at e2
          cases e2
          unfold mkL at h1
          cases cell with
          | false =>
            refine h1 ρ2 H2 (.ref dd) x2 S2.less ?_
            unfold RV
            exact ⟨dd, us, rfl, ⟨hD2, n2, S1.nz hD⟩, r2.less⟩
          | true =>
            refine h1 (ρ2 ++ [dd]) H2 (.ref dd) ⟨x2.pre.trans (List.prefix_append _ _), x2.keep, fun a m n o e => ?_⟩ (S2.less.grown (ob := .lst accF) n2 ⟨us, hD2, r2⟩ S2 (S1.nz hD)) ?_
            · rcases List.mem_append.mp m with z | z
              · exact x2.new a z n o e
              · rw [List.mem_singleton.mp z, hD] at e; cases e
            · unfold RV
              exact ⟨dd, rfl, by rw [← S2.len, List.getElem?_append_right (Nat.le_refl _), Nat.sub_self]; rfl⟩
      · exact h1.elim
abbrev PTsD (X : Cx) (C : Ct) (W : WX) (ifs : List Expr) (d : DenB) : Prop := PTs X ifs (tDB C W d)
theorem pts_imp {X : Cx} {ifs : List Expr} {t t' : TT} (h : PTs X ifs t) (i : ∀ σ H Q, t' σ H Q → t σ H Q) : PTs X ifs t' := ⟨fun p s σ H Q I q => h.run p s σ H Q I (i σ H Q q)⟩
theorem ptsd_nil : PTsD X C W [] dYes := pts_imp pts_nil fun σ H Q ⟨ρ, Z, env, st, S, E, h⟩ => h.now S
theorem ptsd_one {c : Expr} {d : DenB} (h : PDB X C W c d) : PTsD X C W [c] d := pts_one h
theorem pd_lc {elt tg iter : Expr} {ifs : List Expr} {scope : Scope} {pos : Pos} {vg : List Nat} {di : DenL} {dg : DenG} {dt : DenB} {de : Den} (cell : Bool) (own : List (Str × Nat)) [g : Go X C W k] (ok : BlkOk X.N X.env.scope scope own)
    (hi : PID X C W tg iter di)
    (hg : ∀ (s : Shared) (H : Hp) (CC : Addr) (cl : List (Str × Addr)) (fp : List Addr), PGD (X.blk s H scope (compEnvC scope cl CC X.env) fp) C W0 vg tg dg)
    (ht : ∀ (s : Shared) (H : Hp) (CC : Addr) (cl : List (Str × Addr)) (fp : List Addr), PTsD (X.blk s H scope (compEnvC scope cl CC X.env) fp) C W0 ifs dt)
    (he : ∀ (s : Shared) (H : Hp) (CC : Addr) (cl : List (Str × Addr)) (fp : List Addr), PD (X.blk s H scope (compEnvC scope cl CC X.env) fp) C W0 elt de)
    (hv : ∀ j ∈ vg, j ∈ own.map (·.2) := by decide)
    (hs : ∀ x, foldedSetIterable iter X.env x = pure x := by intro _; rfl) : PD X C W (.ListComp elt [⟨tg, iter, ifs, 0⟩] scope pos) (dLc cell (own.map (·.2)) di dg dt de) :=
  pe_imp (pe_lc g.calm g.nd hi ok hg ht he hs) fun σ H Q h => lc_read hv h
/-- name = [..] on one line -/
theorem psd_setLc {i : Nat} {y : Str} {py : Pos} {elt tg iter : Expr} {ifs : List Expr} {scope : Scope} {pos spos : Pos} {vg : List Nat} {di : DenL} {dg : DenG} {dt : DenB} {de : Den} (cell : Bool) (own : List (Str × Nat)) [g : Go X C W k] (ok : BlkOk X.N X.env.scope scope own)
    (hi : PID X C W tg iter di)
    (hg : ∀ (s : Shared) (H : Hp) (CC : Addr) (cl : List (Str × Addr)) (fp : List Addr), PGD (X.blk s H scope (compEnvC scope cl CC X.env) fp) C W0 vg tg dg)
    (ht : ∀ (s : Shared) (H : Hp) (CC : Addr) (cl : List (Str × Addr)) (fp : List Addr), PTsD (X.blk s H scope (compEnvC scope cl CC X.env) fp) C W0 ifs dt)
    (he : ∀ (s : Shared) (H : Hp) (CC : Addr) (cl : List (Str × Addr)) (fp : List Addr), PD (X.blk s H scope (compEnvC scope cl CC X.env) fp) C W0 elt de)
    (hy : X.N[i]? = some y := by rfl) (hyl : X.env.scope.names.lookup y = some .local := by rfl)
    (hsw : swapsWith (.ListComp elt [⟨tg, iter, ifs, 0⟩] scope pos) (some (.Name y py)) spos.line X.env = pure true := by exact sw_true rfl rfl rfl (by decide +kernel))
    (hv : ∀ j ∈ vg, j ∈ own.map (·.2) := by decide)
    (hs : ∀ x, foldedSetIterable iter X.env x = pure x := by intro _; rfl) : PSD X C W (.Assign [.Name y py] (.ListComp elt [⟨tg, iter, ifs, 0⟩] scope pos) spos) (sSet i (dLc cell (own.map (·.2)) di dg dt de)) :=
  ps_imp (ps_setLc g.calm g.nd hy hyl hsw hi ok hg ht he hs) fun T σ H ⟨ρ, Z, env, st, S, E, h⟩ => lc_read hv (tD_mono (seqES S E h) fun v H1 ⟨ρ1, st1, x, S1, E1, rx, _, _, h1⟩ => h1.nxt S1 (E1.set rx))
end
end Pd
end
section
set_option Elab.async false
set_option linter.all false
set_option maxRecDepth 100000
namespace Pd
open PySem PySem.Spec L2 LamX
open PyProof.Rows hiding St

/-! ### a def's end: the store cut back, the value without new cells -/
mutual
def D.cl (n : Nat) : D → Bool
  | .tup ds => D.cls n ds
  | .lst ds => D.cls n ds
  | .scr ds => D.cls n ds
  | .dct _ ds => D.cls n ds
  | .ref m => decide (m < n)
  | _ => true
def D.cls (n : Nat) : List D → Bool
  | [] => true
  | d :: ds => D.cl n d && D.cls n ds
end
def Ob.cl (n : Nat) : Ob → Bool
  | .lst ds => D.cls n ds
  | .dct _ ds => D.cls n ds
def fz (st : Sto) (n : Nat) (d : D) : Option D :=
  if D.cl n d then some d else match d with
    | .ref m => (match st[m]? with
      | some (.lst ds) => if D.cls n ds then some (.lst ds) else none
      | some (.dct ks ds) => if D.cls n ds then some (.dct ks ds) else none
      | none => none)
    | _ => none
def cutSt (n : Nat) (st : Sto) : Option Sto := if st.length = n then some st else if (st.take n).all (Ob.cl n) then some (st.take n) else none
def fin (n : Nat) (d : D) (st : Sto) : Option (R D) :=
  if st.length = n then some (.ok d st) else match fz st n d, cutSt n st with | some d, some st => some (.ok d st) | _, _ => none
/-- keep: new cells stay -/
def finK (keep : Bool) (n : Nat) (d : D) (st : Sto) : Option (R D) := if keep then some (.ok d st) else fin n d st
def endF (keep : Bool) (n : Nat) : Option Out → Option (R D)
  | some (.nx _ st) => finK keep n .non st
  | some (.rt d st) => finK keep n d st
  | some (.ex c _ st) => (match cutSt n st with | some st => some (.ex c st) | none => none)
  | _ => none
/-- a def over data: np parameters, nn names -/
def runF (keep : Bool) (np nn : Nat) (b : DenS) : List D → Sto → Option (R D) := fun ds st => if ds.length = np then endF keep st.length (b (ds.map some ++ List.replicate (nn - np) none) st) else none

section
variable {C : Ct} {W : WX} {ρ Z : List Addr} {H : Hp} {σ : St} {env : En} {st : Sto}
theorem Rz.cut {a : Addr} {o : HO} (n : Nat) (h : Rz ρ Z H a o) : Rz (ρ.take n) Z H a o := ⟨h.1, fun m => h.2.1 (List.mem_of_mem_take m), h.2.2⟩
theorem take_get {ρ : List Addr} {n m : Nat} {a : Addr} (h : m < n) (e : ρ[m]? = some a) : (ρ.take n)[m]? = some a := by
  rw [List.getElem?_take_of_lt h]; exact e
mutual
theorem RV.cut (n : Nat) : ∀ (d : D) (v : V), D.cl n d = true → RV C ρ Z H d v → RV C (ρ.take n) Z H d v
  | .non, _, _, h => h
  | .bl _, _, _, h => h
  | .int _, _, _, h => h
  | .str _, _, _, h => h
  | .tup ds, v, c, h => by
    unfold RV at h ⊢
    unfold D.cl at c
    obtain ⟨a, vs, e, t, r⟩ := h
    exact ⟨a, vs, e, t.elim (fun z => .inl (z.cut n)) .inr, RVs.cut n ds vs c r⟩
  | .lst ds, v, c, h => by
    unfold RV at h ⊢
    unfold D.cl at c
    obtain ⟨a, vs, e, t, r⟩ := h
    exact ⟨a, vs, e, t.cut n, RVs.cut n ds vs c r⟩
  | .scr ds, v, c, h => by
    unfold RV at h ⊢
    unfold D.cl at c
    obtain ⟨a, vs, e, t, r⟩ := h
    exact ⟨a, vs, e, t.imp (fun ⟨o, z⟩ => ⟨o, z.cut n⟩) id, RVs.cut n ds vs c r⟩
  | .dct ks ds, v, c, h => by
    unfold RV at h ⊢
    unfold D.cl at c
    obtain ⟨a, vs, e, l, t, r⟩ := h
    exact ⟨a, vs, e, l, t.cut n, RVs.cut n ds vs c r⟩
  | .ref m, v, c, h => by
    unfold RV at h ⊢
    unfold D.cl at c
    obtain ⟨a, e, q⟩ := h
    exact ⟨a, e, take_get (of_decide_eq_true c) q⟩
  | .fn _, _, _, h => by unfold RV at h ⊢; exact h
  | .exc c, v, _, h => by
    unfold RV at h ⊢
    obtain ⟨a, cls, e, m, t⟩ := h
    exact ⟨a, cls, e, m, t.cut n⟩
theorem RVs.cut (n : Nat) : ∀ (ds : List D) (vs : List V), D.cls n ds = true → RVs C ρ Z H ds vs → RVs C (ρ.take n) Z H ds vs
  | [], _, _, h => by unfold RVs at h ⊢; exact h
  | d :: ds, vs, c, h => by
    unfold RVs at h ⊢
    unfold D.cls at c
    obtain ⟨v, r, e, h1, h2⟩ := h
    exact ⟨v, r, e, RV.cut n d v (Bool.and_eq_true_iff.mp c).1 h1, RVs.cut n ds r (Bool.and_eq_true_iff.mp c).2 h2⟩
end
theorem RS.cut {n : Nat} {st' : Sto} (S : RS C ρ Z H st) (c : cutSt n st = some st') : RS C (ρ.take n) Z H st' := by
  unfold cutSt at c
  split at c
  · rename_i hl
    cases c
    rw [List.take_of_length_le (by rw [S.len, hl]; exact Nat.le_refl _)]
    exact S
  · split at c
    · rename_i hc
      cases c
      refine ⟨by rw [List.length_take, List.length_take, S.len], (List.take_sublist _ _).nodup S.nd, fun m a o e1 e2 => ?_, S.tab, S.zs, fun a m mm => S.dj a m (List.mem_of_mem_take mm)⟩
      have hm : m < n := by
        have z := (List.getElem?_eq_some_iff.mp e1).1
        rw [List.length_take] at z
        omega
      have e1' : ρ[m]? = some a := by rw [List.getElem?_take_of_lt hm] at e1; exact e1
      have e2' : st[m]? = some o := by rw [List.getElem?_take_of_lt hm] at e2; exact e2
      have hco := List.all_eq_true.mp hc o (List.mem_of_getElem? e2)
      have q := S.ob m a o e1' e2'
      cases o with
      | lst ds => obtain ⟨vs, h1, h2⟩ := q; exact ⟨vs, h1, RVs.cut n _ _ hco h2⟩
      | dct ks ds => obtain ⟨vs, h0, h1, h2⟩ := q; exact ⟨vs, h0, h1, RVs.cut n _ _ hco h2⟩
    · cases c
theorem fz_ok {n : Nat} {d d' : D} {v : V} (S : RS C ρ Z H st) (r : RV C ρ Z H d v) (h : fz st n d = some d') : RV C (ρ.take n) Z H d' v := by
  unfold fz at h
  split at h
  · rename_i c
    cases h
    exact r.cut n _ _ c
  · rename_i hcl
    split at h
    · rename_i m
      unfold RV at r
      obtain ⟨a, e, q⟩ := r
      have hm : ¬ m < n := fun z => hcl (by unfold D.cl; exact decide_eq_true z)
      have na : a ∉ ρ.take n := fun mm => by
        obtain ⟨j, hj, ej⟩ := List.mem_iff_getElem.mp mm
        rw [List.length_take] at hj
        have e1 : ρ[j]? = some a := by
          rw [List.getElem_take] at ej
          rw [List.getElem?_eq_getElem (by omega), ej]
        have h1 := List.getElem?_eq_some_iff.mp e1
        have h2 := List.getElem?_eq_some_iff.mp q
        have z := (List.getElem_inj S.nd).mp (h1.2.trans h2.2.symm)
        omega
      split at h
      · rename_i ds e1
        split at h
        · rename_i c
          cases h
          obtain ⟨vs, h1, h2⟩ := S.ob m a _ q e1
          unfold RV
          exact ⟨a, vs, e, ⟨h1, na, fun z => S.dj a z (List.mem_of_getElem? q)⟩, RVs.cut n _ _ c h2⟩
        · cases h
      · rename_i ks ds e1
        split at h
        · rename_i c
          cases h
          obtain ⟨vs, h0, h1, h2⟩ := S.ob m a _ q e1
          unfold RV
          exact ⟨a, vs, e, h0, ⟨h1, na, fun z => S.dj a z (List.mem_of_getElem? q)⟩, RVs.cut n _ _ c h2⟩
        · cases h
      · cases h
    · cases h
theorem fin_ok {n : Nat} {d : D} {v : V} {Q : VK} {ρ0 : List Addr} {H0 : Hp} {st0 : Sto} (hn : st0.length = n) (S0 : RS C ρ0 Z H0 st0) (x : Ext ρ0 H0 ρ H) (S : RS C ρ Z H st) (r : RV C ρ Z H d v)
    (h : After C W ρ0 Z H0 σ (fin n d st) Q) : Q v H := by
  have hr : ρ.take n = ρ0 := by
    obtain ⟨t, e⟩ := x.pre
    rw [← e, ← hn, ← S0.len, List.take_left]
  unfold fin at h
  split at h
  · rename_i hl
    have hρ : ρ = ρ0 := by rw [← hr, List.take_of_length_le (by rw [S.len, hl]; exact Nat.le_refl _)]
    subst hρ
    exact h ρ H v x S r
  · split at h
    · rename_i d' st' e1 e2
      have q := S.cut e2
      have z := fz_ok S r e1
      rw [hr] at q z
      exact h ρ0 H v ⟨List.prefix_rfl, x.keep, fun a m n => absurd m n⟩ q z
    · exact h.elim
theorem finK_ok {keep : Bool} {n : Nat} {d : D} {v : V} {Q : VK} {ρ0 : List Addr} {H0 : Hp} {st0 : Sto} (hn : st0.length = n) (S0 : RS C ρ0 Z H0 st0) (x : Ext ρ0 H0 ρ H) (S : RS C ρ Z H st) (r : RV C ρ Z H d v)
    (h : After C W ρ0 Z H0 σ (finK keep n d st) Q) : Q v H := by
  cases keep with
  | true => exact h ρ H v x S r
  | false => exact fin_ok hn S0 x S r h
theorem cut_ok {n : Nat} {c : Str} {cls : Addr} {Q : VK} {ρ0 : List Addr} {H0 : Hp} {st0 : Sto} (hn : st0.length = n) (S0 : RS C ρ0 Z H0 st0) (x : Ext ρ0 H0 ρ H) (S : RS C ρ Z H st) (m : C.mg c = some (.ref cls))
    (h : After C W ρ0 Z H0 σ (match cutSt n st with | some st => some (.ex c st) | none => none) Q) : W (.ref cls) none σ H := by
  have hr : ρ.take n = ρ0 := by
    obtain ⟨t, e⟩ := x.pre
    rw [← e, ← hn, ← S0.len, List.take_left]
  split at h
  · rename_i st' e
    have q := S.cut e
    rw [hr] at q
    exact h ρ0 H cls ⟨List.prefix_rfl, x.keep, fun a m n => absurd m n⟩ q m
  · exact h.elim
end

/-- a def's promise, over data -/
def spD (C : Ct) (n : Nat) (f : List D → Sto → Option (R D)) : Sp := fun vs H Q E => ∃ ρ Z st ds, RS C ρ Z H st ∧ RVs C ρ Z H ds vs ∧ vs.length = n ∧ After C (fun c d _ H => E c d H) ρ Z H [] (f ds st) Q
section
variable {P : Program} {w : World} {C : Ct} {base : Heap}
theorem start_RE {N : List Str} {ρ Z : List Addr} {H : Hp} {ds : List D} {vs : List V} (r : RVs C ρ Z H ds vs) (hn : vs.length ≤ N.length) : RE C ρ Z H (ds.map some ++ List.replicate (N.length - vs.length) none) (L2.start N vs) := by
  have hl := r.length
  refine ⟨by unfold L2.start; simp only [List.length_append, List.length_map, List.length_replicate, hl], fun i d e => ?_⟩
  unfold L2.start
  by_cases hi : i < ds.length
  · rw [List.getElem?_append_left (by rw [List.length_map]; exact hi), List.getElem?_map] at e
    cases e1 : ds[i]? with
    | none => rw [e1] at e; cases e
    | some d' =>
      rw [e1] at e
      cases e
      obtain ⟨v, q, z⟩ := r.get e1
      exact ⟨v, by rw [List.getElem?_append_left (by rw [List.length_map, ← hl]; exact hi), List.getElem?_map, q]; rfl, z⟩
  · rw [List.getElem?_append_right (by rw [List.length_map]; omega)] at e
    rw [List.getElem?_replicate] at e
    split at e <;> cases e
/-- the rule for a def -/
theorem fn_ok {x qual : Str} {st : Stmt} {f : Addr} {fd : FuncData} {N ps : List Str} {k : Nat} {b : DenS} {keep : Bool} (F : Fun C.K x qual st f fd) (S : FnScope N ps (defScope st)) (hN : ps.length ≤ N.length)
    (hb : ∀ (cdv : Value) (A : Around) (outer : List Env) (s : Shared) (H : Hp) (E : XK), Go (cxOf (L2.CX P w) P w C.K C.mg base N qual (defScope st) f cdv A outer s H E) C (fun c d _ H => E c d H) k →
      PSsD (cxOf (L2.CX P w) P w C.K C.mg base N qual (defScope st) f cdv A outer s H E) C (fun c d _ H => E c d H) (defBody st) b) :
    FnOk P w C.K C.mg base (L2.CX P w) (k + 1) f fd ps (spD C ps.length (runF keep ps.length N.length b)) := by
  refine F.okX S (fun vs H Q E h => ?_) (fun cdv A outer s H vs Q E hr h => ?_)
  · obtain ⟨_, _, _, _, _, _, e, _⟩ := h
    exact e
  · obtain ⟨ρ, Z, sto, ds, S0, r, hl, h⟩ := h
    refine ⟨_, hb cdv A outer s H E ⟨rfl, rfl, takes_of rfl rfl rfl rfl, hr, rfl, S.nd, passes_of rfl⟩, ρ, Z, _, sto, S0, start_RE r (by rw [hl]; exact hN), ?_⟩
    have hd : ds.length = ps.length := by rw [r.length, hl]
    unfold runF at h
    rw [if_pos hd] at h
    rw [hl]
    cases e : b (ds.map some ++ List.replicate (N.length - ps.length) none) sto with
    | none => rw [e] at h; exact h.elim
    | some o =>
      rw [e] at h
      cases o with
      | nx env' st' => exact fun ρ' H' σ' x S' E' => finK_ok (d := .non) rfl S0 x S' (by unfold RV; rfl) h
      | rt d st' => exact fun ρ' H' v x S' r' => finK_ok rfl S0 x S' r' h
      | bk env' st' => exact h.elim
      | ct env' st' => exact h.elim
      | ex c env' st' => exact fun ρ' H' σ' cls x S' E' m => cut_ok rfl S0 x S' m h
/-- a def that may be called: its name, its statement, its parameters, what it does -/
structure FD (P : Program) (w : World) (C : Ct) (base : Heap) (k : Nat) (x : Str) (st : Stmt) (ps : List Str) (f : List D → Sto → Option (R D)) : Prop where
  ex : ∃ (a : Addr) (fd : FuncData), C.mg x = some (.ref a) ∧ Fun C.K x x st a fd ∧ Binds C.K fd ps [] ∧ FnOk P w C.K C.mg base (L2.CX P w) k a fd ps (spD C ps.length f)
  len : ∀ ds st, ds.length ≠ ps.length → f ds st = none
theorem FD.mono {j k : Nat} {x : Str} {st : Stmt} {ps : List Str} {f : List D → Sto → Option (R D)} (F : FD P w C base j x st ps f) (h : j ≤ k) : FD P w C base k x st ps f := by
  obtain ⟨a, fd, m, kp, b, F'⟩ := F.ex
  exact ⟨⟨a, fd, m, kp, b, F'.mono h⟩, F.len⟩
/-- the def's own rule, whole -/
theorem fd_ok {x : Str} {st : Stmt} {f : Addr} {fd : FuncData} {N ps : List Str} {k : Nat} {b : DenS} (keep : Bool) (m : C.mg x = some (.ref f)) (F : Fun C.K x x st f fd) (S : FnScope N ps (defScope st)) (hN : ps.length ≤ N.length) (hb : Binds C.K fd ps [])
    (h : ∀ (cdv : Value) (A : Around) (outer : List Env) (s : Shared) (H : Hp) (E : XK), Go (cxOf (L2.CX P w) P w C.K C.mg base N x (defScope st) f cdv A outer s H E) C (fun c d _ H => E c d H) k →
      PSsD (cxOf (L2.CX P w) P w C.K C.mg base N x (defScope st) f cdv A outer s H E) C (fun c d _ H => E c d H) (defBody st) b) :
    FD P w C base (k + 1) x st ps (runF keep ps.length N.length b) :=
  ⟨⟨f, fd, m, F, hb, fn_ok F S hN h⟩, fun ds st hl => by unfold runF; rw [if_neg hl]⟩
end
section
variable {X : Cx} {C : Ct} {W : WX} {k : Nat} {e : Expr} {es : List Expr} {dl : DenL} {p pos : Pos} {x : Str}
theorem After.chW {ρ Z : List Addr} {H : Hp} {σ σ' : St} {W' : WX} {m : Option (R D)} {Q : VK} (h : After C W ρ Z H σ m Q) (i : ∀ c d H, W c d σ H → W' c d σ' H) : After C W' ρ Z H σ' m Q := by
  unfold After at h ⊢
  split at h
  · exact h
  · exact h
  · exact fun ρ' H' cls a b c => i _ _ _ (h ρ' H' cls a b c)
theorem FD.sp {P : Program} {w : World} {base : Heap} {j : Nat} {sd : Stmt} {ps : List Str} {f : List D → Sto → Option (R D)} (F : FD P w C base j x sd ps f) {ρ Z : List Addr} {H : Hp} {st : Sto} {σ : St} {xs : List D} {vs : List V} {Q : VK} (S : RS C ρ Z H st) (r : RVs C ρ Z H xs vs) (h : After C W ρ Z H σ (f xs st) Q) :
    spD C ps.length f vs H Q (WE W σ) := by
  by_cases hl : xs.length = ps.length
  · exact ⟨ρ, Z, st, xs, S, r, by rw [← r.length]; exact hl, h.chW (fun c d H z => z)⟩
  · rw [F.len xs st hl] at h
    exact h.elim
/-- f(e, ..) -/
theorem pd_call {j : Nat} {sd : Stmt} {ps : List Str} {f : List D → Sto → Option (R D)} [g : Go X C W k] (F : FD X.prog X.w C X.base j x sd ps f) (ha : PDL X C W (e :: es) dl) (hj : j ≤ k := by decide) (hg : Gl X x := by rfl) (hdb : (x == ("__debug__" : Str)) = false := by decide)
    (he : starEach (e :: es) X.env = (false, eval e X.env) :: starEach es X.env := by rfl) (hpl : (backTo pos (starEach es X.env)).any (·.1) = false := by rfl) : PD X C W (.Call (.Name x p) (e :: es) [] pos) (dArgs f dl) := by
  obtain ⟨a, fd, m, fu, b, F'⟩ := F.ex
  have hK := g.hK
  have hm := g.hm
  refine pe_imp (pe_callS (CX := L2.CX X.prog X.w) (E := WE W) (f := a) (fd := fd) (ps := ps) (by rw [hK, hm]; exact F'.mono hj) g.hr hg (by rw [hm]; exact m) (by rw [hK]; exact fu.kp) (by rw [hK]; exact b) (fun σ => passAt g.tk σ) ha hdb he hpl) fun σ H Q ⟨ρ, Z, env, st, S, E, h⟩ => ?_
  exact tDL_mono (seqLE S E h) fun vs H1 ⟨ρ1, st1, xs, S1, E1, rx, _, _, h1⟩ => F.sp S1 rx h1
/-! ### keywords alone -/
def permL {α : Type} (pl : List Nat) (xs : List α) : List α := pl.filterMap fun i => xs[i]?
theorem perm_vals {vs : List V} {us : List Value} (r : Vals vs us) : ∀ pl : List Nat, Vals (permL pl vs) (permL pl us)
  | [] => .nil
  | i :: pl => by
    unfold permL
    cases e : vs[i]? with
    | none =>
      rw [List.filterMap_cons_none e, List.filterMap_cons_none (r.none_of e)]
      exact perm_vals r pl
    | some v =>
      obtain ⟨u, e2, r2⟩ := r.get e
      rw [List.filterMap_cons_some e, List.filterMap_cons_some e2]
      exact .cons r2 (perm_vals r pl)
theorem perm_rv {ρ Z : List Addr} {H : Hp} {ds : List D} {vs : List V} (r : RVs C ρ Z H ds vs) : ∀ pl : List Nat, RVs C ρ Z H (permL pl ds) (permL pl vs)
  | [] => RVs.nil
  | i :: pl => by
    unfold permL
    cases e : ds[i]? with
    | none =>
      have e2 : vs[i]? = none := by
        rw [List.getElem?_eq_none_iff] at e ⊢
        rw [← r.length]; exact e
      rw [List.filterMap_cons_none e, List.filterMap_cons_none e2]
      exact perm_rv r pl
    | some v =>
      obtain ⟨u, e2, r2⟩ := r.get e
      rw [List.filterMap_cons_some e, List.filterMap_cons_some e2]
      exact RVs.cons r2 (perm_rv r pl)
abbrev PKD (X : Cx) (C : Ct) (W : WX) (ks : List Keyword) (d : DenL) : Prop := PK X ks (tDL C W d)
theorem pk_imp {X : Cx} {e : List Keyword} {t t' : TA} (h : PK X e t) (i : ∀ σ H Q, t' σ H Q → t σ H Q) : PK X e t' := ⟨fun o p s σ H Q I q => h.run o p s σ H Q I (i σ H Q q)⟩
theorem pkd_nil : PKD X C W [] dNil := pk_imp pk_nil fun σ H Q ⟨ρ, Z, env, st, S, E, h⟩ => h ρ H [] (Ext.refl _ _) S RVs.nil
theorem pkd_cons {de : Den} {kws : List Keyword} {nm : Option Str} {kpos : Pos} (ha : PD X C W e de) (hr : PKD X C W kws dl) : PKD X C W (⟨nm, e, kpos⟩ :: kws) (dCons de dl) :=
  pk_imp (pk_cons ha hr) fun σ H Q ⟨ρ, Z, env, st, S, E, h⟩ => tD_mono (seqEL S E h) fun v H1 ⟨ρ1, st1, x, S1, E1, rx, _, _, h1⟩ =>
    tDL_mono (seqLL S1 E1 h1) fun vs H2 ⟨ρ2, st2, xs, S2, E2, rxs, x2, _, h2⟩ => h2 ρ2 H2 _ (Ext.refl _ _) S2 (RVs.cons (rx.ext x2) rxs)
def dArgsK (pl : List Nat) (f : List D → Sto → Option (R D)) (a : DenL) : Den := fun env st => bindR (a env st) fun xs st => if xs.length = pl.length then f (permL pl xs) st else none
theorem pd_callK {j : Nat} {sd : Stmt} {ps ks : List Str} {f : List D → Sto → Option (R D)} {kws : List Keyword} [g : Go X C W k] (pl : List Nat) (F : FD X.prog X.w C X.base j x sd ps f) (ha : PKD X C W kws dl)
    (hb : ∀ (kV doc pm : Value) (an : Option Addr) (cdv ct : Value) (ws : List Value), ws.length = pl.length → bindArgs (PySem.W.fnOf x x (defArgs sd) (defBody sd) (defScope sd) .none kV doc pm an cdv ct) ⟨[], ks.zip ws⟩ = pure (ps.zip (permL pl ws)))
    (hj : j ≤ k := by decide) (hg : Gl X x := by rfl) (hdb : (x == ("__debug__" : Str)) = false := by decide)
    (hall : (backToKw pos (keywordEach kws X.env)).all (·.1.isSome) = true := by rfl) (hks : (backToKw pos (keywordEach kws X.env)).filterMap (·.1) = ks := by rfl)
    (hpl : ((backTo pos (starEach [] X.env)).any (·.1) || (backToKw pos (keywordEach kws X.env)).any (·.1.isNone)) = false := by rfl) :
    PD X C W (.Call (.Name x p) [] kws pos) (dArgsK pl f dl) := by
  obtain ⟨a, fd, m, fu, b, F'⟩ := F.ex
  have hK := g.hK
  have hm := g.hm
  refine ⟨fun pins s σ H Q I h => ?_⟩
  obtain ⟨ρ, Z, env, st, S, E, h⟩ := h
  refine wpAny_Call_Name_kw (ld_glob I hg (by rw [hm]; exact m) ?_ hdb)
  refine PySem.W.callWith_KW0 (h₀ := X.base) I.ok.mod.kin (by rw [hK]; exact fu.kp) hall (thn (ha.run pos pins s σ H _ I (seqLE S E h)) fun ws s1 ⟨zs, H1, I1, rz, ρ1, st1, xs, S1, E1, rx, _, _, h1⟩ => ⟨I1.kIn, ?_⟩) hpl
  rw [hks]
  split at h1
  · rename_i hlx
    have hws : ws.length = pl.length := by rw [← rz.length, ← rx.length]; exact hlx
    obtain ⟨oc, od, kV, doc, pm, an, cdv, ct, osl, efd, lk, hcd⟩ := fu.ex
    have hbt : BindsTo s1 fd ⟨[], ks.zip ws⟩ (ps.zip (permL pl ws)) := by rw [efd]; exact .of_eq (hb kV doc pm an cdv ct ws hws)
    have F2 : FnOk X.prog X.w X.K X.mg X.base (L2.CX X.prog X.w) k a fd ps (spD C ps.length f) := by rw [hK, hm]; exact F'.mono hj
    refine wpAny_call (codeAny_mono (F2.run X.A X.stack s1 H1 ⟨[], ks.zip ws⟩ (permL pl ws) (permL pl zs) Q (WE W σ) g.hr I1.env0 hbt (perm_vals rz pl) (F.sp S1 (perm_rv rx pl) h1)) fun r s' hq => ?_)
    cases r with
    | error e => exact passAt g.tk σ pins H1 s1 e s' I1 hq
    | ok fl =>
      cases fl with
      | ret u => exact I1.after hq
      | next => exact False.elim hq
      | brk => exact False.elim hq
      | cont => exact False.elim hq
  · exact h1.elim
/-! ### raise -/
theorem psd_raise {C0 : Addr} {bmB : List Value} {B newId initId : String} {mt : Str} {j : Nat} {p p2 ps pos : Pos} [g : Go X C W k] (F : ExcBaseFacts B newId initId bmB) (q : PySem.W.excIn C.K C0 bmB newId = true) (gC : C.mg x = some (.ref C0)) (kC : PySem.W.keepIn C.K (.ref C0) = true)
    (b1 : PySem.W.subIn C.K (.ref C0) (.type "BaseException") = some true) (b2 : PySem.W.typeIn C.K (.ref C0) = some (.type "type")) (hg : Gl X x := by rfl)
    (hdb : (x == ("__debug__" : Str)) = false := by decide) : PSD X C W (.Raise (some (.Call (.Name x p) [.Constant (.str mt) j p2] [] ps)) none pos) (sRaise x) :=
  ps_imp (ps_raise g.calm g.tk (pmk_own F (by rw [g.hK]; exact q) (by rw [g.hm]; exact gC) (by rw [g.hK]; exact kC) (raises_own (by rw [g.hK]; exact b1) (by rw [g.hK]; exact b2)) hg hdb)) fun T σ H ⟨ρ, Z, env, st, S, E, h⟩ => h ρ H σ C0 (Ext.refl _ _) S E gC
end
end Pd
end
section
set_option Elab.async false
set_option linter.all false
set_option maxRecDepth 100000
namespace Pd
open PySem PySem.Spec L2 LamX
open PyProof.Rows hiding St

def ok1 (d : D) (st : Sto) : Option (R D) := some (.ok d st)
section
variable {X : Cx} {C : Ct}
theorem rv_int {ρ Z : List Addr} {H : Hp} {i : Int} {v : V} : RV C ρ Z H (.int i) v ↔ v = .int i := by unfold RV; exact Iff.rfl
theorem rv_bl {ρ Z : List Addr} {H : Hp} {i : Bool} {v : V} : RV C ρ Z H (.bl i) v ↔ v = .bl i := by unfold RV; exact Iff.rfl
theorem rv_str {ρ Z : List Addr} {H : Hp} {i : Str} {v : V} : RV C ρ Z H (.str i) v ↔ v = .str i := by unfold RV; exact Iff.rfl
theorem rv_non {ρ Z : List Addr} {H : Hp} {v : V} : RV C ρ Z H .non v ↔ v = .non := by unfold RV; exact Iff.rfl

/-! ### + -/
def opAdd (cell : Bool) (x y : D) (st : Sto) : Option (R D) :=
  match x, y with
  | .int i, .int j => ok1 (.int (i + j)) st
  | .int i, .bl j => ok1 (.int (i + b2i j)) st
  | .str a, .str b => if a.length + b.length ≤ sizeLine then ok1 (.str (a ++ b)) st else none
  | .tup xs, .tup ys => if xs.length + ys.length ≤ sizeLine then ok1 (.tup (xs ++ ys)) st else none
  | x, y => match asM st x, asM st y with
    | some xs, some ys => if xs.length + ys.length ≤ sizeLine then mkL cell (xs ++ ys) st else none
    | _, _ => none
def rAddA (K : PySem.W.Frag) : R2 := fun x y H Q => rI0 (fun i j => .int (i + j)) x y H Q ∨ (∃ i k, x = .int i ∧ y = .bl k ∧ Q (.int (i + b2i k)) H) ∨
  (∃ i j, x = .str i ∧ y = .str j ∧ i.length + j.length ≤ sizeLine ∧ Q (.str (i ++ j)) H) ∨ rCatA K x y H Q ∨ rCat x y H Q
theorem op_addA : OpR X (binaryOp .Add) (rAddA X.K) := OpR.or op_add (OpR.or op_add_ib (OpR.or op_add_str (OpR.or op_catA op_cat)))
theorem RVs.nil_iff {ρ Z : List Addr} {H : Hp} {ds : List D} {vs : List V} (r : RVs C ρ Z H ds vs) : ds = [] ↔ vs = [] := by
  have z := r.length
  cases ds <;> cases vs <;> simp at z ⊢
theorem sem_add (cell : Bool) : Sem2 C (opAdd cell) (rAddA C.K) := fun W ρ Z H st σ x y v u Q S rx ry h => by
  unfold opAdd at h
  split at h
  · rw [rv_int] at rx ry
    exact .inl ⟨_, _, rx, ry, h.now S (rv_int.mpr rfl)⟩
  · rw [rv_int] at rx
    rw [rv_bl] at ry
    exact .inr (.inl ⟨_, _, rx, ry, h.now S (rv_int.mpr rfl)⟩)
  · split at h
    · rw [rv_str] at rx ry
      exact .inr (.inr (.inl ⟨_, _, rx, ry, by assumption, h.now S (rv_str.mpr rfl)⟩))
    · exact h.elim
  · split at h
    · rename_i xs ys hl
      obtain ⟨a, vs, rfl, t1, q1⟩ := tup_ok rx
      obtain ⟨b, us, rfl, t2, q2⟩ := tup_ok ry
      refine .inr (.inr (.inr (.inl ⟨a, b, vs, us, rfl, rfl, t1, t2, by rw [← q1.length, ← q2.length]; exact hl, fun e => ?_, fun e1 e2 => ?_, fun e1 e2 p hp => ?_⟩)))
      · have z := q1.nil_iff.mpr e
        subst z
        exact h.now S ry
      · have z := q2.nil_iff.mpr e2
        subst z
        rw [List.append_nil] at h
        exact h.now S rx
      · exact tup_new S hp (q1.app q2) h
    · exact h.elim
  · split at h
    · split at h
      · rename_i xs ys e1 e2 hl
        obtain ⟨a, vs, rfl, t1, q1⟩ := asM_ok S rx e1
        obtain ⟨b, us, rfl, t2, q2⟩ := asM_ok S ry e2
        exact .inr (.inr (.inr (.inr ⟨a, b, vs, us, rfl, rfl, t1, t2, by rw [← q1.length, ← q2.length]; exact hl, fun p hp => mkL_ok S hp (q1.app q2) h⟩)))
      · exact h.elim
    · exact h.elim

/-! ### - * // % ** -/
def opSub (x y : D) (st : Sto) : Option (R D) := match x, y with | .int i, .int j => ok1 (.int (i - j)) st | _, _ => none
theorem sem_sub : Sem2 C opSub (rI0 fun i j => .int (i - j)) := fun W ρ Z H st σ x y v u Q S rx ry h => by
  unfold opSub at h
  split at h
  · rw [rv_int] at rx ry
    exact ⟨_, _, rx, ry, h.now S (rv_int.mpr rfl)⟩
  · exact h.elim
def repStr (a : Str) (n : Nat) : Str := if n = 1 then a else ⟨(List.replicate n a.cps).foldl (· ++ ·) #[]⟩
def opMul (cell : Bool) (x y : D) (st : Sto) : Option (R D) :=
  match x, y with
  | .int i, .int j => if i.natAbs.log2 + j.natAbs.log2 < 1000000 then ok1 (.int (i * j)) st else none
  | .str a, .int n => if 0 ≤ n ∧ n ≤ 1000 ∧ 0 < a.length ∧ a.length ≤ 1000 ∧ (repStr a n.toNat).length ≤ sizeLine then ok1 (.str (repStr a n.toNat)) st else none
  | .tup xs, .int n => if xs ≠ [] ∧ 2 ≤ n ∧ n ≤ 1000 ∧ xs.length ≤ 1000 then ok1 (.tup (List.replicate n.toNat xs).flatten) st else none
  | x, .int n => match asM st x with
    | some xs => if 0 ≤ n ∧ n ≤ 1000 ∧ xs.length ≤ 1000 then mkL cell (List.replicate n.toNat xs).flatten st else none
    | none => none
  | _, _ => none
def rRepStr : R2 := fun x y H Q => ∃ a n, x = .str a ∧ y = .int n ∧ 0 ≤ n ∧ n ≤ 1000 ∧ 0 < a.length ∧ a.length ≤ 1000 ∧ (repStr a n.toNat).length ≤ sizeLine ∧ Q (.str (repStr a n.toNat)) H
theorem op_repStr : OpR X (binaryOp .Mult) rRepStr := by
  intro pins s σ H x y v u Q I rx ry h
  obtain ⟨a, n, rfl, rfl, h0, h1, h2, h3, h4, q⟩ := h
  obtain ⟨t, rfl⟩ := rx
  obtain ⟨t', rfl⟩ := ry
  have hsz := sizeLine_eq
  have z1 : ¬ n < -(2 ^ 63) := by omega
  have z2 : ¬ n ≥ 2 ^ 63 := by omega
  refine PySem.P.mul_str (by rw [decide_eq_false z1, decide_eq_false z2]; rfl) (fun z1 z2 => ?_) (fun z1 z2 => ?_) ?_
  · have : (9223372036854775807 : Int) / 1000 ≤ (2 ^ 63 - 1) / n := by
      have e : (2 ^ 63 - 1 : Int) = 9223372036854775807 := by decide
      rw [e]
      rw [Int.le_ediv_iff_mul_le (by omega)]
      have : (9223372036854775807 : Int) / 1000 = 9223372036854775 := by decide
      rw [this]
      omega
    have e : (9223372036854775807 : Int) / 1000 = 9223372036854775 := by decide
    omega
  · unfold Builtin.Str.tooLong
    refine decide_eq_false ?_
    have : a.length * n.toNat ≤ 1000 * 1000 := Nat.mul_le_mul h3 (by omega)
    omega
  · by_cases e1 : n < 1
    · rw [if_pos e1]
      have e0 : n = 0 := by omega
      subst e0
      exact ⟨by decide, .str (repStr a 0), H, I.tok _, ⟨_, rfl⟩, q⟩
    · rw [if_neg e1]
      by_cases e2 : n = 1
      · subst e2
        rw [if_pos (by simp)]
        refine ⟨.str a, H, ?_⟩
        have z : repStr a (1 : Int).toNat = a := by unfold repStr; exact if_pos rfl
        rw [z] at q
        first
          | exact ⟨I, ⟨_, rfl⟩, q⟩
          | exact ⟨I.tok _, ⟨_, rfl⟩, q⟩
      · rw [if_neg (by simp [e2]; omega)]
        have hn : ¬ n.toNat = 1 := by omega
        have z : repStr a n.toNat = ⟨(List.replicate n.toNat a.cps).foldl (· ++ ·) #[]⟩ := by unfold repStr; exact if_neg hn
        rw [z] at q h4
        exact ⟨h4, .str _, H, I.tok _, ⟨_, rfl⟩, q⟩
def rMulA (K : PySem.W.Frag) : R2 := fun x y H Q => rI CMulW (fun i j => .int (i * j)) x y H Q ∨ rRepStr x y H Q ∨ rRepT K x y H Q ∨ rRep x y H Q
theorem op_mulA : OpR X (binaryOp .Mult) (rMulA X.K) := OpR.or op_mulW (OpR.or op_repStr (OpR.or op_repT op_rep))
theorem rep_rv {ρ Z : List Addr} {H : Hp} {ds : List D} {vs : List V} (r : RVs C ρ Z H ds vs) : ∀ n : Nat, RVs C ρ Z H (List.replicate n ds).flatten (List.replicate n vs).flatten
  | 0 => RVs.nil
  | n + 1 => by rw [List.replicate_succ, List.replicate_succ, List.flatten_cons, List.flatten_cons]; exact r.app (rep_rv r n)
theorem sem_mul (cell : Bool) : Sem2 C (opMul cell) (rMulA C.K) := fun W ρ Z H st σ x y v u Q S rx ry h => by
  have hsz := sizeLine_eq
  unfold opMul at h
  split at h
  · split at h
    · rw [rv_int] at rx ry
      exact .inl ⟨_, _, rx, ry, by assumption, h.now S (rv_int.mpr rfl)⟩
    · exact h.elim
  · split at h
    · rename_i hc
      rw [rv_str] at rx
      rw [rv_int] at ry
      exact .inr (.inl ⟨_, _, rx, ry, hc.1, hc.2.1, hc.2.2.1, hc.2.2.2.1, hc.2.2.2.2, h.now S (rv_str.mpr rfl)⟩)
    · exact h.elim
  · split at h
    · rename_i hc
      rw [rv_int] at ry
      obtain ⟨a, vs, rfl, t1, q1⟩ := tup_ok rx
      exact .inr (.inr (.inl ⟨a, _, vs, rfl, ry, t1, fun e => hc.1 (q1.nil_iff.mpr e), hc.2.1, hc.2.2.1, by rw [← q1.length]; exact hc.2.2.2, fun p hp => tup_new S hp (rep_rv q1 _) h⟩))
    · exact h.elim
  · split at h
    · split at h
      · rename_i xs e1 hc
        rw [rv_int] at ry
        obtain ⟨a, vs, rfl, t1, q1⟩ := asM_ok S rx e1
        refine .inr (.inr (.inr ⟨a, _, vs, rfl, ry, t1, by omega, by omega, ?_, fun p hp => mkL_ok S hp (rep_rv q1 _) h⟩))
        exact Nat.le_trans (Nat.mul_le_mul (by rw [← q1.length]; exact hc.2.2) (by omega)) (show 1000 * 1000 ≤ sizeLine by rw [hsz]; decide)
      · exact h.elim
    · exact h.elim
  · exact h.elim
def opFdiv (x y : D) (st : Sto) : Option (R D) := match x, y with | .int i, .int j => if j ≠ 0 ∧ j.natAbs.log2 < 9000 then ok1 (.int (i.fdiv j)) st else none | _, _ => none
theorem op_fdivA : OpR X (binaryOp .FloorDiv) (rI (fun _ j => j ≠ 0 ∧ j.natAbs.log2 < 9000) fun i j => .int (i.fdiv j)) := opI fun i j _ _ _ _ _ hc q => floordiv_int hc.1 q (.inl (PyProof.noPylong_of_log2 hc.2))
theorem sem_fdiv : Sem2 C opFdiv (rI (fun _ j => j ≠ 0 ∧ j.natAbs.log2 < 9000) fun i j => .int (i.fdiv j)) := fun W ρ Z H st σ x y v u Q S rx ry h => by
  unfold opFdiv at h
  split at h
  · split at h
    · rw [rv_int] at rx ry
      exact ⟨_, _, rx, ry, by assumption, h.now S (rv_int.mpr rfl)⟩
    · exact h.elim
  · exact h.elim
def opMod (x y : D) (st : Sto) : Option (R D) := match x, y with | .int i, .int j => if j ≠ 0 then ok1 (.int (i.fmod j)) st else none | _, _ => none
theorem sem_mod : Sem2 C opMod (rI (fun _ j => j ≠ 0) fun i j => .int (i.fmod j)) := fun W ρ Z H st σ x y v u Q S rx ry h => by
  unfold opMod at h
  split at h
  · split at h
    · rw [rv_int] at rx ry
      exact ⟨_, _, rx, ry, by assumption, h.now S (rv_int.mpr rfl)⟩
    · exact h.elim
  · exact h.elim
def opPow (x y : D) (st : Sto) : Option (R D) := match x, y with | .int i, .int j => if 0 ≤ j ∧ j ≤ 1000000 ∧ i.natAbs < 2 ^ 64 then ok1 (.int (i ^ j.toNat)) st else none | _, _ => none
theorem sem_pow : Sem2 C opPow (rI CPow fun i j => .int (i ^ j.toNat)) := fun W ρ Z H st σ x y v u Q S rx ry h => by
  unfold opPow at h
  split at h
  · split at h
    · rw [rv_int] at rx ry
      exact ⟨_, _, rx, ry, by assumption, h.now S (rv_int.mpr rfl)⟩
    · exact h.elim
  · exact h.elim
def opNeg (x : D) (st : Sto) : Option (R D) := match x with | .int i => ok1 (.int (-i)) st | _ => none
theorem sem_neg : Sem1 C opNeg (rU fun i => .int (-i)) := fun W ρ Z H st σ x v Q S rx h => by
  unfold opNeg at h
  split at h
  · rw [rv_int] at rx
    exact ⟨_, rx, h.now S (rv_int.mpr rfl)⟩
  · exact h.elim

/-! ### comparisons of ints and texts -/
def opCmp (f : Int → Int → Bool) (g : Str → Str → Option Bool) (x y : D) (st : Sto) : Option (R D) := match x, y with
  | .int i, .int j => ok1 (.bl (f i j)) st
  | .str a, .str b => (match g a b with | some k => ok1 (.bl k) st | none => none)
  | _, _ => none
def noStr : Str → Str → Option Bool := fun _ _ => none
theorem sem_cmpI {f : Int → Int → Bool} : Sem2 C (opCmp f noStr) (rI0 fun i j => .bl (f i j)) := fun W ρ Z H st σ x y v u Q S rx ry h => by
  unfold opCmp noStr at h
  split at h
  · rw [rv_int] at rx ry
    exact ⟨_, _, rx, ry, h.now S (rv_bl.mpr rfl)⟩
  · exact h.elim
  · exact h.elim
abbrev opLe := opCmp (fun i j => decide (i ≤ j)) noStr
abbrev opGt := opCmp (fun i j => decide (j < i)) noStr
abbrev opGe := opCmp (fun i j => decide (j ≤ i)) noStr

/-! ### == and != -/
mutual
/-- as the library's data -/
def D.py : D → Option PyData
  | .non => some .none
  | .bl b => some (.bool b)
  | .int i => some (.int i)
  | .str x => some (.str x)
  | .tup ds => (D.pys ds).map .tuple
  | .lst ds => (D.pys ds).map .list
  | _ => none
def D.pys : List D → Option (List PyData)
  | [] => some []
  | d :: ds => match D.py d, D.pys ds with | some p, some ps => some (p :: ps) | _, _ => none
end
def pyOf (st : Sto) (d : D) : Option PyData := match d with
  | .ref n => (match st[n]? with | some (.lst ds) => (D.pys ds).map .list | _ => none)
  | d => D.py d
section
variable {ρ Z : List Addr} {H : Hp} {st : Sto}
mutual
theorem py_ok : ∀ (d : D) (v : V) (p : PyData), RV C ρ Z H d v → D.py d = some p → Dp C.K H v p
  | .non, v, p, r, h => by rw [rv_non] at r; subst r; unfold D.py at h; cases h; exact .non
  | .bl b, v, p, r, h => by rw [rv_bl] at r; subst r; unfold D.py at h; cases h; exact .bl b
  | .int i, v, p, r, h => by rw [rv_int] at r; subst r; unfold D.py at h; cases h; exact .int i
  | .str x, v, p, r, h => by rw [rv_str] at r; subst r; unfold D.py at h; cases h; exact .str x
  | .tup ds, v, p, r, h => by
    unfold D.py at h
    obtain ⟨ps, e, rfl⟩ := Option.map_eq_some_iff.mp h
    obtain ⟨a, vs, rfl, t, q⟩ := tup_ok r
    exact .tup t (pys_ok ds vs ps q e)
  | .lst ds, v, p, r, h => by
    unfold D.py at h
    obtain ⟨ps, e, rfl⟩ := Option.map_eq_some_iff.mp h
    unfold RV at r
    obtain ⟨a, vs, rfl, t, q⟩ := r
    exact .lst (.inl (.inl t.1)) (pys_ok ds vs ps q e)
  | .scr _, _, _, _, h => by unfold D.py at h; cases h
  | .dct _ _, _, _, _, h => by unfold D.py at h; cases h
  | .ref _, _, _, _, h => by unfold D.py at h; cases h
  | .fn _, _, _, _, h => by unfold D.py at h; cases h
  | .exc _, _, _, _, h => by unfold D.py at h; cases h
theorem pys_ok : ∀ (ds : List D) (vs : List V) (ps : List PyData), RVs C ρ Z H ds vs → D.pys ds = some ps → DpAll C.K H vs ps
  | [], vs, ps, r, h => by unfold RVs at r; subst r; unfold D.pys at h; cases h; exact .nil
  | d :: ds, vs, ps, r, h => by
    unfold RVs at r
    obtain ⟨v, us, rfl, r1, r2⟩ := r
    unfold D.pys at h
    split at h
    · rename_i p ps' e1 e2
      cases h
      exact .cons (py_ok d v p r1 e1) (pys_ok ds us ps' r2 e2)
    · cases h
end
theorem pyOf_ok {d : D} {v : V} {p : PyData} (S : RS C ρ Z H st) (r : RV C ρ Z H d v) (h : pyOf st d = some p) : Dp C.K H v p := by
  unfold pyOf at h
  split at h
  · rename_i n
    split at h
    · rename_i ds e
      obtain ⟨ps, e2, rfl⟩ := Option.map_eq_some_iff.mp h
      unfold RV at r
      obtain ⟨a, rfl, ea⟩ := r
      obtain ⟨vs, h1, q⟩ := S.ob n a _ ea e
      exact .lst (.inl (.inl h1)) (pys_ok ds vs ps q e2)
    · cases h
  · exact py_ok _ _ _ r h
end
def scalD : D → Option V
  | .non => some .non
  | .bl b => some (.bl b)
  | .int i => some (.int i)
  | .str x => some (.str x)
  | _ => none
theorem scalD_ok {ρ Z : List Addr} {H : Hp} {d : D} {v w : V} (r : RV C ρ Z H d v) (h : scalD d = some w) : v = w := by
  unfold scalD at h
  split at h <;> cases h <;> (unfold RV at r; exact r)
/-- x == y -/
def eqD (st : Sto) (x y : D) : Option Bool :=
  match x, y with
  | .int i, .int j => some (decide (i = j))
  | .str a, .str b => some (decide (a = b))
  | .non, .non => some true
  | .bl a, .bl b => some (decide (a = b))
  | .non, .int _ => some false
  | .int _, .non => some false
  | .non, .str _ => some false
  | .str _, .non => some false
  | .int _, .str _ => some false
  | .str _, .int _ => some false
  | x, y => match pyOf st x, pyOf st y with
    | some p, some q => if SeqAt.shaped p && SeqAt.shaped q then some (PyData.eqv p q) else none
    | _, _ => none
def rEqA (K : PySem.W.Frag) : R2 := fun x y H Q => rEq x y H Q ∨ rEqD K x y H Q
def rNeA (K : PySem.W.Frag) : R2 := fun x y H Q => rNe x y H Q ∨ rNeD K x y H Q
theorem eqD_ok {ρ Z : List Addr} {H : Hp} {st : Sto} {x y : D} {v u : V} {k : Bool} (S : RS C ρ Z H st) (rx : RV C ρ Z H x v) (ry : RV C ρ Z H y u) (h : eqD st x y = some k) :
    (scal v u = true ∧ decide (v = u) = k) ∨ ∃ p q, Dp C.K H v p ∧ Dp C.K H u q ∧ SeqAt.shaped p = true ∧ SeqAt.shaped q = true ∧ PyData.eqv p q = k := by
  unfold eqD at h
  split at h
  any_goals (unfold RV at rx ry; subst rx ry; cases h; refine .inl ⟨rfl, ?_⟩; simp; done)
  split at h
  · rename_i p q e1 e2
    split at h
    · rename_i hc
      cases h
      have z := Bool.and_eq_true_iff.mp hc
      exact .inr ⟨p, q, pyOf_ok S rx e1, pyOf_ok S ry e2, z.1, z.2, rfl⟩
    · cases h
  · cases h
def opEq (x y : D) (st : Sto) : Option (R D) := match eqD st x y with | some k => ok1 (.bl k) st | none => none
def opNe (x y : D) (st : Sto) : Option (R D) := match eqD st x y with | some k => ok1 (.bl (!k)) st | none => none
theorem op_eqA (hu : X.A.units + 64 < cLine) : OpR X (compareOp .Eq) (rEqA X.K) := OpR.or op_eq (op_eqD hu)
theorem op_neA (hu : X.A.units + 64 < cLine) : OpR X (compareOp .NotEq) (rNeA X.K) := OpR.or op_ne (op_neD hu)
theorem sem_eq : Sem2 C opEq (rEqA C.K) := fun W ρ Z H st σ x y v u Q S rx ry h => by
  unfold opEq at h
  split at h
  · rename_i k e
    rcases eqD_ok S rx ry e with ⟨a, b⟩ | ⟨p, q, a, b, c, d, f⟩
    · exact .inl ⟨a, by rw [b]; exact h.now S (rv_bl.mpr rfl)⟩
    · exact .inr ⟨p, q, a, b, c, d, by rw [f]; exact h.now S (rv_bl.mpr rfl)⟩
  · exact h.elim
theorem sem_ne : Sem2 C opNe (rNeA C.K) := fun W ρ Z H st σ x y v u Q S rx ry h => by
  unfold opNe at h
  split at h
  · rename_i k e
    rcases eqD_ok S rx ry e with ⟨a, b⟩ | ⟨p, q, a, b, c, d, f⟩
    · exact .inl ⟨a, by rw [b]; exact h.now S (rv_bl.mpr rfl)⟩
    · exact .inr ⟨p, q, a, b, c, d, by rw [f]; exact h.now S (rv_bl.mpr rfl)⟩
  · exact h.elim

/-! ### is -/
def opIs (x y : D) (st : Sto) : Option (R D) := match y, x with
  | .non, x => (match x with | .non => ok1 (.bl true) st | _ => ok1 (.bl false) st)
  | .bl b, .bl a => ok1 (.bl (decide (a = b))) st
  | _, _ => none
def opIsN (x y : D) (st : Sto) : Option (R D) := match y, x with
  | .non, x => (match x with | .non => ok1 (.bl false) st | _ => ok1 (.bl true) st)
  | .bl b, .bl a => ok1 (.bl (!decide (a = b))) st
  | _, _ => none
def rIsA : R2 := fun x y H Q => (y = .non ∧ Q (.bl (decide (x = .non))) H) ∨ rIsB x y H Q
def rIsNA : R2 := fun x y H Q => (y = .non ∧ Q (.bl (!decide (x = .non))) H) ∨ rNotB x y H Q
theorem op_isA : OpR X (compareOp .Is) rIsA := OpR.or op_isN op_isBl
theorem op_isNA : OpR X (compareOp .IsNot) rIsNA := OpR.or op_notN op_notBl
theorem rv_notNone {ρ Z : List Addr} {H : Hp} {d : D} {v : V} (r : RV C ρ Z H d v) (h : d ≠ .non) : v ≠ .non := by
  cases d <;> unfold RV at r <;> first
    | exact absurd rfl h
    | (subst r; exact fun z => by cases z)
    | (obtain ⟨a, vs, o, rfl, _⟩ := r; exact fun z => by cases z)
    | (obtain ⟨a, vs, rfl, _⟩ := r; exact fun z => by cases z)
    | (obtain ⟨a, rfl, _⟩ := r; exact fun z => by cases z)
theorem sem_is : Sem2 C opIs rIsA := fun W ρ Z H st σ x y v u Q S rx ry h => by
  unfold opIs at h
  split at h
  · rw [rv_non] at ry
    split at h
    · rw [rv_non] at rx
      exact .inl ⟨ry, by rw [rx]; exact h.now S (rv_bl.mpr rfl)⟩
    · rename_i hn
      exact .inl ⟨ry, by rw [decide_eq_false (rv_notNone rx fun z => hn z)]; exact h.now S (rv_bl.mpr rfl)⟩
  · rw [rv_bl] at rx ry
    exact .inr ⟨_, _, rx, ry, h.now S (rv_bl.mpr rfl)⟩
  · exact h.elim
theorem sem_isN : Sem2 C opIsN rIsNA := fun W ρ Z H st σ x y v u Q S rx ry h => by
  unfold opIsN at h
  split at h
  · rw [rv_non] at ry
    split at h
    · rw [rv_non] at rx
      exact .inl ⟨ry, by rw [rx]; exact h.now S (rv_bl.mpr rfl)⟩
    · rename_i hn
      exact .inl ⟨ry, by rw [decide_eq_false (rv_notNone rx fun z => hn z)]; exact h.now S (rv_bl.mpr rfl)⟩
  · rw [rv_bl] at rx ry
    exact .inr ⟨_, _, rx, ry, h.now S (rv_bl.mpr rfl)⟩
  · exact h.elim
end
end Pd
end
section
set_option Elab.async false
set_option linter.all false
set_option maxRecDepth 100000
namespace Pd
open PySem PySem.Spec L2 LamX
open PyProof.Rows hiding St

section
variable {X : Cx} {C : Ct} {k : Nat}
/-- the value of a key -/
def keyD : D → Option Key
  | .int i => some (.inl i)
  | .str x => some (.inr x)
  | _ => none
theorem keyD_ok {ρ Z : List Addr} {H : Hp} {d : D} {v : V} {q : Key} (r : RV C ρ Z H d v) (h : keyD d = some q) : v = kV q := by
  unfold keyD at h
  split at h
  · cases h; exact rv_int.mp r
  · cases h; exact rv_str.mp r
  · cases h
/-- a dict: its keys, its values -/
def asD (st : Sto) : D → Option (List Key × List D)
  | .dct ks vs => some (ks, vs)
  | .ref n => match st[n]? with | some (.dct ks vs) => some (ks, vs) | _ => none
  | _ => none
theorem asD_ok {ρ Z : List Addr} {H : Hp} {st : Sto} {d : D} {v : V} {ks : List Key} {ds : List D} (S : RS C ρ Z H st) (r : RV C ρ Z H d v) (h : asD st d = some (ks, ds)) :
    ∃ a vs, v = .ref a ∧ ks.length = vs.length ∧ H a = some (.dK (ks.zip vs)) ∧ RVs C ρ Z H ds vs := by
  unfold asD at h
  split at h
  · cases h
    unfold RV at r
    obtain ⟨a, vs, e, l, t, q⟩ := r
    exact ⟨a, vs, e, l, t.1, q⟩
  · split at h
    · rename_i n _ ks' ds' e
      cases h
      unfold RV at r
      obtain ⟨a, ea, e2⟩ := r
      obtain ⟨vs, l, e3, q⟩ := S.ob n a _ e2 e
      exact ⟨a, vs, ea, l, e3, q⟩
    · cases h
  · cases h
/-- what a dict holds at a key -/
def look : List Key → List D → Key → Option D
  | k :: ks, d :: ds, q => if k = q then some d else look ks ds q
  | _, _, _ => none
theorem look_ok {ρ Z : List Addr} {H : Hp} : ∀ {ks : List Key} {ds : List D} {vs : List V} {q : Key} , RVs C ρ Z H ds vs → ks.length = vs.length →
    (look ks ds q = none ∧ valV (ks.zip vs) q = none) ∨ ∃ d v, look ks ds q = some d ∧ valV (ks.zip vs) q = some v ∧ RV C ρ Z H d v
  | [], ds, vs, q, r, l => .inl ⟨by unfold look; rfl, by simp [valV]⟩
  | k :: ks, [], vs, q, r, l => by unfold RVs at r; subst r; cases l
  | k :: ks, d :: ds, vs, q, r, l => by
    unfold RVs at r
    obtain ⟨v, us, rfl, r1, r2⟩ := r
    rw [List.zip_cons_cons]
    unfold look
    by_cases e : k = q
    · rw [if_pos e, valV_pos (p := (k, v)) e]
      exact .inr ⟨d, v, rfl, rfl, r1⟩
    · rw [if_neg e, valV_neg (p := (k, v)) e]
      exact look_ok r2 (by simpa using l)

/-! ### subscripts -/
def opIx (x y : D) (st : Sto) : Option (R D) :=
  match x with
  | .tup ds => (match y with | .int i => (match atI ds i with | some d => ok1 d st | none => none) | _ => none)
  | .str z => (match y with | .int i => if z.length ≤ sizeLine then (match atI z.cps.toList i with | some c => ok1 (.str ⟨#[c]⟩) st | none => none) else none | _ => none)
  | x => match asL st x with
    | some ds => (match y with | .int i => (match atI ds i with | some d => ok1 d st | none => none) | _ => none)
    | none => match asD st x, keyD y with
      | some (ks, vs), some q => (match look ks vs q with | some d => ok1 d st | none => none)
      | _, _ => none
def rIxD : R2 := fun x y H Q => ∃ a v, x = .ref a ∧ DGet H a y (some v) ∧ Q v H
theorem ix_dict (hu : X.A.units + 1 < cLine) : IxR X rIxD := by
  intro value slice pins s σ H x y v u Q I rx ry h hs
  obtain ⟨a, z, rfl, g, q⟩ := h
  cases rx
  exact tail_any (dict_typeIs I g) PySem.F.slot_dict_getitem.lookup (d_getItem hu I g ry fun w' s' I' r' => ⟨z, H, I', r', q⟩) hs
def rIxA (K : PySem.W.Frag) : R2 := fun x y H Q => rIx K x y H Q ∨ rIxD x y H Q
theorem ix_any (hu : X.A.units + 1 < cLine) : IxR X (rIxA X.K) := IxR.or ix_seq (ix_dict hu)
theorem ixN_rel {ρ Z : List Addr} {H : Hp} {ds : List D} {vs : List V} {i : Int} {d : D} (r : RVs C ρ Z H ds vs) (h : atI ds i = some d) : ∃ v, atI vs i = some v ∧ RV C ρ Z H d v := by
  unfold atI at h ⊢
  rw [← r.length]
  cases e : ixN ds.length i with
  | none => rw [e] at h; cases h
  | some j =>
    rw [e] at h
    exact r.get h
theorem sem_ix : Sem2 C opIx (rIxA C.K) := fun W ρ Z H st σ x y v u Q S rx ry h => by
  unfold opIx at h
  split at h
  · split at h
    · split at h
      · rename_i e
        rw [rv_int] at ry
        obtain ⟨a, vs, rfl, t, q⟩ := tup_ok rx
        obtain ⟨w, e2, r2⟩ := ixN_rel q e
        exact .inl (.inr (.inl ⟨a, vs, _, w, rfl, ry, t, e2, h.now S r2⟩))
      · exact h.elim
    · exact h.elim
  · split at h
    · split at h
      · split at h
        · rename_i hl _ c e
          rw [rv_int] at ry
          rw [rv_str] at rx
          exact .inl (.inr (.inr ⟨_, _, c, rx, ry, hl, e, h.now S (rv_str.mpr rfl)⟩))
        · exact h.elim
      · exact h.elim
    · exact h.elim
  · split at h
    · rename_i ds e0
      split at h
      · split at h
        · rename_i e
          rw [rv_int] at ry
          obtain ⟨a, vs, rfl, t, q⟩ := asL_ok S rx e0
          obtain ⟨w, e2, r2⟩ := ixN_rel q e
          exact .inl (.inl ⟨a, vs, _, w, rfl, ry, t, e2, h.now S r2⟩)
        · exact h.elim
      · exact h.elim
    · split at h
      · rename_i ks vs q e1 e2
        split at h
        · rename_i d e3
          obtain ⟨a, us, rfl, l, t, r⟩ := asD_ok S rx e1
          have ey := keyD_ok ry e2
          rcases look_ok (q := q) r l with ⟨z, _⟩ | ⟨d', w, z1, z2, z3⟩
          · rw [z] at e3; cases e3
          · rw [z1] at e3
            cases e3
            refine .inr ⟨a, w, rfl, ?_, h.now S z3⟩
            rw [ey, ← z2]
            exact DGet.k t
        · exact h.elim
      · exact h.elim

/-! ### slices -/
def cutD (xs : List D) (lo hi : Option Int) : List D := (xs.drop (HT.sIx xs.length 0 lo)).take (HT.sIx xs.length xs.length hi - HT.sIx xs.length 0 lo)
def opSl (cell : Bool) (x : D) (lo hi : Option Int) (st : Sto) : Option (R D) :=
  match x with
  | .tup ds => ok1 (.tup (cutD ds lo hi)) st
  | .str z => if z.length ≤ sizeLine then ok1 (.str (cutS z lo hi)) st else none
  | x => match asL st x with | some ds => mkL cell (cutD ds lo hi) st | none => none
theorem cut_rv {ρ Z : List Addr} {H : Hp} {ds : List D} {vs : List V} {lo hi : Option Int} (r : RVs C ρ Z H ds vs) : RVs C ρ Z H (cutD ds lo hi) (cutV vs lo hi) := by
  unfold cutD cutV
  rw [← r.length]
  exact (r.drop _).take _
def rSlAll (K : PySem.W.Frag) : V → Option Int → Option Int → Hp → VK → Prop := fun x lo hi H Q => rSlA K x lo hi H Q ∨ rSlS x lo hi H Q ∨ rSlL K x lo hi H Q
theorem sl_all : SlR X (rSlAll X.K) := SlR.or sl_tupA (SlR.or sl_str sl_list)
theorem sem_sl (cell : Bool) : SemS C (opSl cell) (rSlAll C.K) := fun W ρ Z H st σ x v lo hi Q S rx h => by
  unfold opSl at h
  split at h
  · rename_i ds
    obtain ⟨a, vs, rfl, t, q⟩ := tup_ok rx
    refine .inl ⟨a, vs, rfl, t, fun hw => ?_, fun hw p hp => tup_new S hp (cut_rv q) h⟩
    have z : cutD ds lo hi = ds := by
      unfold cutD
      rw [q.length, hw.1, hw.2, List.drop_zero, Nat.sub_zero, ← q.length, List.take_length]
    rw [z] at h
    exact h.now S rx
  · split at h
    · rw [rv_str] at rx
      exact .inr (.inl ⟨_, rx, by assumption, h.now S (rv_str.mpr rfl)⟩)
    · exact h.elim
  · split at h
    · rename_i e
      obtain ⟨a, vs, rfl, t, q⟩ := asL_ok S rx e
      exact .inr (.inr ⟨a, vs, rfl, t, fun p hp => mkL_ok S hp (cut_rv q) h⟩)
    · exact h.elim

/-! ### in -/
/-- x in y -/
def inD (st : Sto) (x y : D) : Option Bool :=
  match y with
  | .str b => (match x with | .str a => (match a.cps.toList with | [c] => some (decide (c ∈ b.cps.toList)) | _ => none) | _ => none)
  | .tup ds => (match D.py x, D.pys ds with | some p, some ps => if SeqAt.shaped p && SeqAt.shaped (.tuple ps) then some (ps.any fun z => PyData.eqv z p) else none | _, _ => none)
  | y => match asM st y with
    | some ds => (match D.py x, D.pys ds with | some p, some ps => if SeqAt.shaped p && SeqAt.shaped (.list ps) then some (ps.any fun z => PyData.eqv z p) else none | _, _ => none)
    | none => match asD st y, keyD x with
      | some (ks, vs), some q => some (look ks vs q).isSome
      | _, _ => none
def rInTup (K : PySem.W.Frag) (neg : Bool) : R2 := fun x y H Q => ∃ d ds, Dp K H x d ∧ Dp K H y (.tuple ds) ∧ SeqAt.shaped d = true ∧ SeqAt.shaped (.tuple ds) = true ∧ Q (.bl (if neg then !ds.any fun z => PyData.eqv z d else ds.any fun z => PyData.eqv z d)) H
theorem room_tup {A : Around} {d : PyData} {ds : List PyData} (sd : SeqAt.shaped d = true) (hu : A.units + 65 < cLine) : A.units + 1 + min (PyData.depthAll ds) d.depth < cLine := by
  have h1 := SeqAt.depth_of_shaped sd
  have h2 : min (PyData.depthAll ds) d.depth ≤ d.depth := Nat.min_le_right _ _
  omega
theorem op_inTup (hu : X.A.units + 65 < cLine) : OpR X (compareOp .In) (rInTup X.K false) := by
  intro pins s σ H x y v u Q I rx ry h
  obtain ⟨d, ds, hd, he, sd, se, q⟩ := h
  obtain ⟨as, r1⟩ := Dp.reads I d x v hd rx
  obtain ⟨bs, r2⟩ := Dp.reads I (.tuple ds) y u he ry
  exact SeqAt.in_tuple_reads r2 r1 (SeqAt.canLay_of_shaped se) (SeqAt.canLay_of_shaped sd) (room_tup sd hu) ⟨.bl _, H, I, rfl, q⟩
theorem op_notInTup (hu : X.A.units + 65 < cLine) : OpR X (compareOp .NotIn) (rInTup X.K true) := by
  intro pins s σ H x y v u Q I rx ry h
  obtain ⟨d, ds, hd, he, sd, se, q⟩ := h
  obtain ⟨as, r1⟩ := Dp.reads I d x v hd rx
  obtain ⟨bs, r2⟩ := Dp.reads I (.tuple ds) y u he ry
  exact SeqAt.notIn_tuple_reads r2 r1 (SeqAt.canLay_of_shaped se) (SeqAt.canLay_of_shaped sd) (room_tup sd hu) ⟨.bl _, H, I, rfl, q⟩
def rInDict (neg : Bool) : R2 := fun x y H Q => ∃ a o, y = .ref a ∧ DGet H a x o ∧ Q (.bl (if neg then !o.isSome else o.isSome)) H
theorem op_inDict (hu : X.A.units + 1 < cLine) : OpR X (compareOp .In) (rInDict false) := by
  intro pins s σ H x y v u Q I rx ry h
  obtain ⟨a, o, rfl, g, q⟩ := h
  cases ry
  exact d_in hu I g rx fun s' I' => ⟨.bl _, H, I', rfl, q⟩
theorem op_notInDict (hu : X.A.units + 1 < cLine) : OpR X (compareOp .NotIn) (rInDict true) := by
  intro pins s σ H x y v u Q I rx ry h
  obtain ⟨a, o, rfl, g, q⟩ := h
  cases ry
  exact d_notIn hu I g rx fun s' I' => ⟨.bl _, H, I', rfl, q⟩
def rSign (neg : Bool) : R2 := fun x y H Q => ∃ (c : Nat) (z : Str), x = .str ⟨#[c]⟩ ∧ y = .str z ∧ Q (.bl (if neg then !decide (c ∈ z.cps.toList) else decide (c ∈ z.cps.toList))) H
def rInA (K : PySem.W.Frag) (neg : Bool) : R2 := fun x y H Q => rSign neg x y H Q ∨ rInTup K neg x y H Q ∨ (if neg then rNotInD K x y H Q else rInD K x y H Q) ∨ rInDict neg x y H Q
theorem op_inA (hu : X.A.units + 65 < cLine) : OpR X (compareOp .In) (rInA X.K false) := OpR.or op_in_sign (OpR.or (op_inTup hu) (OpR.or (op_inD hu) (op_inDict (by omega))))
theorem op_notInA (hu : X.A.units + 65 < cLine) : OpR X (compareOp .NotIn) (rInA X.K true) := OpR.or op_notIn_sign (OpR.or (op_notInTup hu) (OpR.or (op_notInD hu) (op_notInDict (by omega))))
theorem str_of {a : Str} {l : List Nat} (h : a.cps.toList = l) : a = ⟨l.toArray⟩ := by
  cases a
  subst h
  simp
theorem inD_ok {ρ Z : List Addr} {H : Hp} {st : Sto} {x y : D} {v u : V} {k : Bool} (S : RS C ρ Z H st) (rx : RV C ρ Z H x v) (ry : RV C ρ Z H y u) (h : inD st x y = some k) (neg : Bool) (Q : VK) (q : Q (.bl (if neg then !k else k)) H) : rInA C.K neg v u H Q := by
  unfold inD at h
  split at h
  · split at h
    · split at h
      · rename_i c e
        cases h
        rw [rv_str] at rx ry
        exact .inl ⟨c, _, by rw [rx, str_of e], ry, q⟩
      · cases h
    · cases h
  · split at h
    · rename_i ds p ps e1 e2
      split at h
      · rename_i hc
        cases h
        have z := Bool.and_eq_true_iff.mp hc
        obtain ⟨a, vs, rfl, t, q2⟩ := tup_ok ry
        exact .inr (.inl ⟨p, ps, py_ok _ _ _ rx e1, .tup t (pys_ok _ _ _ q2 e2), z.1, z.2, q⟩)
      · cases h
    · cases h
  · split at h
    · rename_i ds e0
      split at h
      · rename_i p ps e1 e2
        split at h
        · rename_i hc
          cases h
          have z := Bool.and_eq_true_iff.mp hc
          obtain ⟨a, vs, rfl, t, q2⟩ := asM_ok S ry e0
          refine .inr (.inr (.inl ?_))
          cases neg with
          | true => exact ⟨p, ps, py_ok _ _ _ rx e1, .lst (.inl (.inl t)) (pys_ok _ _ _ q2 e2), z.1, z.2, q⟩
          | false => exact ⟨p, ps, py_ok _ _ _ rx e1, .lst (.inl (.inl t)) (pys_ok _ _ _ q2 e2), z.1, z.2, q⟩
        · cases h
      · cases h
    · split at h
      · rename_i ks vs qk e1 e2
        cases h
        obtain ⟨a, us, rfl, l, t, r⟩ := asD_ok S ry e1
        have ex := keyD_ok rx e2
        refine .inr (.inr (.inr ⟨a, valV (ks.zip us) qk, rfl, by rw [ex]; exact DGet.k t, ?_⟩))
        rcases look_ok (q := qk) r l with ⟨z1, z2⟩ | ⟨d', w, z1, z2, z3⟩
        · rw [z1] at q; rw [z2]; exact q
        · rw [z1] at q; rw [z2]; exact q
      · cases h
def opIn (x y : D) (st : Sto) : Option (R D) := match inD st x y with | some k => ok1 (.bl k) st | none => none
def opNotIn (x y : D) (st : Sto) : Option (R D) := match inD st x y with | some k => ok1 (.bl (!k)) st | none => none
theorem sem_in : Sem2 C opIn (rInA C.K false) := fun W ρ Z H st σ x y v u Q S rx ry h => by
  unfold opIn at h
  split at h
  · rename_i k e
    exact inD_ok S rx ry e false Q (h.now S (rv_bl.mpr rfl))
  · exact h.elim
theorem sem_notIn : Sem2 C opNotIn (rInA C.K true) := fun W ρ Z H st σ x y v u Q S rx ry h => by
  unfold opNotIn at h
  split at h
  · rename_i k e
    exact inD_ok S rx ry e true Q (h.now S (rv_bl.mpr rfl))
  · exact h.elim

/-! ### calls of built-ins -/
def fLen (xs : List D) (st : Sto) : Option (R D) := match xs with
  | [.str z] => if z.length ≤ sizeLine then ok1 (.int z.length) st else none
  | [x] => (match asS st x with | some ds => ok1 (.int ds.length) st | none => none)
  | _ => none
def rLen (K : PySem.W.Frag) : List V → Hp → VK → Prop := fun xs H Q => (∃ z, xs = [.str z] ∧ z.length ≤ sizeLine ∧ Q (.int z.length) H) ∨ (∃ p ys, xs = [.ref p] ∧ (SqL K H p ys ∨ SqT K H p ys) ∧ Q (.int ys.length) H)
theorem call_lenA : CallR X (.builtin "len") (rLen X.K) := CallR.or call_len_str call_len_seq
theorem sem_len : SemL C fLen (rLen C.K) := fun W ρ Z H st σ xs vs Q S r h => by
  unfold fLen at h
  split at h
  · obtain ⟨v, rfl, rv⟩ := vs1 r
    rw [rv_str] at rv
    subst rv
    split at h
    · exact .inl ⟨_, rfl, by assumption, h.now S (rv_int.mpr rfl)⟩
    · exact h.elim
  · obtain ⟨v, rfl, rv⟩ := vs1 r
    split at h
    · rename_i e
      obtain ⟨a, us, rfl, t, q⟩ := asS_ok S rv e
      rw [q.length] at h
      exact .inr ⟨a, us, rfl, t, h.now S (rv_int.mpr rfl)⟩
    · exact h.elim
  · exact h.elim
def fAbs (xs : List D) (st : Sto) : Option (R D) := match xs with | [.int i] => ok1 (.int (if i < 0 then -i else i)) st | _ => none
theorem sem_abs : SemL C fAbs (fun xs H Q => ∃ i, xs = [.int i] ∧ Q (.int (if i < 0 then -i else i)) H) := fun W ρ Z H st σ xs vs Q S r h => by
  unfold fAbs at h
  split at h
  · obtain ⟨v, rfl, rv⟩ := vs1 r
    rw [rv_int] at rv
    subst rv
    exact ⟨_, rfl, h.now S (rv_int.mpr rfl)⟩
  · exact h.elim
def fInt (xs : List D) (st : Sto) : Option (R D) := match xs with | [.int i] => ok1 (.int i) st | [.bl b] => ok1 (.int (if b then 1 else 0)) st | _ => none
theorem sem_int : SemL C fInt (fun xs H Q => (∃ i, xs = [.int i] ∧ Q (.int i) H) ∨ ∃ k, xs = [.bl k] ∧ Q (.int (if k then 1 else 0)) H) := fun W ρ Z H st σ xs vs Q S r h => by
  unfold fInt at h
  split at h
  · obtain ⟨v, rfl, rv⟩ := vs1 r
    rw [rv_int] at rv
    subst rv
    exact .inl ⟨_, rfl, h.now S (rv_int.mpr rfl)⟩
  · obtain ⟨v, rfl, rv⟩ := vs1 r
    rw [rv_bl] at rv
    subst rv
    exact .inr ⟨_, rfl, h.now S (rv_int.mpr rfl)⟩
  · exact h.elim
def fMin2 (xs : List D) (st : Sto) : Option (R D) := match xs with | [.int i, .int j] => ok1 (.int (if j < i then j else i)) st | _ => none
theorem sem_min2 : SemL C fMin2 (fun xs H Q => ∃ i j, xs = [.int i, .int j] ∧ Q (.int (if j < i then j else i)) H) := fun W ρ Z H st σ xs vs Q S r h => by
  unfold fMin2 at h
  split at h
  · obtain ⟨v, u, rfl, rv, ru⟩ := vs2 r
    rw [rv_int] at rv ru
    subst rv ru
    exact ⟨_, _, rfl, h.now S (rv_int.mpr rfl)⟩
  · exact h.elim
def fGcd (xs : List D) (st : Sto) : Option (R D) := match xs with | [.int i, .int j] => ok1 (.int ((Nat.gcd i.natAbs j.natAbs : Nat) : Int)) st | _ => none
theorem sem_gcd : SemL C fGcd rGcd := fun W ρ Z H st σ xs vs Q S r h => by
  unfold fGcd at h
  split at h
  · obtain ⟨v, u, rfl, rv, ru⟩ := vs2 r
    rw [rv_int] at rv ru
    subst rv ru
    exact ⟨_, _, rfl, h.now S (rv_int.mpr rfl)⟩
  · exact h.elim
/-- tuple(..), list(..) -/
def fTuple (xs : List D) (st : Sto) : Option (R D) := match xs with
  | [.tup ds] => ok1 (.tup ds) st
  | [x] => (match asL st x with | some ds => ok1 (.tup ds) st | none => none)
  | _ => none
theorem sem_tuple : SemL C fTuple (fun xs H Q => ∃ p ys, xs = [.ref p] ∧ ((SqL C.K H p ys ∧ ∀ l, H l = none → Q (.ref l) (upd H l (.tup ys))) ∨ (SqT C.K H p ys ∧ Q (.ref p) H))) := fun W ρ Z H st σ xs vs Q S r h => by
  unfold fTuple at h
  split at h
  · obtain ⟨v, rfl, rv⟩ := vs1 r
    obtain ⟨a, us, rfl, t, q⟩ := tup_ok rv
    exact ⟨a, us, rfl, .inr ⟨t, h.now S rv⟩⟩
  · obtain ⟨v, rfl, rv⟩ := vs1 r
    split at h
    · rename_i e
      obtain ⟨a, us, rfl, t, q⟩ := asL_ok S rv e
      exact ⟨a, us, rfl, .inl ⟨t, fun p hp => tup_new S hp q h⟩⟩
    · exact h.elim
  · exact h.elim
def fList (cell : Bool) (xs : List D) (st : Sto) : Option (R D) := match xs with
  | [x] => (match asS st x with | some ds => mkL cell ds st | none => none)
  | _ => none
theorem sem_list (cell : Bool) : SemL C (fList cell) (fun xs H Q => ∃ p ys, xs = [.ref p] ∧ (SqL C.K H p ys ∨ SqT C.K H p ys) ∧ ∀ l, H l = none → Q (.ref l) (upd H l (.lst ys))) := fun W ρ Z H st σ xs vs Q S r h => by
  unfold fList at h
  split at h
  · obtain ⟨v, rfl, rv⟩ := vs1 r
    split at h
    · rename_i e
      obtain ⟨a, us, rfl, t, q⟩ := asS_ok S rv e
      exact ⟨a, us, rfl, t, fun p hp => mkL_ok S hp q h⟩
    · exact h.elim
  · exact h.elim
/-- lists of truths, of intsD -/
def bls : List D → Option (List Bool)
  | [] => some []
  | .bl b :: ds => (bls ds).map (b :: ·)
  | _ => none
def intsD : List D → Option (List Int)
  | [] => some []
  | .int b :: ds => (intsD ds).map (b :: ·)
  | _ => none
theorem bls_ok {ρ Z : List Addr} {H : Hp} : ∀ {ds : List D} {vs : List V} {bs : List Bool}, RVs C ρ Z H ds vs → bls ds = some bs → vs = bs.map V.bl
  | [], vs, bs, r, h => by unfold RVs at r; subst r; cases h; rfl
  | d :: ds, vs, bs, r, h => by
    unfold RVs at r
    obtain ⟨v, us, rfl, r1, r2⟩ := r
    unfold bls at h
    split at h
    · rename_i e; cases e
    · rename_i e
      cases e
      obtain ⟨cs, e2, rfl⟩ := Option.map_eq_some_iff.mp h
      rw [rv_bl] at r1
      rw [r1, bls_ok r2 e2]; rfl
    · cases h
theorem intsD_ok {ρ Z : List Addr} {H : Hp} : ∀ {ds : List D} {vs : List V} {bs : List Int}, RVs C ρ Z H ds vs → intsD ds = some bs → vs = bs.map V.int
  | [], vs, bs, r, h => by unfold RVs at r; subst r; cases h; rfl
  | d :: ds, vs, bs, r, h => by
    unfold RVs at r
    obtain ⟨v, us, rfl, r1, r2⟩ := r
    unfold intsD at h
    split at h
    · rename_i e; cases e
    · rename_i e
      cases e
      obtain ⟨cs, e2, rfl⟩ := Option.map_eq_some_iff.mp h
      rw [rv_int] at r1
      rw [r1, intsD_ok r2 e2]; rfl
    · cases h
def fAll (xs : List D) (st : Sto) : Option (R D) := match xs with
  | [x] => (match asL st x with | some ds => (match bls ds with | some bs => ok1 (.bl (bs.all id)) st | none => none) | none => none)
  | _ => none
def fAny (xs : List D) (st : Sto) : Option (R D) := match xs with
  | [x] => (match asL st x with | some ds => (match bls ds with | some bs => ok1 (.bl (bs.any id)) st | none => none) | none => none)
  | _ => none
def fSum (xs : List D) (st : Sto) : Option (R D) := match xs with
  | [x] => (match asL st x with | some ds => (match intsD ds with | some bs => ok1 (.int bs.sum) st | none => none) | none => none)
  | _ => none
theorem sem_all : SemL C fAll (rAll C.K) := fun W ρ Z H st σ xs vs Q S r h => by
  unfold fAll at h
  split at h
  · obtain ⟨v, rfl, rv⟩ := vs1 r
    split at h
    · split at h
      · rename_i e _ bs e2
        obtain ⟨a, us, rfl, t, q⟩ := asL_ok S rv e
        have z := bls_ok q e2
        subst z
        exact ⟨a, bs, rfl, t, h.now S (rv_bl.mpr rfl)⟩
      · exact h.elim
    · exact h.elim
  · exact h.elim
theorem sem_any : SemL C fAny (rAny C.K) := fun W ρ Z H st σ xs vs Q S r h => by
  unfold fAny at h
  split at h
  · obtain ⟨v, rfl, rv⟩ := vs1 r
    split at h
    · split at h
      · rename_i e _ bs e2
        obtain ⟨a, us, rfl, t, q⟩ := asL_ok S rv e
        have z := bls_ok q e2
        subst z
        exact ⟨a, bs, rfl, t, h.now S (rv_bl.mpr rfl)⟩
      · exact h.elim
    · exact h.elim
  · exact h.elim
theorem sem_sum : SemL C fSum (rSum C.K) := fun W ρ Z H st σ xs vs Q S r h => by
  unfold fSum at h
  split at h
  · obtain ⟨v, rfl, rv⟩ := vs1 r
    split at h
    · split at h
      · rename_i e _ bs e2
        obtain ⟨a, us, rfl, t, q⟩ := asL_ok S rv e
        have z := intsD_ok q e2
        subst z
        exact ⟨a, bs, rfl, t, h.now S (rv_int.mpr rfl)⟩
      · exact h.elim
    · exact h.elim
  · exact h.elim
end
end Pd
end
section
set_option Elab.async false
set_option linter.all false
set_option maxRecDepth 100000
namespace Pd
open PySem PySem.Spec L2 LamX
open PyProof.Rows hiding St

section
variable {X : Cx} {C : Ct} {W : WX} {k : Nat}
/-! ### methods of built-ins -/
def isL (x : D) (st : Sto) : Bool := (asM st x).isSome
def dMethL (f : D → List D → Sto → Option (R D)) (a : Den) (l : DenL) : Den := fun env st => bindR (a env st) fun x st => if isL x st then bindR (l env st) fun xs st => f x xs st else none
variable {o e : Expr} {es : List Expr} {dO : Den} {dl : DenL} {name : Str} {apos cpos : Pos} {id : String} {r : V → List V → Hp → VK → Prop} {f : D → List D → Sto → Option (R D)}
theorem list_ty {ρ Z : List Addr} {H : Hp} {st : Sto} {x : D} {v : V} (S : RS C ρ Z H st) (rx : RV C ρ Z H x v) (h : isL x st = true) : tyV C.K "list" v H := by
  unfold isL at h
  obtain ⟨ds, e⟩ := Option.isSome_iff_exists.mp h
  obtain ⟨a, vs, rfl, t, q⟩ := asM_ok S rx e
  exact .inl ⟨rfl, vs, .inl (.inl t)⟩
theorem pd_ml [g : Go X C W k] (slot : Slot "list" name id) (hty : typeOf (.builtin id) = pure (.type "method_descriptor")) (hm : MtR X id r) (s : SemM C f r) (ho : PD X C W o dO) (ha : PDL X C W (e :: es) dl)
    (hbase : attributeBase o name X.env (eval o X.env) = eval o X.env := by rfl)
    (hfew : ((backTo cpos (starEach (e :: es) X.env)).all (fun x => !x.1) && (backToKw cpos (keywordEach [] X.env)).all (fun x => x.1.isSome)
      && decide ((e :: es).length + ([] : List Keyword).length + (if ([] : List Keyword).isEmpty then 0 else 1) < 30)) = true := by rfl)
    (hline : (apos.endLine == cpos.line) = true := by rfl) (hs : starEach (e :: es) X.env = (false, eval e X.env) :: starEach es X.env := by rfl) (hplain : (backTo cpos (starEach es X.env)).any (·.1) = false := by rfl) :
    PD X C W (.Call (.Attribute o name apos) (e :: es) [] cpos) (dMethL f dO dl) :=
  pe_imp (pe_bm PySem.F.plainAttrs_list slot hty hm ho ha hbase hfew hline hs hplain) fun σ H Q ⟨ρ, Z, env, st, S, E, h⟩ => tD_mono (seqE S E h) fun v H1 ⟨ρ1, st1, x, S1, E1, rx, _, _, h1⟩ => by
    split at h1
    · rename_i hc
      exact ⟨by rw [g.hK]; exact list_ty S1 rx hc, tDL_mono (seqLE S1 E1 h1) fun vs H2 ⟨ρ2, st2, xs, S2, E2, rxs, x2, _, h2⟩ => s _ _ _ _ _ _ _ _ _ _ _ S2 (rx.ext x2) rxs h2⟩
    · exact h1.elim
def dMethL0 (f : D → List D → Sto → Option (R D)) (a : Den) : Den := fun env st => bindR (a env st) fun x st => if isL x st then f x [] st else none
theorem pd_ml0 [g : Go X C W k] (slot : Slot "list" name id) (hty : typeOf (.builtin id) = pure (.type "method_descriptor")) (hm : MtR X id r) (s : SemM C f r) (ho : PD X C W o dO)
    (hbase : attributeBase o name X.env (eval o X.env) = eval o X.env := by rfl) (hline : (apos.endLine == cpos.line) = true := by rfl) :
    PD X C W (.Call (.Attribute o name apos) [] [] cpos) (dMethL0 f dO) :=
  pe_imp (pe_bm0 PySem.F.plainAttrs_list slot hty hm ho hbase hline) fun σ H Q ⟨ρ, Z, env, st, S, E, h⟩ => tD_mono (seqE S E h) fun v H1 ⟨ρ1, st1, x, S1, E1, rx, _, _, h1⟩ => by
    split at h1
    · rename_i hc
      exact ⟨by rw [g.hK]; exact list_ty S1 rx hc, s _ _ _ _ _ _ _ _ _ _ _ S1 rx RVs.nil h1⟩
    · exact h1.elim
/-- a cell that is a list -/
def cellL (st : Sto) : D → Option (Nat × List D)
  | .ref n => match st[n]? with | some (.lst ds) => some (n, ds) | _ => none
  | _ => none
theorem cellL_ok {ρ Z : List Addr} {H : Hp} {st : Sto} {d : D} {v : V} {n : Nat} {ds : List D} (S : RS C ρ Z H st) (r : RV C ρ Z H d v) (h : cellL st d = some (n, ds)) :
    ∃ a vs, v = .ref a ∧ ρ[n]? = some a ∧ H a = some (.lst vs) ∧ RVs C ρ Z H ds vs := by
  unfold cellL at h
  split at h
  · split at h
    · rename_i e
      cases h
      unfold RV at r
      obtain ⟨a, ea, e2⟩ := r
      obtain ⟨vs, e3, q⟩ := S.ob _ a _ e2 e
      exact ⟨a, vs, ea, e2, e3, q⟩
    · cases h
  · cases h
/-- behind a store to a list cell -/
theorem wr_ok {ρ Z : List Addr} {H : Hp} {st : Sto} {σ : St} {n : Nat} {a : Addr} {ds : List D} {vs : List V} {d : D} {v : V} {Q : VK} (S : RS C ρ Z H st) (e : ρ[n]? = some a) (r : RVs C ρ Z H ds vs) (rv : RV C ρ Z H d v)
    (h : After C W ρ Z H σ (some (.ok d (st.set n (.lst ds)))) Q) : Q v (upd H a (.lst vs)) := by
  have x : Ext ρ H ρ (upd H a (.lst vs)) := Ext.write (List.mem_of_getElem? e)
  exact h ρ _ v x (S.write e ⟨vs, upd_same, r.ext x⟩) (rv.ext x)
def mAppend (x : D) (xs : List D) (st : Sto) : Option (R D) := match xs with
  | [y] => (match cellL st x with | some (n, ds) => if ds.length < sizeLine then some (.ok .non (st.set n (.lst (ds ++ [y])))) else none | none => none)
  | _ => none
theorem sem_append : SemM C mAppend rAppend := fun W ρ Z H st σ x v xs vs Q S rx rs h => by
  unfold mAppend at h
  split at h
  · obtain ⟨u, rfl, ru⟩ := vs1 rs
    split at h
    · split at h
      · rename_i n ds e hl
        obtain ⟨a, us, rfl, ea, t, q⟩ := cellL_ok S rx e
        exact ⟨a, us, u, rfl, rfl, t, by rw [← q.length]; exact hl, wr_ok S ea (q.snoc ru) (rv_non.mpr rfl) h⟩
      · exact h.elim
    · exact h.elim
  · exact h.elim
def mExtend (x : D) (xs : List D) (st : Sto) : Option (R D) := match xs with
  | [y] => (match cellL st x, asM st y with | some (n, ds), some zs => if ds.length + zs.length ≤ sizeLine then some (.ok .non (st.set n (.lst (ds ++ zs)))) else none | _, _ => none)
  | _ => none
theorem sem_extend : SemM C mExtend rExtend := fun W ρ Z H st σ x v xs vs Q S rx rs h => by
  unfold mExtend at h
  split at h
  · obtain ⟨u, rfl, ru⟩ := vs1 rs
    split at h
    · split at h
      · rename_i n ds zs e e2 hl
        obtain ⟨a, us, rfl, ea, t, q⟩ := cellL_ok S rx e
        obtain ⟨b, ws, rfl, t2, q2⟩ := asM_ok S ru e2
        exact ⟨a, b, us, ws, rfl, rfl, t, t2, by rw [← q.length, ← q2.length]; exact hl, wr_ok S ea (q.app q2) (rv_non.mpr rfl) h⟩
      · exact h.elim
    · exact h.elim
  · exact h.elim
def mPop (x : D) (xs : List D) (st : Sto) : Option (R D) := match xs with
  | [] => (match cellL st x with | some (n, ds) => (match ds[ds.length - 1]? with | some d => some (.ok d (st.set n (.lst ds.dropLast))) | none => none) | none => none)
  | _ => none
theorem RVs.dropLast {ρ Z : List Addr} {H : Hp} {ds : List D} {vs : List V} (r : RVs C ρ Z H ds vs) : RVs C ρ Z H ds.dropLast vs.dropLast := by
  rw [List.dropLast_eq_take, List.dropLast_eq_take, r.length]; exact r.take _
theorem sem_pop : SemM C mPop rPop := fun W ρ Z H st σ x v xs vs Q S rx rs h => by
  unfold mPop at h
  split at h
  · unfold RVs at rs
    subst rs
    split at h
    · split at h
      · rename cellL st x = some (_, _) => e
        rename _[_]? = some _ => e2
        obtain ⟨a, us, rfl, ea, t, q⟩ := cellL_ok S rx e
        obtain ⟨w, e3, rw'⟩ := q.get e2
        exact ⟨a, us, w, rfl, rfl, t, by rw [← q.length]; exact e3, wr_ok S ea q.dropLast rw' h⟩
      · exact h.elim
    · exact h.elim
  · exact h.elim
def mPopAt (x : D) (xs : List D) (st : Sto) : Option (R D) := match xs with
  | [.int i] => (match cellL st x with | some (n, ds) => if 0 ≤ i ∧ i < 1000000 then (match ds[i.toNat]? with | some d => some (.ok d (st.set n (.lst (ds.eraseIdx i.toNat)))) | none => none) else none | none => none)
  | _ => none
theorem sem_popAt : SemM C mPopAt rPopAt := fun W ρ Z H st σ x v xs vs Q S rx rs h => by
  unfold mPopAt at h
  split at h
  · obtain ⟨u, rfl, ru⟩ := vs1 rs
    rw [rv_int] at ru
    subst ru
    split at h
    · split at h
      · split at h
        · rename cellL st x = some (_, _) => e
          rename 0 ≤ _ ∧ _ => hc
          rename _[_]? = some _ => e2
          obtain ⟨a, us, rfl, ea, t, q⟩ := cellL_ok S rx e
          obtain ⟨w, e3, rw'⟩ := q.get e2
          refine ⟨a, us, _, Int.toNat _, w, rfl, rfl, t, by omega, by omega, ?_, e3, wr_ok S ea (q.eraseIdx _) rw' h⟩
          have hl := (List.getElem?_eq_some_iff.mp e3).1
          refine (ixN_seq ?_).1
          unfold ixN
          rw [if_pos hc.1, if_pos (by omega)]
        · exact h.elim
      · exact h.elim
    · exact h.elim
  · exact h.elim
def mInsert (x : D) (xs : List D) (st : Sto) : Option (R D) := match xs with
  | [.int i, y] => (match cellL st x with | some (n, ds) => if 0 ≤ i ∧ i < 1000000 ∧ ds.length < sizeLine then some (.ok .non (st.set n (.lst (ds.take i.toNat ++ [y] ++ ds.drop i.toNat)))) else none | none => none)
  | _ => none
theorem sem_insert : SemM C mInsert (fun x vs H Q => ∃ (l : Addr) (xs : List V) (i : Int) (y : V), x = .ref l ∧ vs = [.int i, y] ∧ H l = some (.lst xs) ∧ xs.length < sizeLine ∧ 0 ≤ i ∧ i < 2 ^ 63 ∧
    Q .non (upd H l (.lst (xs.take i.toNat ++ [y] ++ xs.drop i.toNat)))) := fun W ρ Z H st σ x v xs vs Q S rx rs h => by
  unfold mInsert at h
  split at h
  · obtain ⟨u, w, rfl, ru, rw'⟩ := vs2 rs
    rw [rv_int] at ru
    subst ru
    split at h
    · split at h
      · rename cellL st x = some (_, _) => e
        rename 0 ≤ _ ∧ _ => hc
        obtain ⟨a, us, rfl, ea, t, q⟩ := cellL_ok S rx e
        exact ⟨a, us, _, w, rfl, rfl, t, by rw [← q.length]; exact hc.2.2, hc.1, by omega, wr_ok S ea (((q.take _).snoc rw').app (q.drop _)) (rv_non.mpr rfl) h⟩
      · exact h.elim
    · exact h.elim
  · exact h.elim
/-! ### xs[i] = v, d[k] = v -/
theorem look_put {ρ Z : List Addr} {H : Hp} {q : Key} {d : D} {v : V} (rv : RV C ρ Z H d v) : ∀ {ks : List Key} {ds : List D} {vs : List V}, RVs C ρ Z H ds vs → ks.length = vs.length → True := fun _ _ => trivial
/-- in its place, or at the end -/
def putD : List Key → List D → Key → D → List Key × List D
  | k :: ks, x :: xs, q, d => if k = q then (k :: ks, d :: xs) else let r := putD ks xs q d; (k :: r.1, x :: r.2)
  | _, _, q, d => ([q], [d])
theorem putK_cons {k q : Key} {x v : V} {kvs : List (Key × V)} : putK ((k, x) :: kvs) q v = if k = q then (k, v) :: kvs.map (fun kv => if kv.1 = q then (kv.1, v) else kv) else (k, x) :: putK kvs q v := by
  unfold putK
  rw [List.any_cons]
  by_cases e : k = q
  · rw [if_pos e, decide_eq_true (show (k, x).1 = q from e), Bool.true_or, if_pos rfl, List.map_cons, if_pos (show (k, x).1 = q from e)]
  · rw [if_neg e, decide_eq_false (show ¬ (k, x).1 = q from e), Bool.false_or]
    split
    · rw [List.map_cons, if_neg (show ¬ (k, x).1 = q from e)]
    · rfl
def setOb (x y v : D) (st : Sto) : Option Sto :=
  match x with
  | .ref n => (match st[n]? with
    | some (.lst ds) => (match y with | .int i => (match ixN ds.length i with | some j => some (st.set n (.lst (ds.set j v))) | none => none) | _ => none)
    | some (.dct ks vs) => (match keyD y with | some q => if ks.Nodup ∧ ks.length < sizeLine ∧ ks.length = vs.length then some (st.set n (.dct (putD ks vs q v).1 (putD ks vs q v).2)) else none | none => none)
    | none => none)
  | _ => none
theorem put_none {q : Key} {v : V} : ∀ {ks : List Key} {vs : List V}, q ∉ ks → (ks.zip vs).map (fun kv => if kv.1 = q then (kv.1, v) else kv) = ks.zip vs
  | [], _, _ => rfl
  | _ :: _, [], _ => rfl
  | k :: ks, u :: us, h => by
    rw [List.zip_cons_cons, List.map_cons, if_neg (show ¬ (k, u).1 = q from fun z => h (by rw [← z]; exact List.mem_cons_self)), put_none (fun m => h (List.mem_cons_of_mem _ m))]
theorem put_rv {ρ Z : List Addr} {H : Hp} {q : Key} {d : D} {v : V} (rv : RV C ρ Z H d v) : ∀ {ks : List Key} {ds : List D} {vs : List V}, RVs C ρ Z H ds vs → ks.length = vs.length → ks.Nodup →
    ∃ us, (putD ks ds q d).1.length = us.length ∧ putK (ks.zip vs) q v = (putD ks ds q d).1.zip us ∧ RVs C ρ Z H (putD ks ds q d).2 us
  | [], ds, vs, r, l, n => by
    unfold putD
    have z : vs = [] := List.eq_nil_of_length_eq_zero (by rw [← l]; rfl)
    subst z
    exact ⟨[v], rfl, rfl, RVs.cons rv RVs.nil⟩
  | k :: ks, [], vs, r, l, n => by unfold RVs at r; subst r; cases l
  | k :: ks, d0 :: ds, vs, r, l, n => by
    unfold RVs at r
    obtain ⟨u, us, rfl, r1, r2⟩ := r
    have n2 := List.nodup_cons.mp n
    rw [List.zip_cons_cons, putK_cons]
    unfold putD
    by_cases e : k = q
    · rw [if_pos e, if_pos e]
      refine ⟨v :: us, by simpa using l, ?_, RVs.cons rv r2⟩
      rw [put_none (by rw [← e]; exact n2.1)]
      rfl
    · rw [if_neg e, if_neg e]
      obtain ⟨ws, h1, h2, h3⟩ := put_rv rv r2 (by simpa using l) n2.2
      exact ⟨u :: ws, by simpa using h1, by rw [h2]; rfl, RVs.cons r1 h3⟩
def rSetD : V → V → V → Hp → (Hp → Prop) → Prop := fun o i v H Q => ∃ a H', o = .ref a ∧ DPut H a i v H' ∧ Q H'
theorem set_dict (hu : X.A.units + 1 < cLine) : PSet X rSetD := by
  intro pins s σ H o i v ov iv u Q I ro ri rv h
  obtain ⟨a, H', rfl, p, q⟩ := h
  cases ro
  exact d_setItem hu I p ri rv fun s' I' => ⟨H', I', q⟩
def rSetA : V → V → V → Hp → (Hp → Prop) → Prop := fun o i v H Q => rSetL o i v H Q ∨ rSetD o i v H Q
theorem set_any (hu : X.A.units + 1 < cLine) : PSet X rSetA := fun pins s σ H o i v ov iv u Q I ro ri rv h => h.elim (set_list pins s σ H o i v ov iv u Q I ro ri rv) (set_dict hu pins s σ H o i v ov iv u Q I ro ri rv)
theorem sem_set : SemSet C setOb rSetA := fun ρ Z H st st' x y z o i v Q S rx ry rz e h => by
  unfold setOb at e
  split at e
  · rename_i n
    split at e
    · rename_i ds e0
      split at e
      · split at e
        · rename ixN _ _ = some _ => e1
          cases e
          unfold RV at rx
          obtain ⟨a, rfl, ea⟩ := rx
          obtain ⟨vs, t, q⟩ := S.ob n a _ ea e0
          rw [rv_int] at ry
          exact .inl ⟨a, vs, _, _, rfl, ry, t, by rw [← q.length]; exact e1, h _ (Ext.write (List.mem_of_getElem? ea)) (S.write ea ⟨_, upd_same, (q.set _ rz).ext (Ext.write (List.mem_of_getElem? ea))⟩)⟩
        · cases e
      · cases e
    · rename_i ks vs e0
      split at e
      · split at e
        · rename_i qk e1 hc
          cases e
          unfold RV at rx
          obtain ⟨a, rfl, ea⟩ := rx
          obtain ⟨us, l, t, q⟩ := S.ob n a _ ea e0
          have ei := keyD_ok ry e1
          obtain ⟨ws, h1, h2, h3⟩ := put_rv (q := qk) rz q l hc.1
          have x : Ext ρ H ρ (upd H a (.dK (putK (ks.zip us) qk v))) := Ext.write (List.mem_of_getElem? ea)
          refine .inr ⟨a, _, rfl, by rw [ei]; exact DPut.k t (by rw [List.length_zip, ← l, Nat.min_self]; exact hc.2.1), h _ x (S.write ea ⟨ws, h1, by rw [upd_same, h2], h3.ext x⟩)⟩
        · cases e
      · cases e
    · cases e
  · cases e
end
end Pd
end
section
set_option Elab.async false
set_option linter.all false
set_option maxRecDepth 100000
set_option maxHeartbeats 1000000
/-! zip of two sequences, each a list or a tuple -/
namespace Pd
open PySem
section
/-- the iterator at it stands at place i of the sequence at l (t: a tuple; else a list) -/
def Stand (t : Bool) (h : Heap) (it l : Addr) (i : Nat) (xs : Array Value) : Prop :=
  match t with
  | true => h.IsTupleIter it l i ∧ h.IsTuple l xs
  | false => h.IsListIter it l i ∧ h.IsList l xs
theorem Stand.put {t : Bool} {h h' : Heap} {it l c : Addr} {i : Nat} {xs : Array Value} (x : Stand t h it l i xs) (e : Heap.ExtBut c h h') (n1 : it ≠ c) (n2 : l ≠ c) : Stand t h' it l i xs := by
  cases t with
  | true => exact ⟨x.1.extBut e n1, x.2.extBut e n2⟩
  | false => exact ⟨x.1.extBut e n1, x.2.extBut e n2⟩
theorem Stand.obj {t : Bool} {h : Heap} {it l : Addr} {i : Nat} {xs : Array Value} (x : Stand t h it l i xs) : ∃ o vs, h.get? it = some o ∧ o.data = .fields vs := by
  cases t with
  | true => obtain ⟨⟨o, e, _, d⟩, _⟩ := x; exact ⟨o, _, e, d⟩
  | false => obtain ⟨⟨o, e, _, d⟩, _⟩ := x; exact ⟨o, _, e, d⟩
theorem Stand.src {t : Bool} {h : Heap} {it l : Addr} {i : Nat} {xs : Array Value} (x : Stand t h it l i xs) : ∃ o, h.get? l = some o := by
  cases t with
  | true => obtain ⟨_, o, e, _⟩ := x; exact ⟨o, e⟩
  | false => obtain ⟨_, o, e, _⟩ := x; exact ⟨o, e⟩
theorem Stand.stay {t : Bool} {h h' : Heap} {it l : Addr} {i : Nat} {xs : Array Value} (x : Stand t h it l i xs) (k1 : ∀ o, h.get? it = some o → h'.get? it = some o) (k2 : ∀ o, h.get? l = some o → h'.get? l = some o) : Stand t h' it l i xs := by
  cases t with
  | true => obtain ⟨⟨o, e, c, d⟩, o2, e2, r⟩ := x; exact ⟨⟨o, k1 _ e, c, d⟩, o2, k2 _ e2, r⟩
  | false => obtain ⟨⟨o, e, c, d⟩, o2, e2, r⟩ := x; exact ⟨⟨o, k1 _ e, c, d⟩, o2, k2 _ e2, r⟩
section
variable {prog : Program} {w : World} {A : Around} {E : Value → Shared → Prop} {s : Shared}
theorem Stand.next {t : Bool} {it l : Addr} {i : Nat} {xs : Array Value} {x : Value} {Q : Value → Shared → Prop} (S : Stand t s.heap it l i xs) (hx : xs[i]? = some x) (hne : it ≠ l)
    (hQ : ∀ h', Stand t h' it l (i + 1) xs → Heap.SameBut it s.heap h' → Q x { s with heap := h' }) : wpAny (model prog w) A (Builtin.SmallTypes.nextOf (.ref it)) Q E s := by
  cases t with
  | true => exact RZ.nextOf_tuple_item S.1 S.2 hx fun h' a b => hQ h' ⟨a, S.2.extBut b.extBut hne.symm⟩ b
  | false => exact wpAny_nextOf_list_item S.1 S.2 hx fun h' a b => hQ h' ⟨a, S.2.extBut b.extBut hne.symm⟩ b
theorem Stand.over {t : Bool} {it l : Addr} {i : Nat} {xs : Array Value} {Q : Value → Shared → Prop} (hh : A.handled = none) (S : Stand t s.heap it l i xs) (hx : xs[i]? = none)
    (hE : ∀ h' e, Heap.ExtBut it s.heap h' → (∃ o, h'.get? e = some o ∧ o.cls = .type "StopIteration") → E (.ref e) { s with heap := h' }) : wpAny (model prog w) A (Builtin.SmallTypes.nextOf (.ref it)) Q E s := by
  cases t with
  | true => exact RZ.nextOf_tuple_end hh S.1 S.2 hx hE
  | false => exact wpAny_nextOf_list_end hh S.1 S.2 hx hE
/-- what a zip of two is made of: no two of them are one -/
structure Parts (z ti to p q l m : Addr) : Prop where
  nd : [z, ti, to, p, q].Nodup
  l_ : l ∉ [z, to, p, q]
  m_ : m ∉ [z, to, p, q]
def Zst (t u : Bool) (h : Heap) (z ti to p q l m : Addr) (i : Nat) (xs ys : Array Value) (own : Value) : Prop :=
  IsZip h z ti to own ∧ IsPair h ti (.ref p) (.ref q) ∧ (∃ a b, IsPair h to a b) ∧ Stand t h p l i xs ∧ Stand u h q m i ys
theorem ne5 {z ti to p q l m : Addr} (D : Parts z ti to p q l m) : z ≠ ti ∧ z ≠ to ∧ z ≠ p ∧ z ≠ q ∧ ti ≠ to ∧ ti ≠ p ∧ ti ≠ q ∧ to ≠ p ∧ to ≠ q ∧ p ≠ q := by
  have h := D.nd
  simp only [List.nodup_cons, List.mem_cons, List.not_mem_nil, or_false, not_or] at h
  obtain ⟨⟨a, b, c, d⟩, ⟨e, f, g⟩, ⟨i, j⟩, k, _⟩ := h
  exact ⟨a, b, c, d, e, f, g, i, j, k⟩
theorem nl4 {l a b c d : Addr} (h : l ∉ [a, b, c, d]) : l ≠ a ∧ l ≠ b ∧ l ≠ c ∧ l ≠ d := by
  simp only [List.mem_cons, List.not_mem_nil, or_false, not_or] at h
  exact h
section
variable {prog : Program} {w : World} {A : Around} {E : Value → Shared → Prop} {s : Shared}
variable {t u : Bool} {z ti to p q l m : Addr} {i : Nat} {xs ys : Array Value}
/-- one turn: a new pair at the heap's end -/
theorem zip_turn {x y : Value} {Q : Value → Shared → Prop} (D : Parts z ti to p q l m) (Z : Zst t u s.heap z ti to p q l m i xs ys .none) (hx : xs[i]? = some x) (hy : ys[i]? = some y)
    (hQ : ∀ h', Zst t u h' z ti to p q l m (i + 1) xs ys (rawInt s.heap.objs.size) → IsPair h' s.heap.objs.size x y → h'.objs.size = s.heap.objs.size + 1 →
      (∀ c o, c ∉ [z, to, p, q] → s.heap.get? c = some o → h'.get? c = some o) → Q (.ref s.heap.objs.size) { s with heap := h' }) :
    wpAny (model prog w) A (Builtin.«zip.__next__» ⟨[.ref z], []⟩) (fun f s' => ∃ v, f = .done (.ret v) ∧ Q v s') E s := by
  obtain ⟨n1, n2, n3, n4, n5, n6, n7, n8, n9, n10⟩ := ne5 D
  obtain ⟨lz, lo, lp, lq⟩ := nl4 D.l_
  obtain ⟨mz, mo, mp, mq⟩ := nl4 D.m_
  obtain ⟨hz, hi, ⟨a, b, ho⟩, hp, hq⟩ := Z
  show wpAny _ _ (field (.ref z) 2 >>= _) _ _ _
  refine wpAny_bind (wpAny_field hz rfl (x := .bool false) rfl ?_)
  show wpAny _ _ (field (.ref z) 3 >>= _) _ _ _
  refine wpAny_bind (wpAny_field hz rfl (x := .ref ti) rfl (wpAny_bind (wpAny_seqItems hi rfl ?_)))
  show wpAny _ _ (Builtin.SmallTypes.ownedTupleIsFree (.ref z) >>= _) _ _ _
  unfold Builtin.SmallTypes.ownedTupleIsFree
  refine wpAny_bind (wpAny_bind (wpAny_field hz rfl (x := .none) rfl (wpAny_pure ?_)))
  simp only [if_true]
  refine wpAny_bind (wpAny_rule (wpAny_bind (wpAny_field hz rfl (x := .ref to) rfl (wpAny_bind (wpAny_setField_rec hz (by simp) fun g1 z1 k1 => wpAny_bind ?_)))))
  have z1' : IsZip g1 z ti to .ellipsis := z1
  simp only [List.zipIdx_cons, List.zipIdx_nil, List.forIn_cons, List.forIn_nil]
  -- the first
  refine wpAny_bind (wpAny_bind (wpAny_onRaise ?_))
  show wpAny _ _ (Builtin.SmallTypes.nextOf (.ref p) >>= _) _ _ _
  refine wpAny_bind ((hp.put k1.extBut n3.symm lz).next hx lp.symm fun g2 p2 k2 => wpAny_pure ?_)
  have o2 : IsPair g2 to a b := k2.extBut _ _ n8 (k1.extBut _ _ n2.symm ho)
  refine wpAny_bind (wpAny_seqItems o2 rfl (wpAny_bind (wpAny_updateSeq_pair o2 fun g3 o3 k3 => wpAny_bind (wpAny_letGo (wpAny_pure ?_)))))
  have o3' : IsPair g3 to x b := o3
  -- the second
  refine wpAny_bind (wpAny_bind (wpAny_onRaise ?_))
  show wpAny _ _ (Builtin.SmallTypes.nextOf (.ref q) >>= _) _ _ _
  refine wpAny_bind ((((hq.put k1.extBut n4.symm mz).put k2.extBut n10.symm mp).put k3.extBut n9.symm mo).next hy mq.symm fun g4 q4 k4 => wpAny_pure ?_)
  have o4 : IsPair g4 to x b := k4.extBut _ _ n9 o3'
  refine wpAny_bind (wpAny_seqItems o4 rfl (wpAny_bind (wpAny_updateSeq_pair o4 fun g5 o5 k5 => wpAny_bind (wpAny_letGo (wpAny_pure (wpAny_pure ?_))))))
  have o5' : IsPair g5 to x y := o5
  refine wpAny_bind (wpAny_seqItems o5' rfl (wpAny_bind (wpAny_newTuple ?_)))
  have sz : g5.objs.size = s.heap.objs.size := by rw [k5.1, k4.1, k3.1, k2.1, k1.1]
  have z5 : IsZip g5 z ti to .ellipsis := k5.extBut _ _ n2 (k4.extBut _ _ n4 (k3.extBut _ _ n2 (k2.extBut _ _ n3 z1')))
  have i5 : IsPair g5 ti (.ref p) (.ref q) := k5.extBut _ _ n5 (k4.extBut _ _ n7 (k3.extBut _ _ n5 (k2.extBut _ _ n6 (k1.extBut _ _ n1.symm hi))))
  have p5 : Stand t g5 p l (i + 1) xs := ((p2.put k3.extBut n8.symm lo).put k4.extBut n10 lq).put k5.extBut n8.symm lo
  have q5 : Stand u g5 q m (i + 1) ys := q4.put k5.extBut n9.symm mo
  have rest : ∀ c o, c ∉ [z, to, p, q] → s.heap.get? c = some o → g5.get? c = some o := fun c o nc e => by
    obtain ⟨c1, c2, c3, c4⟩ := nl4 nc
    exact k5.extBut _ _ c2 (k4.extBut _ _ c4 (k3.extBut _ _ c2 (k2.extBut _ _ c3 (k1.extBut _ _ c1 e))))
  have zlt : z < g5.objs.size := Heap.lt_size z5
  show wpAny _ _ (Builtin.SmallTypes.ownedTupleHandOut (.ref z) (.ref g5.objs.size) >>= _) _ _ _
  unfold Builtin.SmallTypes.ownedTupleHandOut
  have z6 : IsZip (g5.push { cls := .type "tuple", data := .seq #[x, y] }) z ti to .ellipsis := Heap.get?_push_of_some _ z5
  refine wpAny_bind (wpAny_bind (wpAny_setField_rec z6 (by simp) fun g7 z7 k7 => ?_))
  have z7' : IsZip g7 z ti to (rawInt g5.objs.size) := z7
  refine wpAny_setField_rec z7' (by simp) fun g8 z8 k8 => wpAny_pure ⟨_, rfl, ?_⟩
  have z8' : IsZip g8 z ti to (rawInt g5.objs.size) := z8
  have up : ∀ c o, c ≠ z → g5.get? c = some o → g8.get? c = some o := fun c o nc e => k8.extBut _ _ nc (k7.extBut _ _ nc (Heap.get?_push_of_some _ e))
  have t8 : IsPair g8 g5.objs.size x y := k8.extBut _ _ (Nat.ne_of_gt zlt) (k7.extBut _ _ (Nat.ne_of_gt zlt) (Heap.get?_push_size _ rfl))
  have s8 : g8.objs.size = g5.objs.size + 1 := by rw [k8.1, k7.1, Heap.size_push]
  show Q (.ref g5.objs.size) _
  rw [sz] at z8' t8 s8 ⊢
  refine hQ g8 ⟨z8', up _ _ n1.symm i5, ⟨x, y, up _ _ n2.symm o5'⟩, p5.stay (fun o e => up _ o n3.symm e) (fun o e => up _ o lz e), q5.stay (fun o e => up _ o n4.symm e) (fun o e => up _ o mz e)⟩ t8 s8 fun c o nc e => up c o (nl4 nc).1 (rest c o nc e)
/-- the end: one of the two has no more -/
theorem zip_over {Q : Fin → Shared → Prop} (hh : A.handled = none) (D : Parts z ti to p q l m) (Z : Zst t u s.heap z ti to p q l m i xs ys .none) (hend : xs[i]? = none ∨ ys[i]? = none)
    (hE : ∀ h' e, (∀ c o, c ∉ [z, to, p, q] → s.heap.get? c = some o → h'.get? c = some o) → (∃ o, h'.get? e = some o ∧ o.cls = .type "StopIteration") → E (.ref e) { s with heap := h' }) :
    wpAny (model prog w) A (Builtin.«zip.__next__» ⟨[.ref z], []⟩) Q E s := by
  obtain ⟨n1, n2, n3, n4, n5, n6, n7, n8, n9, n10⟩ := ne5 D
  obtain ⟨lz, lo, lp, lq⟩ := nl4 D.l_
  obtain ⟨mz, mo, mp, mq⟩ := nl4 D.m_
  obtain ⟨hz, hi, ⟨a, b, ho⟩, hp, hq⟩ := Z
  show wpAny _ _ (field (.ref z) 2 >>= _) _ _ _
  refine wpAny_bind (wpAny_field hz rfl (x := .bool false) rfl ?_)
  show wpAny _ _ (field (.ref z) 3 >>= _) _ _ _
  refine wpAny_bind (wpAny_field hz rfl (x := .ref ti) rfl (wpAny_bind (wpAny_seqItems hi rfl ?_)))
  show wpAny _ _ (Builtin.SmallTypes.ownedTupleIsFree (.ref z) >>= _) _ _ _
  unfold Builtin.SmallTypes.ownedTupleIsFree
  refine wpAny_bind (wpAny_bind (wpAny_field hz rfl (x := .none) rfl (wpAny_pure ?_)))
  simp only [if_true]
  refine wpAny_bind (wpAny_rule (wpAny_bind (wpAny_field hz rfl (x := .ref to) rfl (wpAny_bind (wpAny_setField_rec hz (by simp) fun g1 z1 k1 => wpAny_bind ?_)))))
  have z1' : IsZip g1 z ti to .ellipsis := z1
  simp only [List.zipIdx_cons, List.zipIdx_nil, List.forIn_cons, List.forIn_nil]
  refine wpAny_bind (wpAny_bind (wpAny_onRaise ?_))
  show wpAny _ _ (Builtin.SmallTypes.nextOf (.ref p) >>= _) _ _ _
  have stop : ∀ {g : Heap} {e : Addr} {o : Obj}, IsZip g z ti to .ellipsis → g.get? e = some o → o.cls = .type "StopIteration" → e ≠ z := fun {g e o} a b c d => by
    subst d
    rw [a] at b
    cases b
    simp at c
  cases hx : xs[i]? with
  | none =>
    refine wpAny_bind ((hp.put k1.extBut n3.symm lz).over hh hx fun g2 e k2 he => ?_)
    obtain ⟨o, eo, co⟩ := he
    have z2 : IsZip g2 z ti to .ellipsis := k2 _ _ n3 z1'
    exact wpAny_setField_rec z2 (by simp) fun g3 _ k3 => hE g3 e (fun c o' nc e' => k3.extBut _ _ (nl4 nc).1 (k2 _ _ (nl4 nc).2.2.1 (k1.extBut _ _ (nl4 nc).1 e'))) ⟨o, k3.extBut _ _ (stop z2 eo co) eo, co⟩
  | some x =>
    have hy : ys[i]? = none := by
      rcases hend with h | h
      · rw [hx] at h; cases h
      · exact h
    refine wpAny_bind ((hp.put k1.extBut n3.symm lz).next hx lp.symm fun g2 p2 k2 => wpAny_pure ?_)
    have o2 : IsPair g2 to a b := k2.extBut _ _ n8 (k1.extBut _ _ n2.symm ho)
    refine wpAny_bind (wpAny_seqItems o2 rfl (wpAny_bind (wpAny_updateSeq_pair o2 fun g3 o3 k3 => wpAny_bind (wpAny_letGo (wpAny_pure ?_)))))
    refine wpAny_bind (wpAny_bind (wpAny_onRaise ?_))
    show wpAny _ _ (Builtin.SmallTypes.nextOf (.ref q) >>= _) _ _ _
    refine wpAny_bind ((((hq.put k1.extBut n4.symm mz).put k2.extBut n10.symm mp).put k3.extBut n9.symm mo).over hh hy fun g4 e k4 he => ?_)
    obtain ⟨o, eo, co⟩ := he
    have z4 : IsZip g4 z ti to .ellipsis := k4 _ _ n4 (k3.extBut _ _ n2 (k2.extBut _ _ n3 z1'))
    refine wpAny_setField_rec z4 (by simp) fun g5 _ k5 => hE g5 e (fun c o' nc e' => ?_) ⟨o, k5.extBut _ _ (stop z4 eo co) eo, co⟩
    obtain ⟨c1, c2, c3, c4⟩ := nl4 nc
    exact k5.extBut _ _ c1 (k4 _ _ c4 (k3.extBut _ _ c2 (k2.extBut _ _ c3 (k1.extBut _ _ c1 e'))))
theorem pyNext_zip {x y : Value} {Q : Option Value → Shared → Prop} (D : Parts z ti to p q l m) (Z : Zst t u s.heap z ti to p q l m i xs ys .none) (hx : xs[i]? = some x) (hy : ys[i]? = some y)
    (hQ : ∀ h', Zst t u h' z ti to p q l m (i + 1) xs ys (rawInt s.heap.objs.size) → IsPair h' s.heap.objs.size x y → h'.objs.size = s.heap.objs.size + 1 →
      (∀ c o, c ∉ [z, to, p, q] → s.heap.get? c = some o → h'.get? c = some o) → Q (some (.ref s.heap.objs.size)) { s with heap := h' }) : wpAny (model prog w) A (pyNext (.ref z)) Q E s := by
  have ty : s.TypeIs (.ref z) "zip" := ⟨_, Z.1, rfl⟩
  unfold pyNext
  exact wpAny_bind (wpAny_attempt (wpAny_callSpecial?_slot (name := Str.ofString "__next__") ty F.slot_zip_next
    (wpAny_call_entry F.slot_zip_next ty F.entry_zip_next (zip_turn D Z hx hy fun h' a b c d => wpAny_pure (hQ h' a b c d)) (F.args_zip_next_1 _))))
theorem pyNext_zipOver {Q : Option Value → Shared → Prop} (hh : A.handled = none) (D : Parts z ti to p q l m) (Z : Zst t u s.heap z ti to p q l m i xs ys .none) (hend : xs[i]? = none ∨ ys[i]? = none)
    (hQ : ∀ h', (∀ c o, c ∉ [z, to, p, q] → s.heap.get? c = some o → h'.get? c = some o) → Q none { s with heap := h' }) : wpAny (model prog w) A (pyNext (.ref z)) Q E s := by
  have ty : s.TypeIs (.ref z) "zip" := ⟨_, Z.1, rfl⟩
  unfold pyNext
  refine wpAny_bind (wpAny_attempt (wpAny_callSpecial?_slot (name := Str.ofString "__next__") ty F.slot_zip_next
    (wpAny_call_entry F.slot_zip_next ty F.entry_zip_next (zip_over hh D Z hend fun h' e k he => ?_) (F.args_zip_next_1 _))))
  obtain ⟨o, eo, co⟩ := he
  exact wpAny_bind (wpAny_isInstance (T := "StopIteration") (b := true) ⟨o, eo, co⟩ isSubtype_stop (wpAny_pure (hQ _ k)))
end
end
end
end Pd
end
section
set_option Elab.async false
set_option linter.all false
set_option maxRecDepth 100000
set_option maxHeartbeats 1000000
namespace Pd
open PySem PySem.Spec L2 LamX
open PyProof.Rows hiding St

def It1 (t : Bool) (h : Heap) (it l : Addr) (i : Nat) : Prop := match t with | true => h.IsTupleIter it l i | false => h.IsListIter it l i
def SqX (t : Bool) (K : PySem.W.Frag) (H : Hp) (a : Addr) (xs : List V) : Prop := match t with | true => SqT K H a xs | false => SqL K H a xs
theorem It1.obj {t : Bool} {h : Heap} {it l : Addr} {i : Nat} (x : It1 t h it l i) : ∃ o vs, h.get? it = some o ∧ o.data = .fields vs := by
  cases t with
  | true => obtain ⟨o, e, _, d⟩ := x; exact ⟨o, _, e, d⟩
  | false => obtain ⟨o, e, _, d⟩ := x; exact ⟨o, _, e, d⟩
theorem It1.stay {t : Bool} {h h' : Heap} {it l : Addr} {i : Nat} (x : It1 t h it l i) (k1 : ∀ o, h.get? it = some o → h'.get? it = some o) : It1 t h' it l i := by
  cases t with
  | true => obtain ⟨o, e, c, d⟩ := x; exact ⟨o, k1 _ e, c, d⟩
  | false => obtain ⟨o, e, c, d⟩ := x; exact ⟨o, k1 _ e, c, d⟩
theorem It1.stand {X : Cx} {pins : List (Addr × Obj)} {σ : L2.St} {H : Hp} {s : Shared} {t : Bool} {it l : Addr} {i : Nat} {xs : List V} (I : Inv X pins σ H s) (x : It1 t s.heap it l i) (h : SqX t X.K H l xs) :
    ∃ us : List Value, Vals xs us ∧ Stand t s.heap it l i us.toArray := by
  cases t with
  | true =>
    obtain ⟨us, r, p, _⟩ := I.tuple h
    exact ⟨us, r, x, p⟩
  | false =>
    obtain ⟨us, r, p, _⟩ := I.list h
    exact ⟨us, r, x, p.isList⟩
theorem Stand.it {t : Bool} {h : Heap} {it l : Addr} {i : Nat} {xs : Array Value} (x : Stand t h it l i xs) : It1 t h it l i := by
  cases t with
  | true => exact x.1
  | false => exact x.1
theorem SqX.inj {X : Cx} {pins : List (Addr × Obj)} {σ : L2.St} {H : Hp} {s : Shared} {t : Bool} {l : Addr} {xs ys : List V} (I : Inv X pins σ H s) (h : SqX t X.K H l xs) (h' : SqX t X.K H l ys) : xs = ys := by
  cases t with
  | true => exact I.tuple_inj h h'
  | false => exact I.list_inj h h'
def zit (t u : Bool) (K : PySem.W.Frag) (a b : Addr) : It :=
  ⟨fun i H => ∃ xs ys x y, SqX t K H a xs ∧ SqX u K H b ys ∧ xs[i]? = some x ∧ ys[i]? = some y,
   fun i H v H' => ∃ T x y, v = .ref T ∧ H T = none ∧ H' = upd H T (.tup [x, y]) ∧ (∀ xs, SqX t K H a xs → xs[i]? = some x) ∧ ∀ ys, SqX u K H b ys → ys[i]? = some y,
   fun i H => ∃ xs ys, SqX t K H a xs ∧ SqX u K H b ys ∧ (xs.length ≤ i ∨ ys.length ≤ i)⟩
theorem fp5 {c z ti to p q : Addr} (h : c ∈ [z, ti, to, p, q]) : c = z ∨ c = ti ∨ c = to ∨ c = p ∨ c = q := by simpa using h
theorem zip_walks {P : Program} {w : World} {K : PySem.W.Frag} {elts : List Expr} {kk : Nat} {tpos : Pos} {t u : Bool} {a b z ti to p q : Addr} (D : Parts z ti to p q a b) :
    Turn P w K (.Tuple elts kk tpos) (zit t u K a b) [z, ti, to, p, q] z (fun i h => IsZip h z ti to .none ∧ IsPair h ti (.ref p) (.ref q) ∧ (∃ x y, IsPair h to x y) ∧ It1 t h p a i ∧ It1 u h q b i) where
  mem := List.mem_cons_self
  obj := fun i h ⟨h1, h2, ⟨x, y, h3⟩, h4, h5⟩ c hc => by
    obtain ⟨o4, v4, e4, d4⟩ := h4.obj
    obtain ⟨o5, v5, e5, d5⟩ := h5.obj
    rcases fp5 hc with e | e | e | e | e <;> subst e
    · exact ⟨_, h1, fun _ z => nomatch z⟩
    · exact ⟨_, h2, fun _ z => nomatch z⟩
    · exact ⟨_, h3, fun _ z => nomatch z⟩
    · exact ⟨o4, e4, fun v z => by rw [d4] at z; cases z⟩
    · exact ⟨o5, e5, fun v z => by rw [d5] at z; cases z⟩
  keep := fun i h h' ⟨h1, h2, ⟨x, y, h3⟩, h4, h5⟩ k =>
    ⟨k z (by simp) _ h1, k ti (by simp) _ h2, ⟨x, y, k to (by simp) _ h3⟩, h4.stay (k p (by simp)), h5.stay (k q (by simp))⟩
  self := fun A i s Q E h hq => wpAny_pyIter_zip h.1 hq
  item := by
    intro X hP hw hK hc i pins s σ H E I hf ⟨h1, h2, h3, h4, h5⟩ ⟨xs, ys, x, y, q1, q2, ex, ey⟩
    subst hP hw hK
    obtain ⟨us, r1, s1⟩ := h4.stand I q1
    obtain ⟨ws, r2, s2⟩ := h5.stand I q2
    obtain ⟨u1, eu, ru⟩ := r1.get ex
    obtain ⟨u2, ew, rw'⟩ := r2.get ey
    have zl : z < s.heap.objs.size := Heap.lt_size h1
    refine pyNext_zip D ⟨h1, h2, h3, s1, s2⟩ (x := u1) (y := u2) (by simpa using eu) (by simpa using ew) fun h' Z' hT hsz hk => ⟨_, rfl, ?_⟩
    obtain ⟨z1, z2, ⟨x', y', z3⟩, z4, z5⟩ := Z'
    refine wpAny_letOwnedTupleGo_zip (s := { s with heap := h' }) z1 fun h'' z1' sb => ?_
    obtain ⟨n1, n2, n3, n4, _⟩ := ne5 D
    have hT2 : h''.get? s.heap.objs.size = some { cls := .type "tuple", data := .seq #[u1, u2] } := (sb.2 _ (Nat.ne_of_gt zl)).trans hT
    have new : ObjOk X.prog X.w (upd H s.heap.objs.size (.tup [x, y])) h'' s.heap.objs.size (.tup [x, y]) := ⟨by show 2 ≤ sizeLine; decide, [u1, u2], .cons ru (.cons rw' .nil), ⟨_, hT2, rfl, _, rfl⟩⟩
    have hk2 : ∀ c o, c ∉ [z, ti, to, p, q] → s.heap.get? c = some o → h''.get? c = some o := fun c o nc e => by
      have nz : c ≠ z := fun e => nc (by rw [e]; simp)
      exact (sb.2 c nz).trans (hk c o (fun m => nc (by simp at m ⊢; rcases m with m | m | m | m <;> simp [m])) e)
    have I1 := I.turnedNew (t' := s.toks) (ch := [z, ti, to, p, q]) hk2 hf (Nat.le_refl _) new
    refine ⟨.ref s.heap.objs.size, _, I1, rfl, ⟨_, x, y, rfl, I.hok.fresh (Nat.le_refl _), rfl, fun l hl => by rw [SqX.inj I hl q1]; exact ex, fun l hl => by rw [SqX.inj I hl q2]; exact ey⟩,
      ⟨z1', (sb.2 _ n1.symm).trans z2, ⟨x', y', (sb.2 _ n2.symm).trans z3⟩, z4.it.stay fun o e => (sb.2 _ n3.symm).trans e, z5.it.stay fun o e => (sb.2 _ n4.symm).trans e⟩, fun c hcm => ?_⟩
    have cl : c < s.heap.objs.size := by
      obtain ⟨o4, v4, e4, d4⟩ := h4.obj
      obtain ⟨o5, v5, e5, d5⟩ := h5.obj
      obtain ⟨x0, y0, h3⟩ := h3
      rcases fp5 hcm with e | e | e | e | e <;> subst e
      · exact zl
      · exact Heap.lt_size h2
      · exact Heap.lt_size h3
      · exact Heap.lt_size e4
      · exact Heap.lt_size e5
    rw [upd_ne (Nat.ne_of_lt cl)]
    exact (hf c hcm).1
  done := by
    intro X hP hw hK hc i pins s σ H E I hf ⟨h1, h2, h3, h4, h5⟩ ⟨xs, ys, q1, q2, hend⟩
    subst hP hw hK
    obtain ⟨us, r1, s1⟩ := h4.stand I q1
    obtain ⟨ws, r2, s2⟩ := h5.stand I q2
    have l1 := r1.length
    have l2 := r2.length
    have he : us.toArray[i]? = none ∨ ws.toArray[i]? = none := hend.elim (fun e => .inl (by simp; omega)) fun e => .inr (by simp; omega)
    refine pyNext_zipOver (I.ok.hd hc) D ⟨h1, h2, h3, s1, s2⟩ he fun h' hk => ⟨rfl, I.turnedL (t' := s.toks) (ch := [z, ti, to, p, q]) (fun c o nc e => ?_) hf⟩
    exact hk c o (fun m => nc (by simp at m ⊢; rcases m with m | m | m | m <;> simp [m])) e
end Pd
end
section
set_option Elab.async false
set_option linter.all false
set_option maxRecDepth 100000
set_option maxHeartbeats 2000000
namespace Pd
open PySem PySem.Spec L2 LamX
open PyProof.Rows hiding St

abbrev itN (t : Bool) : String := if t then "tuple_iterator" else "list_iterator"
abbrev zh1 (t : Bool) (h : Heap) (a : Addr) : Heap := h.push { cls := .type (itN t), data := .fields #[.ref a, .int 0 0] }
abbrev zh2 (t u : Bool) (h : Heap) (a b : Addr) : Heap := zh1 u (zh1 t h a) b
abbrev zh3 (t u : Bool) (h : Heap) (a b : Addr) : Heap := (zh2 t u h a b).push { cls := .type "tuple", data := .seq #[.ref h.objs.size, .ref (zh1 t h a).objs.size] }
abbrev zh4 (t u : Bool) (h : Heap) (a b : Addr) : Heap := (zh3 t u h a b).push { cls := .type "tuple", data := .seq #[.none, .none] }
abbrev zh5 (t u : Bool) (h : Heap) (a b : Addr) : Heap := (zh4 t u h a b).push { cls := .type "zip", data := .fields #[.none, .bool false, .bool false, .ref (zh2 t u h a b).objs.size, .ref (zh3 t u h a b).objs.size] }
def IsX (t : Bool) (h : Heap) (a : Addr) (xs : Array Value) : Prop := match t with | true => h.IsTuple a xs | false => h.IsList a xs
theorem zip_new (t u : Bool) (a b : Addr) (xs ys : Array Value) :
    Meets (Builtin.«zip.__new__» ⟨[.type "zip", .ref a, .ref b], []⟩) (fun _ R s => IsX t s.heap a xs ∧ IsX u s.heap b ys ∧ R (.ok (.ret (.ref (zh4 t u s.heap a b).objs.size))) { s with heap := zh5 t u s.heap a b }) :=
  .of_wp fun prog w A R s h => by
    obtain ⟨hp, g, d, tk, os⟩ := s
    obtain ⟨h1, h2, h⟩ := h
    have hsub := sub_zip
    cases t <;> cases u
    · have e1 : Heap.IsList (Shared.heap ⟨hp, g, d, tk, os⟩) a xs := h1
      have e2 : Heap.IsList (Shared.heap ⟨hp.push { cls := .type "list_iterator", data := .fields #[.ref a, .int 0 0] }, g, d, tk, os⟩) b ys := Heap.IsList.push h2 _
      wp_walk using wpAny_pyIter_list e1, wpAny_pyIter_list e2
      exact ⟨_, rfl, h⟩
    · have e1 : Heap.IsList (Shared.heap ⟨hp, g, d, tk, os⟩) a xs := h1
      have e2 : Heap.IsTuple (Shared.heap ⟨hp.push { cls := .type "list_iterator", data := .fields #[.ref a, .int 0 0] }, g, d, tk, os⟩) b ys := Heap.IsTuple.push h2 _
      wp_walk using wpAny_pyIter_list e1, wpAny_pyIter_tuple e2
      exact ⟨_, rfl, h⟩
    · have e1 : Heap.IsTuple (Shared.heap ⟨hp, g, d, tk, os⟩) a xs := h1
      have e2 : Heap.IsList (Shared.heap ⟨hp.push { cls := .type "tuple_iterator", data := .fields #[.ref a, .int 0 0] }, g, d, tk, os⟩) b ys := Heap.IsList.push h2 _
      wp_walk using wpAny_pyIter_tuple e1, wpAny_pyIter_list e2
      exact ⟨_, rfl, h⟩
    · have e1 : Heap.IsTuple (Shared.heap ⟨hp, g, d, tk, os⟩) a xs := h1
      have e2 : Heap.IsTuple (Shared.heap ⟨hp.push { cls := .type "tuple_iterator", data := .fields #[.ref a, .int 0 0] }, g, d, tk, os⟩) b ys := Heap.IsTuple.push h2 _
      wp_walk using wpAny_pyIter_tuple e1, wpAny_pyIter_tuple e2
      exact ⟨_, rfl, h⟩
end Pd
end
section
set_option Elab.async false
set_option linter.all false
set_option maxRecDepth 100000
set_option maxHeartbeats 2000000
namespace Pd
open PySem PySem.Spec L2 LamX
open PyProof.Rows hiding St

section
variable {prog : Program} {w : World} {A : Around} {E : Value → Shared → Prop} {s : Shared}
theorem it_of {t : Bool} {h : Heap} {it l : Addr} (e : h.get? it = some { cls := .type (itN t), data := .fields #[.ref l, .int 0 0] }) : It1 t h it l 0 := by
  cases t
  · exact ⟨_, e, rfl, rfl⟩
  · exact ⟨_, e, rfl, rfl⟩
theorem call_zip {t u : Bool} {a b : Addr} {xs ys : Array Value} {Q : Value → Shared → Prop} (h1 : IsX t s.heap a xs) (h2 : IsX u s.heap b ys)
    (h : ∀ h', IsZip h' (s.heap.objs.size + 4) (s.heap.objs.size + 2) (s.heap.objs.size + 3) .none → IsPair h' (s.heap.objs.size + 2) (.ref s.heap.objs.size) (.ref (s.heap.objs.size + 1)) →
      IsPair h' (s.heap.objs.size + 3) .none .none → It1 t h' s.heap.objs.size a 0 → It1 u h' (s.heap.objs.size + 1) b 0 → (∀ c o, s.heap.get? c = some o → h'.get? c = some o) → Q (.ref (s.heap.objs.size + 4)) { s with heap := h' }) :
    wpAny (model prog w) A (call (.type "zip") [.ref a, .ref b]) Q E s := by
  refine callType_new F.called_zip (by decide) (F.typeCall_zip_2 _ _) (F.newCall_zip_2 _ _) (fun obj => F.args_object_init_3 obj _ _) F.entry_zip_new (zip_new t u a b xs ys) ⟨h1, h2, ?_⟩
  have q1 : (zh1 t s.heap a).objs.size = s.heap.objs.size + 1 := Heap.size_push ..
  have q2 : (zh2 t u s.heap a b).objs.size = s.heap.objs.size + 2 := by rw [Heap.size_push, q1]
  have q3 : (zh3 t u s.heap a b).objs.size = s.heap.objs.size + 3 := by rw [Heap.size_push, q2]
  have q4 : (zh4 t u s.heap a b).objs.size = s.heap.objs.size + 4 := by rw [Heap.size_push, q3]
  have r5 : (zh5 t u s.heap a b).get? (zh4 t u s.heap a b).objs.size = some _ := Heap.get?_push_size _ rfl
  have r4 : (zh5 t u s.heap a b).get? (zh3 t u s.heap a b).objs.size = some _ := Heap.get?_push_of_some _ (Heap.get?_push_size _ rfl)
  have r3 : (zh5 t u s.heap a b).get? (zh2 t u s.heap a b).objs.size = some _ := Heap.get?_push_of_some _ (Heap.get?_push_of_some _ (Heap.get?_push_size _ rfl))
  have r2 : (zh5 t u s.heap a b).get? (zh1 t s.heap a).objs.size = some _ := Heap.get?_push_of_some _ (Heap.get?_push_of_some _ (Heap.get?_push_of_some _ (Heap.get?_push_size _ rfl)))
  have r1 : (zh5 t u s.heap a b).get? s.heap.objs.size = some _ := Heap.get?_push_of_some _ (Heap.get?_push_of_some _ (Heap.get?_push_of_some _ (Heap.get?_push_of_some _ (Heap.get?_push_size _ rfl))))
  show _ ∧ _
  rw [q2, q3, q4] at r5
  rw [q1, q2] at r3
  rw [q3] at r4
  rw [q1] at r2
  rw [q4]
  exact ⟨⟨_, r5, rfl⟩, h _ r5 r3 r4 (it_of r1) (it_of r2) fun c o e => Heap.get?_push_of_some _ (Heap.get?_push_of_some _ (Heap.get?_push_of_some _ (Heap.get?_push_of_some _ (Heap.get?_push_of_some _ e))))⟩
end
def tZip (K : PySem.W.Frag) (ta : TA) : TI := fun σ H R => ta σ H fun vs H1 => ∃ t u a b xs ys, vs = [.ref a, .ref b] ∧ SqX t K H1 a xs ∧ SqX u K H1 b ys ∧ R (zit t u K a b) H1
theorem SqX.at {X : Cx} {pins : List (Addr × Obj)} {σ : L2.St} {H : Hp} {s : Shared} {t : Bool} {l : Addr} {xs : List V} (I : Inv X pins σ H s) (h : SqX t X.K H l xs) : ∃ us : List Value, IsX t s.heap l us.toArray ∧ l < s.heap.objs.size := by
  cases t with
  | true =>
    obtain ⟨us, r, p, _⟩ := I.tuple h
    obtain ⟨o, e, _⟩ := id p
    exact ⟨us, p, Heap.lt_size e⟩
  | false =>
    obtain ⟨us, r, p, _⟩ := I.list h
    exact ⟨us, p.isList, p.lt⟩
theorem far4 {a n : Nat} (h : a < n) : a ∉ [n + 4, n + 3, n, n + 1] := by
  simp only [List.mem_cons, List.not_mem_nil, or_false, not_or]; omega
theorem far5 {c n : Nat} (h : c = n + 4 ∨ c = n + 2 ∨ c = n + 3 ∨ c = n ∨ c = n + 1) : n ≤ c := by omega
theorem pi_zipX {X : Cx} {e e2 : Expr} {ta : TA} {p pos tpos : Pos} {elts : List Expr} {kk : Nat} (hg : Gl X "zip") (hm : X.mg "zip" = none) (ha : PA X [e, e2] ta)
    (hs : starEach [e, e2] X.env = (false, eval e X.env) :: starEach [e2] X.env := by rfl) (hpl : (backTo pos (starEach [e2] X.env)).any (·.1) = false := by rfl) :
    PI X (.Tuple elts kk tpos) (.Call (.Name "zip" p) [e, e2] [] pos) (tZip X.K ta) := by
  refine ⟨fun pins s σ H R I h => ?_⟩
  refine Call_ (ld_blt I hg hm PyProof.Rows.boot_zip (PyProof.Rows.callWith_type1 (thn (ha.run pos pins s σ H _ I h) fun us s1 ⟨vs, H1, I1, r1, q1⟩ => ?_) hs hpl))
  obtain ⟨t, u, a, b, xs, ys, rfl, q1, q2, q⟩ := q1
  obtain ⟨w1, w2, rfl, e1, e2⟩ := vals2 r1
  cases e1
  cases e2
  obtain ⟨us1, x1, l1⟩ := q1.at I1
  obtain ⟨us2, x2, l2⟩ := q2.at I1
  refine call_zip x1 x2 fun h' hz hi ho p1 p2 hk => wpAny_pyIter_zip hz ?_
  have I2 : Inv X pins σ H1 { s1 with heap := h' } := I1.kept (t' := s1.toks) hk
  have D : Parts (s1.heap.objs.size + 4) (s1.heap.objs.size + 2) (s1.heap.objs.size + 3) s1.heap.objs.size (s1.heap.objs.size + 1) a b := by
    refine ⟨by simp, ?_, ?_⟩
    · exact far4 l1
    · exact far4 l2
  refine ⟨_, _, _, _, H1, rfl, I2, zip_walks D, ⟨hz, hi, ⟨_, _, ho⟩, p1, p2⟩, fun c hc => ?_, q⟩
  have le : s1.heap.objs.size ≤ c := far5 (fp5 hc)
  exact I1.fpOk le (I1.hok.fresh le)
/-- pairs, as far as both go -/
def zipD : List D → List D → List D
  | a :: as, b :: bs => .tup [a, b] :: zipD as bs
  | _, _ => []
theorem zipD_at : ∀ (as bs : List D) (i : Nat) (d : D), (zipD as bs)[i]? = some d → ∃ a b, as[i]? = some a ∧ bs[i]? = some b ∧ d = .tup [a, b]
  | [], _, _, _, h => by unfold zipD at h; simp at h
  | _ :: _, [], _, _, h => by unfold zipD at h; simp at h
  | a :: as, b :: bs, 0, d, h => by
    unfold zipD at h
    rw [List.getElem?_cons_zero] at h
    cases h
    exact ⟨a, b, rfl, rfl, rfl⟩
  | a :: as, b :: bs, i + 1, d, h => by
    unfold zipD at h
    rw [List.getElem?_cons_succ] at h
    exact zipD_at as bs i d h
theorem zipD_get {as bs : List D} {i : Nat} {d : D} (h : (zipD as bs)[i]? = some d) : ∃ a b, as[i]? = some a ∧ bs[i]? = some b ∧ d = .tup [a, b] := zipD_at as bs i d h
theorem zipD_len : ∀ {as bs : List D}, (zipD as bs).length = min as.length bs.length
  | [], bs => by unfold zipD; simp
  | _ :: _, [] => by unfold zipD; simp
  | a :: as, b :: bs => by unfold zipD; rw [List.length_cons, zipD_len, List.length_cons, List.length_cons]; omega
section
variable {C : Ct} {ρ Z : List Addr} {H : Hp}
/-- the places of a list or tuple that is no cell -/
def SrcV (C : Ct) (ρ Z : List Addr) (H : Hp) (t : Bool) (a : Addr) (vs : List V) : Prop :=
  match t with | true => Rz ρ Z H a (.tup vs) ∨ KT C a vs | false => ∃ o, (o = .lst vs ∨ ∃ ob, o = .frz ob (.lst vs)) ∧ Rz ρ Z H a o
theorem itemsV_ok {d : D} {v : V} {ds : List D} (r : RV C ρ Z H d v) (h : itemsV d = some ds) : ∃ t a vs, v = .ref a ∧ SrcV C ρ Z H t a vs ∧ RVs C ρ Z H ds vs := by
  unfold itemsV at h
  split at h
  · cases h
    unfold RV at r
    obtain ⟨a, vs, e, t, q⟩ := r
    exact ⟨false, a, vs, e, ⟨_, .inl rfl, t⟩, q⟩
  · cases h
    unfold RV at r
    obtain ⟨a, vs, e, t, q⟩ := r
    exact ⟨true, a, vs, e, t, q⟩
  · cases h
theorem SrcV.sq {t : Bool} {a : Addr} {vs : List V} {ρ' Z' : List Addr} {H' : Hp} (x : Ext ρ H ρ' H') (hz : ∀ a ∈ Z', a ∈ Z ∨ H a = none) (h : SrcV C ρ Z H t a vs) : SqX t C.K H' a vs := by
  cases t with
  | true => exact h.elim (fun z => .inl (.inl (z.later x hz (fun _ z => by cases z)).1)) .inr
  | false =>
    obtain ⟨o, e, r⟩ := h
    rcases e with e | ⟨ob, e⟩
    · subst e; exact .inl (.inl (r.later x hz (fun _ z => by cases z)).1)
    · subst e; exact .inl (.inr ⟨ob, (r.later x hz (fun _ z => by cases z)).1⟩)
theorem zit_ok {t u : Bool} {a b : Addr} {ds es : List D} {vs us : List V} (h1 : SrcV C ρ Z H t a vs) (h2 : SrcV C ρ Z H u b us) (r1 : RVs C ρ Z H ds vs) (r2 : RVs C ρ Z H es us) : ItOk C (zit t u C.K a b) ρ Z H (zipD ds es) where
  go := fun i ρ' Z' H' st' x hz S hl => by
    obtain ⟨d, e, q1, q2, _⟩ := zipD_get (List.getElem?_eq_getElem hl)
    obtain ⟨v, e1, _⟩ := r1.get q1
    obtain ⟨w, e2, _⟩ := r2.get q2
    exact ⟨vs, us, v, w, h1.sq x hz, h2.sq x hz, e1, e2⟩
  stop := fun i ρ' Z' H' st' x hz S hl => by
    rw [zipD_len, r1.length, r2.length] at hl
    exact ⟨vs, us, h1.sq x hz, h2.sq x hz, by omega⟩
  yld := fun i ρ' Z' H' st' v H'' d x hz S e y => by
    obtain ⟨T, x1, y1, rfl, hT, rfl, f1, f2⟩ := y
    obtain ⟨da, db, q1, q2, rfl⟩ := zipD_get e
    obtain ⟨va, e1, ra⟩ := r1.get q1
    obtain ⟨vb, e2, rb⟩ := r2.get q2
    have z1 := f1 vs (h1.sq x hz)
    have z2 := f2 us (h2.sq x hz)
    rw [e1] at z1
    rw [e2] at z2
    cases z1
    cases z2
    refine ⟨Ext.fresh hT, S.val hT, ?_, fun a o h => by rw [upd_ne (ne_of_none h hT)]; exact h⟩
    unfold RV
    exact ⟨T, [x1, y1], rfl, .inl ⟨upd_same, S.fresh hT, S.nz hT⟩, (RVs.cons (ra.later x hz) (RVs.cons (rb.later x hz) RVs.nil)).ext (Ext.fresh hT)⟩
end
def dZip (a : DenL) : DenL := fun env st => bindR (a env st) fun xs st => match xs with
  | [x, y] => (match itemsV x, itemsV y with | some ds, some es => some (.ok (zipD ds es) st) | _, _ => none)
  | _ => none
theorem pid_zip {X : Cx} {C : Ct} {W : WX} {k : Nat} {e e2 : Expr} {dl : DenL} {p pos tpos : Pos} {elts : List Expr} {kk : Nat} [g : Go X C W k] (hm : C.mg "zip" = none) (ha : PDL X C W [e, e2] dl) (hg : Gl X "zip" := by rfl)
    (hs : starEach [e, e2] X.env = (false, eval e X.env) :: starEach [e2] X.env := by rfl) (hpl : (backTo pos (starEach [e2] X.env)).any (·.1) = false := by rfl) :
    PID X C W (.Tuple elts kk tpos) (.Call (.Name "zip" p) [e, e2] [] pos) (dZip dl) :=
  pi_imp (pi_zipX hg (by rw [g.hm]; exact hm) ha hs hpl) fun σ H Q ⟨ρ, Z, env, st, S, E, h⟩ => tDL_mono (seqLI S E h) fun vs H1 ⟨ρ1, st1, xs, S1, E1, rx, _, _, h1⟩ => by
    rw [g.hK]
    split at h1
    · split at h1
      · rename_i x y _ _ ds es i1 i2
        obtain ⟨v, u, rfl, rv, ru⟩ := vs2 rx
        obtain ⟨t, a, vs, rfl, s1, r1⟩ := itemsV_ok rv i1
        obtain ⟨t', b, us, rfl, s2, r2⟩ := itemsV_ok ru i2
        exact ⟨t, t', a, b, vs, us, rfl, s1.sq (Ext.refl _ _) (fun _ m => .inl m), s2.sq (Ext.refl _ _) (fun _ m => .inl m), h1 ρ1 H1 _ (Ext.refl _ _) S1 (zit_ok s1 s2 r1 r2)⟩
      · exact h1.elim
    · exact h1.elim
end Pd
end
section
set_option Elab.async false
set_option linter.all false
set_option maxRecDepth 100000
namespace Pd
open PySem PySem.Spec L2 LamX
open PyProof.Rows hiding St

/-- an exception that was pinned becomes a thing of ours -/
theorem track {X : Cx} {pins : List (Addr × Obj)} {σ : L2.St} {H : Hp} {s : Shared} {a cls : Addr} {oe : Obj} {vs : Array Value} (I : Inv X ((a, oe) :: pins) σ H s) (hc : oe.cls = .ref cls) (hd : oe.dict = none) (hf : oe.data = .fields vs)
    (fresh : X.s_0.heap.get? a = none) (np : ∀ p ∈ X.pn ++ pins, p.1 ≠ a) : Inv X pins σ (upd H a (ExcO cls a)) s := by
  have pa := I.pin (a, oe) (List.mem_append_right _ List.mem_cons_self)
  have na : H a = none := pa.2.1
  have t1 : ∀ ps, ExcO cls a ≠ .tbl ps := fun _ z => by unfold ExcO at z; cases z
  have keep : ∀ {b : Addr} {o : HO}, H b = some o → upd H a (ExcO cls a) b = some o := fun {b o} e => by rw [upd_ne (ne_of_none e na)]; exact e
  refine ⟨I.ok, I.os, I.bare, ⟨I.base.keep, I.base.slot, fun b o e n x => ?_, I.base.there, fun b xs e => keep (I.base.tups b xs e), fun b o u e => keep (I.base.frzs b o u e), fun b ps e => ?_⟩, I.loc, I.cell, ?_, fun x c e => ?_, fun p hp => ?_, fun b o e => ?_, I.len⟩
  · have hb : b ≠ a := fun z => by rw [z, fresh] at e; cases e
    rw [upd_ne hb]
    exact I.base.free b o e n x
  · obtain ⟨more, q⟩ := I.base.tbls b ps e
    exact ⟨more, keep q⟩
  · rw [upd_ne (Ne.symm pa.2.2.1)]
    exact I.free
  · have hb : c ≠ a := fun z => by
      obtain ⟨v, oc, h1, h2⟩ := I.cell x c e
      rw [z, pa.1] at h1
      cases h1
      exact pa.2.2.2.2 _ h2
    rw [upd_ne hb]
    exact I.freeC x c e
  · have q := I.pin p (by
      rcases List.mem_append.mp hp with z | z
      · exact List.mem_append_left _ z
      · exact List.mem_append_right _ (List.mem_cons_of_mem _ z))
    exact ⟨q.1, by rw [upd_ne (np p hp)]; exact q.2.1, q.2.2⟩
  · by_cases hb : b = a
    · subst hb
      rw [upd_same] at e
      cases e
      unfold ExcO
      refine ⟨⟨oe, vs, pa.1, hc, hd, hf⟩, ⟨oe, pa.1⟩, fun h1 h2 ⟨o1, v1, e1, r⟩ k => ⟨o1, v1, k _ e1, r⟩⟩
    · rw [upd_ne hb] at e
      exact (I.hok b o e).stay (fun c u _ q => q) (fun c q => keep q) fun c xs q => keep q

/-- what the clause 'except x as n: y = n' wishes: it takes whatever comes -/
def wKeep (K : PySem.W.Frag) (c : Value) (i j : Nat) (D : Ends) : WX := fun cls d σ H =>
  ∃ C0, cls = .ref C0 ∧ d = none ∧ PySem.W.exmOne K cls c = some true ∧ ∀ a, H a = none → D.nx (((σ.set i (some (.ref a))).set j (some (.ref a))).set i none) (upd H a (ExcO C0 a))
section
variable {X : Cx} {x n y : Str} {c : Value} {i j : Nat} {body : List Stmt} {np py pn pos pos' pa : Pos} {tb : WX → TS}
theorem ps_try_keep (hs : X.stack = X.env :: X.outer) (hf : X.env.frame = some X.env.locals) (hex : X.ex = []) (hN : X.N.Nodup) (hi : X.N[i]? = some n) (hj : X.N[j]? = some y) (hln : X.env.kindOf n = some .local) (hly : X.env.kindOf y = some .local) (hc : Names X x c)
    (hb : ∀ (W : WX) (pn : List (Addr × Obj)) (xe : Value → Shared → Prop), Takes (X.tr pn xe) W → PassesOwn (model X.prog X.w) X.A X.env xe → PSs (X.tr pn xe) body (tb W))
    (hd1 : (n == ("__debug__" : Str)) = false := by decide) (hd2 : (n == ("__classdict__" : Str)) = false := by decide)
    (hsw : swapsWith (.Name n pn) (some (.Name y py)) pa.line X.env = pure false := by rfl) :
    PS X (.Try body [.ExceptHandler (some (.Name x np)) (some n) [.Assign [.Name y py] (.Name n pn) pa] pos'] [] [] pos) (fun D σ H => tb (wKeep X.K c i j D) D σ H) := by
  refine ⟨fun pins s σ H D I h => ?_⟩
  have ok := I.ok
  have hfr : X.A.frames = some (X.env :: X.outer) := by rw [ok.frames, hs]
  refine wpAny_Try_except (wpAny_mono ((hb (wKeep X.K c i j D) (X.pn ++ pins) (fun e s₁ => wpAny (model X.prog X.w) X.A (noteFrame e X.env) (fun _ s₂ => wpAny (model X.prog X.w) X.A (setFlight e none) (fun _ s₃ =>
    wpAny (model X.prog X.w) X.A (handleBy e X.env [.ExceptHandler (some (.Name x np)) (some n) [.Assign [.Name y py] (.Name n pn) pa] pos']) (SP X pins D) X.xe s₃) X.xe s₂) X.xe s₁) (fun u s' xx => ?_) PassesOwn.looking).run [] s σ H D (I.toTry _) h) (fun f s1 hsp => ?_) (fun e s1 he => he))
  · obtain ⟨a, B, sI, pins', σ', H', cls, d, rfl, J', nb, up, sky, na, os, ag, C0, rfl, rfl, hb1, hyes⟩ := xx
    have J : Inv X pins σ' H' sI := J'.ofTry ok
    rw [hs] at sky
    show wpAny (model X.prog X.w) X.A (noteFrame (.ref a) X.env) _ _ _
    refine Sky.land Zc.steady hfr hf sky fun h3 fl3 up3 => ?_
    have J3 : Inv X pins σ' H' { s' with heap := h3 } := J.landed nb fl3.1 (up.trans up3) os ag
    obtain ⟨oe3, vs3, he3, hz3, hd3⟩ := fl3.there
    have nfr : a ∉ frs (X.env :: X.outer) := fun hm => by
      obtain ⟨_, o', e', hnf⟩ := fl3.2.2.1.mem hm
      rw [he3] at e'
      cases e'
      exact hnf _ hd3
    have nL : a ≠ X.env.locals := fun z => nfr (List.mem_filterMap.mpr ⟨X.env, List.mem_cons_self, by rw [hf, z]⟩)
    have nF : a ∉ X.fs := fun hm => by
      obtain ⟨e, he, q⟩ := List.mem_filterMap.mp hm
      exact nfr (List.mem_filterMap.mpr ⟨e, List.mem_cons_of_mem _ he, q⟩)
    -- it is younger than the entry, and no pin
    have nsI : sI.heap.get? a = none := by
      cases e : sI.heap.get? a with
      | none => rfl
      | some o =>
        have z := nb a o e (by rw [hs]; exact nfr)
        rw [fl3.2.1] at z
        cases z
    have n0 : X.s_0.heap.get? a = none := by
      cases e : X.s_0.heap.get? a with
      | none => rfl
      | some o =>
        obtain ⟨o', q⟩ := J.base.there a o e (by rw [hex]; exact fun z => nomatch z)
        rw [nsI] at q
        cases q
    have npin : ∀ p ∈ X.pn ++ pins, p.1 ≠ a := fun p hp e => by
      have q := (J.pin p hp).1
      rw [e, nsI] at q
      cases q
    have S3 := J3.suite he3 hd3 na nL nF
    refine wpAny_handleBy_cons (codeAny_handlers_test ?_) (by intro q; cases q)
    have LT : PySem.W.Looks (model X.prog X.w) h3 (typeOf (.ref a)) (.ref C0) := fun A Q E s k q => wpAny_typeOf_ref (k _ _ he3) (by rw [hz3.1]; exact q)
    have LM := PySem.W.exm_one (M := model X.prog X.w) (J3.kIn) LT hb1
    have test : ∀ {Q : Value → Shared → Prop} {E : Value → Shared → Prop}, Q c { s' with heap := h3 } → wpAny (model X.prog X.w) (X.A.mark (some (.ref a))) (eval (.Name x np) X.env) Q E { s' with heap := h3 } := fun {Q E} q => by
      obtain ⟨hg, hdbg, hm | ⟨hm, hv, hnn⟩⟩ := hc
      · exact ld_glob (X := X.suite a ((a, oe3) :: (X.pn ++ pins))) S3 hg hm q hdbg
      · exact ld_blt (X := X.suite a ((a, oe3) :: (X.pn ++ pins))) S3 hg hm hv q hnn hdbg
    refine test (LM.here (codeAny_handlers_suite_as (HandSPX.lands_againZ fl3 fun h4 fl4 up4 => ?_)))
    have J4 : Inv X pins σ' H' { s' with heap := h4 } := J.landed nb fl4.1 ((up.trans up3).trans up4) os ag
    obtain ⟨oe4, vs4, he4, hz4, hd4⟩ := fl4.there
    have S4 := J4.suite he4 hd4 na nL nF
    refine store_ok (X := X.suite a ((a, oe4) :: (X.pn ++ pins))) (v := .ref a) S4 hN hi (.inl hln) rfl (fun s5 S5 => ?_) (.inr hln)
    -- the suite
    have suite : PSs (X.suite a ((a, oe4) :: (X.pn ++ pins))) [.Assign [.Name y py] (.Name n pn) pa] (tAsg (tVar i) (gName j)) := pss_one (ps_set hN hj (.inl hly) (pe_var hi (.inl hln) hd1 hd2) hsw (.inr hly))
    have li : i < σ'.length := by rw [J.len]; exact (List.getElem?_eq_some_iff.mp hi).1
    refine wpAny_mono (suite.run [] s5 _ H' { nx := fun σ6 H6 => σ6 = (σ'.set i (some (.ref a))).set j (some (.ref a)) ∧ H6 = H', rt := fun _ _ => False } S5 ⟨.ref a, List.getElem?_set_self li, rfl, rfl⟩) (fun f s6 hsp => ?_) (fun _ _ z => False.elim z)
    have fin : ∀ {Q : Shared → Prop} {σ6 : L2.St}, Inv (X.suite a ((a, oe4) :: (X.pn ++ pins))) [] σ6 H' s6 → (∀ s7, Inv X pins (σ6.set i none) (upd H' a (ExcO C0 a)) s7 → Q s7) → wpAny (model X.prog X.w) X.A (do bindName X.env n .none; unbindBehindTheSuite X.env n pos') (fun _ s7 => Q s7) X.xe s6 := fun {Q σ6} S6 hq => by
      have J6 : Inv X ((a, oe4) :: pins) σ6 H' s6 := (S6.unsuite ok).pins_of fun p hp => by
        have q := S6.pin p (List.mem_append_left _ (by
          rcases List.mem_cons.mp hp with z | z
          · rw [z]; exact List.mem_cons_self
          · exact List.mem_cons_of_mem _ (List.mem_append_right _ z)))
        exact q
      exact gone_ok J6 hN hi hln fun s7 J7 => hq s7 (track J7 hz4.1 hz4.2 hd4 n0 npin)
    cases f with
    | next =>
      obtain ⟨σ6, H6, S6, rfl, rfl⟩ := hsp
      exact fin S6 fun s7 J7 => ⟨_, _, J7, hyes a na⟩
    | brk =>
      obtain ⟨σ6, H6, S6, q⟩ := hsp
      exact q.elim
    | cont =>
      obtain ⟨σ6, H6, S6, q⟩ := hsp
      exact q.elim
    | ret u =>
      obtain ⟨v6, σ6, H6, S6, r6, q6⟩ := hsp
      exact q6.elim
  · cases f with
    | next =>
      obtain ⟨σ', H', J', q⟩ := hsp
      exact wpAny_execs_nil ⟨σ', H', J'.ofTry ok, q⟩
    | brk =>
      obtain ⟨σ', H', J', q⟩ := hsp
      exact ⟨σ', H', J'.ofTry ok, q⟩
    | cont =>
      obtain ⟨σ', H', J', q⟩ := hsp
      exact ⟨σ', H', J'.ofTry ok, q⟩
    | ret u =>
      obtain ⟨v, σ', H', J', r, q⟩ := hsp
      exact ⟨v, σ', H', J'.ofTry ok, r, q⟩
end
theorem takes_len {X : Cx} {W : WX} (t : Takes X W) : Takes X (fun c d σ H => σ.length = X.N.length → W c d σ H) := fun u s' ⟨a, B, sI, pins, σ, H, cls, d, e, I, nb, up, sky, na, os, ag, w⟩ =>
  t u s' ⟨a, B, sI, pins, σ, H, cls, d, e, I, nb, up, sky, na, os, ag, w I.len⟩
/-- found = None; try: a() except x as n: found = n; return found -/
def TCaught (K : PySem.W.Frag) (CS : Addr) : (XK → Hp → VK → Prop) → Hp → VK → Prop := fun tl H Q =>
  tl (fun cls d H' => ∃ C0, cls = .ref C0 ∧ d = none ∧ PySem.W.exmOne K cls (.ref CS) = some true ∧ ∀ a, H' a = none → Q (.ref a) (upd H' a (ExcO C0 a))) H (fun _ H' => Q .non H')
theorem caught_gives {X : Cx} {x q a e y n : Str} {sg : Scope} {g CS : Addr} {cdg : Value} {k1 k2 : Nat} {p0 p1 p2 p3 p4 p5 p6 p7 p8 p9 pa pb pc pd' : Pos} {j : Nat}
    (sc : FnScope [a, y, n] [a] sg) (hy : sg.names.lookup y = some .local) (hn : sg.names.lookup n = some .local) (hge : sg.names.lookup e = some .globalImplicit) (hme : X.mg e = some (.ref CS)) (hde : (e == ("__debug__" : Str)) = false)
    (d1 : (n == ("__debug__" : Str)) = false) (d2 : (n == ("__classdict__" : Str)) = false) (d3 : (y == ("__debug__" : Str)) = false) (d4 : (y == ("__classdict__" : Str)) = false)
    (sw1 : ∀ (X : Cx), X.env.scope = sg → swapsWith (.Constant .none j p0) (some (.Name y p1)) p2.line X.env = pure false)
    (sw2 : ∀ (X : Cx), X.env.scope = sg → swapsWith (.Name n p7) (some (.Name y p6)) p8.line X.env = pure false)
    (sw3 : ∀ (X : Cx), X.env.scope = sg → swapsWith (.Call (.Name a p3) [] [] p4) none p5.line X.env = pure false) :
    GivesTo X [a, y, n] x sg g cdg [.Assign [.Name y p1] (.Constant .none j p0) p2,
      .Try [.Expr (.Call (.Name a p3) [] [] p4) p5] [.ExceptHandler (some (.Name e p9)) (some n) [.Assign [.Name y p6] (.Name n p7) p8] pa] [] [] pb, .Return (some (.Name y pc)) pd'] a q (TCaught X.K CS) := by
  intro f c' s H Q tl act hc h
  have hgl : Gl (cxOf C8.CX0 X.prog X.w X.K X.mg X.base [a, y, n] x sg g cdg X.A X.stack s H C8.E0).nox e := hge
  refine ⟨_, pss_cons (ps_set (i := 1) sc.nd rfl (.inl hy) pe_non (sw1 _ rfl)) (pss_cons (ps_try_keep (X := (cxOf C8.CX0 X.prog X.w X.K X.mg X.base [a, y, n] x sg g cdg X.A X.stack s H C8.E0).nox) (c := .ref CS) (i := 2) (j := 1)
      (tb := fun W D σ H => ∃ Ech : XK, (∀ cls d σ' H', σ'.length = 3 → Ech cls d H' → W cls d σ' H') ∧ σ[0]? = some (some (.ref f)) ∧ H c' = some (CodeO c' q) ∧ tl Ech H (fun _ H' => D.nx σ H'))
      rfl rfl rfl sc.nd rfl rfl hn hy ⟨hgl, hde, .inl hme⟩ (fun W pn xe tk _ => ?_) d1 d2 (sw2 _ rfl)) (pss_one (ps_ret (pe_var (i := 1) rfl (.inl hy) d3 d4)))), ?_⟩
  · refine ⟨fun pins s' σ H' D I h' => ?_⟩
    obtain ⟨Ech, hW, h1, h2, h3⟩ := h'
    have hp := act (fun c d σ H => σ.length = 3 → W c d σ H) pn xe Ech p3 p4 (takes_len tk) (fun cls d σ' H' e hl => hW cls d σ' H' hl e)
    exact (pss_one (ps_expr (pos := p5) hp (sw3 _ rfl))).run pins s' σ H' D I ⟨h1, h2, h3⟩
  · refine ⟨fun cls d H' => ∃ C0, cls = .ref C0 ∧ d = none ∧ PySem.W.exmOne X.K cls (.ref CS) = some true ∧ ∀ a, H' a = none → Q (.ref a) (upd H' a (ExcO C0 a)), fun cls d σ' H' hl ⟨C0, e1, e2, e3, e4⟩ => ⟨C0, e1, e2, e3, fun b hb => ?_⟩, rfl, hc, ?_⟩
    · refine ⟨.ref b, ?_, e4 b hb⟩
      rw [List.getElem?_set_ne (by decide)]
      exact List.getElem?_set_self (by rw [List.length_set, hl]; decide)
    · refine (congrArg (tl _ H) (funext fun v => funext fun H' => propext ⟨fun z => ?_, fun z => ⟨.non, rfl, z⟩⟩)).mpr h
      obtain ⟨v', e1, e2⟩ := z
      have e3 : v' = .non := by
        have e4 : some (some V.non) = some (some v') := e1
        cases e4
        rfl
      rw [e3] at e2
      exact e2
end Pd
end
section
set_option Elab.async false
set_option linter.all false
set_option maxRecDepth 100000
namespace Pd
open PySem PySem.Spec L2 LamX
open PyProof.Rows hiding St

/-! ### isinstance -/
inductive K7 where
  | non | bl | int | str | tup | lst | dct
deriving DecidableEq
def K7.nm : K7 → String
  | .non => "NoneType" | .bl => "bool" | .int => "int" | .str => "str" | .tup => "tuple" | .lst => "list" | .dct => "dict"
/-- a value's kind -/
def kindD (st : Sto) : D → Option K7
  | .non => some .non
  | .bl _ => some .bl
  | .int _ => some .int
  | .str _ => some .str
  | .tup _ => some .tup
  | .lst _ => some .lst
  | .scr _ => some .lst
  | .dct _ _ => some .dct
  | .ref n => match st[n]? with | some (.lst _) => some .lst | some (.dct _ _) => some .dct | none => none
  | .fn _ => none
  | .exc _ => none
def K7.sub (a T : K7) : Bool := decide (a = T) || (decide (a = .bl) && decide (T = .int))
theorem kitB_sub (a T : K7) : kitB a.nm T.nm = some (a.sub T) := by
  cases a <;> cases T <;> decide +kernel
section
variable {X : Cx} {C : Ct} {W : WX} {k : Nat} {ρ Z : List Addr} {H : Hp} {st : Sto}
theorem kind_ok {d : D} {v : V} {κ : K7} (S : RS C ρ Z H st) (r : RV C ρ Z H d v) (h : kindD st d = some κ) : TyX C.K H v (.type κ.nm) := by
  unfold kindD at h
  split at h
  · cases h; unfold RV at r; subst r; exact .base .non
  · cases h; unfold RV at r; subst r; exact .base (.bl _)
  · cases h; unfold RV at r; subst r; exact .base (.int _)
  · cases h; unfold RV at r; subst r; exact .base (.str _)
  · cases h
    unfold RV at r
    obtain ⟨a, vs, rfl, t, q⟩ := r
    rcases t with t | ⟨o, its, n, e1, e2, _⟩
    · exact .base (.tup t.1)
    · exact .kTuple e1 e2
  · cases h
    unfold RV at r
    obtain ⟨a, vs, rfl, t, q⟩ := r
    exact .base (.lst t.1)
  · cases h
    unfold RV at r
    obtain ⟨a, vs, rfl, t, q⟩ := r
    rcases t with ⟨o, t⟩ | ⟨o, its, n, e1, e2, _⟩
    · exact .base (.frz t.1)
    · exact .kList e1 e2
  · cases h
    unfold RV at r
    obtain ⟨a, vs, rfl, l, t, q⟩ := r
    exact .base (.dK t.1)
  · unfold RV at r
    obtain ⟨a, rfl, e⟩ := r
    split at h
    · cases h
      rename_i e2
      obtain ⟨vs, q, _⟩ := S.ob _ a _ e e2
      exact .base (.lst q)
    · cases h
      rename_i e2
      obtain ⟨vs, _, q, _⟩ := S.ob _ a _ e e2
      exact .base (.dK q)
    · cases h
  · cases h
  · cases h
def dIsi (T : K7) (a : Den) : Den := fun env st => bindR (a env st) fun x st => match kindD st x with | some κ => some (.ok (.bl (κ.sub T)) st) | none => none
def dIsi2 (T U : K7) (a : Den) : Den := fun env st => bindR (a env st) fun x st => match kindD st x with | some κ => some (.ok (.bl (κ.sub T || κ.sub U)) st) | none => none
variable {e : Expr} {da : Den} {p p1 p2 p3 pos : Pos} {y y2 : Str} {kk : Nat}
theorem isBy {n : K7} : RelV (.ty n.nm) (Value.type n.nm) := rfl
theorem pd_isi [g : Go X C W k] (T : K7) (ha : PD X C W e da) (hm : C.mg "isinstance" = none) (hy : C.mg y = none) (hv : bootBuiltins y = some (.type T.nm) := by decide +kernel) (hg : Gl X "isinstance" := by rfl) (hgy : Gl X y := by rfl)
    (hn : y ≠ "__name__" := by decide) (hdb : (y == ("__debug__" : Str)) = false := by decide)
    (hs : starEach [e, .Name y p1] X.env = (false, eval e X.env) :: starEach [.Name y p1] X.env := by rfl) (hs2 : starEach [.Name y p1] X.env = (false, eval (.Name y p1) X.env) :: starEach [] X.env := by rfl)
    (hpl : (backTo pos (starEach [.Name y p1] X.env)).any (·.1) = false := by rfl) : PD X C W (.Call (.Name "isinstance" p) [e, .Name y p1] [] pos) (dIsi T da) :=
  pe_imp (pe_callB call_isi hg (by rw [g.hm]; exact hm) (by decide +kernel) (pa_cons ha (pa_cons (pe_bltn hgy (by rw [g.hm]; exact hy) hv isBy hn hdb) pa_nil hs2) hs) (by decide) (by decide) hs hpl) fun σ H Q ⟨ρ, Z, env, st, S, E, h⟩ =>
    tD_mono (seqE S E h) fun v H1 ⟨ρ1, st1, x, S1, E1, rx, _, _, h1⟩ => by
      split at h1
      · rename_i κ ek
        refine ⟨v, .ty T.nm, .type κ.nm, .type T.nm, κ.sub T, rfl, .ty _, ?_, kit_ty (kitB_sub κ T), h1.now S1 (rv_bl.mpr rfl)⟩
        rw [g.hK]
        exact kind_ok S1 rx ek
      · exact h1.elim
theorem pd_isi2 [g : Go X C W k] (T U : K7) (ha : PD X C W e da) (hm : C.mg "isinstance" = none) (hy : C.mg y = none) (hy2 : C.mg y2 = none) (hv : bootBuiltins y = some (.type T.nm) := by decide +kernel) (hv2 : bootBuiltins y2 = some (.type U.nm) := by decide +kernel)
    (hg : Gl X "isinstance" := by rfl) (hgy : Gl X y := by rfl) (hgy2 : Gl X y2 := by rfl)
    (hn : y ≠ "__name__" := by decide) (hdb : (y == ("__debug__" : Str)) = false := by decide) (hn2 : y2 ≠ "__name__" := by decide) (hdb2 : (y2 == ("__debug__" : Str)) = false := by decide)
    (hs : starEach [e, .Tuple [.Name y p1, .Name y2 p2] kk p3] X.env = (false, eval e X.env) :: starEach [.Tuple [.Name y p1, .Name y2 p2] kk p3] X.env := by rfl)
    (hs2 : starEach [.Tuple [.Name y p1, .Name y2 p2] kk p3] X.env = (false, eval (.Tuple [.Name y p1, .Name y2 p2] kk p3) X.env) :: starEach [] X.env := by rfl)
    (hs3 : starEach [.Name y p1, .Name y2 p2] X.env = (false, eval (.Name y p1) X.env) :: starEach [.Name y2 p2] X.env := by rfl) (hs4 : starEach [.Name y2 p2] X.env = (false, eval (.Name y2 p2) X.env) :: starEach [] X.env := by rfl)
    (hpl : (backTo pos (starEach [.Tuple [.Name y p1, .Name y2 p2] kk p3] X.env)).any (·.1) = false := by rfl) : PD X C W (.Call (.Name "isinstance" p) [e, .Tuple [.Name y p1, .Name y2 p2] kk p3] [] pos) (dIsi2 T U da) :=
  pe_imp (pe_callB call_isiT hg (by rw [g.hm]; exact hm) (by decide +kernel)
    (pa_cons ha (pa_cons (pe_tup (pa_cons (pe_bltn hgy (by rw [g.hm]; exact hy) hv isBy hn hdb) (pa_cons (pe_bltn hgy2 (by rw [g.hm]; exact hy2) hv2 isBy hn2 hdb2) pa_nil hs4) hs3)) pa_nil hs2) hs) (by decide) (by decide) hs hpl) fun σ H Q ⟨ρ, Z, env, st, S, E, h⟩ =>
    tD_mono (seqE S E h) fun v H1 ⟨ρ1, st1, x, S1, E1, rx, _, _, h1⟩ => by
      split at h1
      · rename_i κ ek
        refine ⟨(show 2 ≤ sizeLine by decide), fun tp hp => ?_⟩
        have x1 : Ext ρ1 H1 ρ1 (upd H1 tp (.tup [.ty T.nm, .ty U.nm])) := Ext.fresh hp
        refine ⟨v, tp, [.ty T.nm, .ty U.nm], .type κ.nm, [.type T.nm, .type U.nm], κ.sub T || κ.sub U, rfl, upd_same, .cons (.ty _) (.cons (.ty _) .nil), ?_, ?_, h1 ρ1 _ _ x1 (S1.val hp) (rv_bl.mpr rfl)⟩
        · rw [g.hK]
          exact kind_ok (S1.val hp) (rx.ext x1) ek
        · refine kitAny_cons (kit_ty (kitB_sub κ T)) (fun e1 => kitAny_cons (kit_ty (kitB_sub κ U)) (fun e2 => ?_) (fun e2 => ?_)) (fun e1 => ?_)
          · rw [e1, e2]; rfl
          · rw [e1, e2]; rfl
          · rw [e1]; rfl
      · exact h1.elim
/-- of a caught error, and its own class -/
theorem call_isX {D : Addr} (E : ExcC X.K D) : CallR X (.builtin "isinstance") (fun xs H Q => ∃ a b, xs = [.ref a, .ref D] ∧ H a = some (ExcO D a) ∧ PySem.W.kitOne X.K (.ref D) (.ref D) = some b ∧ Q (.bl b) H) := by
  intro pins s σ H xs us Q I r h
  obtain ⟨a, b, rfl, ha, e, q⟩ := h
  obtain ⟨u1, u2, rfl, r1, r2⟩ := vals2 r
  cases (show u1 = Value.ref a from r1)
  cases (show u2 = Value.ref D from r2)
  obtain ⟨ox, vs, h1, h2, h3, h4⟩ := (I.hok a _ ha).1
  have J : PySem.W.InstAt s.heap a ox D none := by
    obtain ⟨oc, od, oda, osl⟩ := ox
    dsimp only at h2 h3 h4
    subst h2 h3 h4
    exact ⟨h1, rfl, rfl, trivial⟩
  exact PySem.W.kia_one (PySem.W.handS_kitx_exc E.hg E.hk E.hs E.hd E.ha E.hn E.ht E.hm) I.kIn J e (fun z => nomatch z) fun tk => ⟨.bl b, H, I.tok tk, rfl, q⟩
def dIsX (c : Str) (a : Den) : Den := fun env st => bindR (a env st) fun x st => match x with | .exc c' => if c' = c then some (.ok (.bl true) st) else none | _ => none
theorem pd_isX [g : Go X C W k] {D : Addr} (ha : PD X C W e da) (hm : C.mg "isinstance" = none) (hy : C.mg y = some (.ref D)) (E : ExcC C.K D) (hk : PySem.W.kitOne C.K (.ref D) (.ref D) = some true) (hg : Gl X "isinstance" := by rfl) (hgy : Gl X y := by rfl)
    (hdb : (y == ("__debug__" : Str)) = false := by decide)
    (hs : starEach [e, .Name y p1] X.env = (false, eval e X.env) :: starEach [.Name y p1] X.env := by rfl) (hs2 : starEach [.Name y p1] X.env = (false, eval (.Name y p1) X.env) :: starEach [] X.env := by rfl)
    (hpl : (backTo pos (starEach [.Name y p1] X.env)).any (·.1) = false := by rfl) : PD X C W (.Call (.Name "isinstance" p) [e, .Name y p1] [] pos) (dIsX y da) :=
  pe_imp (pe_callB (call_isX (X := X) (D := D) (by rw [g.hK]; exact E)) hg (by rw [g.hm]; exact hm) (by decide +kernel) (pa_cons ha (pa_cons (pe_glob (v := .ref D) hgy (by rw [g.hm]; exact hy) rfl hdb) pa_nil hs2) hs) (by decide) (by decide) hs hpl) fun σ H Q ⟨ρ, Z, env, st, S, E, h⟩ =>
    tD_mono (seqE S E h) fun v H1 ⟨ρ1, st1, x, S1, E1, rx, _, _, h1⟩ => by
      split at h1
      · split at h1
        · rename_i c' ec
          subst ec
          unfold RV at rx
          obtain ⟨a, cls, rfl, m, t⟩ := rx
          rw [hy] at m
          cases m
          exact ⟨a, true, rfl, t.1, by rw [g.hK]; exact hk, h1.now S1 (rv_bl.mpr rfl)⟩
        · exact h1.elim
      · exact h1.elim
end
end Pd
end
section
set_option Elab.async false
set_option linter.all false
set_option maxRecDepth 100000
namespace Pd
open PySem PySem.Spec L2 LamX
open PyProof.Rows hiding St

section
variable {X : Cx} {C : Ct} {W : WX} {k : Nat} {ρ Z : List Addr} {H : Hp} {st : Sto} {σ : St}
variable {e tg : Expr} {de : Den} {dl : DenL} {p pos tpos : Pos} {elts : List Expr} {kk : Nat}
/-! ### the signs of a text -/
def sgn (x : Str) : List D := x.cps.toList.map fun c => D.str ⟨#[c]⟩
def dSgn (a : Den) : DenL := fun env st => bindR (a env st) fun x st => match x with | .str y => some (.ok (sgn y) st) | _ => none
theorem sgn_at {x : Str} {i : Nat} : (sgn x)[i]? = (x.cps[i]?).map fun c => D.str ⟨#[c]⟩ := by
  unfold sgn
  rw [List.getElem?_map, Array.getElem?_toList]
theorem sgn_len {x : Str} : (sgn x).length = x.cps.size := by unfold sgn; rw [List.length_map, Array.length_toList]
theorem its_ok {x : Str} : ItOk C (Its x) ρ Z H (sgn x) where
  go := fun i ρ' Z' H' st' _ _ S hl => by rw [sgn_len] at hl; exact hl
  yld := fun i ρ' Z' H' st' v H'' d _ _ S e y => by
    obtain ⟨rfl, c, hc, rfl⟩ := y
    rw [sgn_at, hc] at e
    cases e
    exact ⟨Ext.refl _ _, S, by unfold RV; rfl, fun _ _ h => h⟩
  stop := fun i ρ' Z' H' st' _ _ S hl => by rw [sgn_len] at hl; exact hl
theorem pid_str (he : PD X C W e de) : PID X C W tg e (dSgn de) :=
  pi_imp (pi_str he) fun σ H Q ⟨ρ, Z, env, st, S, E, h⟩ => tD_mono (seqEI S E h) fun v H1 ⟨ρ1, st1, x, S1, E1, rx, _, _, h1⟩ => by
    split at h1
    · rename_i y _
      unfold RV at rx
      exact ⟨y, rx, h1 ρ1 H1 _ (Ext.refl _ _) S1 its_ok⟩
    · exact h1.elim
/-! ### enumerate(a list) -/
def enumD (n : Nat) : List D → List D
  | [] => []
  | d :: ds => .tup [.int (n : Nat), d] :: enumD (n + 1) ds
theorem enum_at : ∀ {ds : List D} {n i : Nat}, (enumD n ds)[i]? = (ds[i]?).map fun d => D.tup [.int ((n + i : Nat) : Int), d]
  | [], n, i => by unfold enumD; simp
  | d :: ds, n, 0 => by unfold enumD; simp
  | d :: ds, n, i + 1 => by
    unfold enumD
    rw [List.getElem?_cons_succ, List.getElem?_cons_succ, enum_at, Nat.add_right_comm, Nat.add_assoc]
theorem enum_len : ∀ {ds : List D} {n : Nat}, (enumD n ds).length = ds.length
  | [], _ => rfl
  | d :: ds, n => by unfold enumD; rw [List.length_cons, List.length_cons, enum_len]
def itemsL (d : D) : Option (List D) := match d with | .lst ds => some ds | _ => none
def dEnum (a : DenL) : DenL := fun env st => bindR (a env st) fun xs st => match xs with | [x] => (match itemsL x with | some ds => some (.ok (enumD 0 ds) st) | none => none) | _ => none
theorem itemsL_ok {d : D} {v : V} {ds : List D} (r : RV C ρ Z H d v) (h : itemsL d = some ds) : ∃ a vs o, v = .ref a ∧ (o = .lst vs ∨ ∃ ob, o = .frz ob (.lst vs)) ∧ Rz ρ Z H a o ∧ RVs C ρ Z H ds vs := by
  unfold itemsL at h
  split at h
  · cases h
    unfold RV at r
    obtain ⟨a, vs, e, t, q⟩ := r
    exact ⟨a, vs, _, e, .inl rfl, t, q⟩
  · cases h
theorem ite_ok {a : Addr} {ds : List D} {vs : List V} {o : HO} (ho : o = .lst vs ∨ ∃ ob, o = .frz ob (.lst vs)) (t : Rz ρ Z H a o) (q : RVs C ρ Z H ds vs) : ItOk C (Ite C.K a) ρ Z H (enumD 0 ds) := by
  have nt : ∀ ps, o ≠ .tbl ps := fun ps z => by rcases ho with z' | ⟨ob, z'⟩ <;> rw [z'] at z <;> cases z
  have sq : ∀ ρ' Z' H', Ext ρ H ρ' H' → (∀ a ∈ Z', a ∈ Z ∨ H a = none) → SqL C.K H' a vs := fun ρ' Z' H' x hz => by
    have z := (t.later x hz nt).1
    rcases ho with z' | ⟨ob, z'⟩ <;> rw [z'] at z
    · exact .inl (.inl z)
    · exact .inl (.inr ⟨ob, z⟩)
  refine ⟨fun i ρ' Z' H' st' x hz S hl => ?_, fun i ρ' Z' H' st' v H'' d x hz S e y => ?_, fun i ρ' Z' H' st' x hz S hl => ⟨vs, sq _ _ _ x hz, by rw [← q.length, ← enum_len (n := 0)]; exact hl⟩⟩
  · rw [enum_len] at hl
    obtain ⟨v, e, _⟩ := q.get (List.getElem?_eq_getElem hl)
    exact ⟨vs, v, sq _ _ _ x hz, e⟩
  · obtain ⟨T, x1, rfl, hT, rfl, f⟩ := y
    rw [enum_at] at e
    cases e1 : ds[i]? with
    | none => rw [e1] at e; cases e
    | some d1 =>
      rw [e1] at e
      cases e
      obtain ⟨v1, e2, r1⟩ := q.get e1
      have z := f vs (sq _ _ _ x hz)
      rw [e2] at z
      cases z
      refine ⟨Ext.fresh hT, S.val hT, ?_, fun a o h => by rw [upd_ne (ne_of_none h hT)]; exact h⟩
      unfold RV
      refine ⟨T, _, rfl, .inl ⟨upd_same, S.fresh hT, S.nz hT⟩, (RVs.cons (rv_int.mpr ?_) (RVs.cons (r1.later x hz) RVs.nil)).ext (Ext.fresh hT)⟩
      rw [Nat.zero_add]
theorem pid_enum [g : Go X C W k] (hm : C.mg "enumerate" = none) (ha : PDL X C W [e] dl) (hg : Gl X "enumerate" := by rfl) (hs : starEach [e] X.env = [(false, eval e X.env)] := by rfl) :
    PID X C W (.Tuple elts kk tpos) (.Call (.Name "enumerate" p) [e] [] pos) (dEnum dl) :=
  pi_imp (pi_enum hg (by rw [g.hm]; exact hm) ha hs) fun σ H Q ⟨ρ, Z, env, st, S, E, h⟩ => tDL_mono (seqLI S E h) fun vs H1 ⟨ρ1, st1, xs, S1, E1, rx, _, _, h1⟩ => by
    rw [g.hK]
    split at h1
    · split at h1
      · rename_i x ds e1
        obtain ⟨v, rfl, rv⟩ := vs1 rx
        obtain ⟨a, us, o, rfl, ho, t, q⟩ := itemsL_ok rv e1
        have nt : SqL C.K H1 a us := by
          have z := t.1
          rcases ho with z' | ⟨ob, z'⟩ <;> rw [z'] at z
          · exact .inl (.inl z)
          · exact .inl (.inr ⟨ob, z⟩)
        exact ⟨a, us, rfl, nt, h1 ρ1 H1 _ (Ext.refl _ _) S1 (ite_ok ho t q)⟩
      · exact h1.elim
    · exact h1.elim
/-! ### join -/
def strsD : List D → Option (List Str)
  | [] => some []
  | .str x :: r => (strsD r).map (x :: ·)
  | _ :: _ => none
theorem strsD_ok : ∀ {ds : List D} {vs : List V} {xs : List Str}, RVs C ρ Z H ds vs → strsD ds = some xs → vs = xs.map V.str
  | [], _, _, r, h => by cases h; unfold RVs at r; exact r
  | .str x :: ds, _, _, r, h => by
    unfold strsD at h
    obtain ⟨ys, e, rfl⟩ := Option.map_eq_some_iff.mp h
    unfold RVs at r
    obtain ⟨v, r', rfl, h1, h2⟩ := r
    rw [strsD_ok h2 e, rv_str.mp h1]
    rfl
  | .non :: ds, _, _, r, h => by cases h
  | .bl _ :: ds, _, _, r, h => by cases h
  | .int _ :: ds, _, _, r, h => by cases h
  | .tup _ :: ds, _, _, r, h => by cases h
  | .lst _ :: ds, _, _, r, h => by cases h
  | .scr _ :: ds, _, _, r, h => by cases h
  | .dct _ _ :: ds, _, _, r, h => by cases h
  | .ref _ :: ds, _, _, r, h => by cases h
  | .fn _ :: ds, _, _, r, h => by cases h
  | .exc _ :: ds, _, _, r, h => by cases h
def dJoin (a b : Den) : Den := fun env st => bindR (a env st) fun x st => match x with
  | .str z => bindR (b env st) fun y st => (match asS st y with
    | some ds => (match strsD ds with | some ys => if (ys.map (·.length)).sum + ys.length * z.length ≤ 16777216 then some (.ok (.str (Txt.join z ys)) st) else none | none => none)
    | none => none)
  | _ => none
theorem pd_join {o : Expr} {dO : Den} {apos : Pos} [g : Go X C W k] (ho : PD X C W o dO) (he : PD X C W e de) (hs : starEach [e] X.env = [(false, eval e X.env)] := by rfl) (hbase : attributeBase o "join" X.env (eval o X.env) = eval o X.env := by rfl) (hline : (apos.endLine == pos.line) = true := by rfl) :
    PD X C W (.Call (.Attribute o "join" apos) [e] [] pos) (dJoin dO de) :=
  pe_imp (pe_join ho he hs hbase hline) fun σ H Q ⟨ρ, Z, env, st, S, E, h⟩ => tD_mono (seqE S E h) fun v H1 ⟨ρ1, st1, x, S1, E1, rx, _, _, h1⟩ => by
    split at h1
    · rename_i z _
      have q := rv_str.mp rx
      subst q
      refine ⟨⟨z, rfl⟩, tD_mono (seqE S1 E1 h1) fun u H2 ⟨ρ2, st2, y, S2, E2, ry, x2, _, h2⟩ => ?_⟩
      split at h2
      · rename_i ds e1
        split at h2
        · rename_i ys e2
          split at h2
          · rename_i hl
            obtain ⟨b, ws, rfl, t, q⟩ := asS_ok S2 ry e1
            have ew := strsD_ok q e2
            subst ew
            exact ⟨z, b, ys, rfl, rfl, by rw [g.hK]; exact t, hl, h2.now S2 (rv_str.mpr rfl)⟩
          · exact h2.elim
        · exact h2.elim
      · exact h2.elim
    · exact h1.elim
/-! ### list(a text) -/
theorem vals_by : ∀ {xs : List V} {us : List Value}, xs.length = us.length → (∀ (i : Nat) (v : V) (u : Value), xs[i]? = some v → us[i]? = some u → RelV v u) → Vals xs us
  | [], [], _, _ => .nil
  | [], _ :: _, h, _ => by simp at h
  | _ :: _, [], h, _ => by simp at h
  | x :: xs, u :: us, h, f => .cons (f 0 x u rfl rfl) (vals_by (by simpa using h) fun i v w h1 h2 => f (i + 1) v w (by rw [List.getElem?_cons_succ]; exact h1) (by rw [List.getElem?_cons_succ]; exact h2))
theorem call_list_text (hc : X.calm = true) : CallR X (.type "list") (fun xs H Q => ∃ z : Str, xs = [.str z] ∧ z.cps.size ≤ sizeLine ∧ ∀ l, H l = none → Q (.ref l) (upd H l (.lst (z.cps.toList.map fun c => V.str ⟨#[c]⟩)))) := by
  intro pins s σ H xs us Q I r h
  obtain ⟨z, rfl, hz, q⟩ := h
  obtain ⟨u, rfl, t, rfl⟩ := vals1 r
  refine call_list_str (hn := hz) (I.ok.hd hc) z t fun h' tk acc c' hk e' hi => ?_
  have rv : Vals (z.cps.toList.map fun c => V.str ⟨#[c]⟩) acc.toList := by
    obtain ⟨hl, hf⟩ := hi
    refine vals_by (by rw [List.length_map, Array.length_toList, Array.length_toList]; exact hl.symm) fun i v u h1 h2 => ?_
    rw [Array.getElem?_toList] at h2
    obtain ⟨c, t', hc, rfl⟩ := hf i u h2
    rw [List.getElem?_map, Array.getElem?_toList, hc] at h1
    cases h1
    exact ⟨t', rfl⟩
  have new : ObjOk X.prog X.w (upd H s.heap.objs.size (.lst (z.cps.toList.map fun c => V.str ⟨#[c]⟩))) h' s.heap.objs.size (.lst (z.cps.toList.map fun c => V.str ⟨#[c]⟩)) := by
    refine ⟨?_, acc.toList, c', rv, ?_⟩
    · rw [List.length_map, Array.length_toList]; exact hz
    · rw [e'] <;> rfl
  exact ⟨.ref _, _, I.laid (t' := tk) hk (Nat.le_refl _) new, rfl, q _ (I.hok.fresh (Nat.le_refl _))⟩
def fListS (cell : Bool) (xs : List D) (st : Sto) : Option (R D) := match xs with
  | [.str z] => if z.cps.size ≤ sizeLine then mkL cell (sgn z) st else none
  | _ => none
theorem sgn_rv {x : Str} : RVs C ρ Z H (sgn x) (x.cps.toList.map fun c => V.str ⟨#[c]⟩) := by
  unfold sgn
  generalize x.cps.toList = l
  induction l with
  | nil => exact RVs.nil
  | cons c l ih => exact RVs.cons (rv_str.mpr rfl) ih
theorem sem_listS (cell : Bool) : SemL C (fListS cell) (fun xs H Q => ∃ z : Str, xs = [.str z] ∧ z.cps.size ≤ sizeLine ∧ ∀ l, H l = none → Q (.ref l) (upd H l (.lst (z.cps.toList.map fun c => V.str ⟨#[c]⟩)))) := fun W ρ Z H st σ xs vs Q S r h => by
  unfold fListS at h
  split at h
  · rename_i z
    obtain ⟨v, rfl, rv⟩ := vs1 r
    have q := rv_str.mp rv
    subst q
    split at h
    · exact ⟨z, rfl, by assumption, fun l hl => mkL_ok S hl sgn_rv h⟩
    · exact h.elim
  · exact h.elim
/-! ### sorted(texts) -/
def leS (a b : Str) : Bool := decide (a.cps.toList ≤ b.cps.toList)
def sortS (xs : List Str) : List Str := xs.mergeSort leS
end
end Pd
end
section
set_option Elab.async false
set_option linter.all false
set_option maxRecDepth 100000
namespace Pd
open PySem PySem.Spec L2 LamX
open PyProof.Rows hiding St

section
variable {X : Cx} {C : Ct} {W : WX} {k : Nat} {ρ Z : List Addr} {H : Hp} {st : Sto} {σ : St}
/-! ### < of data -/
def ltD (st : Sto) (x y : D) : Option Bool := match x, y with
  | .int i, .int j => some (decide (i < j))
  | .str a, .str b => some (decide (a.cps.toList < b.cps.toList))
  | x, y => match pyOf st x, pyOf st y with
    | some p, some q => if PySem.W.alike p q && SeqAt.shaped p && !(PyData.eqv p .none) then some (PySem.W.dataLt p q) else none
    | _, _ => none
def opLt (x y : D) (st : Sto) : Option (R D) := match ltD st x y with | some b => ok1 (.bl b) st | none => none
def rLtData (K : PySem.W.Frag) : R2 := fun x y H Q => ∃ d e, Dp K H x d ∧ Dp K H y e ∧ PySem.W.alike d e = true ∧ SeqAt.shaped d = true ∧ d ≠ .none ∧ Q (.bl (PySem.W.dataLt d e)) H
theorem op_ltData (hu : X.A.units + 64 < cLine) : OpR X (compareOp .Lt) (rLtData X.K) := by
  intro pins s σ H x y v u Q I rx ry h
  obtain ⟨d, e, hd, he, al, sh, nn, q⟩ := h
  obtain ⟨as, r1⟩ := Dp.reads I d x v hd rx
  obtain ⟨bs, r2⟩ := Dp.reads I e y u he ry
  exact PySem.W.rcLt_alike d e X.A s v u as bs r1 r2 al nn (SeqAt.room_of_shaped sh hu) _ _ _ _ ⟨.bl _, H, I, rfl, q⟩
def rLtA (K : PySem.W.Frag) : R2 := fun x y H Q => rI0 (fun i j => .bl (decide (i < j))) x y H Q ∨ (∃ i j, x = .str i ∧ y = .str j ∧ Q (.bl (decide (i.cps.toList < j.cps.toList))) H) ∨ rLtData K x y H Q
theorem op_ltA (hu : X.A.units + 64 < cLine) : OpR X (compareOp .Lt) (rLtA X.K) := OpR.or op_lt (OpR.or op_lt_str (op_ltData hu))
theorem sem_lt : Sem2 C opLt (rLtA C.K) := fun W ρ Z H st σ x y v u Q S rx ry h => by
  unfold opLt at h
  split at h
  · rename_i b e
    unfold ltD at e
    split at e
    · cases e
      exact .inl ⟨_, _, rv_int.mp rx, rv_int.mp ry, h.now S (rv_bl.mpr rfl)⟩
    · cases e
      exact .inr (.inl ⟨_, _, rv_str.mp rx, rv_str.mp ry, h.now S (rv_bl.mpr rfl)⟩)
    · split at e
      · rename_i p q e1 e2
        split at e
        · rename_i hc
          cases e
          rw [Bool.and_eq_true, Bool.and_eq_true, Bool.not_eq_true'] at hc
          refine .inr (.inr ⟨p, q, pyOf_ok S rx e1, pyOf_ok S ry e2, hc.1.1, hc.1.2, fun z => ?_, h.now S (rv_bl.mpr rfl)⟩)
          rw [z] at hc
          exact absurd hc.2 (by decide)
        · cases e
      · cases e
  · exact h.elim
/-! ### sorted of data -/
def leP (x y : D) : Bool := !PySem.W.dataLt ((D.py y).getD .none) ((D.py x).getD .none)
def okSort (ps : List PyData) : Bool := (ps.all fun p => ps.all fun q => PySem.W.alike p q) && (ps.all fun p => SeqAt.shaped p) &&
  ((ps.all fun p => match p with | .tuple (_ :: _) => true | _ => false) || (ps.all fun p => match p with | .tuple _ => false | .none => false | _ => true))
def sortD (ds : List D) : List D := ds.mergeSort leP
def fSorted (cell : Bool) (xs : List D) (st : Sto) : Option (R D) := match xs with
  | [x] => (match asL st x with
    | some ds => (match D.pys ds with | some ps => if okSort ps && decide (ds.length ≤ sizeLine) then mkL cell (sortD ds) st else none | none => none)
    | none => none)
  | _ => none
theorem each_vals : ∀ {vs : List V} {us : List Value}, Vals vs us → ∀ {ds : List D}, ds.length = vs.length → PySem.W.EachIs (fun (u : Value) (b : D × V) => RelV b.2 u) us (ds.zip vs)
  | _, _, .nil, ds, h => by cases ds with | nil => exact .nil | cons d ds => simp at h
  | _, _, .cons r t, ds, h => by
    cases ds with
    | nil => simp at h
    | cons d ds => exact .cons r (each_vals t (by simpa using h))
theorem vals_each : ∀ {us : List Value} {bs : List (D × V)}, PySem.W.EachIs (fun (u : Value) (b : D × V) => RelV b.2 u) us bs → Vals (bs.map (·.2)) us
  | _, _, .nil => .nil
  | _, _, .cons r t => .cons r (vals_each t)
theorem each_reads {s : Shared} {pins : List (Addr × Obj)} (I : Inv X pins σ H s) : ∀ {ds : List D} {vs : List V} {us : List Value} {ps : List PyData}, RVs C ρ Z H ds vs → Vals vs us → D.pys ds = some ps → X.K = C.K →
    PySem.W.EachIs (fun (u : Value) (b : D × V) => ∃ as, Reads s.heap u ((D.py b.1).getD .none) as) us (ds.zip vs)
  | [], _, _, _, r, v, _, _ => by unfold RVs at r; subst r; cases v; exact .nil
  | d :: ds, _, _, _, r, v, h, hK => by
    unfold RVs at r
    obtain ⟨x, r', rfl, h1, h2⟩ := r
    unfold D.pys at h
    split at h
    · rename_i p ps e1 e2
      cases v with
      | cons a b =>
        refine .cons ?_ (each_reads I h2 b e2 hK)
        have z := py_ok d x p h1 e1
        rw [← hK] at z
        show ∃ as, Reads _ _ ((D.py d).getD .none) as
        rw [e1]
        exact Dp.reads I p x _ z a
    · cases h
theorem pys_map : ∀ {ds : List D} {ps : List PyData}, D.pys ds = some ps → ds.map (fun d => (D.py d).getD .none) = ps
  | [], _, h => by unfold D.pys at h; cases h; rfl
  | d :: ds, _, h => by
    unfold D.pys at h
    split at h
    · rename_i p ps e1 e2
      cases h
      rw [List.map_cons, e1, pys_map e2]
      rfl
    · cases h
theorem RVs.zipMem : ∀ {ds : List D} {vs : List V}, RVs C ρ Z H ds vs → ∀ b ∈ ds.zip vs, RV C ρ Z H b.1 b.2
  | [], _, r, b, m => by unfold RVs at r; subst r; cases m
  | d :: ds, _, r, b, m => by
    unfold RVs at r
    obtain ⟨v, r', rfl, h1, h2⟩ := r
    rw [List.zip_cons_cons] at m
    rcases List.mem_cons.mp m with e | m
    · rw [e]; exact h1
    · exact RVs.zipMem h2 b m
theorem RVs.ofPairs : ∀ {bs : List (D × V)}, (∀ b ∈ bs, RV C ρ Z H b.1 b.2) → RVs C ρ Z H (bs.map (·.1)) (bs.map (·.2))
  | [], _ => RVs.nil
  | b :: bs, h => RVs.cons (h b List.mem_cons_self) (RVs.ofPairs fun c m => h c (List.mem_cons_of_mem _ m))
/-- sorted of data: the list is sorted together with what it stands for -/
def rSortD (K : PySem.W.Frag) : List V → Hp → VK → Prop := fun xs H Q => ∃ (C : Ct) (ρ Z : List Addr) (a : Addr) (vs : List V) (ds : List D) (ps : List PyData), C.K = K ∧ xs = [.ref a] ∧ SqL K H a vs ∧ RVs C ρ Z H ds vs ∧ D.pys ds = some ps ∧ okSort ps = true ∧ ds.length ≤ sizeLine ∧
  ∀ l, H l = none → Q (.ref l) (upd H l (.lst (((ds.zip vs).mergeSort fun x y => leP x.1 y.1).map (·.2))))
theorem call_sortD (hu : X.A.units + 68 < cLine) : CallR X (.builtin "sorted") (rSortD X.K) := by
  intro pins s σ H xs us Q I r h
  obtain ⟨C, ρ, Z, a, vs, ds, ps, hK, rfl, hq, rd, hp, ok, hl, q⟩ := h
  obtain ⟨u, rfl, rx⟩ := vals1 r
  cases rx
  obtain ⟨its, rv, pl, hz⟩ := I.list hq
  have hlen := rd.length
  unfold okSort at ok
  rw [Bool.and_eq_true, Bool.and_eq_true, Bool.or_eq_true, List.all_eq_true, List.all_eq_true, List.all_eq_true, List.all_eq_true] at ok
  have em : (ds.zip vs).map (fun b : D × V => (D.py b.1).getD .none) = ps := by
    rw [← pys_map hp]
    have z : (ds.zip vs).map (fun b : D × V => (D.py b.1).getD .none) = ((ds.zip vs).map Prod.fst).map (fun d => (D.py d).getD .none) := by rw [List.map_map]; rfl
    rw [z, List.map_fst_zip (by omega)]
  refine PySem.W.sorted_data (R := fun (u : Value) (b : D × V) => RelV b.2 u) (enc := fun b : D × V => (D.py b.1).getD .none) (bs := ds.zip vs) pl.isList (each_vals rv hlen) (each_reads I rd rv hp hK.symm) ?_ ?_ ?_ ?_ ?_
  · rw [em]
    intro d hd d' hd'
    exact List.all_eq_true.mp (ok.1.1 d hd) d' hd'
  · rw [em]
    rcases ok.2 with z | z
    · refine .inl fun d hd => ?_
      have y := z d hd
      split at y
      · exact ⟨_, _, rfl⟩
      · cases y
    · refine .inr fun d hd => ?_
      have y := z d hd
      split at y
      · cases y
      · cases y
      · rename_i n1 n2
        exact ⟨n2, n1⟩
  · rw [List.length_zip]
    omega
  · intro b hb
    have z : (D.py b.1).getD .none ∈ ps := by rw [← em]; exact List.mem_map.mpr ⟨b, hb, rfl⟩
    have y := SeqAt.depth_of_shaped (ok.1.2 _ z)
    omega
  · intro out ho eo
    have e1 : (ds.zip vs).mergeSort (PySem.W.dataLe false fun b : D × V => (D.py b.1).getD .none) = (ds.zip vs).mergeSort fun x y => leP x.1 y.1 := rfl
    rw [e1] at eo
    have rv2 := vals_each eo
    obtain ⟨ep, he'⟩ := PyProof.Rows.sortedAll_at s.heap its out.toArray
    have hl2 : (((ds.zip vs).mergeSort fun x y => leP x.1 y.1).map (·.2)).length ≤ sizeLine := by
      rw [List.length_map, List.length_mergeSort, List.length_zip]
      omega
    exact ⟨.ref _, upd H (s.heap.objs.size + 1) (.lst (((ds.zip vs).mergeSort fun x y => leP x.1 y.1).map (·.2))), I.laid (t' := s.toks) (fun _ _ => PyProof.Rows.sortedAll_old) (Nat.le_succ _) ⟨hl2, out, ep, rv2, he'⟩, rfl, q _ (I.hok.fresh (Nat.le_succ _))⟩
theorem sort_fst {ds : List D} {vs : List V} (h : ds.length = vs.length) : ((ds.zip vs).mergeSort fun x y => leP x.1 y.1).map (·.1) = sortD ds := by
  unfold sortD
  rw [List.map_mergeSort (s := leP) (fun a _ b _ => rfl), List.map_fst_zip (by omega)]
theorem sem_sorted (cell : Bool) : SemL C (fSorted cell) (rSortD C.K) := fun W ρ Z H st σ xs vs Q S r h => by
  unfold fSorted at h
  split at h
  · split at h
    · split at h
      · split at h
        · rename_i x _ ds e1 _ ps e2 hc
          rw [Bool.and_eq_true, decide_eq_true_eq] at hc
          obtain ⟨v, rfl, rv⟩ := vs1 r
          obtain ⟨a, us, rfl, t, q⟩ := asL_ok S rv e1
          refine ⟨C, ρ, Z, a, us, ds, ps, rfl, rfl, t, q, e2, hc.1, hc.2, fun l hl => ?_⟩
          refine mkL_ok S hl ?_ h
          rw [← sort_fst q.length]
          exact RVs.ofPairs fun b hb => q.zipMem b (List.mem_mergeSort.mp hb)
        · exact h.elim
      · exact h.elim
    · exact h.elim
  · exact h.elim
end
end Pd
end
section
set_option Elab.async false
set_option linter.all false
set_option maxRecDepth 100000
namespace Pd
open PySem PySem.Spec L2 LamX
open PyProof.Rows hiding St

section
variable {X : Cx} {C : Ct} {W : WX} {k : Nat} {ρ Z : List Addr} {H : Hp} {st : Sto} {σ : St} {env : En}
/-! ### {"a": x, ..} -/
abbrev KDs := List (Str × Den)
def dpL : KDs → DenL
  | [] => dNil
  | kd :: r => dCons kd.2 (dpL r)
def trsK (C : Ct) (W : WX) (kds : KDs) : List (TE × TE) := kds.map fun kd => (tC (.str kd.1), tD C W kd.2)
theorem tPairs_mono : ∀ {kds : KDs} {σ : St} {H : Hp} {Q Q' : List (V × V) → Hp → Prop}, tPairs (trsK C W kds) σ H Q → (∀ ps H', Q ps H' → Q' ps H') → tPairs (trsK C W kds) σ H Q'
  | [], _, _, _, _, h, i => i _ _ h
  | kd :: r, σ, H, Q, Q', h, i => tD_mono (Q' := fun y H2 => tPairs (trsK C W r) σ H2 fun ps H3 => Q' ((V.str kd.1, y) :: ps) H3) h fun y H2 q => tPairs_mono q fun ps H3 z => i _ _ z
theorem AfterL.tail {d : D} {v : V} {m : Option (R (List D))} {Q : List V → Hp → Prop} (r : RV C ρ Z H d v) (h : AfterL C W ρ Z H σ (bindR m fun xs st => some (.ok (d :: xs) st)) Q) : AfterL C W ρ Z H σ m fun vs H' => Q (v :: vs) H' := by
  cases e : m with
  | none => rw [e] at h; exact h
  | some x =>
    rw [e] at h
    cases x with
    | ok xs st1 => exact fun ρ' H' us x S r' => h ρ' H' (v :: us) x S (RVs.cons (r.ext x) r')
    | ex c st1 => exact h
theorem pairs_read : ∀ (kds : KDs) {ρ Z : List Addr} {H : Hp} {st : Sto} {QL : List V → Hp → Prop}, RS C ρ Z H st → RE C ρ Z H env σ → AfterL C W ρ Z H σ (dpL kds env st) QL →
    tPairs (trsK C W kds) σ H fun ps H2 => ∃ vs, vs.length = kds.length ∧ ps = (kds.map fun kd => V.str kd.1).zip vs ∧ QL vs H2
  | [], ρ, Z, H, st, QL, S, E, h => ⟨[], rfl, rfl, h ρ H [] (Ext.refl _ _) S RVs.nil⟩
  | kd :: r, ρ, Z, H, st, QL, S, E, h => tD_mono (seqEL S E h) fun y H2 ⟨ρ1, st1, x, S1, E1, rx, _, _, h1⟩ => tPairs_mono (pairs_read r S1 E1 (AfterL.tail rx h1)) fun ps H3 ⟨vs, hl, ep, q⟩ =>
      ⟨y :: vs, by rw [List.length_cons, List.length_cons, hl], by rw [ep]; rfl, q⟩
abbrev PPD (X : Cx) (C : Ct) (W : WX) (pos : Pos) (keys : List (Option Expr)) (values : List Expr) (kds : KDs) : Prop := PPs X pos keys values (trsK C W kds)
theorem ppd_nil {pos : Pos} : PPD X C W pos [] [] [] := pps_nil
theorem ppd_cons {pos p : Pos} {x : Str} {j} {e : Expr} {d : Den} {ks : List (Option Expr)} {vs : List Expr} {kds : KDs} (h : PD X C W e d) (hr : PPD X C W pos ks vs kds) : PPD X C W pos (some (.Constant (.str x) j p) :: ks) (e :: vs) ((x, d) :: kds) := pps_cons pe_str h hr
def mkDc (cell : Bool) (ks : List Key) (ds : List D) (st : Sto) : Option (R D) := if cell then some (.ok (.ref st.length) (st ++ [.dct ks ds])) else some (.ok (.dct ks ds) st)
def dDisp (cell : Bool) (kds : KDs) : Den := fun env st => bindR (dpL kds env st) fun xs st => mkDc cell (kds.map fun kd => Sum.inr kd.1) xs st
theorem any_zip {k : Key} : ∀ {ks : List Key} {vs : List V}, k ∉ ks → ((ks.zip vs).any fun kv => decide (kv.1 = k)) = false
  | [], _, _ => rfl
  | _ :: _, [], _ => rfl
  | x :: ks, v :: vs, h => by
    rw [List.zip_cons_cons, List.any_cons, any_zip fun m => h (List.mem_cons_of_mem _ m), decide_eq_false (fun z => h (by rw [show (x, v).1 = x from rfl] at z; rw [z]; exact List.mem_cons_self))]
    rfl
theorem mergeK_zip : ∀ (ks : List Key) (vs : List V) (ks0 : List Key) (vs0 : List V), ks0.length = vs0.length → ks.length = vs.length → (ks0 ++ ks).Nodup → mergeK (ks0.zip vs0) (ks.zip vs) = (ks0 ++ ks).zip (vs0 ++ vs)
  | [], vs, ks0, vs0, l0, l, n => by
    have e : vs = [] := List.eq_nil_of_length_eq_zero (by rw [← l]; rfl)
    subst e
    simp [mergeK]
  | k :: ks, [], _, _, _, l, _ => by simp at l
  | k :: ks, v :: vs, ks0, vs0, l0, l, n => by
    have nk : k ∉ ks0 := fun m => by
      have z := (List.nodup_append.mp n).2.2 k m k List.mem_cons_self
      exact z rfl
    have e1 : putK (ks0.zip vs0) k v = (ks0 ++ [k]).zip (vs0 ++ [v]) := by
      unfold putK
      rw [any_zip nk, if_neg (by simp), List.zip_append l0]
      rfl
    have e2 : mergeK (ks0.zip vs0) ((k :: ks).zip (v :: vs)) = mergeK (putK (ks0.zip vs0) k v) (ks.zip vs) := rfl
    rw [e2, e1, mergeK_zip ks vs (ks0 ++ [k]) (vs0 ++ [v]) (by simp [l0]) (by simpa using l) (by simpa [List.append_assoc] using n)]
    simp [List.append_assoc]
theorem str_zip : ∀ (kds : KDs) (vs : List V), (kds.map fun kd => V.str kd.1).zip vs = ((kds.map fun kd => (Sum.inr kd.1 : Key)).zip vs).map fun kv => (kV kv.1, kv.2)
  | [], _ => rfl
  | _ :: _, [] => rfl
  | kd :: r, v :: vs => by
    rw [List.map_cons, List.map_cons, List.zip_cons_cons, List.zip_cons_cons, List.map_cons, str_zip r vs]
    rfl
theorem pd_disp {pos : Pos} {keys : List (Option Expr)} {values : List Expr} {kds : KDs} (cell : Bool) (h : PPD X C W pos keys values kds) (hall : keys.all (·.isSome) = true := by rfl) (hl : keys.length = values.length := by rfl) (h0 : keys ≠ [] := by exact (fun z => nomatch z))
    (h15 : keys.length ≤ 15 := by decide) (hk : kds.length ≤ 15 := by decide) (hn : (kds.map fun kd => (Sum.inr kd.1 : Key)).Nodup := by decide) : PD X C W (.Dict keys values pos) (dDisp cell kds) :=
  pe_imp (pe_disp h hall hl h0 h15) fun σ H Q ⟨ρ, Z, env, st, S, E, h⟩ => by
    intro p hp
    have S1 := S.more (o' := .dK []) hp
    have x1 : Ext ρ H ρ (upd H p (.dK [])) := Ext.fresh hp
    have hz : ∀ a ∈ p :: Z, a ∈ Z ∨ H a = none := fun a m => (List.mem_cons.mp m).elim (fun z => .inr (by rw [z]; exact hp)) .inl
    refine tPairs_mono (pairs_read (QL := fun vs H2 => H2 p = some (.dK []) ∧ (vs.length = kds.length → Q (.ref p) (upd H2 p (.dK ((kds.map fun kd => (Sum.inr kd.1 : Key)).zip vs))))) kds S1 (E.later x1 hz) ?_) ?_
    · unfold dDisp at h
      cases e : dpL kds env st with
      | none => rw [e] at h; exact h.elim
      | some m =>
        rw [e] at h
        cases m with
        | ex c st1 => exact fun ρ' H' cls x S' m => h ρ' H' cls (x1.trans x) S'.less m
        | ok xs st1 =>
          intro ρ2 H2 vs x2 S2 r2
          have hp1 : (upd H p (.dK [])) p = some (.dK []) := upd_same
          have n1 : p ∉ ρ := S.fresh hp
          have hp2 := x2.keep p _ hp1 n1 (fun _ z => by cases z)
          have n2 := x2.nin hp1 n1 (fun _ z => by cases z)
          have mD : p ∈ p :: Z := List.mem_cons_self
          refine ⟨hp2, fun hlv => ?_⟩
          have S3 := S2.hid (o' := .dK ((kds.map fun kd => (Sum.inr kd.1 : Key)).zip vs)) mD n2 hp2
          have r3 := r2.hid (u := .dK ((kds.map fun kd => (Sum.inr kd.1 : Key)).zip vs)) mD
          have x3 : Ext ρ H ρ2 (upd H2 p (.dK ((kds.map fun kd => (Sum.inr kd.1 : Key)).zip vs))) := (x1.trans x2).hid hp
          unfold bindR at h
          dsimp only at h
          unfold mkDc at h
          have hkl : (kds.map fun kd => (Sum.inr kd.1 : Key)).length = vs.length := by rw [List.length_map, hlv]
          cases cell with
          | false =>
            refine h ρ2 _ (.ref p) x3 S3.less ?_
            unfold RV
            exact ⟨p, vs, rfl, hkl, ⟨upd_same, n2, S.nz hp⟩, r3.less⟩
          | true =>
            refine h (ρ2 ++ [p]) _ (.ref p) ⟨x3.pre.trans (List.prefix_append _ _), x3.keep, fun a m n o e => ?_⟩ (S3.less.grown (ob := .dct _ xs) n2 ⟨vs, hkl, upd_same, r3⟩ S3 (S.nz hp)) ?_
            · rcases List.mem_append.mp m with z | z
              · exact x3.new a z n o e
              · rw [List.mem_singleton.mp z, hp] at e; cases e
            · unfold RV
              exact ⟨p, rfl, by rw [← S3.len, List.getElem?_append_right (Nat.le_refl _), Nat.sub_self]; rfl⟩
    · intro ps H2 ⟨vs, hlv, ep, q1, q2⟩
      have hlen : ((kds.map fun kd => (Sum.inr kd.1 : Key)).zip vs).length ≤ 15 := by rw [List.length_zip, List.length_map]; omega
      refine ⟨q1, (kds.map fun kd => (Sum.inr kd.1 : Key)).zip vs, by rw [ep, str_zip], hlen, ?_⟩
      have z := mergeK_zip (kds.map fun kd : Str × Den => (Sum.inr kd.1 : Key)) vs [] [] rfl (by rw [List.length_map, hlv]) (by rw [List.nil_append]; exact hn)
      simp only [List.nil_append, List.zip_nil_left] at z
      rw [z]
      exact q2 hlv
def dNewD (cell : Bool) : Den := fun _ st => mkDc cell [] [] st
theorem mkDc_ok {cell : Bool} {ks : List Key} {ds : List D} {vs : List V} {Q : VK} {p : Addr} (S : RS C ρ Z H st) (hp : H p = none) (l : ks.length = vs.length) (r : RVs C ρ Z H ds vs) (h : After C W ρ Z H σ (mkDc cell ks ds st) Q) : Q (.ref p) (upd H p (.dK (ks.zip vs))) := by
  unfold mkDc at h
  cases cell with
  | false =>
    refine h ρ _ (.ref p) (Ext.fresh hp) (S.val hp) ?_
    unfold RV
    exact ⟨p, vs, rfl, l, ⟨upd_same, S.fresh hp, S.nz hp⟩, r.ext (Ext.fresh hp)⟩
  | true =>
    refine h (ρ ++ [p]) _ (.ref p) (Ext.cell hp) (S.cell hp ⟨vs, l, upd_same, r.ext (Ext.cell hp)⟩) ?_
    unfold RV
    exact ⟨p, rfl, by rw [← S.len, List.getElem?_append_right (Nat.le_refl _), Nat.sub_self]; rfl⟩
theorem pd_newD {pos : Pos} (cell : Bool) : PD X C W (.Dict [] [] pos) (dNewD cell) :=
  pe_imp pe_dnewK fun σ H Q ⟨ρ, Z, env, st, S, E, h⟩ => fun p hp => mkDc_ok (ks := []) (vs := []) S hp rfl RVs.nil h
/-! ### dict(a list of pairs) -/
def pairsD : List D → Option (List (Key × D))
  | [] => some []
  | .tup [a, b] :: r => (match keyD a, pairsD r with | some q, some s => some ((q, b) :: s) | _, _ => none)
  | _ :: _ => none
def dctL (kds : List (Key × D)) : List Key × List D := kds.foldl (fun acc kd => putD acc.1 acc.2 kd.1 kd.2) ([], [])
def fDict (cell : Bool) (xs : List D) (st : Sto) : Option (R D) := match xs with
  | [x] => (match asM st x with
    | some ds => (match pairsD ds with | some kds => mkDc cell (dctL kds).1 (dctL kds).2 st | none => none)
    | none => none)
  | _ => none
theorem putD_mem {q : Key} {d : D} : ∀ {ks : List Key} {ds : List D} {x : Key}, x ∈ (putD ks ds q d).1 → x ∈ ks ∨ x = q
  | [], ds, x, h => by
    unfold putD at h
    exact .inr (List.mem_singleton.mp h)
  | k :: ks, [], x, h => by
    unfold putD at h
    exact .inr (List.mem_singleton.mp h)
  | k :: ks, e :: ds, x, h => by
    unfold putD at h
    split at h
    · exact .inl h
    · rcases List.mem_cons.mp h with z | z
      · exact .inl (by rw [z]; exact List.mem_cons_self)
      · exact (putD_mem z).imp (List.mem_cons_of_mem _) id
theorem putD_nodup {q : Key} {d : D} : ∀ {ks : List Key} {ds : List D}, ks.Nodup → (putD ks ds q d).1.Nodup
  | [], ds, h => by unfold putD; simp
  | k :: ks, [], h => by unfold putD; simp
  | k :: ks, e :: ds, h => by
    unfold putD
    have h2 := List.nodup_cons.mp h
    split
    · exact h
    · rename_i ne
      refine List.nodup_cons.mpr ⟨fun m => (putD_mem m).elim h2.1 ne, putD_nodup h2.2⟩
inductive KPair (C : Ct) (ρ Z : List Addr) (H : Hp) : List (Key × D) → List (Key × V) → Prop where
  | nil : KPair C ρ Z H [] []
  | cons {q : Key} {d : D} {v : V} {r : List (Key × D)} {s : List (Key × V)} (h : RV C ρ Z H d v) (t : KPair C ρ Z H r s) : KPair C ρ Z H ((q, d) :: r) ((q, v) :: s)
theorem dct_fold : ∀ {kds : List (Key × D)} {kvs : List (Key × V)}, KPair C ρ Z H kds kvs → ∀ {ks : List Key} {ds : List D} {us : List V}, RVs C ρ Z H ds us → ks.length = us.length → ks.Nodup →
    ∃ ws, (kds.foldl (fun acc kd => putD acc.1 acc.2 kd.1 kd.2) (ks, ds)).1.length = ws.length ∧ mergeK (ks.zip us) kvs = (kds.foldl (fun acc kd => putD acc.1 acc.2 kd.1 kd.2) (ks, ds)).1.zip ws ∧ RVs C ρ Z H (kds.foldl (fun acc kd => putD acc.1 acc.2 kd.1 kd.2) (ks, ds)).2 ws
  | _, _, .nil, ks, ds, us, r, l, n => ⟨us, l, rfl, r⟩
  | _, _, .cons (q := q) (d := d) (v := v) (r := kds) (s := kvs) h t, ks, ds, us, r, l, n => by
    obtain ⟨us1, l1, e1, r1⟩ := put_rv (q := q) h r l n
    obtain ⟨ws, a, b, c⟩ := dct_fold t (ks := (putD ks ds q d).1) (ds := (putD ks ds q d).2) r1 l1 (putD_nodup n)
    refine ⟨ws, a, ?_, c⟩
    rw [← e1] at b
    exact b
theorem pairs_rv : ∀ {ds : List D} {vs : List V} {kds : List (Key × D)}, RVs C ρ Z H ds vs → pairsD ds = some kds → ∃ (ps : List Addr) (kvs : List (Key × V)), vs = ps.map V.ref ∧ Paired (fun p kv => SqT C.K H p [kV kv.1, kv.2]) ps kvs ∧ KPair C ρ Z H kds kvs
  | [], _, _, r, h => by
    cases h
    unfold RVs at r
    subst r
    exact ⟨[], [], rfl, .nil, .nil⟩
  | d :: ds, _, _, r, h => by
    unfold pairsD at h
    split at h
    · rename_i heq
      cases heq
    · rename_i a b r' heq
      cases heq
      split at h
      · rename_i q s e1 e2
        cases h
        unfold RVs at r
        obtain ⟨v, vs, rfl, r1, r2⟩ := r
        obtain ⟨ad, us, rfl, t, q2⟩ := tup_ok r1
        obtain ⟨x, y, rfl, rx, ry⟩ := vs2 q2
        rw [keyD_ok rx e1] at t
        obtain ⟨ps, kvs, h1, h2, h3⟩ := pairs_rv r2 e2
        exact ⟨ad :: ps, (q, y) :: kvs, by rw [h1]; rfl, .cons t h2, .cons ry h3⟩
      · cases h
    · cases h
theorem sem_dict (cell : Bool) : SemL C (fDict cell) (fun xs H Q => ∃ (a : Addr) (ps : List Addr) (kvs : List (Key × V)), xs = [.ref a] ∧ SqL C.K H a (ps.map V.ref) ∧ Paired (fun p kv => SqT C.K H p [kV kv.1, kv.2]) ps kvs ∧
    ∀ p, H p = none → Q (.ref p) (upd H p (.dK (mergeK [] kvs)))) := fun W ρ Z H st σ xs vs Q S r h => by
  unfold fDict at h
  split at h
  · split at h
    · split at h
      · rename_i x _ ds e1 _ kds e2
        obtain ⟨v, rfl, rv⟩ := vs1 r
        obtain ⟨a, us, rfl, t, q⟩ := asM_ok S rv e1
        obtain ⟨ps, kvs, h1, h2, h3⟩ := pairs_rv q e2
        subst h1
        refine ⟨a, ps, kvs, rfl, .inl (.inl t), h2, fun p hp => ?_⟩
        obtain ⟨ws, b1, b2, b3⟩ := dct_fold h3 (ks := []) (ds := []) (us := []) RVs.nil rfl List.nodup_nil
        have z := mkDc_ok (cell := cell) S hp b1 b3 h
        have b2' : mergeK [] kvs = (dctL kds).1.zip ws := b2
        rw [b2']
        exact z
      · exact h.elim
    · exact h.elim
  · exact h.elim
end
end Pd
end
section
set_option Elab.async false
set_option linter.all false
set_option maxRecDepth 100000
namespace Pd
open PySem PySem.Spec L2 LamX
open PyProof.Rows hiding St

section
variable {X : Cx} {C : Ct} {W : WX} {k : Nat} {e : Expr} {es : List Expr} {dl : DenL} {p pos : Pos} {x : Str}
/-! ### a call of a local name that holds a def -/
abbrev FS := Str → Option (List D → Sto → Option (R D))
def dCallV (i : Nat) (fs : FS) (dl : DenL) : Den := fun env st => match env[i]? with
  | some (some (.fn f)) => (match fs f with | some F => bindR (dl env st) fun xs st => F xs st | none => none)
  | _ => none
theorem pd_callV (i : Nat) (fs : FS) [g : Go X C W k] (hF : ∀ f F, fs f = some F → ∃ j sd ps, FD X.prog X.w C X.base j f sd ps F ∧ j ≤ k) (ha : PDL X C W (e :: es) dl) (hN : X.N[i]? = some x := by rfl)
    (hv : Vis X.env.scope x := by first | exact Or.inl rfl | exact Or.inr (Or.inl rfl) | exact Or.inr (Or.inr rfl)) (hd : (x == ("__debug__" : Str)) = false := by decide) (hcd : (x == ("__classdict__" : Str)) = false := by decide)
    (he : starEach (e :: es) X.env = (false, eval e X.env) :: starEach es X.env := by rfl) (hpl : (backTo pos (starEach es X.env)).any (·.1) = false := by rfl) : PD X C W (.Call (.Name x p) (e :: es) [] pos) (dCallV i fs dl) := by
  refine ⟨fun pins s σ H Q I h => ?_⟩
  obtain ⟨ρ, Z, env, st, S, E, h⟩ := h
  unfold dCallV at h
  split at h
  · rename_i f e0
    split at h
    · rename_i F e1
      obtain ⟨v, ev, rv⟩ := E.at_ i _ e0
      unfold RV at rv
      obtain ⟨a, rfl, hma⟩ := rv
      obtain ⟨j, sd, ps, FDf, hj⟩ := hF f F e1
      obtain ⟨a', fd, m, fu, b, F'⟩ := FDf.ex
      have ea : a' = a := by
        have z := m.symm.trans hma
        cases z
        rfl
      subst ea
      have hK := g.hK
      have hm := g.hm
      refine wpAny_Call_Name_kw (thn ((pe_var (pos := p) hN hv hd hcd).run pins s σ H (fun v H1 => v = .ref a' ∧ H1 = H) I ⟨.ref a', ev, rfl, rfl⟩) fun u s1 ⟨v, H1, I1, r1, q1⟩ => ?_)
      obtain ⟨rfl, rfl⟩ := q1
      cases r1
      have hk : PySem.W.keepIn X.K (.ref a') = true := by rw [hK]; exact fu.kp
      refine PySem.W.callWith_K (h₀ := X.base) I1.ok.mod.kin hk (thn (ha.run pos pins s1 σ _ _ I1 (seqLE S E h)) fun us s2 ⟨vs, H2, I2, r, ρ1, st1, xs, S1, E1, rx, _, _, h1⟩ => ⟨I2.kIn, ?_⟩) he hpl
      have F2 : FnOk X.prog X.w X.K X.mg X.base (L2.CX X.prog X.w) k a' fd ps (spD C ps.length F) := by rw [hK, hm]; exact F'.mono hj
      exact run_fnS (E := WE W) F2 g.hr (by rw [hK]; exact b) (passAt g.tk σ) I2 r (FDf.sp S1 rx h1)
    · exact h.elim
  · exact h.elim
/-! ### _law_caught(lambda: ..) -/
def dCaught (cs : List Str) (db : Den) : Den := fun env st => match db env st with
  | none => none
  | some (.ok _ st) => some (.ok .non st)
  | some (.ex c st) => if c ∈ cs then some (.ok (.exc c) st) else none
/-- the def _law_caught: what it must be -/
structure CF (P : Program) (w : World) (C : Ct) (x : Str) (cs : List Str) (CS g : Addr) (sd : Stmt) (fd : FuncData) (a y n en : Str) : Prop where
  fu : Fun C.K x x sd g fd
  m : C.mg x = some (.ref g)
  b : Binds C.K fd [a] []
  sc : FnScope [a, y, n] [a] (defScope sd)
  body : ∃ j p0 p1 p2 p3 p4 p5 p6 p7 p8 p9 pa pb pc pd', defBody sd = [.Assign [.Name y p1] (.Constant .none j p0) p2,
      .Try [.Expr (.Call (.Name a p3) [] [] p4) p5] [.ExceptHandler (some (.Name en p9)) (some n) [.Assign [.Name y p6] (.Name n p7) p8] pa] [] [] pb, .Return (some (.Name y pc)) pd'] ∧
    (∀ (X : Cx), X.env.scope = defScope sd → swapsWith (.Constant .none j p0) (some (.Name y p1)) p2.line X.env = pure false) ∧
    (∀ (X : Cx), X.env.scope = defScope sd → swapsWith (.Name n p7) (some (.Name y p6)) p8.line X.env = pure false) ∧
    (∀ (X : Cx), X.env.scope = defScope sd → swapsWith (.Call (.Name a p3) [] [] p4) none p5.line X.env = pure false)
  hy : (defScope sd).names.lookup y = some .local
  hn : (defScope sd).names.lookup n = some .local
  hge : (defScope sd).names.lookup en = some .globalImplicit
  hme : C.mg en = some (.ref CS)
  hva : Vis (defScope sd) a
  dx : (x == ("__debug__" : Str)) = false
  da : (a == ("__debug__" : Str)) = false
  ca : (a == ("__classdict__" : Str)) = false
  de : (en == ("__debug__" : Str)) = false
  d1 : (n == ("__debug__" : Str)) = false
  d2 : (n == ("__classdict__" : Str)) = false
  d3 : (y == ("__debug__" : Str)) = false
  d4 : (y == ("__classdict__" : Str)) = false
  cls : ∀ c, c ∈ cs → ∀ cls, C.mg c = some (.ref cls) → PySem.W.exmOne C.K (.ref cls) (.ref CS) = some true
theorem pd_caught {cs : List Str} {CS gA : Addr} {sd : Stmt} {fd : FuncData} {a y n en : Str} {c P : Addr} {params : Arguments} {body : Expr} {scope : Scope} {lpos : Pos} {db : Den} [g : Go X C W (k + 2)] (F : CF X.prog X.w C x cs CS gA sd fd a y n en)
    (TB : TabB X.base X.mg c P) (hcode : X.env.code = .ref c) (hmT : (P, X.env.qual ++ "<lambda>") ∈ C.T) (hu : ∀ p ∈ C.T, p.1 = P → p.2 = X.env.qual ++ "<lambda>") (L : LamS X.env.scope scope)
    (hbody : ∀ (A : Around) (outer : List Env) (s : Shared) (H : Hp) (E : XK) (f c' : Addr), Go (lamCx X A outer s H E scope f c') C (fun c d _ H => E c d H) k → PD (lamCx X A outer s H E scope f c') C (fun c d _ H => E c d H) body db)
    (hg : Gl X x := by rfl) (hdef : defaultsOf params X.env = ([], []) := by rfl)
    (hbind : ∀ (q : Str) (cl : List (Str × Addr)) (pm cv ctv : Value), bindArgs (PySem.W.kla_fn "<lambda>" q params body scope cl pm cv ctv) ⟨[], []⟩ = pure [] := by intros; rfl) :
    PD X C W (.Call (.Name x p) [.Lambda params body scope lpos] [] pos) (dCaught cs db) := by
  obtain ⟨j, p0, p1, p2, p3, p4, p5, p6, p7, p8, p9, pa, pb, pc, pd', eb, sw1, sw2, sw3⟩ := F.body
  obtain ⟨oc, od, kV, doc, pm, an, cdv, ct, osl, efd, lk, hcd⟩ := F.fu.ex
  have hK := g.hK
  have hm := g.hm
  have hb2 := F.b
  rw [efd] at hb2 lk
  have gv := caught_gives (X := X) (x := x) (q := X.env.qual ++ "<lambda>") (a := a) (e := en) (y := y) (n := n) (sg := defScope sd) (g := gA) (CS := CS) (cdg := cdv) (k1 := 0) (k2 := 0) (p0 := p0) (p1 := p1) (p2 := p2) (p3 := p3) (p4 := p4) (p5 := p5) (p6 := p6) (p7 := p7) (p8 := p8) (p9 := p9) (pa := pa) (pb := pb) (pc := pc) (pd' := pd') (j := j)
    F.sc F.hy F.hn F.hge (by rw [hm]; exact F.hme) F.de F.d1 F.d2 F.d3 F.d4 sw1 sw2 sw3
  rw [← eb] at gv
  refine pe_imp (pe_lamcall (T := C.T) (t := fun E => tD C (fun c d _ H => E c d H) db) hg (by rw [hm]; exact F.m) (by rw [hK]; exact F.fu.kp) (by rw [hK]; exact lk) (by rw [hK]; exact hcd) (by rw [hK]; exact hb2) F.sc rfl F.hva gv TB hcode hmT hu g.hr L hdef hbind
    (fun A outer s H E f c' hr => hbody A outer s H E f c' ⟨hK, hm, takes_of rfl rfl rfl rfl, hr, rfl, g.nd, passes_of rfl⟩) F.dx F.da F.ca) fun σ H Q ⟨ρ, Z, env, st, S, E, h⟩ => ?_
  refine ⟨S.tab, fun H1 x1 T1 => ?_⟩
  have S1 := S.extN x1 T1
  have E1 := E.ext (Ext.ofN (ρ := ρ) x1)
  have h1 := After.back (Ext.ofN (ρ := ρ) x1) h
  refine ⟨ρ, Z, env, st, S1, E1, ?_⟩
  unfold dCaught at h1
  cases e : db env st with
  | none => rw [e] at h1; exact h1.elim
  | some m =>
    rw [e] at h1
    cases m with
    | ok r st' => exact fun ρ' H' v x S' r' => h1 ρ' H' .non x S' (rv_non.mpr rfl)
    | ex c st' =>
      intro ρ' H' cls x S' mc
      dsimp only at h1
      split at h1
      · rename_i hc
        refine ⟨cls, rfl, rfl, by rw [hK]; exact F.cls c hc cls mc, fun b hb => ?_⟩
        have x2 : Ext ρ' H' ρ' (upd H' b (ExcO cls b)) := Ext.fresh hb
        refine h1 ρ' _ (.ref b) (x.trans x2) (S'.val hb (by intro ps z; unfold ExcO at z; cases z)) ?_
        unfold RV
        exact ⟨b, cls, rfl, mc, upd_same, S'.fresh hb, S'.nz hb⟩
      · exact h1.elim
end
end Pd
end
section
set_option Elab.async false
set_option linter.all false
set_option maxRecDepth 100000
namespace Pd
open PySem PySem.Spec L2 LamX
open PyProof.Rows hiding St

section
variable {X : Cx} {C : Ct} {W : WX} {k : Nat}
theorem gu1 [g : Go X C W k] : X.A.units + 1 < cLine := by have := g.hr.un; omega
theorem gu64 [g : Go X C W k] : X.A.units + 64 < cLine := by have := g.hr.un; omega
theorem gu65 [g : Go X C W k] : X.A.units + 65 < cLine := by have := g.hr.un; omega
theorem gu68 [g : Go X C W k] : X.A.units + 68 < cLine := by have := g.hr.un; omega
end
def blkB (N : List Str) (sc scope : Scope) (own : List (Str × Nat)) : Bool :=
  decide (scope.kind = .function) && (scope.names.all fun y => decide (scope.names.lookup y.1 = some y.2)) && (own.all fun p => decide (N[p.2]? = some p.1)) &&
    (scope.names.all fun y => !decide (y.2 = .free) || (decide (sc.names.lookup y.1 = some .cell) || decide (sc.names.lookup y.1 = some .free))) &&
    (scope.names.all fun y => !(decide (y.2 = .local) || decide (y.2 = .cell)) || (decide (y.1 ∈ own.map (·.1)) || decide (y.1 ∉ N)))
theorem blk_by {N : List Str} {sc scope : Scope} {own : List (Str × Nat)} (h : blkB N sc scope own = true) : BlkOk N sc scope own := by
  unfold blkB at h
  simp only [Bool.and_eq_true, Bool.or_eq_true, Bool.not_eq_true', decide_eq_true_eq, decide_eq_false_iff_not, List.all_eq_true, Bool.or_eq_false_iff] at h
  obtain ⟨⟨⟨⟨h1, h2⟩, h3⟩, h4⟩, h5⟩ := h
  refine ⟨h1, h2, h3, fun y hy e => ?_, fun y hy e => ?_⟩
  · rcases h4 y hy with z | z
    · exact absurd e z
    · exact z
  · rcases h5 y hy with z | z
    · rcases e with e | e
      · exact absurd e z.1
      · exact absurd e z.2
    · exact z
/-- an own class of errors without anything of its own -/
structure ExcD (C : Ct) (c : Str) : Prop where
  ex : ∃ a, C.mg c = some (.ref a) ∧ PySem.W.excIn C.K a [.type "ValueError", .type "Exception", .type "BaseException", .type "object"] "ValueError.__new__" = true ∧ PySem.W.keepIn C.K (.ref a) = true ∧
    PySem.W.subIn C.K (.ref a) (.type "BaseException") = some true ∧ PySem.W.typeIn C.K (.ref a) = some (.type "type") ∧ ExcC C.K a ∧ PySem.W.kitOne C.K (.ref a) (.ref a) = some true
structure DefD (C : Ct) (x : Str) (st : Stmt) (ps : List Str) : Prop where
  ex : ∃ (a : Addr) (fd : FuncData), C.mg x = some (.ref a) ∧ Fun C.K x x st a fd ∧ Binds C.K fd ps []
theorem DefD.gv {C : Ct} {x : Str} {st : Stmt} {ps : List Str} (h : DefD C x st ps) : GV C x (.fn x) := by
  obtain ⟨a, fd, m, _⟩ := h.ex
  exact GV.fn m
section
variable {X : Cx} {C : Ct} {W : WX} {k : Nat} {e : Expr} {de : Den} {p p1 pos : Pos} {x : Str}
def sDead : DenS := fun _ _ => none
theorem psd_dead {ss : List Stmt} : PSsD X C W ss sDead := ⟨fun pins s σ H T I ⟨ρ, Z, env, st, S, E, h⟩ => h.elim⟩
theorem psd_raiseD {p p2 ps pos : Pos} {mt : Str} {j : Nat} [g : Go X C W k] (E : ExcD C x) (hg : Gl X x := by rfl) (hdb : (x == ("__debug__" : Str)) = false := by decide) :
    PSD X C W (.Raise (some (.Call (.Name x p) [.Constant (.str mt) j p2] [] ps)) none pos) (sRaise x) := by
  obtain ⟨a, m, xi, kp, sb, ty, _, _⟩ := E.ex
  exact psd_raise PySem.F.excBase_ValueError xi m kp sb ty hg hdb
theorem pd_isXD {da : Den} [g : Go X C W k] (ha : PD X C W e da) (hm : C.mg "isinstance" = none) (E : ExcD C x) (hg : Gl X "isinstance" := by rfl) (hgy : Gl X x := by rfl)
    (hdb : (x == ("__debug__" : Str)) = false := by decide)
    (hs : starEach [e, .Name x p1] X.env = (false, eval e X.env) :: starEach [.Name x p1] X.env := by rfl) (hs2 : starEach [.Name x p1] X.env = (false, eval (.Name x p1) X.env) :: starEach [] X.env := by rfl)
    (hpl : (backTo pos (starEach [.Name x p1] X.env)).any (·.1) = false := by rfl) : PD X C W (.Call (.Name "isinstance" p) [e, .Name x p1] [] pos) (dIsX x da) := by
  obtain ⟨a, m, _, _, _, _, ec, kt⟩ := E.ex
  exact pd_isX ha hm m ec kt hg hgy hdb hs hs2 hpl
/-- what can be walked and is no cell: a list, a tuple, a text -/
def itemsA (d : D) : Option (List D) := match d with | .str y => some (sgn y) | d => itemsW d
def dIt (a : Den) : DenL := fun env st => bindR (a env st) fun x st => match itemsA x with | some ds => some (.ok ds st) | none => none
theorem pid_it {tg : Expr} [g : Go X C W k] (he : PD X C W e de) : PID X C W tg e (dIt de) :=
  pi_imp (pi_alt (pid_seq he) (pid_str he)) fun σ H Q ⟨ρ, Z, env, st, S, E, h⟩ => by
    cases ed : de env st with
    | none => unfold dIt at h; rw [ed] at h; exact h.elim
    | some m =>
      cases m with
      | ex c st1 =>
        refine .inl ⟨ρ, Z, env, st, S, E, ?_⟩
        unfold dIt at h
        unfold dItems
        rw [ed] at h ⊢
        exact h
      | ok d st1 =>
        by_cases hs : ∃ y, d = .str y
        · obtain ⟨y, rfl⟩ := hs
          refine .inr ⟨ρ, Z, env, st, S, E, ?_⟩
          unfold dIt at h
          unfold dSgn
          rw [ed] at h ⊢
          exact h
        · refine .inl ⟨ρ, Z, env, st, S, E, ?_⟩
          unfold dIt at h
          unfold dItems
          rw [ed] at h ⊢
          unfold bindR at h ⊢
          dsimp only at h ⊢
          have e1 : itemsA d = itemsW d := by
            cases d <;> first | rfl | exact absurd ⟨_, rfl⟩ hs
          rw [e1] at h
          exact h
end
end Pd
end
section
set_option Elab.async false
set_option linter.all false
set_option maxRecDepth 100000
set_option maxHeartbeats 1000000
/-! sets of nested tuples (of texts, whole numbers, None): own text over the tables' laws of HandS.TupSets -/
namespace Pd
open PySem PySem.Spec L2

abbrev Nk := NestedKey
/-- at a stands the tuple k -/
def IsN (h : Heap) (k : Nk) (a : Addr) : Prop := NestedIs h k (.ref a) ∧ k.depth ≤ 8
theorem IsN.stay {h h' : Heap} {k : Nk} {a : Addr} (x : IsN h k a) (i : ∀ b o vs n, h.get? b = some o → o.data = .seq vs n → h'.get? b = some o) : IsN h' k a := ⟨NestedIs.at i k _ x.1, x.2⟩
theorem IsN.keep {h h' : Heap} {k : Nk} {a : Addr} (x : IsN h k a) (i : ∀ b o, h.get? b = some o → h'.get? b = some o) : IsN h' k a := x.stay fun b o _ _ e _ => i b o e
/-- a set is written: tuples stay -/
theorem IsN.beside {h h' : Heap} {k : Nk} {a b : Addr} {o : Obj} {es : Array (Int × Value)} {ep : Nat} {t : SetTable} (x : IsN h k b) (ho : h.get? a = some o) (hd : o.data = .set es ep t) (hs : Heap.SameBut a h h') : IsN h' k b :=
  x.stay fun c oc vs n e d => by
    refine (hs.2 c fun z => ?_).trans e
    rw [z, ho] at e
    cases e
    rw [hd] at d
    cases d
theorem IsN.obj {h : Heap} {k : Nk} {a : Addr} (x : IsN h k a) : ∃ o vs n ks, k = .tup ks ∧ h.get? a = some o ∧ o.cls = .type "tuple" ∧ o.data = .seq vs n ∧ NestedAll h ks vs.toList := by
  obtain ⟨y, _⟩ := x
  cases y with
  | tup a b c d => exact ⟨_, _, _, _, rfl, a, b, c, d⟩
section
variable {P : Program} {w : World} {A : Around} {E : Value → Shared → Prop} {s : Shared}
mutual
theorem cls_key : ∀ (k : Nk) (v : Value) (n : Nat) (s : Shared) (Q : Bool → Shared → Prop), NestedIs s.heap k v → k.depth ≤ n → Q false s → wpAny (model P w) A (ofAClassStatement n v) Q E s
  | .none, _, n, s, Q, x, _, q => by cases x; cases n <;> exact wpAny_pure q
  | .num i, _, n, s, Q, x, _, q => by cases x <;> cases n <;> exact wpAny_pure q
  | .text y, _, n, s, Q, x, _, q => by cases x; cases n <;> exact wpAny_pure q
  | .tup ks, _, 0, s, Q, x, hn, q => by simp [NestedKey.depth] at hn
  | .tup ks, _, n + 1, s, Q, x, hn, q => by
    cases x with
    | @tup a o vs m _ h1 h2 h3 h4 =>
      have hT : s.TypeIs (.ref a) "tuple" := ⟨o, h1, h2⟩
      simp only [NestedKey.depth] at hn
      unfold ofAClassStatement
      refine wpAny_bind (wpAny_typeOf hT ?_)
      dsimp only
      have e : (("tuple" : String) == "tuple") = true := by decide
      simp only [e, if_true, Bool.not_true, Bool.false_eq_true, if_false]
      show wpAny _ _ (seqItems? (.ref a) >>= _) _ _ s
      refine wpAny_bind (wpAny_seqItems h1 h3 ?_)
      refine wpAny_bind ?_
      show wpAny _ _ (forIn vs _ _) _ _ s
      rw [← Array.forIn_toList]
      exact cls_keys ks vs.toList n s _ h4 (by omega) (wpAny_pure q)
theorem cls_keys : ∀ (ks : List Nk) (vs : List Value) (n : Nat) (s : Shared) (Q : Option Bool × Unit → Shared → Prop), NestedAll s.heap ks vs → NestedKey.depthAll ks ≤ n → Q (none, ()) s →
    wpAny (model P w) A (forIn vs (none, ()) fun y (r : Option Bool × Unit) => do if ← ofAClassStatement n y then pure (ForInStep.done (some true, ())) else pure (ForInStep.yield (none, ()))) Q E s
  | [], _, n, s, Q, x, _, q => by cases x; exact wpAny_pure q
  | k :: ks, _, n, s, Q, x, hn, q => by
    cases x with
    | cons x1 x2 =>
      simp only [NestedKey.depthAll] at hn
      rw [List.forIn_cons]
      refine wpAny_bind (wpAny_bind (cls_key k _ n s _ x1 (by omega) ?_))
      exact wpAny_pure (cls_keys ks _ n s Q x2 (by omega) q)
end
mutual
theorem hbv_key : ∀ (k : Nk) (v : Value) (n : Nat) (s : Shared) (Q : Bool → Shared → Prop), NestedIs s.heap k v → (∀ b, Q b s) → wpAny (model P w) A (hashByValue n v) Q E s
  | .none, _, n, s, Q, x, q => by cases x; cases n <;> exact wpAny_pure (q _)
  | .num i, _, n, s, Q, x, q => by cases x <;> cases n <;> exact wpAny_pure (q _)
  | .text y, _, n, s, Q, x, q => by cases x; cases n <;> exact wpAny_pure (q _)
  | .tup ks, _, 0, s, Q, x, q => by cases x; exact wpAny_pure (q _)
  | .tup ks, _, n + 1, s, Q, x, q => by
    cases x with
    | @tup a o vs m _ h1 h2 h3 h4 =>
      have hT : s.TypeIs (.ref a) "tuple" := ⟨o, h1, h2⟩
      unfold hashByValue
      refine wpAny_bind (wpAny_specialOf hT F.slot_tuple_hash.lookup ?_)
      show wpAny _ _ (seqItems? (.ref a) >>= _) _ _ s
      refine wpAny_bind (wpAny_seqItems h1 h3 ?_)
      refine wpAny_bind ?_
      show wpAny _ _ (forIn vs _ _) _ _ s
      rw [← Array.forIn_toList]
      exact hbv_keys ks vs.toList n s _ h4 (wpAny_pure (q _)) fun b => wpAny_pure (q _)
theorem hbv_keys : ∀ (ks : List Nk) (vs : List Value) (n : Nat) (s : Shared) (Q : Option Bool × Unit → Shared → Prop), NestedAll s.heap ks vs → Q (none, ()) s → (∀ b, Q (some b, ()) s) →
    wpAny (model P w) A (forIn vs (none, ()) fun y (r : Option Bool × Unit) => do if !(← hashByValue n y) then pure (ForInStep.done (some false, ())) else pure (ForInStep.yield (none, ()))) Q E s
  | [], _, n, s, Q, x, q, _ => by cases x; exact wpAny_pure q
  | k :: ks, _, n, s, Q, x, q, q2 => by
    cases x with
    | cons x1 x2 =>
      rw [List.forIn_cons]
      refine wpAny_bind (wpAny_bind (hbv_key k _ n s _ x1 fun b => ?_))
      cases b with
      | true => exact wpAny_pure (hbv_keys ks _ n s Q x2 q q2)
      | false => exact wpAny_pure (wpAny_pure (q2 false))
end
/-- a search among such tuples shows nothing -/
theorem seen_key {k : Nk} {b : Addr} {Q : Bool → Shared → Prop} (hk : IsN s.heap k b) {ys : List Value} (hy : ∀ y ∈ ys, ∃ k' c, y = Value.ref c ∧ IsN s.heap k' c) (q : Q false s) :
    wpAny (model P w) A (searchCouldBeSeen (.ref b) ys) Q E s := by
  unfold searchCouldBeSeen
  refine wpAny_bind ?_
  refine wpAny_forIn_list _ (fun rest r s' => r.1 = none ∧ s' = s ∧ ∀ y ∈ rest, ∃ k' c, y = Value.ref c ∧ IsN s.heap k' c) _ ?_ ?_ _ _ ⟨rfl, rfl, hy⟩
  · rintro v rest r s' ⟨hr, rfl, hall⟩
    obtain ⟨k', c, rfl, hc⟩ := hall v List.mem_cons_self
    have more : ∀ y ∈ rest, ∃ k' c, y = Value.ref c ∧ IsN s'.heap k' c := fun u m => hall u (List.mem_cons_of_mem _ m)
    dsimp only
    by_cases hv : (b == c || (carriedByValue (.ref b) && carriedByValue (.ref c))) = true
    · exact wp_if_pos hv (wpAny_pure ⟨rfl, rfl, more⟩)
    · refine wp_if_neg hv ?_
      refine wpAny_bind (quiet_key k _ 8 s' hk.1 hk.2 _ _ _ ?_)
      simp only [Bool.not_true, Bool.false_eq_true, if_false]
      refine wpAny_bind (quiet_key k' _ 8 s' hc.1 hc.2 _ _ _ ?_)
      simp only [Bool.not_true, Bool.false_eq_true, if_false]
      refine wpAny_bind (cls_key k _ 8 s' _ hk.1 hk.2 ?_)
      simp only [Bool.false_eq_true, if_false]
      refine wpAny_bind (cls_key k' _ 8 s' _ hc.1 hc.2 ?_)
      simp only [Bool.false_eq_true, if_false]
      exact wpAny_pure ⟨rfl, rfl, more⟩
  · rintro ⟨r1, r2⟩ s' ⟨hr, rfl, _⟩
    simp only at hr
    subst hr
    exact wpAny_pure q
end
/-! ### the set -/
def rw_ (w : World) (L : List (Addr × Nk)) : List (Int × Value) := L.map fun p => (p.2.hash w, Value.ref p.1)
theorem rw_len (w : World) (L : List (Addr × Nk)) : (rw_ w L).length = L.length := by unfold rw_; rw [List.length_map]
theorem rw_at {w : World} {L : List (Addr × Nk)} {i : Nat} {p : Addr × Nk} (h : L[i]? = some p) : (rw_ w L)[i]? = some (p.2.hash w, Value.ref p.1) := by
  unfold rw_
  rw [List.getElem?_map, h]
  rfl
abbrev hs_ (w : World) (L : List (Addr × Nk)) : List Int := L.map fun p => p.2.hash w
structure SetN (w : World) (h : Heap) (a : Addr) (L : List (Addr × Nk)) (es : Array (Int × Value)) (ep : Nat) (t : SetTable) : Prop where
  ob : ∃ o, h.get? a = some o ∧ o.ExactSet ∧ o.data = .set es ep t
  rows : es.toList = rw_ w L
  tab : TabOk t (hs_ w L)
  nd : (L.map (·.2)).Nodup
  tup : ∀ p ∈ L, IsN h p.2 p.1
  led : w.params.followText "set-order" = true ∨ t.led = true
  room : L.length * 5 < t.mask * 3
  few : L.length < 64
section
variable {P : Program} {w : World} {A : Around} {E : Value → Shared → Prop} {s : Shared} {a : Addr} {L : List (Addr × Nk)} {es : Array (Int × Value)} {ep : Nat} {t : SetTable}
theorem rows_size (h : es.toList = rw_ w L) : es.size = L.length := by
  have q := congrArg List.length h
  rwa [Array.length_toList, rw_len] at q
theorem rows_at (h : es.toList = rw_ w L) {i : Nat} {p : Addr × Nk} (e : L[i]? = some p) : es[i]? = some (p.2.hash w, Value.ref p.1) := by
  rw [← Array.getElem?_toList, h]
  exact rw_at e
theorem tab_fits {n : Nat} (T : t.dummies = #[]) (h : t.place.size = n) (l : n ≤ t.mask) : t.fits n = true := by
  unfold SetTable.fits SetTable.fill
  rw [T, Bool.and_eq_true, beq_iff_eq, decide_eq_true_eq]
  exact ⟨h, by simpa [h] using l⟩
theorem SetN.fits (R : SetN w s.heap a L es ep t) : t.fits es.size = true := by
  have h1 := R.tab.sz
  rw [List.length_map] at h1
  have h3 := R.room
  rw [rows_size R.rows]
  exact tab_fits R.tab.dm h1 (by omega)
theorem SetN.notGone (R : SetN w s.heap a L es ep t) : ¬ t.gaveWay = true := by
  unfold SetTable.gaveWay
  rw [mask_odd R.tab.mok]
  decide
abbrev from0 (m : Nat) (h : Int) : SetTable.Probe := runAt m (SetTable.bits h % (m + 1)) (SetTable.bits h)
theorem noDummy (m : Nat) : ∀ (n : Nat) (p : SetTable.Probe), p.dummy = none → (nth m p n).dummy = none
  | 0, _, h => h
  | n + 1, p, h => noDummy m n (adv m p) (by unfold adv; split <;> exact h)
theorem way_add (m : Nat) (h : Int) (c q : Nat) : (nth m (nth m (from0 m h) c) q).j = way m h (c + q) := congrArg SetTable.Probe.j (nth_add m c _ q).symm
/-- what lies at a step of the way -/
structure Way (w : World) (L : List (Addr × Nk)) (t : SetTable) (h : Int) (K : Nat) : Prop where
  few : K < 10 * SetTable.turns t.mask
  out : way t.mask h K ∉ t.place.toList
  ins : ∀ c, c < K → way t.mask h c ∈ t.place.toList
/-- of the key's own row: it stands at a step from c on -/
def Ahead (L : List (Addr × Nk)) (t : SetTable) (h : Int) (K c : Nat) (k : Nk) : Prop := ∀ (i : Nat) p, L[i]? = some p → p.2 = k → ∃ c', c ≤ c' ∧ c' < K ∧ t.place.toList[i]? = some (way t.mask h c')
theorem look_on (R : SetN w s.heap a L es ep t) {x : Addr} {k : Nk} (hx : IsN s.heap k x) (hu : A.units + 8 < cLine) {K : Nat} (W : Way w L t (k.hash w) K) {Q : SetFound → Shared → Prop}
    (yes : k ∈ L.map (·.2) → Q (.there none) s) (no : k ∉ L.map (·.2) → Q (.free (way t.mask (k.hash w) K) false) s) :
    ∀ (f c : Nat) (stand : Option SetTable.Probe), stand.getD (t.probeStart (k.hash w)) = nth t.mask (from0 t.mask (k.hash w)) c → c ≤ K → K - c < f → Ahead L t (k.hash w) K c k →
      wpAny (model P w) A (setSearchFrom a (.ref x) (k.hash w) true f stand) Q E s
  | 0, _, _, _, _, hf, _ => absurd hf (Nat.not_lt_zero _)
  | f + 1, c, stand, hst, hc, hf, hre => by
    obtain ⟨o, ho, hex, hd⟩ := R.ob
    rw [setSearchFrom_succ]
    refine wpAny_bind (wpAny_setState_of ho hd R.fits ?_)
    dsimp only
    refine wp_if_neg R.notGone ?_
    have spec := go_spec t R.tab.ris R.tab.dm (fun i => (es[i]?.map (·.1)).getD 0) (k.hash w) (10 * SetTable.turns t.mask) (K - c) _ (noDummy t.mask c _ rfl) (by have := W.few; omega)
      (fun q hq => by rw [way_add]; exact W.ins (c + q) (by omega)) (by rw [way_add, show c + (K - c) = K by omega]; exact W.out)
    have hashAt : ∀ (i : Nat) p, L[i]? = some p → (fun i => (es[i]?.map (·.1)).getD 0) i = p.2.hash w := fun i p hp => by
      show (es[i]?.map (·.1)).getD 0 = _
      rw [rows_at R.rows hp]
      rfl
    rcases spec with ⟨q, i, hq, hi, hh, hno, hpr⟩ | ⟨hno, hpr⟩
    · -- a row with this hash
      have hpr' : t.probe (fun i => (es[i]?.map (·.1)).getD 0) (k.hash w) (stand.getD (t.probeStart (k.hash w))) = some (.candidate (way t.mask (k.hash w) (c + q)) i (nth t.mask (from0 t.mask (k.hash w)) (c + (q + 1)))) := by
        rw [hst, ← way_add, nth_add]
        exact hpr
      rw [hpr']
      dsimp only
      rw [way_add] at hi
      have hil : i < L.length := by
        have h1 : i < t.place.toList.length := (List.getElem?_eq_some_iff.mp hi).1
        have h2 := R.tab.sz
        rw [List.length_map] at h2
        rwa [Array.length_toList, h2] at h1
      obtain ⟨p, hp⟩ : ∃ p, L[i]? = some p := ⟨_, List.getElem?_eq_getElem hil⟩
      have hmem : p ∈ L := List.mem_of_getElem? hp
      have rest : wpAny (model P w) A (searchRest a (.ref x) (k.hash w) true f es t (way t.mask (k.hash w) (c + q)) i (nth t.mask (from0 t.mask (k.hash w)) (c + (q + 1)))) Q E s := by
        unfold searchRest
        rw [rows_at R.rows hp]
        dsimp only
        refine wpAny_bind (wpAny_holding ((nestedKind P w).eqBool (x := p.2) (y := k) hu (R.tup p hmem) hx ?_))
        refine wpAny_bind (wpAny_setState_of ho hd R.fits ?_)
        dsimp only
        by_cases hkk : p.2 = k
        · exact wp_if_pos (by simp [hkk]) (wpAny_pure (yes (List.mem_map.mpr ⟨p, hmem, hkk⟩)))
        · refine wp_if_neg (by simp [hkk]) ?_
          rw [sameMem]
          dsimp only
          have hsl : t.slot (way t.mask (k.hash w) (c + q)) = .live i := slot_live R.tab.ris hi
          simp only [if_true, hsl, rows_at R.rows hp]
          refine wpAny_bind (wpAny_isSame_ref_self (wpAny_bind (wpAny_pure ?_)))
          simp only [if_true]
          refine wp_if_neg (by simp [hkk]) ?_
          refine look_on R hx hu W yes no f (c + (q + 1)) _ rfl (by omega) (by omega) fun i0 p0 h0 hk0 => ?_
          obtain ⟨c', a1, a2, a3⟩ := hre i0 p0 h0 hk0
          rcases Nat.lt_trichotomy c' (c + q) with z | z | z
          · exact absurd ((hashAt i0 p0 h0).trans (by rw [hk0])) (hno (c' - c) i0 (by omega) (by rw [way_add, show c + (c' - c) = c' by omega]; exact a3))
          · rw [z] at a3
            have s0 := slot_live R.tab.ris a3
            rw [hsl] at s0
            injection s0 with s0
            rw [← s0, hp] at h0
            exact absurd ((congrArg Prod.snd (Option.some.inj h0)).trans hk0) hkk
          · exact ⟨c', by omega, a2, a3⟩
      by_cases hl : t.led = true
      · exact wp_if_neg (by simp [hl]) rest
      · refine wp_if_pos (by simp [hl]) ?_
        refine wpAny_bind (seen_key hx (fun y hy => ?_) (wp_if_neg (by decide) rest))
        obtain ⟨e, he, ee⟩ := List.mem_map.mp hy
        have he1 : e ∈ es ∧ e.1 = k.hash w := by simpa using he
        have he2 : e ∈ es.toList := by simpa using he1.1
        rw [R.rows] at he2
        obtain ⟨p2, hp2, e2⟩ := List.mem_map.mp he2
        exact ⟨p2.2, p2.1, by rw [← ee, ← e2], R.tup p2 hp2⟩
    · -- an empty place
      have hpr' : t.probe (fun i => (es[i]?.map (·.1)).getD 0) (k.hash w) (stand.getD (t.probeStart (k.hash w))) = some (.empty (way t.mask (k.hash w) K) none) := by
        have e2 : way t.mask (k.hash w) K = (nth t.mask (nth t.mask (from0 t.mask (k.hash w)) c) (K - c)).j := by
          rw [way_add, show c + (K - c) = K by omega]
        rw [hst, e2]
        exact hpr
      rw [hpr']
      dsimp only
      refine wpAny_pure (no fun hm => ?_)
      obtain ⟨p0, h0, hk0⟩ := List.mem_map.mp hm
      obtain ⟨i0, hi0, e0⟩ := List.getElem_of_mem h0
      have h00 : L[i0]? = some p0 := by rw [List.getElem?_eq_getElem hi0, e0]
      obtain ⟨c', a1, a2, a3⟩ := hre i0 p0 h00 hk0
      exact hno (c' - c) i0 (by omega) (by rw [way_add, show c + (c' - c) = c' by omega]; exact a3) ((hashAt i0 p0 h00).trans (by rw [hk0]))
theorem look_for (R : SetN w s.heap a L es ep t) {x : Addr} {k : Nk} (hx : IsN s.heap k x) (hu : A.units + 8 < cLine) {Q : SetFound → Shared → Prop} (yes : k ∈ L.map (·.2) → Q (.there none) s)
    (no : ∀ K, k ∉ L.map (·.2) → Way w L t (k.hash w) K → Q (.free (way t.mask (k.hash w) K) false) s) : wpAny (model P w) A (setSearch a (.ref x) (k.hash w) true) Q E s := by
  have hroom := R.room
  obtain ⟨K, hKf, hK, hKb⟩ := R.tab.first (by rw [List.length_map]; omega) (k.hash w)
  have big : K < 100000 := by
    have : 10 * SetTable.turns t.mask ≤ 1420 := by
      unfold SetTable.turns
      rcases R.tab.mok with e | e | e <;> omega
    omega
  unfold setSearch
  refine look_on R hx hu ⟨hKf, hK, hKb⟩ yes (fun hn => no K hn ⟨hKf, hK, hKb⟩) 100000 0 none rfl (Nat.zero_le _) (by omega) fun i p hp hk => ?_
  have hi : (hs_ w L)[i]? = some (k.hash w) := by
    rw [List.getElem?_map, hp, ← hk]
    rfl
  have hil : i < t.place.toList.length := by
    have h1 : i < L.length := (List.getElem?_eq_some_iff.mp hp).1
    have h2 := R.tab.sz
    rw [List.length_map] at h2
    rw [Array.length_toList, h2]
    exact h1
  obtain ⟨c, hc, e⟩ := R.tab.before hK hi (List.getElem?_eq_getElem hil)
  exact ⟨c, Nat.zero_le _, hc, by rw [List.getElem?_eq_getElem hil, e]⟩
/-! adding -/
theorem tab_pl {t : SetTable} {hs : List Int} (T : TabOk t hs) (b : Bool) : TabOk (if b = true then t else { t with plain := false }) hs := by
  cases b with
  | true => exact T
  | false => exact ⟨T.ris, T.dm, T.sz, T.mok, T.bd, T.reach⟩
theorem ins_perm {α : Type} (l : List α) (p : Nat) (x : α) : (l.take p ++ x :: l.drop p).Perm (x :: l) := by
  have h : (l.take p ++ x :: l.drop p).Perm (x :: (l.take p ++ l.drop p)) := List.perm_middle
  rwa [List.take_append_drop] at h
/-- rows taken in another order -/
theorem rows_order {L : List (Addr × Nk)} {es : Array (Int × Value)} (hr : es.toList = rw_ w L) (order : Array Nat) (hp : order.toList.Perm (List.range L.length)) :
    ∃ L2, (order.filterMap (es[·]?)).toList = rw_ w L2 ∧ L2.Perm L ∧ hs_ w L2 = order.toList.map fun i => (es.map (·.1)).getD i 0 := by
  have key : ∀ l : List Nat, (∀ i ∈ l, i < L.length) → (l.filterMap fun i => es[i]?) = rw_ w (l.filterMap fun i => L[i]?) ∧ hs_ w (l.filterMap fun i => L[i]?) = l.map fun i => (es.map (·.1)).getD i 0 := by
    intro l
    induction l with
    | nil => intro _; exact ⟨rfl, rfl⟩
    | cons i l ih =>
      intro hl
      have hi := List.getElem?_eq_getElem (hl i List.mem_cons_self)
      obtain ⟨e1, e3⟩ := ih fun j hj => hl j (List.mem_cons_of_mem _ hj)
      have ei := rows_at hr hi
      rw [List.filterMap_cons_some hi, List.filterMap_cons_some ei, e1]
      refine ⟨rfl, ?_⟩
      show _ :: hs_ w (l.filterMap fun i => L[i]?) = _ :: _
      rw [e3]
      have e5 : (es.map (·.1)).getD i 0 = (L[i]'(hl i List.mem_cons_self)).2.hash w := by
        rw [Array.getD_eq_getD_getElem?, Array.getElem?_map, ei]
        rfl
      exact congrArg (· :: _) e5.symm
  have lt : ∀ i ∈ order.toList, i < L.length := fun i hi => List.mem_range.mp (hp.mem_iff.mp hi)
  obtain ⟨e1, e3⟩ := key order.toList lt
  refine ⟨order.toList.filterMap fun i => L[i]?, ?_, ?_, e3⟩
  · rw [Array.toList_filterMap]
    exact e1
  · have h1 := hp.filterMap fun i => L[i]?
    have h2 : (List.range L.length).filterMap (fun i => L[i]?) = L := by
      have q : ∀ n, n ≤ L.length → (List.range n).filterMap (fun i => L[i]?) = L.take n := by
        intro n
        induction n with
        | zero => intro _; rfl
        | succ n ih =>
          intro hn
          rw [List.range_succ, List.filterMap_append, ih (Nat.le_of_succ_le hn), List.take_succ, List.getElem?_eq_getElem hn, List.filterMap_cons_some (List.getElem?_eq_getElem hn)]
          rfl
      rw [q L.length (Nat.le_refl _), List.take_length]
    rwa [h2] at h1
/-- the table laid anew -/
theorem lay_anew {o : Obj} (ho : s.heap.get? a = some o) (hex : o.ExactSet) (hd : o.data = .set es ep t) (hr : es.toList = rw_ w L) (hsz : t.place.size = L.length) (hdm : t.dummies = #[]) (hfl : L.length ≤ t.mask)
    (nd : (L.map (·.2)).Nodup) (tup : ∀ p ∈ L, IsN s.heap p.2 p.1) (ld : w.params.followText "set-order" = true ∨ t.led = true) (few : L.length < 64) {wanted M : Nat}
    (hw : SetTable.sizeAbove wanted - 1 = M) (hM : MaskOk M) (hw2 : SetTable.sizeAbove wanted ≤ 128) (hn : L.length * 5 < M * 3) {Q : Unit → Shared → Prop}
    (hQ : ∀ h' L' es' ep' t', Heap.SameBut a s.heap h' → SetN w h' a L' es' ep' t' → L'.Perm L → Q () { s with heap := h' }) : wpAny (model P w) A (setRelay a wanted) Q E s := by
  have hsl := rows_size hr
  have hfits : t.fits es.size = true := by rw [hsl]; exact tab_fits hdm hsz hfl
  obtain ⟨t', order, e, hp, T, em, el, ep', ed⟩ := relaid_ok t (hs := es.map (·.1)) (wanted := wanted) hw hM (by rw [Array.size_map, hsl]; omega)
  rw [Array.size_map, hsl] at hp
  obtain ⟨L2, r1, r2, r3⟩ := rows_order hr order hp
  rw [← r3] at T
  have hs2 : (order.filterMap (es[·]?)).size = es.size := by rw [rows_size r1, r2.length_eq, hsl]
  rw [setRelay_eq]
  refine wpAny_bind (wpAny_setState_of ho hd hfits ?_)
  dsimp only
  refine wp_if_neg (by rw [sizeLine_eq]; omega) ?_
  rw [e]
  dsimp only
  refine wpAny_bind (wp_if_neg (by rw [hs2]; simp) (wpAny_pure ?_))
  dsimp only
  refine wpAny_storeSet_of ho hd ?_ (by rw [hs2, hsl, sizeLine_eq]; omega)
  have sb : Heap.SameBut a s.heap (s.heap.update a (Obj.putSet (order.filterMap (es[·]?)) t')) := Heap.SameBut.update ..
  refine hQ _ L2 (order.filterMap (es[·]?)) (ep + 1) t' sb ⟨⟨_, store_at ho hd, ⟨hex.1, hex.2.1, hex.2.2⟩, rfl⟩, r1, T, (r2.map (·.2)).nodup_iff.mpr nd, fun p hpm => (tup p (r2.mem_iff.mp hpm)).beside ho hd sb, by rw [el]; exact ld, ?_, by rw [r2.length_eq]; exact few⟩ r2
  rw [r2.length_eq, em]
  exact hn
/-- ADDING a tuple -/
theorem put_in (R : SetN w s.heap a L es ep t) {x : Addr} {k : Nk} (hx : IsN s.heap k x) (hu : A.units + 8 < cLine) (hfew : L.length + 1 < 64) {Q : Bool → Shared → Prop}
    (hQ : ∀ b h' L' es' ep' t', Heap.SameBut a s.heap h' → SetN w h' a L' es' ep' t' → (k ∈ L.map (·.2) → L' = L) → (k ∉ L.map (·.2) → L'.Perm ((x, k) :: L)) → Q b { s with heap := h' }) :
    wpAny (model P w) A (setAddHashed a (.ref x) (k.hash w)) Q E s := by
  obtain ⟨o, ho, hex, hd⟩ := R.ob
  have hsl := rows_size R.rows
  have hroom := R.room
  unfold setAddHashed
  refine wpAny_holding ?_
  rw [show (100000 : Nat) = 99999 + 1 from rfl, setAddHashedIn_succ]
  refine wpAny_bind (wpAny_setState_of ho hd R.fits ?_)
  dsimp only
  refine wp_if_neg (by simp [byScan, Value.scannable]) ?_
  refine wpAny_bind (look_for R hx hu (fun hm => ?_) fun K hm Wy => ?_)
  · exact wpAny_pure (hQ false s.heap L es ep t (Heap.SameBut.refl a s.heap) R (fun _ => rfl) fun z => absurd hm z)
  · dsimp only
    refine wpAny_bind (wpAny_setState_of ho hd R.fits ?_)
    dsimp only
    obtain ⟨q1, q2, q3, q4, q5, q6, q7, q8, q9⟩ := R.tab.put Wy.out Wy.ins
    generalize hpt : t.put (way t.mask (k.hash w) K) = pt at q1 q3 q4 q5 q6 q7 q8 q9 ⊢
    obtain ⟨t1, p⟩ := pt
    dsimp only at q1 q3 q4 q5 q6 q7 q8 q9 ⊢
    rw [← q1] at q2 q3
    -- what comes behind, whatever is known of the hash
    have fin : ∀ b : Bool, wpAny (model P w) A (do
        storeSet a (SetTable.insertAt es p (k.hash w, Value.ref x)) (if b = true then t1 else { t1 with plain := false })
        if !false && (if b = true then t1 else { t1 with plain := false }).tooFull then setRelay a (SetTable.grown (es.size + 1))
        return true) Q E s := by
      intro b
      have T2 := tab_pl q3 b
      have em : (if b = true then t1 else { t1 with plain := false }).mask = t.mask := by cases b <;> exact q4
      have el : (if b = true then t1 else { t1 with plain := false }).led = t.led := by cases b <;> exact q5
      have ef : (if b = true then t1 else { t1 with plain := false }).fill = L.length + 1 := by
        have z : t1.fill = L.length + 1 := by rw [q9, List.length_map]
        cases b <;> exact z
      generalize (if b = true then t1 else { t1 with plain := false }) = t2 at T2 em el ef ⊢
      have hin : (SetTable.insertAt es p (k.hash w, Value.ref x)).toList = rw_ w (L.take p ++ (x, k) :: L.drop p) := by
        rw [SetTable.toList_insertAt, R.rows]
        unfold rw_
        rw [List.map_append, List.map_cons, List.map_take, List.map_drop]
      have pm := ins_perm L p (x, k)
      have hhs : hs_ w (L.take p ++ (x, k) :: L.drop p) = (hs_ w L).take p ++ k.hash w :: (hs_ w L).drop p := by
        show (L.take p ++ (x, k) :: L.drop p).map _ = _
        rw [List.map_append, List.map_cons, List.map_take, List.map_drop]
      rw [← hhs] at T2
      generalize SetTable.insertAt es p (k.hash w, Value.ref x) = es1 at hin ⊢
      generalize L.take p ++ (x, k) :: L.drop p = L1 at pm T2 hin
      have hlen : L1.length = L.length + 1 := pm.length_eq
      have nd1 : (L1.map (·.2)).Nodup := (pm.map (·.2)).nodup_iff.mpr (by rw [List.map_cons]; exact List.nodup_cons.mpr ⟨hm, R.nd⟩)
      have hes := rows_size hin
      refine wpAny_bind (wpAny_storeSet_of ho hd ?_ (by rw [hes, hlen, sizeLine_eq]; omega))
      have sb : Heap.SameBut a s.heap (s.heap.update a (Obj.putSet es1 t2)) := Heap.SameBut.update ..
      have ho1 := store_at (es' := es1) (t' := t2) ho hd
      generalize s.heap.update a (Obj.putSet es1 t2) = h1 at sb ho1 ⊢
      have tup1 : ∀ p ∈ L1, IsN h1 p.2 p.1 := fun p hp => by
        rcases List.mem_cons.mp (pm.mem_iff.mp hp) with e | hp
        · rw [e]; exact hx.beside ho hd sb
        · exact (R.tup p hp).beside ho hd sb
      have ld1 : w.params.followText "set-order" = true ∨ t2.led = true := by rw [el]; exact R.led
      have hsz1 : t2.place.size = L1.length := by
        have h := T2.sz
        rwa [List.length_map] at h
      by_cases hf : t2.tooFull = true
      · refine wp_if_pos (by rw [hf]; rfl) (wpAny_bind ?_)
        have hfull : (L.length + 1) * 5 ≥ t2.mask * 3 := by
          have h := hf
          unfold SetTable.tooFull at h
          rwa [decide_eq_true_eq, ef] at h
        rw [em] at hfull
        rw [hsl]
        have two : (t.mask = 7 ∧ L.length = 4) ∨ (t.mask = 31 ∧ L.length = 18) := by
          rcases R.tab.mok with e | e | e <;> rw [e] at hfull hroom
          · exact .inl ⟨e, by omega⟩
          · exact .inr ⟨e, by omega⟩
          · omega
        have go : ∀ M, SetTable.sizeAbove (SetTable.grown (L.length + 1)) - 1 = M → MaskOk M → SetTable.sizeAbove (SetTable.grown (L.length + 1)) ≤ 128 → (L.length + 1) * 5 < M * 3 →
            wpAny (model P w) A (setRelay a (SetTable.grown (L.length + 1))) (fun _ s' => wpAny (model P w) A (pure true) Q E s') E { s with heap := h1 } := fun M m1 m2 m3 m4 =>
          lay_anew (s := { s with heap := h1 }) ho1 ⟨hex.1, hex.2.1, hex.2.2⟩ rfl hin hsz1 T2.dm (by rw [hlen, em]; rcases two with ⟨e, e2⟩ | ⟨e, e2⟩ <;> omega) nd1 tup1 ld1 (by rw [hlen]; exact hfew) m1 m2 m3 (by rw [hlen]; exact m4) fun h2 L2 es2 ep2 t2 sb2 R2 pm2 =>
            wpAny_pure (hQ true h2 L2 es2 ep2 t2 (sb.trans sb2) R2 (fun z => absurd z hm) fun _ => pm2.trans pm)
        rcases two with ⟨_, e2⟩ | ⟨_, e2⟩
        · exact go 31 (by rw [e2, size_20]) (.inr (.inl rfl)) (by rw [e2, size_20]; decide) (by omega)
        · exact go 127 (by rw [e2, size_76]) (.inr (.inr rfl)) (by rw [e2, size_76]; decide) (by omega)
      · refine wp_if_neg (by rw [Bool.eq_false_iff.mpr hf]; exact Bool.false_ne_true) ?_
        refine wpAny_pure (hQ true h1 L1 es1 (ep + 1) t2 sb ⟨⟨_, ho1, ⟨hex.1, hex.2.1, hex.2.2⟩, rfl⟩, hin, T2, nd1, tup1, ld1, ?_, by rw [hlen]; exact hfew⟩ (fun z => absurd z hm) fun _ => pm)
        have h := hf
        unfold SetTable.tooFull at h
        rw [decide_eq_true_eq, ef] at h
        rw [hlen]
        omega
    by_cases hpl : t1.plain = true
    · refine wp_if_pos hpl (wpAny_bind (hbv_key k _ 8 s _ hx.1 fun b => ?_))
      exact fin b
    · refine wp_if_neg hpl (wpAny_bind (wpAny_pure ?_))
      exact fin true
end
/-! ### set(a list) -/
theorem SetN.move {w : World} {h h' : Heap} {a : Addr} {L : List (Addr × Nk)} {es : Array (Int × Value)} {ep : Nat} {t : SetTable} (R : SetN w h a L es ep t) (i : ∀ o, h.get? a = some o → h'.get? a = some o) (j : ∀ p ∈ L, IsN h' p.2 p.1) : SetN w h' a L es ep t := by
  obtain ⟨o, ho, r⟩ := R.ob
  exact ⟨⟨o, i o ho, r⟩, R.rows, R.tab, R.nd, j, R.led, R.room, R.few⟩
/-- the set's row of the first n pairs -/
structure Upto (ks : List (Addr × Nk)) (n : Nat) (L : List (Addr × Nk)) : Prop where
  sub : ∀ p ∈ L, p ∈ ks.take n
  all : ∀ p ∈ ks.take n, p.2 ∈ L.map (·.2)
  len : L.length ≤ n
theorem Upto.one {ks L L' : List (Addr × Nk)} {n : Nat} {x : Addr × Nk} (u : Upto ks n L) (h : ks[n]? = some x) (c1 : x.2 ∈ L.map (·.2) → L' = L) (c2 : x.2 ∉ L.map (·.2) → L'.Perm ((x.1, x.2) :: L)) : Upto ks (n + 1) L' := by
  have ht : ks.take (n + 1) = ks.take n ++ [x] := by rw [List.take_succ, h]; rfl
  by_cases m : x.2 ∈ L.map (·.2)
  · rw [c1 m]
    refine ⟨fun p hp => by rw [ht]; exact List.mem_append_left _ (u.sub p hp), fun p hp => ?_, Nat.le_succ_of_le u.len⟩
    rw [ht] at hp
    rcases List.mem_append.mp hp with z | z
    · exact u.all p z
    · rw [List.mem_singleton.mp z]; exact m
  · have pm := c2 m
    refine ⟨fun p hp => ?_, fun p hp => ?_, by rw [pm.length_eq, List.length_cons]; exact Nat.succ_le_succ u.len⟩
    · rw [ht]
      rcases List.mem_cons.mp (pm.mem_iff.mp hp) with e | z
      · rw [e]; exact List.mem_append_right _ (List.mem_singleton.mpr rfl)
      · exact List.mem_append_left _ (u.sub p z)
    · rw [(pm.map (·.2)).mem_iff, List.map_cons]
      rw [ht] at hp
      rcases List.mem_append.mp hp with z | z
      · exact List.mem_cons_of_mem _ (u.all p z)
      · rw [List.mem_singleton.mp z]; exact List.mem_cons_self
theorem new_set {w : World} {h : Heap} {a : Addr} (ho : h.get? a = some { cls := .type "set", dict := none, data := .set #[] 0 (.fresh 0 0 (!w.params.followText "set-order")) }) : SetN w h a [] #[] 0 (.fresh 0 0 (!w.params.followText "set-order")) := by
  refine ⟨⟨_, ho, ⟨rfl, rfl, rfl⟩, rfl⟩, rfl, ⟨List.Pairwise.nil, rfl, rfl, .inl rfl, fun x m => (by cases m), fun i h j e => (by simp at e)⟩, List.nodup_nil, fun p m => (by cases m), ?_, (show 0 * 5 < 7 * 3 by decide), (show 0 < 64 by decide)⟩
  show _ ∨ (!w.params.followText "set-order") = true
  cases w.params.followText "set-order"
  · exact .inr rfl
  · exact .inl rfl
section
variable {P : Program} {w : World} {A : Around} {E : Value → Shared → Prop} {s : Shared}
/-- the loop of set.update over a list of tuples -/
theorem upd_loop {I S l : Addr} {items : Array Value} {Rz' : Result → Shared → Prop} (hh : A.in1.handled = none) (hIl : l ≠ I) (ks : List (Addr × Nk)) (hit : items.toList = ks.map fun p => Value.ref p.1) (hfew : ks.length < 64) (h0 : Heap)
    (hk : ∀ p ∈ ks, IsN h0 p.2 p.1) (hS0 : h0.get? S = none) (hI0 : h0.get? I = none) (hSI : S ≠ I) (hSl : S ≠ l) (hu : A.in1.units + 8 < cLine) :
    ∀ (m i : Nat) (s : Shared), ks.length - i = m → i ≤ ks.length → (s.heap.IsListIter I l i ∧ s.heap.IsList l items) → (∀ b o, h0.get? b = some o → s.heap.get? b = some o) → (∃ L es ep t, SetN w s.heap S L es ep t ∧ Upto ks i L) →
      (∀ (h' : Heap) (tk : Nat) L es ep t, SetN w h' S L es ep t → Upto ks ks.length L → (∀ b o, h0.get? b = some o → h'.get? b = some o) → Rz' (.ok (.ret .none)) { s with heap := h', toks := tk }) →
      codeAny (model P w) A (.builtin "set.update.loop" ⟨[.ref S, .ref I], []⟩) Rz' s := by
  have hsz : items.size = ks.length := by
    have q := congrArg List.length hit
    rwa [Array.length_toList, List.length_map] at q
  have W := Walks.list (prog := P) (w := w) hh I l hIl items
  have kp : ∀ {s s' : Shared}, (∀ b o, b ∉ [I] → s.heap.get? b = some o → s'.heap.get? b = some o) → (∀ b o, h0.get? b = some o → s.heap.get? b = some o) → ∀ b o, h0.get? b = some o → s'.heap.get? b = some o := fun m k b o e =>
    m b o (fun z => by rw [List.mem_singleton.mp z, hI0] at e; cases e) (k b o e)
  intro m
  induction m with
  | zero =>
    intro i s hm hi hst hkp ⟨L, es, ep, t, hS, u⟩ hR
    have ei : i = ks.length := by omega
    subst ei
    refine codeAny_builtin PyProof.Rows.F.entry_set_update_loop ?_
    rw [Around.under_plainId PyProof.Rows.F.plain_set_update_loop _]
    show wpAny _ A.in1 (pyNext (.ref I) >>= _) _ _ s
    rw [← hsz] at hst
    refine wpAny_bind (W.done s _ _ hst fun h' tk ku => ?_)
    have k2 := kp (s' := { s with heap := h', toks := tk }) ku hkp
    exact wpAny_pure (hR h' tk L es ep t (hS.move (fun o e => ku S o (by simp [hSI]) e) fun p hp => (hk p (List.mem_of_mem_take (u.sub p hp))).keep k2) u k2)
  | succ m ih =>
    intro i s hm hi hst hkp ⟨L, es, ep, t, hS, u⟩ hR
    have hlt : i < ks.length := by omega
    refine codeAny_builtin PyProof.Rows.F.entry_set_update_loop ?_
    rw [Around.under_plainId PyProof.Rows.F.plain_set_update_loop _]
    show wpAny _ A.in1 (pyNext (.ref I) >>= _) _ _ s
    refine wpAny_bind (W.item i s _ _ (by rw [hsz]; exact hlt) hst fun v h' tk hv hst' ku => ?_)
    obtain ⟨p, hp⟩ : ∃ p, ks[i]? = some p := ⟨_, List.getElem?_eq_getElem hlt⟩
    have ev : v = .ref p.1 := by
      have q : items.toList[i]? = some v := by rw [Array.getElem?_toList]; exact hv
      rw [hit, List.getElem?_map, hp] at q
      exact (Option.some.inj q).symm
    subst ev
    have k2 := kp (s' := { s with heap := h', toks := tk }) ku hkp
    have hS' : SetN w h' S L es ep t := hS.move (fun o e => ku S o (by simp [hSI]) e) fun q hq => (hk q (List.mem_of_mem_take (u.sub q hq))).keep k2
    have hx : IsN h' p.2 p.1 := (hk p (List.mem_of_getElem? hp)).keep k2
    show wpAny _ A.in1 (holding [Value.ref p.1] (setAdd S (.ref p.1)) >>= _) _ _ _
    refine wpAny_bind (wpAny_holding ?_)
    unfold setAdd
    refine wpAny_holding (wpAny_bind ((nestedKind P w).pyHash (k := p.2) hu hx ?_))
    refine put_in (s := { s with heap := h', toks := tk + p.2.draws }) hS' hx hu (by have := u.len; omega) fun b h2 L' es' ep' t' sb hS2 c1 c2 => ?_
    have k3 : ∀ b o, h0.get? b = some o → h2.get? b = some o := fun b o e => (sb.2 b (fun z => by rw [z, hS0] at e; cases e)).trans (k2 b o e)
    refine wpAny_pure ⟨plainId_quiet PyProof.Rows.F.plain_set_update_loop _, ih (i + 1) _ (by omega) hlt ⟨hst'.1.at fun o e => (sb.2 I (Ne.symm hSI)).trans e, hst'.2.at fun o e => (sb.2 l (Ne.symm hSl)).trans e⟩ k3 ⟨L', es', ep', t', hS2, u.one hp c1 c2⟩ fun h3 tk3 L3 es3 ep3 t3 r1 r2 r3 => ?_⟩
    exact hR h3 tk3 L3 es3 ep3 t3 r1 r2 r3
set_option maxHeartbeats 3200000 in
/-- set(xs), xs a list of tuples -/
theorem call_setN {l : Addr} {items : Array Value} (ks : List (Addr × Nk)) {Q : Value → Shared → Prop} (hh : A.handled = none) (hl : s.heap.IsList l items) (hit : items.toList = ks.map fun p => Value.ref p.1)
    (hk : ∀ p ∈ ks, IsN s.heap p.2 p.1) (hfew : ks.length < 64) (hu : A.units + 16 < cLine)
    (h : ∀ (h' : Heap) (tk : Nat) L es ep t, SetN w h' s.heap.objs.size L es ep t → Upto ks ks.length L → (∀ b o, s.heap.get? b = some o → h'.get? b = some o) → Q (.ref s.heap.objs.size) { s with heap := h', toks := tk }) :
    wpAny (model P w) A (call (.type "set") [.ref l]) Q E s := by
  obtain ⟨c, tl, hmro⟩ := F.called_set.mro
  have hmade := F.called_set.made
  have hsub := F.called_set.sub
  refine wpAny_call (codeAny_of_tree ?_)
  show wpAny _ _ (callAny (.type "set") _) _ _ _
  refine wpAny_pure ⟨Code.quiet_builtin _ (by decide +kernel), codeAny_builtin F.entry_type_call ?_⟩
  rw [Around.under_plain (weight_type_call_type "set" [.ref l] []) rfl]
  have h1 := F.called_set.notType
  have h2 := F.called_set.canCreate
  have hct := F.typeCall_set_1 (.ref l)
  repeat (any_goals (first | assumption | wp_step))

  refine codeAny_mono (code_set_led1 (.ref l) (E := E) (Q₁ := fun obj s₁ => obj = .ref s.heap.objs.size ∧ s₁ = { s with heap := s.heap.push { cls := .type "set", dict := none, data := .set #[] 0 (.fresh 0 0 (!w.params.followText "set-order")) } }) ⟨rfl, rfl⟩) fun r s₁ hr => ?_
  cases r with
  | error e => exact hr
  | ok fl =>
    cases fl with
    | ret obj =>
      obtain ⟨rfl, rfl⟩ := hr
      generalize hOb : ({ cls := .type "set", dict := none, data := .set #[] 0 (.fresh 0 0 (!w.params.followText "set-order")) } : Obj) = ob
      have hS : (s.heap.push ob).get? s.heap.objs.size = some ob := Heap.get?_push_size _ (by rw [← hOb]; rfl)
      have hT : Shared.TypeIs { s with heap := s.heap.push ob } (.ref s.heap.objs.size) "set" := ⟨_, hS, by rw [← hOb]⟩
      have hli := F.called_set.init.lookup
      have hbi := F.called_set.init.bind (.ref s.heap.objs.size)
      repeat (any_goals (first | assumption | wp_step))

      refine codeAny_mono (codeAny_call_builtin (R := wants (fun r s₂ => r = .none ∧ ∃ h' tk L es ep t, s₂ = { s with heap := h', toks := tk } ∧ SetN w h' s.heap.objs.size L es ep t ∧ Upto ks ks.length L ∧
          (∀ b o, s.heap.get? b = some o → h'.get? b = some o)) E) F.called_set.init.plain F.entry_set_init (check_set_init_1 hT ?_)) fun r₂ s₂ hr₂ => ?_
      · obtain ⟨ol, hol, hcl, nl, hdl⟩ := id hl
        have hol' : (s.heap.push ob).get? l = some ol := Heap.get?_push_of_some _ hol
        have hl1 : (s.heap.push ob).IsList l items := ⟨_, hol', hcl, nl, hdl⟩
        have ty : Shared.TypeIs { s with heap := s.heap.push ob } (.ref l) "list" := ⟨_, hol', hcl⟩
        have hsls := F.sub_list_set
        have hslf := F.sub_list_frozenset
        have lS : l < s.heap.objs.size := Heap.lt_size hol
        have sz : (s.heap.push ob).objs.size = s.heap.objs.size + 1 := Heap.size_push ..
        have none_of : ∀ b, s.heap.objs.size ≤ b → s.heap.get? b = none := fun b hb => by
          cases q : s.heap.get? b with
          | none => rfl
          | some o => exact absurd (Nat.lt_of_lt_of_le (Heap.lt_size q) hb) (Nat.lt_irrefl _)
        subst hOb
        unfold Builtin.«set.__init__» noKeywords Builtin.Frozenset.updateFrom
        obtain ⟨ocls, odict, odata, oslots⟩ := ol
        simp only at hcl hdl
        subst hcl; subst hdl
        have hne : (Value.type "list" == Value.type "dict") = false := by decide
        generalize hPI : pyIter = PI
        wp_walk
        subst hPI
        refine wpAny_pyIter_list hl1 ?_
        refine wpAny_bind (wpAny_runValue ?_)
        have hh3 : A.in1.in1.in1.handled = none := by simp [hh]
        rw [sz]
        refine upd_loop (S := s.heap.objs.size) (I := s.heap.objs.size + 1) (l := l) (items := items) hh3 (Nat.ne_of_lt (Nat.lt_succ_of_lt lS)) ks hit hfew s.heap hk (none_of _ (Nat.le_refl _)) (none_of _ (Nat.le_succ _)) (Nat.ne_of_lt (Nat.lt_succ_self _)) (Nat.ne_of_gt lS) ?hu ks.length 0 _ (by omega) (Nat.zero_le _) ?hst
          (fun b o e => Heap.get?_push_of_some _ (Heap.get?_push_of_some _ e)) ⟨[], #[], 0, _, new_set (Heap.get?_push_of_some _ hS), ⟨fun p m => (by cases m), fun p m => (by simp at m), Nat.le_refl _⟩⟩ ?hR
        case hu => simp only [Around.in1_units]; omega
        case hst =>
          rw [← sz]
          exact ⟨⟨_, Heap.get?_push_size _ rfl, rfl, rfl⟩, hl1.push _⟩
        case hR =>
          intro h' tk L es ep t r1 r2 r3
          exact wpAny_pure (wpAny_pure ⟨rfl, h', tk, L, es, ep, t, rfl, r1, r2, r3⟩)
      · cases r₂ with
        | error e => exact hr₂
        | ok fl₂ =>
          cases fl₂ with
          | ret r =>
            obtain ⟨rfl, h', tk, L, es, ep, t, rfl, hS', g', hk'⟩ := hr₂
            repeat (any_goals (first | assumption | wp_step))
            exact h _ _ _ _ _ _ hS' g' hk'
          | _ => exact hr₂.elim
    | _ => exact hr.elim
end
end Pd
end
section
set_option Elab.async false
set_option linter.all false
set_option maxRecDepth 100000
set_option maxHeartbeats 1000000
namespace Pd
open PySem PySem.Spec L2 LamX
open PyProof.Rows hiding St

/-! ### sorted(a set) -/
mutual
theorem reads_flat {h : Heap} : ∀ (k : Nk) (v : Value) (as : List Addr), Reads h v k.data as → as = []
  | .none, _, _, r => by unfold NestedKey.data at r; cases r; rfl
  | .num i, _, _, r => by unfold NestedKey.data at r; cases r; rfl
  | .text x, _, _, r => by unfold NestedKey.data at r; cases r; rfl
  | .tup ks, _, _, r => by
    unfold NestedKey.data at r
    cases r with
    | tuple a b c d => exact readsAll_flat ks _ _ d
theorem readsAll_flat {h : Heap} : ∀ (ks : List Nk) (vs : List Value) (as : List Addr), ReadsAll h vs (NestedKey.datas ks) as → as = []
  | [], _, _, r => by unfold NestedKey.datas at r; cases r; rfl
  | k :: ks, _, _, r => by
    unfold NestedKey.datas at r
    cases r with
    | cons a b =>
      rw [reads_flat k _ _ a, readsAll_flat ks _ _ b]
      rfl
end
def leN (p q : Addr × Nk) : Bool := !PySem.W.dataLt q.2.data p.2.data
section
variable {P : Program} {w : World} {A : Around} {E : Value → Shared → Prop} {s : Shared} {a : Addr} {L : List (Addr × Nk)} {es : Array (Int × Value)} {ep : Nat} {t : SetTable}
theorem of_refs : ∀ {out : List Value} {bs : List (Addr × Nk)}, PySem.W.EachIs (fun (v : Value) (b : Addr × Nk) => v = .ref b.1) out bs → out = bs.map fun b => Value.ref b.1
  | _, _, .nil => rfl
  | _, _, .cons e t => by rw [e, of_refs t]; rfl
theorem to_refs : ∀ (bs : List (Addr × Nk)), PySem.W.EachIs (fun (v : Value) (b : Addr × Nk) => v = .ref b.1) (bs.map fun b => Value.ref b.1) bs
  | [] => .nil
  | b :: bs => .cons rfl (to_refs bs)
theorem each_by {R : Value → (Addr × Nk) → Prop} : ∀ (bs : List (Addr × Nk)), (∀ b ∈ bs, R (.ref b.1) b) → PySem.W.EachIs R (bs.map fun b => Value.ref b.1) bs
  | [], _ => .nil
  | b :: bs, h => .cons (h b List.mem_cons_self) (each_by bs fun c m => h c (List.mem_cons_of_mem _ m))
theorem back_refs {L : List (Addr × Nk)} : ∀ vs : List Value, (∀ v ∈ vs, ∃ q ∈ L, v = Value.ref q.1) → ∃ L1 : List (Addr × Nk), vs = L1.map (fun q => Value.ref q.1) ∧ ∀ q ∈ L1, q ∈ L
  | [], _ => ⟨[], rfl, fun q m => (by cases m)⟩
  | v :: vs, h => by
    obtain ⟨q, hq, e⟩ := h v List.mem_cons_self
    obtain ⟨L1, e1, i⟩ := back_refs vs fun u m => h u (List.mem_cons_of_mem _ m)
    refine ⟨q :: L1, by rw [List.map_cons, e, e1], fun r m => ?_⟩
    rcases List.mem_cons.mp m with z | z
    · rw [z]; exact hq
    · exact i r z
theorem SetN.one (R : SetN w s.heap a L es ep t) {q r : Addr × Nk} (hq : q ∈ L) (hr : r ∈ L) (e : q.1 = r.1) : q = r := by
  have a1 := R.tup q hq
  have a2 := R.tup r hr
  rw [e] at a1
  exact Prod.ext e (NestedIs.inj _ _ _ a1.1 a2.1)
theorem SetN.permOf (R : SetN w s.heap a L es ep t) {L1 : List (Addr × Nk)} (i : ∀ q ∈ L1, q ∈ L) (pm : (L1.map (fun q => Value.ref q.1)).Perm (L.map fun q => Value.ref q.1)) : L1.Perm L := by
  have nL : L.Nodup := nodup_of_map R.nd
  have nref : (L.map fun q => Value.ref q.1).Nodup := by
    refine List.pairwise_map.mpr (List.Pairwise.imp_of_mem (fun {q r} hq hr hne e => ?_) nL)
    injection e with e
    exact hne (R.one hq hr e)
  have n1 : L1.Nodup := nodup_of_map (pm.nodup_iff.mpr nref)
  refine (List.perm_ext_iff_of_nodup n1 nL).mpr fun q => ⟨i q, fun hq => ?_⟩
  obtain ⟨r, hr, e⟩ := List.mem_map.mp (pm.mem_iff.mpr (List.mem_map.mpr ⟨q, hq, rfl⟩) : Value.ref q.1 ∈ L1.map (fun q => Value.ref q.1))
  injection e with e
  rw [← R.one (i r hr) hq e]
  exact hr
theorem sorted_setN {Q : Value → Shared → Prop} (R : SetN w s.heap a L es ep t) (hh : A.handled = none) (er : ∀ p ∈ L, ∃ as, Reads s.heap (.ref p.1) p.2.data as) (hal : PySem.W.AllAlike (L.map fun p => p.2.data)) (hk : PySem.W.Sortable (L.map fun p => p.2.data))
    (hu : ∀ p ∈ L, A.units + 2 + p.2.data.depth < cLine)
    (hQ : ∀ s' d (out : List Value) (c : Nat) (L1 : List (Addr × Nk)), (∀ b o, s.heap.get? b = some o → s'.heap.get? b = some o) → s'.gens = s.gens → s'.os = s.os → s.heap.objs.size ≤ d → s'.heap.get? d = some (seqObj "list" out.toArray c) →
      out = (L1.mergeSort leN).map (fun q => Value.ref q.1) → L1.Perm L → Q (.ref d) s') :
    wpAny (model P w) A (call (.builtin "sorted") [.ref a]) Q E s := by
  obtain ⟨o, ho, hex, hd⟩ := R.ob
  have hfew := R.few
  refine Calls.call_function_entry kind_sorted plain_sorted entry_sorted (args_sorted1 _) ?_
  unfold Builtin.«sorted»
  refine wpAny_bind (m := checkCount "sorted" 1 1 _) (wpAny_pure ?_)
  refine wpAny_bind (collect_set (A := A.in1) hh ⟨o, ho, hex.1, hd⟩ R.fits (by rw [rows_size R.rows]; unfold scanBound; omega) R.tab.ris R.led fun s1 vs k1 hz g1 o1 pm => ?_)
  have hes : es.toList.map (·.2) = L.map fun q => Value.ref q.1 := by
    rw [R.rows]
    unfold rw_
    rw [List.map_map]
    rfl
  rw [hes] at pm
  obtain ⟨L1, e1, i1⟩ := back_refs (L := L) vs fun v m => by
    obtain ⟨q, hq, e⟩ := List.mem_map.mp (pm.mem_iff.mp m)
    exact ⟨q, hq, e.symm⟩
  rw [e1] at pm
  have p1 := R.permOf i1 pm
  have hvl : vs.length < 64 := by rw [e1, List.length_map, p1.length_eq]; exact hfew
  refine wpAny_bind (wpAny_newList ?_ (by rw [sizeLine_eq]; omega))
  have hoL : (s1.heap.push (seqObj "list" vs.toArray 0)).get? s1.heap.objs.size = some (seqObj "list" vs.toArray 0) := Heap.get?_push_size _ rfl
  have mL : ∀ d, d ∈ L1.map (fun p => p.2.data) → d ∈ L.map fun p => p.2.data := fun d m => (p1.map _).mem_iff.mp m
  refine wpAny_bind (wpAny_holding (PySem.W.list_sort_data (s := { s1 with heap := s1.heap.push (seqObj "list" vs.toArray 0) }) (R := fun (v : Value) (b : Addr × Nk) => v = .ref b.1) (enc := fun p : Addr × Nk => p.2.data) (bs := L1) (vs := vs) hoL (by rw [e1]; exact to_refs L1) ?_
    (fun d m d' m' => hal d (mL d m) d' (mL d' m')) (hk.imp (fun z d m => z d (mL d m)) fun z d m => z d (mL d m)) (by rw [p1.length_eq, sizeLine_eq]; omega) (fun p m => ?_) fun out ol eo => ?_))
  · rw [e1]
    refine each_by L1 fun p m => ?_
    obtain ⟨as, r⟩ := er p (i1 p m)
    have ea := reads_flat _ _ _ r
    subst ea
    exact ⟨[], PyProof.Rows.Reads.keeps (fun b u e => Heap.get?_push_of_some _ (k1 b u e)) r, by simp⟩
  · have z := hu p (i1 p m)
    simp only [Around.in1_units]
    omega
  · obtain ⟨c, hc⟩ := sortedHeap_at (vs := vs) (out := out.toArray) hoL
    refine wpAny_pure ⟨_, rfl, hQ _ s1.heap.objs.size out c L1 (fun b u e => ?_) g1 o1 hz hc (of_refs eo) p1⟩
    have q := k1 b u e
    have hlt := Heap.lt_size q
    show (sortedHeap (s1.heap.push (seqObj "list" vs.toArray 0)) s1.heap.objs.size vs out.toArray).get? b = some u
    rw [sortedHeap_old (Nat.ne_of_lt hlt) (by rw [size_push']; exact Nat.lt_succ_of_lt hlt)]
    exact Heap.get?_push_of_some _ q
end
end Pd
end
section
set_option Elab.async false
set_option linter.all false
set_option maxRecDepth 100000
set_option maxHeartbeats 1000000
namespace Pd
open PySem PySem.Spec L2 LamX
open PyProof.Rows hiding St

/-! ### data and keys -/
mutual
def keyN : D → Option Nk
  | .non => some .none
  | .int i => some (.num i)
  | .str x => some (.text x)
  | .tup ds => (keyNs ds).map .tup
  | _ => none
def keyNs : List D → Option (List Nk)
  | [] => some []
  | d :: ds => match keyN d, keyNs ds with | some k, some ks => some (k :: ks) | _, _ => none
end
mutual
def dOf : Nk → D
  | .none => .non
  | .num i => .int i
  | .text x => .str x
  | .tup ks => .tup (dOfs ks)
def dOfs : List Nk → List D
  | [] => []
  | k :: ks => dOf k :: dOfs ks
end
mutual
theorem dOf_key : ∀ (d : D) (k : Nk), keyN d = some k → dOf k = d
  | .non, k, h => by unfold keyN at h; cases h; rfl
  | .int i, k, h => by unfold keyN at h; cases h; rfl
  | .str x, k, h => by unfold keyN at h; cases h; rfl
  | .tup ds, k, h => by
    unfold keyN at h
    obtain ⟨ks, e, rfl⟩ := Option.map_eq_some_iff.mp h
    unfold dOf
    rw [dOfs_key ds ks e]
  | .bl _, _, h => by unfold keyN at h; cases h
  | .lst _, _, h => by unfold keyN at h; cases h
  | .scr _, _, h => by unfold keyN at h; cases h
  | .dct _ _, _, h => by unfold keyN at h; cases h
  | .ref _, _, h => by unfold keyN at h; cases h
  | .fn _, _, h => by unfold keyN at h; cases h
  | .exc _, _, h => by unfold keyN at h; cases h
theorem dOfs_key : ∀ (ds : List D) (ks : List Nk), keyNs ds = some ks → dOfs ks = ds
  | [], ks, h => by unfold keyNs at h; cases h; rfl
  | d :: ds, ks, h => by
    unfold keyNs at h
    split at h
    · rename_i k ks' e1 e2
      cases h
      unfold dOfs
      rw [dOf_key d k e1, dOfs_key ds ks' e2]
    · cases h
end
mutual
theorem py_dOf : ∀ k : Nk, D.py (dOf k) = some k.data
  | .none => by unfold dOf D.py NestedKey.data; rfl
  | .num i => by unfold dOf D.py NestedKey.data; rfl
  | .text x => by unfold dOf D.py NestedKey.data; rfl
  | .tup ks => by
    unfold dOf D.py NestedKey.data
    rw [pys_dOf ks]
    rfl
theorem pys_dOf : ∀ ks : List Nk, D.pys (dOfs ks) = some (NestedKey.datas ks)
  | [] => by unfold dOfs D.pys NestedKey.datas; rfl
  | k :: ks => by
    unfold dOfs D.pys NestedKey.datas
    rw [py_dOf k, pys_dOf ks]
end
theorem dOf_inj {a b : Nk} (h : dOf a = dOf b) : a.data = b.data := by
  have z := py_dOf a
  rw [h, py_dOf b] at z
  exact (Option.some.inj z).symm
mutual
theorem data_eqv : ∀ a b : Nk, PyData.eqv a.data b.data = true → a = b
  | .none, b, h => by cases b <;> simp [NestedKey.data, PyData.eqv] at h <;> rfl
  | .num i, b, h => by cases b <;> simp [NestedKey.data, PyData.eqv] at h; rw [h]
  | .text x, b, h => by cases b <;> simp [NestedKey.data, PyData.eqv] at h; rw [h]
  | .tup ks, b, h => by
    cases b with
    | tup ls =>
      simp only [NestedKey.data, PyData.eqv] at h
      rw [datas_eqv ks ls h]
    | _ => simp [NestedKey.data, PyData.eqv] at h
theorem datas_eqv : ∀ a b : List Nk, PyData.eqvAll (NestedKey.datas a) (NestedKey.datas b) = true → a = b
  | [], [], _ => rfl
  | [], _ :: _, h => by simp [NestedKey.datas, PyData.eqvAll] at h
  | _ :: _, [], h => by simp [NestedKey.datas, PyData.eqvAll] at h
  | k :: ks, l :: ls, h => by
    simp only [NestedKey.datas, PyData.eqvAll, Bool.and_eq_true] at h
    rw [data_eqv k l h.1, datas_eqv ks ls h.2]
end
/-- of alike data one is the less, or they are one -/
theorem lt_total {a b : Nk} (al : PySem.W.alike a.data b.data = true) (h1 : PySem.W.dataLt a.data b.data = false) (h2 : PySem.W.dataLt b.data a.data = false) : a = b := by
  have e := lex_total (O := itemOrd) _ _ h1 h2
  cases q : PyData.eqv a.data b.data with
  | true => exact data_eqv a b q
  | false =>
    have z := (PySem.W.toks_eqv a.data b.data al).2 q [] [.inl 0]
    rw [e, PySem.W.lex_pre, lex_irrefl] at z
    exact absurd z (by decide)
theorem leP_trans (a b c : D) (h1 : leP a b = true) (h2 : leP b c = true) : leP a c = true := by
  unfold leP PySem.W.dataLt at h1 h2 ⊢
  rw [Bool.not_eq_true'] at h1 h2 ⊢
  cases q : lexLt itemOrd (PySem.W.keyToks ((D.py c).getD .none)) (PySem.W.keyToks ((D.py a).getD .none)) with
  | false => rfl
  | true => rcases lex_negTrans (O := itemOrd) _ (PySem.W.keyToks ((D.py b).getD .none)) _ q with z | z
            · rw [z] at h2; cases h2
            · rw [z] at h1; cases h1
theorem leP_total (a b : D) : (leP a b || leP b a) = true := by
  unfold leP PySem.W.dataLt
  cases q : lexLt itemOrd (PySem.W.keyToks ((D.py b).getD .none)) (PySem.W.keyToks ((D.py a).getD .none)) with
  | false => rfl
  | true =>
    cases q2 : lexLt itemOrd (PySem.W.keyToks ((D.py a).getD .none)) (PySem.W.keyToks ((D.py b).getD .none)) with
    | false => rfl
    | true =>
      have z := lex_trans (O := itemOrd) _ _ _ q q2
      rw [lex_irrefl] at z
      cases z
/-- sorted lists of the same things are one -/
theorem sortD_perm {xs ys : List D} (p : xs.Perm ys) (an : ∀ a ∈ xs, ∀ b ∈ xs, leP a b = true → leP b a = true → a = b) : sortD xs = sortD ys := by
  unfold sortD
  refine List.Perm.eq_of_pairwise (le := fun a b => leP a b = true) (fun a b m1 m2 h1 h2 => an a (List.mem_mergeSort.mp m1) b (p.mem_iff.mpr (List.mem_mergeSort.mp m2)) h1 h2) ?_ ?_ (((List.mergeSort_perm _ _).trans p).trans (List.mergeSort_perm _ _).symm)
  · exact List.pairwise_mergeSort leP_trans leP_total _
  · exact List.pairwise_mergeSort leP_trans leP_total _
end Pd
end
section
set_option Elab.async false
set_option linter.all false
set_option maxRecDepth 100000
set_option maxHeartbeats 1000000
namespace Pd
open PySem PySem.Spec L2 LamX
open PyProof.Rows hiding St

/-- the set at a, its tuples aside -/
structure SetN0 (w : World) (h : Heap) (a : Addr) (L : List (Addr × Nk)) : Prop where
  ex : ∃ (es : Array (Int × Value)) (ep : Nat) (t : SetTable), (∃ o, h.get? a = some o ∧ o.ExactSet ∧ o.data = .set es ep t) ∧ es.toList = rw_ w L ∧ TabOk t (hs_ w L) ∧ (L.map (·.2)).Nodup ∧
    (w.params.followText "set-order" = true ∨ t.led = true) ∧ L.length * 5 < t.mask * 3 ∧ L.length < 64
def SetNO (w : World) (a : Addr) (L : List (Addr × Nk)) : HO := .ext fun h => SetN0 w h a L
theorem setNO_new {P : Program} {w : World} {H : Hp} {h : Heap} {a : Addr} {L : List (Addr × Nk)} {es : Array (Int × Value)} {ep : Nat} {t : SetTable} (R : SetN w h a L es ep t) : ObjOk P w H h a (SetNO w a L) := by
  obtain ⟨o, ho, r⟩ := R.ob
  refine ⟨⟨es, ep, t, ⟨o, ho, r⟩, R.rows, R.tab, R.nd, R.led, R.room, R.few⟩, ⟨o, ho⟩, fun h1 h2 p k => ?_⟩
  obtain ⟨es', ep', t', ⟨o', ho', r'⟩, q'⟩ := SetN0.ex p
  exact ⟨es', ep', t', ⟨o', k o' ho', r'⟩, q'⟩
section
variable {X : Cx} {C : Ct} {W : WX} {k : Nat} {ρ Z : List Addr} {H : Hp} {st : Sto} {σ : St} {pins : List (Addr × Obj)} {s : Shared}
mutual
theorem nk_ok (I : Inv X pins σ H s) (hK : X.K = C.K) : ∀ (k : Nk) (v : V) (u : Value), RV C ρ Z H (dOf k) v → RelV v u → NestedIs s.heap k u
  | .none, v, u, r, e => by
    unfold dOf at r
    rw [rv_non] at r
    subst r
    cases e
    exact .none
  | .num i, v, u, r, e => by
    unfold dOf at r
    rw [rv_int] at r
    subst r
    obtain ⟨t, rfl⟩ := e
    exact .int i t
  | .text x, v, u, r, e => by
    unfold dOf at r
    rw [rv_str] at r
    subst r
    obtain ⟨t, rfl⟩ := e
    exact .text x t
  | .tup ks, v, u, r, e => by
    unfold dOf at r
    obtain ⟨a, vs, rfl, t, q⟩ := tup_ok r
    cases e
    rw [← hK] at t
    obtain ⟨its, rv, ⟨o, ho, hc, n, hd⟩, _⟩ := I.tuple t
    exact .tup ho hc hd (by rw [List.toList_toArray]; exact nks_ok I hK ks vs its q rv)
theorem nks_ok (I : Inv X pins σ H s) (hK : X.K = C.K) : ∀ (ks : List Nk) (vs : List V) (us : List Value), RVs C ρ Z H (dOfs ks) vs → Vals vs us → NestedAll s.heap ks us
  | [], vs, us, r, e => by
    unfold dOfs RVs at r
    subst r
    cases e
    exact .nil
  | k :: ks, vs, us, r, e => by
    unfold dOfs RVs at r
    obtain ⟨v, vs', rfl, h1, h2⟩ := r
    cases e with
    | cons e1 e2 => exact .cons (nk_ok I hK k v _ h1 e1) (nks_ok I hK ks vs' _ h2 e2)
end
/-- tuples, not too deep -/
def tupN (k : Nk) : Bool := match k with | .tup _ => decide (k.depth ≤ 8) | _ => false
theorem rv_ref {kn : Nk} {v : V} (h : tupN kn = true) (r : RV C ρ Z H (dOf kn) v) : ∃ a, v = .ref a := by
  cases kn with
  | tup ks =>
    unfold dOf at r
    obtain ⟨a, vs, e, _⟩ := tup_ok r
    exact ⟨a, e⟩
  | _ => cases h
theorem refs_ok : ∀ {ks : List Nk} {vs : List V}, (∀ k ∈ ks, tupN k = true) → RVs C ρ Z H (dOfs ks) vs → ∃ as : List Addr, as.length = ks.length ∧ vs = as.map V.ref
  | [], _, _, r => by unfold dOfs RVs at r; exact ⟨[], rfl, r⟩
  | k :: ks, _, h, r => by
    unfold dOfs RVs at r
    obtain ⟨v, vs', rfl, h1, h2⟩ := r
    obtain ⟨a, ea⟩ := rv_ref (h k List.mem_cons_self) h1
    obtain ⟨as, hl, e⟩ := refs_ok (fun x m => h x (List.mem_cons_of_mem _ m)) h2
    exact ⟨a :: as, by rw [List.length_cons, List.length_cons, hl], by rw [ea, e]; rfl⟩
theorem zip_rv : ∀ {ks : List Nk} {as : List Addr}, RVs C ρ Z H (dOfs ks) (as.map V.ref) → ∀ p ∈ as.zip ks, RV C ρ Z H (dOf p.2) (.ref p.1)
  | [], as, _, p, m => by rw [List.zip_nil_right] at m; cases m
  | k :: ks, [], r, p, m => by cases m
  | k :: ks, a :: as, r, p, m => by
    unfold dOfs RVs at r
    obtain ⟨v, vs', e, h1, h2⟩ := r
    rw [List.map_cons, List.cons.injEq] at e
    rw [List.zip_cons_cons] at m
    rcases List.mem_cons.mp m with z | m
    · rw [z]
      rw [e.1]
      exact h1
    · rw [← e.2] at h2
      exact zip_rv h2 p m
def rSetN (K : PySem.W.Frag) (w : World) : List V → Hp → VK → Prop := fun xs H Q => ∃ (C : Ct) (ρ Z : List Addr) (l : Addr) (as : List Addr) (ks : List Nk), C.K = K ∧ xs = [.ref l] ∧ SqL K H l (as.map V.ref) ∧ as.length = ks.length ∧ RVs C ρ Z H (dOfs ks) (as.map V.ref) ∧
  (∀ k ∈ ks, tupN k = true) ∧ ks.length < 64 ∧ ∀ a L, H a = none → (∀ p ∈ L, p ∈ as.zip ks) → (∀ k ∈ ks, k ∈ L.map (·.2)) → (L.map (·.2)).Nodup → Q (.ref a) (upd H a (SetNO w a L))
theorem call_setNR (hc : X.calm = true) (hu : X.A.units + 64 < cLine) : CallR X (.type "set") (rSetN X.K X.w) := by
  intro pins s σ H xs us Q I r h
  obtain ⟨C, ρ, Z, l, as, ks, hK, rfl, hl, hn, rv, ht, hf, q⟩ := h
  rw [Vals.ref1 r]
  obtain ⟨its, ri, pl, hz⟩ := I.list hl
  have ei := refs_at ri
  subst ei
  have e2 : (as.map Value.ref) = (as.zip ks).map fun p => Value.ref p.1 := by
    have z : (as.zip ks).map (fun p => Value.ref p.1) = ((as.zip ks).map Prod.fst).map Value.ref := by rw [List.map_map]; rfl
    rw [z, List.map_fst_zip (by omega)]
  have hln : (as.zip ks).length = ks.length := by rw [List.length_zip, hn, Nat.min_self]
  refine call_setN (P := X.prog) (w := X.w) (as.zip ks) (I.ok.hd hc) pl.isList (by rw [List.toList_toArray]; exact e2) (fun p hp => ?_) (by rw [hln]; exact hf) (by omega) fun h' tk L es ep t R g kp => ?_
  · have m2 : p.2 ∈ ks := (List.of_mem_zip hp).2
    refine ⟨nk_ok I hK.symm p.2 (.ref p.1) (.ref p.1) (zip_rv rv p hp) rfl, ?_⟩
    have z := ht p.2 m2
    unfold tupN at z
    split at z
    · rename_i e
      exact of_decide_eq_true z
    · cases z
  · refine ⟨.ref s.heap.objs.size, upd H s.heap.objs.size (SetNO X.w s.heap.objs.size L), I.laid (t' := tk) kp (Nat.le_refl _) (setNO_new R), rfl, q _ L (I.hok.fresh (Nat.le_refl _)) (fun p hp => List.mem_of_mem_take (g.sub p hp)) (fun kk hk => ?_) R.nd⟩
    have m3 : kk ∈ (as.zip ks).map (·.2) := by
      rw [List.map_snd_zip (by omega)]
      exact hk
    obtain ⟨p, hp, rfl⟩ := List.mem_map.mp m3
    exact g.all p (by rw [List.take_length]; exact hp)
def rSortN (K : PySem.W.Frag) (w : World) : List V → Hp → VK → Prop := fun xs H Q => ∃ (C : Ct) (ρ Z : List Addr) (a : Addr) (L : List (Addr × Nk)), C.K = K ∧ xs = [.ref a] ∧ H a = some (SetNO w a L) ∧ (∀ p ∈ L, RV C ρ Z H (dOf p.2) (.ref p.1)) ∧ (∀ p ∈ L, p.2.depth ≤ 8) ∧
  okSort (L.map fun p => p.2.data) = true ∧ ∀ (L1 : List (Addr × Nk)) p, L1.Perm L → H p = none → Q (.ref p) (upd H p (.lst ((L1.mergeSort leN).map fun q => V.ref q.1)))
theorem okSort_iff {ps : List PyData} (ok : okSort ps = true) : PySem.W.AllAlike ps ∧ PySem.W.Sortable ps ∧ ∀ p ∈ ps, p.depth ≤ 64 := by
  unfold okSort at ok
  rw [Bool.and_eq_true, Bool.and_eq_true, Bool.or_eq_true, List.all_eq_true, List.all_eq_true, List.all_eq_true, List.all_eq_true] at ok
  refine ⟨fun d hd d' hd' => List.all_eq_true.mp (ok.1.1 d hd) d' hd', ?_, fun p m => SeqAt.depth_of_shaped (ok.1.2 p m)⟩
  rcases ok.2 with z | z
  · refine .inl fun d hd => ?_
    have y := z d hd
    split at y
    · exact ⟨_, _, rfl⟩
    · cases y
  · refine .inr fun d hd => ?_
    have y := z d hd
    split at y
    · cases y
    · cases y
    · rename_i n1 n2
      exact ⟨n2, n1⟩
theorem vals_refs : ∀ (ks : List (Addr × Nk)), Vals (ks.map fun p => V.ref p.1) (ks.map fun p => Value.ref p.1)
  | [] => .nil
  | p :: ks => .cons rfl (vals_refs ks)
theorem call_sortNR (hc : X.calm = true) (hu : X.A.units + 68 < cLine) : CallR X (.builtin "sorted") (rSortN X.K X.w) := by
  intro pins s σ H xs us Q I r h
  obtain ⟨C, ρ, Z, a, L, hK, rfl, ha, rv, hdp, ok, q⟩ := h
  rw [Vals.ref1 r]
  obtain ⟨al, sb, dp⟩ := okSort_iff ok
  obtain ⟨es, ep, t, o1, o2, o3, o4, o5, o6, o7⟩ := SetN0.ex (I.hok a _ ha).1
  have R : SetN X.w s.heap a L es ep t := ⟨o1, o2, o3, o4, fun p hp => ⟨nk_ok I hK.symm p.2 _ _ (rv p hp) rfl, hdp p hp⟩, o5, o6, o7⟩
  refine sorted_setN (P := X.prog) R (I.ok.hd hc) (fun p hp => ?_) al sb (fun p hp => ?_) fun s' d out c L1 kp g' os' hd he eo pm => ?_
  · have z := py_ok (C := C) (dOf p.2) (.ref p.1) p.2.data (rv p hp) (py_dOf p.2)
    rw [hK] at z
    exact Dp.reads I p.2.data _ _ z rfl
  · have z := dp p.2.data (List.mem_map.mpr ⟨p, hp, rfl⟩)
    omega
  · have hlen : ((L1.mergeSort leN).map fun q => V.ref q.1).length ≤ sizeLine := by rw [List.length_map, List.length_mergeSort, pm.length_eq, sizeLine_eq]; omega
    have hn : H d = none := I.hok.fresh hd
    have hv : Vals ((L1.mergeSort leN).map fun q => V.ref q.1) out := by rw [eo]; exact vals_refs _
    have J : Inv X pins σ (upd H d (.lst ((L1.mergeSort leN).map fun q => V.ref q.1))) { s with heap := s'.heap, gens := s'.gens, drawn := s'.drawn, toks := s'.toks } :=
      I.call (ch := []) (Un.laid kp hd hn) (I.hok.laid kp hd ⟨hlen, out, c, hv, he⟩) (by rw [g']; exact I.bare) (fun _ z => nomatch z)
    obtain ⟨h', g2, d2, tk, os2⟩ := s'
    subst os'
    exact ⟨.ref d, _, J, rfl, q L1 d pm hn⟩

/-! ### sorted(set(e)) -/
/-- each thing once, where it stands first -/
def onceD : List D → List D
  | [] => []
  | d :: ds => d :: (onceD ds).filter fun e => !decide (keyN e = keyN d)
def dSortSet (cell : Bool) (a : Den) : Den := fun env st => bindR (a env st) fun x st => match asL st x with
  | some ds => (match keyNs ds with
    | some ks => if ks.all tupN && okSort (NestedKey.datas ks) && decide (ks.length < 64) then mkL cell (sortD (onceD ds)) st else none
    | none => none)
  | none => none
theorem keyNs_dOfs : ∀ ks : List Nk, (∀ k ∈ ks, keyN (dOf k) = some k) → keyNs (dOfs ks) = some ks
  | [], _ => rfl
  | k :: ks, h => by
    unfold dOfs keyNs
    rw [h k List.mem_cons_self, keyNs_dOfs ks fun x m => h x (List.mem_cons_of_mem _ m)]
mutual
theorem key_dOf : ∀ k : Nk, keyN (dOf k) = some k
  | .none => rfl
  | .num i => rfl
  | .text x => rfl
  | .tup ks => by
    unfold dOf keyN
    rw [keys_dOf ks]
    rfl
theorem keys_dOf : ∀ ks : List Nk, keyNs (dOfs ks) = some ks
  | [] => rfl
  | k :: ks => by
    unfold dOfs keyNs
    rw [key_dOf k, keys_dOf ks]
end
theorem once_mem : ∀ {ks : List Nk} {d : D}, d ∈ onceD (dOfs ks) ↔ ∃ k ∈ ks, d = dOf k
  | [], d => by simp [dOfs, onceD]
  | k :: ks, d => by
    unfold dOfs onceD
    rw [List.mem_cons, List.mem_filter, once_mem (ks := ks)]
    constructor
    · rintro (e | ⟨⟨k', m, e⟩, _⟩)
      · exact ⟨k, List.mem_cons_self, e⟩
      · exact ⟨k', List.mem_cons_of_mem _ m, e⟩
    · rintro ⟨k', m, e⟩
      rcases List.mem_cons.mp m with z | z
      · rw [z] at e; exact .inl e
      · by_cases q : k' = k
        · rw [q] at e; exact .inl e
        · refine .inr ⟨⟨k', z, e⟩, ?_⟩
          rw [e, key_dOf, key_dOf, Bool.not_eq_true', decide_eq_false_iff_not]
          exact fun z => q (Option.some.inj z)
theorem once_nodup : ∀ ks : List Nk, (onceD (dOfs ks)).Nodup
  | [] => by simp [dOfs, onceD]
  | k :: ks => by
    unfold dOfs onceD
    refine List.nodup_cons.mpr ⟨fun m => ?_, (once_nodup ks).filter _⟩
    have z := (List.mem_filter.mp m).2
    simp at z
theorem dOf_injE {a b : Nk} (h : dOf a = dOf b) : a = b := by
  have z := key_dOf a
  rw [h, key_dOf b] at z
  exact (Option.some.inj z).symm
theorem datas_map : ∀ ks : List Nk, NestedKey.datas ks = ks.map fun k => k.data
  | [] => rfl
  | k :: ks => by unfold NestedKey.datas; rw [datas_map ks]; rfl
theorem leN_dOf (p q : Addr × Nk) : leN p q = leP (dOf p.2) (dOf q.2) := by
  unfold leN leP
  rw [py_dOf, py_dOf]
  rfl
theorem okSort_perm {ps qs : List PyData} (h : okSort qs = true) (i : ∀ p ∈ ps, p ∈ qs) : okSort ps = true := by
  unfold okSort at h ⊢
  rw [Bool.and_eq_true, Bool.and_eq_true, Bool.or_eq_true, List.all_eq_true, List.all_eq_true, List.all_eq_true, List.all_eq_true] at h ⊢
  refine ⟨⟨fun p m => List.all_eq_true.mpr fun q m' => List.all_eq_true.mp (h.1.1 p (i p m)) q (i q m'), fun p m => h.1.2 p (i p m)⟩, h.2.imp (fun z p m => z p (i p m)) fun z p m => z p (i p m)⟩
variable {e : Expr} {de : Den} {p p1 p2 pos : Pos}
theorem pd_sortSet (cell : Bool) [g : Go X C W k] (hm : C.mg "sorted" = none) (hm2 : C.mg "set" = none) (ha : PD X C W e de) (hg : Gl X "sorted" := by rfl) (hg2 : Gl X "set" := by rfl)
    (hs : starEach [.Call (.Name "set" p1) [e] [] p2] X.env = (false, eval (.Call (.Name "set" p1) [e] [] p2) X.env) :: starEach [] X.env := by rfl) (hs2 : starEach [e] X.env = (false, eval e X.env) :: starEach [] X.env := by rfl)
    (hpl : (backTo pos (starEach [] X.env)).any (·.1) = false := by rfl) (hpl2 : (backTo p2 (starEach [] X.env)).any (·.1) = false := by rfl) : PD X C W (.Call (.Name "sorted" p) [.Call (.Name "set" p1) [e] [] p2] [] pos) (dSortSet cell de) :=
  pe_imp (pe_callB (call_sortNR g.calm gu68) hg (by rw [g.hm]; exact hm) (by decide +kernel) (pa_cons (pe_callTy (call_setNR g.calm gu64) hg2 (by rw [g.hm]; exact hm2) (by decide +kernel) (pa_cons ha pa_nil hs2) (by decide) (by decide) hs2 hpl2) pa_nil hs) (by decide) (by decide) hs hpl)
    fun σ H Q ⟨ρ, Z, env, st, S, E, h⟩ => tD_mono (seqE S E h) fun v H1 ⟨ρ1, st1, x, S1, E1, rx, _, _, h1⟩ => by
      split at h1
      · rename_i ds e1
        split at h1
        · rename_i ks e2
          split at h1
          · rename_i hc
            rw [Bool.and_eq_true, Bool.and_eq_true, decide_eq_true_eq, List.all_eq_true] at hc
            obtain ⟨⟨c1, c2⟩, c3⟩ := hc
            obtain ⟨l, us, rfl, t, q⟩ := asL_ok S1 rx e1
            have ed := dOfs_key ds ks e2
            subst ed
            obtain ⟨as, hl, eu⟩ := refs_ok c1 q
            subst eu
            refine ⟨C, ρ1, Z, l, as, ks, g.hK.symm, rfl, by rw [g.hK]; exact t, hl, q, c1, c3, fun a L hA sub all nd => ?_⟩
            have x1 : Ext ρ1 H1 ρ1 (upd H1 a (SetNO X.w a L)) := Ext.fresh hA
            have nt : ∀ ps, SetNO X.w a L ≠ .tbl ps := fun ps z => by unfold SetNO at z; cases z
            have S2 := S1.val (o := SetNO X.w a L) hA nt
            have q2 := q.ext x1
            have m2 : ∀ p ∈ L, p.2 ∈ ks := fun p m => (List.of_mem_zip (sub p m)).2
            refine ⟨C, ρ1, Z, a, L, g.hK.symm, rfl, upd_same, fun p m => zip_rv q2 p (sub p m), fun p m => ?_, okSort_perm c2 fun p m => ?_, fun L1 b pm hb => ?_⟩
            · have z := c1 p.2 (m2 p m)
              unfold tupN at z
              split at z
              · rename_i e'
                exact of_decide_eq_true z
              · cases z
            · obtain ⟨y, hy, rfl⟩ := List.mem_map.mp m
              rw [datas_map]
              exact List.mem_map.mpr ⟨y.2, m2 y hy, rfl⟩
            · have hall : ∀ q ∈ L1, q ∈ L := fun q m => pm.mem_iff.mp m
              have eqL : (L1.mergeSort leN).map (fun q => dOf q.2) = sortD (onceD (dOfs ks)) := by
                rw [List.map_mergeSort (s := leP) (fun a _ b _ => leN_dOf a b)]
                have nd1 : (L1.map fun q => dOf q.2).Nodup := by
                  have n0 : (L1.map (·.2)).Nodup := (pm.map (·.2)).nodup_iff.mpr nd
                  have e0 : (L1.map fun q => dOf q.2) = (L1.map (·.2)).map dOf := by rw [List.map_map]; rfl
                  rw [e0]
                  exact List.pairwise_map.mpr (List.Pairwise.imp (fun hne z => hne (dOf_injE z)) n0)
                have pmD : (L1.map fun q => dOf q.2).Perm (onceD (dOfs ks)) := by
                  refine (List.perm_ext_iff_of_nodup nd1 (once_nodup ks)).mpr fun d => ?_
                  rw [once_mem]
                  constructor
                  · intro m
                    obtain ⟨q, hq, rfl⟩ := List.mem_map.mp m
                    exact ⟨q.2, m2 q (hall q hq), rfl⟩
                  · rintro ⟨kk, hk, rfl⟩
                    obtain ⟨q, hq, e'⟩ := List.mem_map.mp (all kk hk)
                    exact List.mem_map.mpr ⟨q, pm.mem_iff.mpr hq, by rw [e']⟩
                refine sortD_perm pmD fun a ma b mb h1 h2 => ?_
                obtain ⟨y, hy, rfl⟩ := List.mem_map.mp ma
                obtain ⟨z, hz, rfl⟩ := List.mem_map.mp mb
                have al := (okSort_iff c2).1
                rw [datas_map] at al
                unfold leP at h1 h2
                rw [py_dOf, py_dOf, Bool.not_eq_true'] at h1 h2
                rw [lt_total (al _ (List.mem_map.mpr ⟨y.2, m2 y (hall y hy), rfl⟩) _ (List.mem_map.mpr ⟨z.2, m2 z (hall z hz), rfl⟩)) h2 h1]
              have h3 := After.back x1 h1
              refine mkL_ok S2 hb ?_ h3
              rw [← eqL]
              have z : ((L1.mergeSort leN).map fun q => dOf q.2) = ((L1.mergeSort leN).map fun q => (dOf q.2, V.ref q.1)).map (·.1) := by rw [List.map_map]; rfl
              have z2 : ((L1.mergeSort leN).map fun q => V.ref q.1) = ((L1.mergeSort leN).map fun q => (dOf q.2, V.ref q.1)).map (·.2) := by rw [List.map_map]; rfl
              rw [z, z2]
              refine RVs.ofPairs fun b m => ?_
              obtain ⟨y, hy, rfl⟩ := List.mem_map.mp m
              exact zip_rv q2 y (sub y (hall y (List.mem_mergeSort.mp hy)))
          · exact h1.elim
        · exact h1.elim
      · exact h1.elim
end
end Pd
end
section
set_option Elab.async false
set_option linter.all false
set_option maxRecDepth 100000
set_option maxHeartbeats 1000000
namespace Pd
open PySem PySem.Spec L2 LamX
open PyProof.Rows hiding St

/-! ### a zip whose last pair is kept -/
section
variable {prog : Program} {w : World} {A : Around} {E : Value → Shared → Prop} {s : Shared}
variable {t u : Bool} {z ti to p q l m T : Addr} {f : Bool} {oT : Obj} {i : Nat} {xs ys : Array Value}
theorem turnH {x y : Value} {Q : Value → Shared → Prop} (D : Parts z ti to p q l m) (hz : IsZipHeld s.heap z ti to T f) (hT : s.heap.get? T = some oT) (hi : IsPair s.heap ti (.ref p) (.ref q)) (hp : Stand t s.heap p l i xs) (hq : Stand u s.heap q m i ys)
    (hx : xs[i]? = some x) (hy : ys[i]? = some y)
    (hQ : ∀ h', IsZipHeld h' z ti to T true → Stand t h' p l (i + 1) xs → Stand u h' q m (i + 1) ys → IsPair h' s.heap.objs.size x y → h'.objs.size = s.heap.objs.size + 1 →
      (∀ c o, c ≠ z → c ≠ p → c ≠ q → s.heap.get? c = some o → h'.get? c = some o) → Q (.ref s.heap.objs.size) { s with heap := h' }) :
    wpAny (model prog w) A (Builtin.«zip.__next__» ⟨[.ref z], []⟩) (fun fin s' => ∃ v, fin = .done (.ret v) ∧ Q v s') E s := by
  obtain ⟨n1, n2, n3, n4, n5, n6, n7, n8, n9, n10⟩ := ne5 D
  obtain ⟨lz, lo, lp, lq⟩ := nl4 D.l_
  obtain ⟨mz, mo, mp, mq⟩ := nl4 D.m_
  show wpAny _ _ (field (.ref z) 2 >>= _) _ _ _
  refine wpAny_bind (wpAny_field hz rfl (x := .bool false) rfl ?_)
  show wpAny _ _ (field (.ref z) 3 >>= _) _ _ _
  refine wpAny_bind (wpAny_field hz rfl (x := .ref ti) rfl (wpAny_bind (wpAny_seqItems hi rfl ?_)))
  show wpAny _ _ (Builtin.SmallTypes.ownedTupleIsFree (.ref z) >>= _) _ _ _
  refine wpAny_bind (wpAny_tupleHeld_zip hz hT fun g1 z1 k1 => ?_)
  simp only [Bool.false_eq_true, if_false]
  refine wpAny_bind ?_
  rw [← Array.forIn_toList]
  simp only [List.forIn_cons, List.forIn_nil]
  refine wpAny_bind (wpAny_bind (wpAny_holding ?_))
  show wpAny _ _ (Builtin.SmallTypes.nextOf (.ref p) >>= _) _ _ _
  refine wpAny_bind ((hp.put k1.extBut n3.symm lz).next hx lp.symm fun g2 p2 k2 => wpAny_pure (wpAny_pure ?_))
  refine wpAny_bind (wpAny_bind (wpAny_holding ?_))
  show wpAny _ _ (Builtin.SmallTypes.nextOf (.ref q) >>= _) _ _ _
  refine wpAny_bind (((hq.put k1.extBut n4.symm mz).put k2.extBut n10.symm mp).next hy mq.symm fun g3 q3 k3 => wpAny_pure (wpAny_pure (wpAny_pure ?_)))
  show wpAny _ _ (newTuple [x, y] >>= _) _ _ _
  refine wpAny_bind (wpAny_newTuple (wpAny_pure ⟨_, rfl, ?_⟩))
  have sz : g3.objs.size = s.heap.objs.size := by rw [k3.1, k2.1, k1.1]
  have rest : ∀ c o, c ≠ z → c ≠ p → c ≠ q → s.heap.get? c = some o → (g3.push { cls := .type "tuple", data := .seq #[x, y] }).get? c = some o := fun c o c1 c3 c4 e => by
    exact Heap.get?_push_of_some _ (k3.extBut _ _ c4 (k2.extBut _ _ c3 (k1.extBut _ _ c1 e)))
  have z3 : IsZipHeld g3 z ti to T true := k3.extBut _ _ n4 (k2.extBut _ _ n3 z1)
  have p3 := p2.put k3.extBut n10 lq
  have hn : IsPair (g3.push { cls := .type "tuple", data := .seq #[x, y] }) g3.objs.size x y := Heap.get?_push_size _ rfl
  have hs : (g3.push { cls := .type "tuple", data := .seq #[x, y] }).objs.size = g3.objs.size + 1 := Heap.size_push ..
  show Q (.ref g3.objs.size) _
  rw [sz] at hn hs ⊢
  exact hQ _ (Heap.get?_push_of_some _ z3) (p3.stay (fun o e => Heap.get?_push_of_some _ e) fun o e => Heap.get?_push_of_some _ e) (q3.stay (fun o e => Heap.get?_push_of_some _ e) fun o e => Heap.get?_push_of_some _ e) hn hs rest
theorem overH {Q : Fin → Shared → Prop} (hh : A.handled = none) (D : Parts z ti to p q l m) (hz : IsZipHeld s.heap z ti to T f) (hT : s.heap.get? T = some oT) (hi : IsPair s.heap ti (.ref p) (.ref q)) (hp : Stand t s.heap p l i xs) (hq : Stand u s.heap q m i ys)
    (hend : xs[i]? = none ∨ ys[i]? = none) (hE : ∀ h' e, (∀ c o, c ∉ [z, to, p, q] → s.heap.get? c = some o → h'.get? c = some o) → (∃ o, h'.get? e = some o ∧ o.cls = .type "StopIteration") → E (.ref e) { s with heap := h' }) :
    wpAny (model prog w) A (Builtin.«zip.__next__» ⟨[.ref z], []⟩) Q E s := by
  obtain ⟨n1, n2, n3, n4, n5, n6, n7, n8, n9, n10⟩ := ne5 D
  obtain ⟨lz, lo, lp, lq⟩ := nl4 D.l_
  obtain ⟨mz, mo, mp, mq⟩ := nl4 D.m_
  show wpAny _ _ (field (.ref z) 2 >>= _) _ _ _
  refine wpAny_bind (wpAny_field hz rfl (x := .bool false) rfl ?_)
  show wpAny _ _ (field (.ref z) 3 >>= _) _ _ _
  refine wpAny_bind (wpAny_field hz rfl (x := .ref ti) rfl (wpAny_bind (wpAny_seqItems hi rfl ?_)))
  show wpAny _ _ (Builtin.SmallTypes.ownedTupleIsFree (.ref z) >>= _) _ _ _
  refine wpAny_bind (wpAny_tupleHeld_zip hz hT fun g1 z1 k1 => ?_)
  simp only [Bool.false_eq_true, if_false]
  refine wpAny_bind ?_
  rw [← Array.forIn_toList]
  simp only [List.forIn_cons, List.forIn_nil]
  refine wpAny_bind (wpAny_bind (wpAny_holding ?_))
  show wpAny _ _ (Builtin.SmallTypes.nextOf (.ref p) >>= _) _ _ _
  cases hx : xs[i]? with
  | none =>
    refine wpAny_bind ((hp.put k1.extBut n3.symm lz).over hh hx fun g2 e k2 he => ?_)
    exact hE g2 e (fun c o nc e' => k2 _ _ (nl4 nc).2.2.1 (k1.extBut _ _ (nl4 nc).1 e')) he
  | some x =>
    have hy : ys[i]? = none := by
      rcases hend with h | h
      · rw [hx] at h; cases h
      · exact h
    refine wpAny_bind ((hp.put k1.extBut n3.symm lz).next hx lp.symm fun g2 p2 k2 => wpAny_pure (wpAny_pure ?_))
    refine wpAny_bind (wpAny_bind (wpAny_holding ?_))
    show wpAny _ _ (Builtin.SmallTypes.nextOf (.ref q) >>= _) _ _ _
    refine wpAny_bind (((hq.put k1.extBut n4.symm mz).put k2.extBut n10.symm mp).over hh hy fun g3 e k3 he => ?_)
    exact hE g3 e (fun c o nc e' => k3 _ _ (nl4 nc).2.2.2 (k2.extBut _ _ (nl4 nc).2.2.1 (k1.extBut _ _ (nl4 nc).1 e'))) he
theorem nextH {x y : Value} {Q : Option Value → Shared → Prop} (D : Parts z ti to p q l m) (hz : IsZipHeld s.heap z ti to T f) (hT : s.heap.get? T = some oT) (hi : IsPair s.heap ti (.ref p) (.ref q)) (hp : Stand t s.heap p l i xs) (hq : Stand u s.heap q m i ys)
    (hx : xs[i]? = some x) (hy : ys[i]? = some y)
    (hQ : ∀ h', IsZipHeld h' z ti to T true → Stand t h' p l (i + 1) xs → Stand u h' q m (i + 1) ys → IsPair h' s.heap.objs.size x y → h'.objs.size = s.heap.objs.size + 1 →
      (∀ c o, c ≠ z → c ≠ p → c ≠ q → s.heap.get? c = some o → h'.get? c = some o) → Q (some (.ref s.heap.objs.size)) { s with heap := h' }) : wpAny (model prog w) A (pyNext (.ref z)) Q E s := by
  have ty : s.TypeIs (.ref z) "zip" := ⟨_, hz, rfl⟩
  unfold pyNext
  exact wpAny_bind (wpAny_attempt (wpAny_callSpecial?_slot (name := Str.ofString "__next__") ty F.slot_zip_next
    (wpAny_call_entry F.slot_zip_next ty F.entry_zip_next (turnH D hz hT hi hp hq hx hy fun h' a b c d e f => wpAny_pure (hQ h' a b c d e f)) (F.args_zip_next_1 _))))
theorem nextOverH {Q : Option Value → Shared → Prop} (hh : A.handled = none) (D : Parts z ti to p q l m) (hz : IsZipHeld s.heap z ti to T f) (hT : s.heap.get? T = some oT) (hi : IsPair s.heap ti (.ref p) (.ref q)) (hp : Stand t s.heap p l i xs) (hq : Stand u s.heap q m i ys)
    (hend : xs[i]? = none ∨ ys[i]? = none) (hQ : ∀ h', (∀ c o, c ∉ [z, to, p, q] → s.heap.get? c = some o → h'.get? c = some o) → Q none { s with heap := h' }) : wpAny (model prog w) A (pyNext (.ref z)) Q E s := by
  have ty : s.TypeIs (.ref z) "zip" := ⟨_, hz, rfl⟩
  unfold pyNext
  refine wpAny_bind (wpAny_attempt (wpAny_callSpecial?_slot (name := Str.ofString "__next__") ty F.slot_zip_next
    (wpAny_call_entry F.slot_zip_next ty F.entry_zip_next (overH hh D hz hT hi hp hq hend fun h' e k he => ?_) (F.args_zip_next_1 _))))
  obtain ⟨o, eo, co⟩ := he
  exact wpAny_bind (wpAny_isInstance (T := "StopIteration") (b := true) ⟨o, eo, co⟩ isSubtype_stop (wpAny_pure (hQ _ k)))
end
end Pd
end
section
set_option Elab.async false
set_option linter.all false
set_option maxRecDepth 100000
set_option maxHeartbeats 1000000
namespace Pd
open PySem PySem.Spec L2 LamX
open PyProof.Rows hiding St

theorem SqX.upd {t : Bool} {K : PySem.W.Frag} {H : Hp} {a c : Addr} {xs : List V} {o : HO} (n : a ≠ c) (h : SqX t K H a xs) : SqX t K (upd H c o) a xs := by
  cases t with
  | true =>
    rcases h with (h | ⟨ob, h⟩) | h
    · exact .inl (.inl (by rw [upd_ne n]; exact h))
    · exact .inl (.inr ⟨ob, by rw [upd_ne n]; exact h⟩)
    · exact .inr h
  | false =>
    rcases h with (h | ⟨ob, h⟩) | h
    · exact .inl (.inl (by rw [upd_ne n]; exact h))
    · exact .inl (.inr ⟨ob, by rw [upd_ne n]; exact h⟩)
    · exact .inr h
/-- a zip of two amid its walk -/
structure ZS (t u : Bool) (h : Heap) (z ti to p q a b : Addr) (i : Nat) : Prop where
  z : IsZip h z ti to .none ∨ ∃ T f oT, IsZipHeld h z ti to T f ∧ h.get? T = some oT
  pr : IsPair h ti (.ref p) (.ref q)
  ow : ∃ x y, IsPair h to x y
  i1 : It1 t h p a i
  i2 : It1 u h q b i
theorem ZS.lt {t u : Bool} {h : Heap} {z ti to p q a b : Addr} {i : Nat} (x : ZS t u h z ti to p q a b i) {c : Addr} (m : c ∈ [z, ti, to, p, q]) : c < h.objs.size := by
  obtain ⟨o4, v4, e4, d4⟩ := x.i1.obj
  obtain ⟨o5, v5, e5, d5⟩ := x.i2.obj
  obtain ⟨x0, y0, h3⟩ := x.ow
  have hz : ∃ o, h.get? z = some o := by
    rcases x.z with e | ⟨T, f, oT, e, _⟩
    · exact ⟨_, e⟩
    · exact ⟨_, e⟩
  obtain ⟨oz, ez⟩ := hz
  rcases fp5 m with e | e | e | e | e <;> subst e
  · exact Heap.lt_size ez
  · exact Heap.lt_size x.pr
  · exact Heap.lt_size h3
  · exact Heap.lt_size e4
  · exact Heap.lt_size e5
theorem ZS.stay {t u : Bool} {h h' : Heap} {z ti to p q a b : Addr} {i : Nat} (x : ZS t u h z ti to p q a b i) (S : Addr) (nS : S ∉ [z, ti, to, p, q]) (k : ∀ c o, c ≠ S → h.get? c = some o → h'.get? c = some o) (kS : ∀ o, h.get? S = some o → ∃ o', h'.get? S = some o') : ZS t u h' z ti to p q a b i := by
  have ne : ∀ c, c ∈ [z, ti, to, p, q] → c ≠ S := fun c m e => nS (by rw [← e]; exact m)
  obtain ⟨x0, y0, h3⟩ := x.ow
  refine ⟨?_, k ti _ (ne ti (by simp)) x.pr, ⟨x0, y0, k to _ (ne to (by simp)) h3⟩, x.i1.stay (fun o e => k p o (ne p (by simp)) e), x.i2.stay (fun o e => k q o (ne q (by simp)) e)⟩
  rcases x.z with e | ⟨T, f, oT, e, eT⟩
  · exact .inl (k z _ (ne z (by simp)) e)
  · by_cases q : T = S
    · subst q
      obtain ⟨o', e'⟩ := kS oT eT
      exact .inr ⟨T, f, o', k z _ (ne z (by simp)) e, e'⟩
    · exact .inr ⟨T, f, oT, k z _ (ne z (by simp)) e, k T _ q eT⟩
theorem lz_loop {X : Cx} {pins : List (Addr × Obj)} {σ : L2.St} {A : Around} {a b z ti to p q S : Addr} {t u : Bool} {xs ys : List V} {Rr : Result → Shared → Prop} (hh : A.in1.handled = none) (D : Parts z ti to p q a b) (hS : S ∉ [z, ti, to, p, q]) (haS : a ≠ S) (hbS : b ≠ S)
    (Wi : Nat → Hp → List V → Prop) (step : ∀ i H acc T x y, Wi i H acc → H S = some (.lst acc) → xs[i]? = some x → ys[i]? = some y → H T = none → Wi (i + 1) (upd (upd H T (.tup [x, y])) S (.lst (acc ++ [.ref T]))) (acc ++ [.ref T]))
    (hn : min xs.length ys.length ≤ sizeLine) (hR : ∀ s' H acc, Inv X pins σ H s' → Wi (min xs.length ys.length) H acc → H S = some (.lst acc) → Rr (.ok (.ret .none)) s') :
    ∀ (m i : Nat) (s : Shared) (H : Hp) (acc : List V), min xs.length ys.length - i = m → i ≤ min xs.length ys.length → Inv X pins σ H s → (∀ c ∈ [z, ti, to, p, q], FpOk X pins H c) → ZS t u s.heap z ti to p q a b i → SqX t X.K H a xs → SqX u X.K H b ys →
      H S = some (.lst acc) → acc.length = i → Wi i H acc → codeAny (model X.prog X.w) A (.builtin "list.extend.loop" ⟨[.ref S, .ref z, .none], []⟩) Rr s := by
  intro m
  induction m with
  | zero =>
    intro i s H acc hm hi I hf zs q1 q2 hSH hl hW
    have ei : i = min xs.length ys.length := by omega
    subst ei
    refine codeAny_builtin F.entry_extend_loop ?_
    rw [Around.under_plainId F.plain_extend_loop _]
    show wpAny _ A.in1 (pyNext (.ref z) >>= _) _ _ s
    obtain ⟨us, r1, s1⟩ := zs.i1.stand I q1
    obtain ⟨ws, r2, s2⟩ := zs.i2.stand I q2
    have l1 := r1.length
    have l2 := r2.length
    have he : us.toArray[min xs.length ys.length]? = none ∨ ws.toArray[min xs.length ys.length]? = none := by
      rcases Nat.le_total xs.length ys.length with c | c
      · exact .inl (by simp; omega)
      · exact .inr (by simp; omega)
    have fin : ∀ h', (∀ c o, c ∉ [z, to, p, q] → s.heap.get? c = some o → h'.get? c = some o) → Rr (.ok (.ret .none)) { s with heap := h' } := fun h' hk =>
      hR _ H acc (I.turnedL (t' := s.toks) (ch := [z, ti, to, p, q]) (fun c o nc e => hk c o (fun m => nc (by simp at m ⊢; rcases m with m | m | m | m <;> simp [m])) e) hf) hW hSH
    rcases zs.z with e | ⟨T, f, oT, e, eT⟩
    · exact wpAny_bind (pyNext_zipOver hh D ⟨e, zs.pr, zs.ow, s1, s2⟩ he fun h' hk => wpAny_pure (fin h' hk))
    · exact wpAny_bind (nextOverH hh D e eT zs.pr s1 s2 he fun h' hk => wpAny_pure (fin h' hk))
  | succ m ih =>
    intro i s H acc hm hi I hf zs q1 q2 hSH hl hW
    have hlt : i < min xs.length ys.length := by omega
    obtain ⟨x, ex⟩ : ∃ x, xs[i]? = some x := ⟨_, List.getElem?_eq_getElem (by omega)⟩
    obtain ⟨y, ey⟩ : ∃ y, ys[i]? = some y := ⟨_, List.getElem?_eq_getElem (by omega)⟩
    refine codeAny_builtin F.entry_extend_loop ?_
    rw [Around.under_plainId F.plain_extend_loop _]
    show wpAny _ A.in1 (pyNext (.ref z) >>= _) _ _ s
    obtain ⟨us, r1, s1⟩ := zs.i1.stand I q1
    obtain ⟨ws, r2, s2⟩ := zs.i2.stand I q2
    obtain ⟨u1, eu, ru⟩ := r1.get ex
    obtain ⟨u2, ew, rw'⟩ := r2.get ey
    obtain ⟨n1, n2, n3, n4, _⟩ := ne5 D
    have fin : ∀ h', (∃ (f : Bool) (T : Addr) (oT : Obj), (IsZip h' z ti to (rawInt (T : Int)) ∨ IsZipHeld h' z ti to T f) ∧ h'.get? T = some oT) → IsPair h' ti (.ref p) (.ref q) → (∃ x y, IsPair h' to x y) → It1 t h' p a (i + 1) → It1 u h' q b (i + 1) → IsPair h' s.heap.objs.size u1 u2 → h'.objs.size = s.heap.objs.size + 1 →
        (∀ c o, c ∉ [z, to, p, q] → s.heap.get? c = some o → h'.get? c = some o) →
        wpAny (model X.prog X.w) A.in1 (updateSeq S (·.push (.ref s.heap.objs.size)) >>= fun _ => again (.builtin "list.extend.loop" ⟨[.ref S, .ref z, .none], []⟩))
          (fun fin s' => match fin with | .done f => Rr (.ok f) s' | .again c' => c'.quiet = true ∧ codeAny (model X.prog X.w) A c' Rr s') (fun e s' => Rr (.error e) s') { s with heap := h' } := by
      intro h' hz hti hto hp hq hT hsz hk
      have hk2 : ∀ c o, c ∉ [z, ti, to, p, q] → s.heap.get? c = some o → h'.get? c = some o := fun c o nc e => hk c o (fun m => nc (by simp at m ⊢; rcases m with m | m | m | m <;> simp [m])) e
      have hTn : H s.heap.objs.size = none := I.hok.fresh (Nat.le_refl _)
      have new : ObjOk X.prog X.w (upd H s.heap.objs.size (.tup [x, y])) h' s.heap.objs.size (.tup [x, y]) := ⟨by show 2 ≤ sizeLine; decide, [u1, u2], .cons ru (.cons rw' .nil), ⟨_, hT, rfl, _, rfl⟩⟩
      have I1 : Inv X pins σ (upd H s.heap.objs.size (.tup [x, y])) { s with heap := h' } := I.turnedNew (t' := s.toks) (ch := [z, ti, to, p, q]) hk2 hf (Nat.le_refl _) new
      have nST : S ≠ s.heap.objs.size := ne_of_none hSH hTn
      have hS1 : upd H s.heap.objs.size (.tup [x, y]) S = some (.lst acc) := by rw [upd_ne nST]; exact hSH
      obtain ⟨_, its, n, r, hl2, e⟩ := I1.lstM hS1
      have hlen : (acc ++ [V.ref s.heap.objs.size]).length ≤ sizeLine := by rw [List.length_append, List.length_singleton]; omega
      have I2 := I1.lset (f := (·.push (.ref s.heap.objs.size))) (its' := its ++ [Value.ref s.heap.objs.size]) (t' := s.toks) hS1 e (by simp) (r.append (.cons (show RelV (V.ref s.heap.objs.size) (Value.ref s.heap.objs.size) from rfl) .nil)) hlen
      refine wpAny_bind (wpAny_updateSeq e rfl (wpAny_pure ⟨plainId_quiet F.plain_extend_loop _, ?_⟩) (by rw [List.size_toArray, ← hl2]; omega) (by rw [Array.size_push, List.size_toArray, ← hl2]; omega))
      have neS : ∀ c, c ≠ S → ∀ o, h'.get? c = some o → (h'.update S (Obj.mapSeq (·.push (.ref s.heap.objs.size)))).get? c = some o := fun c nc o e' => (Heap.get?_update_other _ _ (Ne.symm nc)).trans e'
      have zs' : ZS t u h' z ti to p q a b (i + 1) := by
        refine ⟨?_, hti, hto, hp, hq⟩
        obtain ⟨f, T, oT, hzz, eT⟩ := hz
        rcases hzz with hzz | hzz
        · exact .inr ⟨T, false, oT, hzz, eT⟩
        · exact .inr ⟨T, f, oT, hzz, eT⟩
      have ltc : ∀ c ∈ [z, ti, to, p, q], c < s.heap.objs.size := fun c m => zs.lt m
      refine ih (i + 1) _ _ (acc ++ [.ref s.heap.objs.size]) (by omega) (by omega) I2 (fun c hc => ?_) (zs'.stay S hS (fun c o nc e' => neS c nc o e') (fun o e' => ⟨_, Heap.get?_update_self _ e rfl⟩)) ?_ ?_ upd_same (by rw [List.length_append, List.length_singleton, hl]) (step i H acc _ x y hW hSH ex ey hTn)
      · have w := hf c hc
        refine ⟨?_, w.2⟩
        rw [upd_ne (fun e' => hS (by rw [← e']; exact hc)), upd_ne (Nat.ne_of_lt (ltc c hc))]
        exact w.1
      · have na : a ≠ s.heap.objs.size := by
          have := s1.src
          obtain ⟨o, eo⟩ := this
          exact Nat.ne_of_lt (Heap.lt_size eo)
        exact (q1.upd na).upd haS
      · have nb : b ≠ s.heap.objs.size := by
          obtain ⟨o, eo⟩ := s2.src
          exact Nat.ne_of_lt (Heap.lt_size eo)
        exact (q2.upd nb).upd hbS
    rcases zs.z with e | ⟨T, f, oT, e, eT⟩
    · refine wpAny_bind (pyNext_zip D ⟨e, zs.pr, zs.ow, s1, s2⟩ (x := u1) (y := u2) (by simpa using eu) (by simpa using ew) fun h' Z' hT hsz hk => ?_)
      obtain ⟨z1, z2, z3, z4, z5⟩ := Z'
      exact fin h' ⟨false, _, _, .inl z1, hT⟩ z2 z3 z4.it z5.it hT hsz hk
    · refine wpAny_bind (nextH D e eT zs.pr s1 s2 (x := u1) (y := u2) (by simpa using eu) (by simpa using ew) fun h' z1 z4 z5 hT hsz hk => ?_)
      obtain ⟨x0, y0, ow⟩ := zs.ow
      obtain ⟨o4, v4, e4, _⟩ := z4.it.obj
      obtain ⟨o5, v5, e5, _⟩ := z5.it.obj
      have n13 := (ne5 D).2.2.2.2.2.1
      have n14 := (ne5 D).2.2.2.2.2.2.1
      have n23 := (ne5 D).2.2.2.2.2.2.2.1
      have n24 := (ne5 D).2.2.2.2.2.2.2.2.1
      have al : ∃ o, h'.get? T = some o := by
        by_cases c1 : T = z
        · exact ⟨_, by rw [c1]; exact z1⟩
        · by_cases c2 : T = p
          · exact ⟨_, by rw [c2]; exact e4⟩
          · by_cases c3 : T = q
            · exact ⟨_, by rw [c3]; exact e5⟩
            · exact ⟨_, hk T oT c1 c2 c3 eT⟩
      obtain ⟨oT', eT'⟩ := al
      exact fin h' ⟨true, T, oT', .inr z1, eT'⟩ (hk ti _ n1.symm n13 n14 zs.pr) ⟨x0, y0, hk to _ n2.symm n23 n24 ow⟩ z4.it z5.it hT hsz fun c o nc e' => hk c o (nl4 nc).1 (nl4 nc).2.2.1 (nl4 nc).2.2.2 e'
end Pd
end
section
set_option Elab.async false
set_option linter.all false
set_option maxRecDepth 100000
set_option maxHeartbeats 2000000
namespace Pd
open PySem PySem.Spec L2 LamX
open PyProof.Rows hiding St

theorem zip_no_len : typeLookup (.type "zip") "__len__" = pure none := by rw [typeLookup_type, builtinLookup_eq_fast]; kernel_rfl
theorem zip_no_hint : typeLookup (.type "zip") "__length_hint__" = pure none := by rw [typeLookup_type, builtinLookup_eq_fast]; kernel_rfl
/-- list's own init over a zip: the list at S is new, and empty still when the loop starts -/
theorem init_zip {prog : Program} {w : World} {A : Around} {s : Shared} {R : Result → Shared → Prop} {z S ti to : Addr} (hz : IsZip s.heap z ti to .none) (hS : s.heap.get? S = some { cls := .type "list", data := .seq #[] }) (hSz : S ≠ z)
    (h : ∀ h' c, (∀ b o, b ≠ S → s.heap.get? b = some o → h'.get? b = some o) → h'.get? S = some { cls := .type "list", data := .seq #[] c } → codeAny (model prog w) A (.builtin "list.extend.loop" ⟨[.ref S, .ref z, .none], []⟩) R { s with heap := h' }) :
    wpAny (model prog w) A.in1 (Builtin.«list.__init__» ⟨[.ref S, .ref z], []⟩)
      (fun fin s' => match fin with | .done f => R (.ok f) s' | .again c' => c'.quiet = true ∧ codeAny (model prog w) A c' R s') (fun e s' => R (.error e) s') s := by
  show wpAny _ A.in1 (do let old ← Builtin.List.listItems (.ref S); Builtin.List.listUpdate (.ref S) (fun _ => #[]); letGo old.toList.reverse; Builtin.List.listExtendWith (.ref S) (.ref z) .none) _ _ s
  refine wpAny_bind ?_
  unfold Builtin.List.listItems
  refine wpAny_bind (wpAny_seqItems hS rfl (wpAny_pure ?_))
  show wpAny _ A.in1 (updateSeq S (fun _ => #[]) >>= fun _ => letGo (#[] : Array Value).toList.reverse >>= fun _ => Builtin.List.listExtendWith (.ref S) (.ref z) .none) _ _ s
  refine wpAny_bind (wpAny_updateSeq hS rfl ?_)
  have h2 := Heap.get?_update_self (Obj.mapSeq (fun _ => (#[] : Array Value))) hS rfl
  have k2 : ∀ b o, b ≠ S → s.heap.get? b = some o → (s.heap.update S (Obj.mapSeq (fun _ => (#[] : Array Value)))).get? b = some o := fun b o hb e => (Heap.get?_update_other _ _ (Ne.symm hb)).trans e
  generalize s.heap.update S (Obj.mapSeq (fun _ => (#[] : Array Value))) = g2 at h2 k2 ⊢
  refine wpAny_bind (wpAny_letGo ?_)
  have z2 : IsZip g2 z ti to .none := k2 z _ hSz.symm hz
  have ty : Shared.TypeIs { s with heap := g2 } (.ref z) "zip" := ⟨_, z2, rfl⟩
  unfold Builtin.List.listExtendWith
  refine wpAny_bind (wpAny_typeOf ty ?_)
  have c1 : Builtin.List.listSameRef (.ref S) (.ref z) = false := by simp [Builtin.List.listSameRef, hSz]
  have c2 : (Value.type "zip" == Value.type "list") = false := by decide
  have c3 : (Value.type "zip" == Value.type "tuple") = false := by decide
  simp only [c1, c2, c3, Bool.or_false, Bool.false_eq_true, if_false]
  refine wpAny_bind (wpAny_pyIter_zip z2 ?_)
  refine wpAny_bind (wpAny_holding ?_)
  unfold Builtin.List.listLengthHint
  refine wpAny_bind (wpAny_specialOf ty zip_no_len ?_)
  show wpAny _ A.in1 (specialOf (Value.ref z) (Str.ofString "__length_hint__") >>= _) _ _ _
  refine wpAny_bind (wpAny_specialOf ty zip_no_hint ?_)
  refine wpAny_pure ?_
  show wpAny _ A.in1 (rule "list.extend.makes-room" >>= fun _ => Builtin.List.listTouch (.ref S) >>= fun _ => again (.builtin "list.extend.loop" ⟨[.ref S, .ref z, .none], []⟩)) _ _ _
  refine wpAny_bind (wpAny_rule (wpAny_bind ?_))
  show wpAny _ A.in1 (updateSeq S (·.push .none) >>= fun _ => updateSeq S (·.pop)) _ _ _
  refine wpAny_bind (wpAny_updateSeq h2 rfl ?_)
  have h3 := Heap.get?_update_self (Obj.mapSeq (·.push Value.none)) h2 rfl
  have k3 : ∀ b o, b ≠ S → g2.get? b = some o → (g2.update S (Obj.mapSeq (·.push Value.none))).get? b = some o := fun b o hb e => (Heap.get?_update_other _ _ (Ne.symm hb)).trans e
  generalize g2.update S (Obj.mapSeq (·.push Value.none)) = g3 at h3 k3 ⊢
  refine wpAny_updateSeq (hz := by seq_fits) h3 rfl ?_
  have h4 := Heap.get?_update_self (Obj.mapSeq (·.pop)) h3 rfl
  have k4 : ∀ b o, b ≠ S → g3.get? b = some o → (g3.update S (Obj.mapSeq (·.pop))).get? b = some o := fun b o hb e => (Heap.get?_update_other _ _ (Ne.symm hb)).trans e
  exact wpAny_pure ⟨plainId_quiet F.plain_extend_loop _, h _ _ (fun b o hb e => k4 b o hb (k3 b o hb (k2 b o hb e))) h4⟩
/-- what list(zip(..)) asks: an invariant of the list as it grows -/
def tListZip (K : PySem.W.Frag) (ta : TA) : TE := fun σ H Q => ta σ H fun vs H1 => ∃ t u a b xs ys, vs = [.ref a, .ref b] ∧ SqX t K H1 a xs ∧ SqX u K H1 b ys ∧ min xs.length ys.length ≤ sizeLine ∧
  ∀ S, H1 S = none → ∃ Wi : Nat → Hp → List V → Prop, Wi 0 (upd H1 S (.lst [])) [] ∧
    (∀ i H acc T x y, Wi i H acc → H S = some (.lst acc) → xs[i]? = some x → ys[i]? = some y → H T = none → Wi (i + 1) (upd (upd H T (.tup [x, y])) S (.lst (acc ++ [.ref T]))) (acc ++ [.ref T])) ∧
    ∀ H acc, Wi (min xs.length ys.length) H acc → H S = some (.lst acc) → Q (.ref S) H
end Pd
namespace Pd
open PySem PySem.Spec L2 LamX
open PyProof.Rows hiding St
theorem pe_listZip {X : Cx} {e e2 : Expr} {ta : TA} {p p1 p2 pos : Pos} (hc : X.calm = true) (hg : Gl X "list") (hm : X.mg "list" = none) (hg2 : Gl X "zip") (hm2 : X.mg "zip" = none) (ha : PA X [e, e2] ta)
    (hs : starEach [.Call (.Name "zip" p1) [e, e2] [] p2] X.env = (false, eval (.Call (.Name "zip" p1) [e, e2] [] p2) X.env) :: starEach [] X.env := by rfl)
    (hs2 : starEach [e, e2] X.env = (false, eval e X.env) :: starEach [e2] X.env := by rfl) (hpl : (backTo pos (starEach [] X.env)).any (·.1) = false := by rfl) (hpl2 : (backTo p2 (starEach [e2] X.env)).any (·.1) = false := by rfl) :
    PE X (.Call (.Name "list" p) [.Call (.Name "zip" p1) [e, e2] [] p2] [] pos) (tListZip X.K ta) := by
  refine ⟨fun pins s σ H Q I h => ?_⟩
  refine Call_ (ld_blt I hg hm PyProof.Rows.boot_list (PyProof.Rows.callWith_type1 ?_ hs hpl))
  show wpAny _ _ (spliced ((false, eval (.Call (.Name "zip" p1) [e, e2] [] p2) X.env) :: backTo pos (starEach [] X.env))) _ _ s
  refine Calls.spliced_cons (Call_ (ld_blt I hg2 hm2 PyProof.Rows.boot_zip (PyProof.Rows.callWith_type1 (thn (ha.run p2 pins s σ H _ I h) fun us s1 ⟨vs, H1, I1, r1, q1⟩ => ?_) hs2 hpl2)))
  obtain ⟨t, u, a, b, xs, ys, rfl, q1, q2, hn, q⟩ := q1
  obtain ⟨w1, w2, rfl, e1, e2'⟩ := vals2 r1
  cases e1
  cases e2'
  obtain ⟨us1, x1, l1⟩ := q1.at I1
  obtain ⟨us2, x2, l2⟩ := q2.at I1
  refine call_zip x1 x2 fun h' hz hi ho p1' p2' hk => Calls.spliced_nil ?_
  have I2 : Inv X pins σ H1 { s1 with heap := h' } := I1.kept (t' := s1.toks) hk
  have D : Parts (s1.heap.objs.size + 4) (s1.heap.objs.size + 2) (s1.heap.objs.size + 3) s1.heap.objs.size (s1.heap.objs.size + 1) a b := ⟨by simp, far4 l1, far4 l2⟩
  have fp : ∀ c ∈ [s1.heap.objs.size + 4, s1.heap.objs.size + 2, s1.heap.objs.size + 3, s1.heap.objs.size, s1.heap.objs.size + 1], s1.heap.objs.size ≤ c := fun c hc => far5 (fp5 hc)
  have zs : ZS t u h' (s1.heap.objs.size + 4) (s1.heap.objs.size + 2) (s1.heap.objs.size + 3) s1.heap.objs.size (s1.heap.objs.size + 1) a b 0 := ⟨.inl hz, hi, ⟨_, _, ho⟩, p1', p2'⟩
  -- list(the zip)
  have hS0 : H1 h'.objs.size = none := I2.hok.fresh (Nat.le_refl _)
  obtain ⟨Wi, w0, wst, wend⟩ := q h'.objs.size hS0
  have nS : h'.objs.size ∉ [s1.heap.objs.size + 4, s1.heap.objs.size + 2, s1.heap.objs.size + 3, s1.heap.objs.size, s1.heap.objs.size + 1] := fun m => Nat.lt_irrefl _ (zs.lt m)
  refine callType_codes (Q₁ := fun obj s₁ => obj = .ref h'.objs.size ∧ s₁ = { s1 with heap := h'.push { cls := .type "list", data := .seq #[] } }) F.called_list (F.typeCall_list_1 _) F.entry_list_init (code_list_new (s := { s1 with heap := h' }) _ ⟨rfl, rfl⟩) fun obj s₁ h₁ => ?_
  obtain ⟨rfl, rfl⟩ := h₁
  have hS : (h'.push { cls := .type "list", data := .seq #[] }).get? h'.objs.size = some { cls := .type "list", data := .seq #[] } := Heap.get?_push_size _ rfl
  refine ⟨⟨_, hS, rfl⟩, F.args_list_init_2 _ _, init_zip (s := { s1 with heap := h'.push { cls := .type "list", data := .seq #[] } }) (Heap.get?_push_of_some _ hz) hS (fun e => nS (by rw [e]; simp)) fun g c kg eg => ?_⟩
  have kk : ∀ b o, h'.get? b = some o → g.get? b = some o := fun b o e => kg b o (Nat.ne_of_lt (Heap.lt_size e)) (Heap.get?_push_of_some _ e)
  have I3 : Inv X pins σ (upd H1 h'.objs.size (.lst [])) { s1 with heap := g } := I2.laid (h' := g) (t' := s1.toks) kk (Nat.le_refl _) ⟨Nat.zero_le _, [], c, .nil, eg⟩
  have na : a ≠ h'.objs.size := fun e => by
    have z := D.l_
    have la : a < h'.objs.size := Nat.lt_trans l1 (Nat.lt_of_lt_of_le (Nat.lt_add_of_pos_right (by decide : 0 < 4)) (Nat.le_of_lt (zs.lt (c := s1.heap.objs.size + 4) (by simp))))
    rw [e] at la
    exact Nat.lt_irrefl _ la
  have nb : b ≠ h'.objs.size := fun e => by
    have la : b < h'.objs.size := Nat.lt_trans l2 (Nat.lt_of_lt_of_le (Nat.lt_add_of_pos_right (by decide : 0 < 4)) (Nat.le_of_lt (zs.lt (c := s1.heap.objs.size + 4) (by simp))))
    rw [e] at la
    exact Nat.lt_irrefl _ la
  refine lz_loop (X := X) (A := X.A.in1) (by simp [I1.ok.hd hc]) D nS na nb Wi wst hn (fun s' H' acc I' wi hSH => ⟨rfl, .ref h'.objs.size, H', I', rfl, wend H' acc wi hSH⟩) _ 0 _ _ [] rfl (Nat.zero_le _) I3 (fun c' m => ?_) (zs.stay h'.objs.size nS (fun c o _ e => kk c o e) fun o e => ⟨_, kk _ o e⟩) (q1.upd na) (q2.upd nb) upd_same rfl w0
  · have le := fp c' m
    refine (I1.fpOk (H' := upd H1 h'.objs.size (.lst [])) le ?_)
    rw [upd_ne (fun e => nS (by rw [← e]; exact m))]
    exact I1.hok.fresh le

section
variable {X : Cx} {C : Ct} {W : WX} {k : Nat} {e e2 : Expr} {dl : DenL} {p p1 p2 pos : Pos}
def dListZip (cell : Bool) (a : DenL) : Den := fun env st => bindR (a env st) fun xs st => match xs with
  | [x, y] => (match itemsV x, itemsV y with | some ds, some es => if (zipD ds es).length ≤ sizeLine then mkL cell (zipD ds es) st else none | _, _ => none)
  | _ => none
theorem zipD_take : ∀ {ds es : List D} {i : Nat} {a b : D}, ds[i]? = some a → es[i]? = some b → (zipD ds es).take (i + 1) = (zipD ds es).take i ++ [.tup [a, b]]
  | [], _, _, _, _, h, _ => by simp at h
  | _ :: _, [], _, _, _, _, h => by simp at h
  | d :: ds, e :: es, 0, a, b, h1, h2 => by
    simp at h1 h2
    subst h1 h2
    unfold zipD
    simp
  | d :: ds, e :: es, i + 1, a, b, h1, h2 => by
    unfold zipD
    rw [List.take_succ_cons, List.take_succ_cons, zipD_take (by simpa using h1) (by simpa using h2)]
    rfl
theorem pd_listZip (cell : Bool) [g : Go X C W k] (hm : C.mg "list" = none) (hm2 : C.mg "zip" = none) (ha : PDL X C W [e, e2] dl) (hg : Gl X "list" := by rfl) (hg2 : Gl X "zip" := by rfl)
    (hs : starEach [.Call (.Name "zip" p1) [e, e2] [] p2] X.env = (false, eval (.Call (.Name "zip" p1) [e, e2] [] p2) X.env) :: starEach [] X.env := by rfl)
    (hs2 : starEach [e, e2] X.env = (false, eval e X.env) :: starEach [e2] X.env := by rfl) (hpl : (backTo pos (starEach [] X.env)).any (·.1) = false := by rfl) (hpl2 : (backTo p2 (starEach [e2] X.env)).any (·.1) = false := by rfl) :
    PD X C W (.Call (.Name "list" p) [.Call (.Name "zip" p1) [e, e2] [] p2] [] pos) (dListZip cell dl) :=
  pe_imp (pe_listZip g.calm hg (by rw [g.hm]; exact hm) hg2 (by rw [g.hm]; exact hm2) ha hs hs2 hpl hpl2) fun σ H Q ⟨ρ, Z, env, st, S, E, h⟩ => tDL_mono (seqLE S E h) fun vs H1 ⟨ρ1, st1, xs, S1, E1, rx, _, _, h1⟩ => by
    rw [g.hK]
    split at h1
    · split at h1
      · split at h1
        · rename_i x y _ _ ds es i1 i2 hlen
          obtain ⟨v, u, rfl, rv, ru⟩ := vs2 rx
          obtain ⟨t, a, vs, rfl, s1, r1⟩ := itemsV_ok rv i1
          obtain ⟨t', b, us, rfl, s2, r2⟩ := itemsV_ok ru i2
          have hl : min vs.length us.length = (zipD ds es).length := by rw [zipD_len, r1.length, r2.length]
          refine ⟨t, t', a, b, vs, us, rfl, s1.sq (Ext.refl _ _) (fun _ m => .inl m), s2.sq (Ext.refl _ _) (fun _ m => .inl m), by rw [hl]; exact hlen, fun D hD => ?_⟩
          have S2 := S1.more (o' := .lst []) hD
          have x1 : Ext ρ1 H1 ρ1 (upd H1 D (.lst [])) := Ext.fresh hD
          have hz : ∀ a ∈ D :: Z, a ∈ Z ∨ H1 a = none := fun a m => (List.mem_cons.mp m).elim (fun z => .inr (by rw [z]; exact hD)) .inl
          have mD : D ∈ D :: Z := List.mem_cons_self
          have nD : D ∉ ρ1 := S1.fresh hD
          refine ⟨fun i H acc => RS C ρ1 (D :: Z) H st1 ∧ Ext ρ1 H1 ρ1 H ∧ H D = some (.lst acc) ∧ RVs C ρ1 (D :: Z) H ((zipD ds es).take i) acc, ⟨S2, x1, upd_same, by rw [List.take_zero]; exact RVs.nil⟩, fun i H acc T xv yv ⟨SS, xx, eD, rr⟩ _ ex ey hT => ?_, fun H acc ⟨SS, xx, eD, rr⟩ _ => ?_⟩
          · have hli : i < ds.length := by rw [r1.length]; exact (List.getElem?_eq_some_iff.mp ex).1
            have hlj : i < es.length := by rw [r2.length]; exact (List.getElem?_eq_some_iff.mp ey).1
            obtain ⟨xv', ex', rxv⟩ := r1.get (List.getElem?_eq_getElem hli)
            obtain ⟨yv', ey', ryv⟩ := r2.get (List.getElem?_eq_getElem hlj)
            rw [ex] at ex'
            cases ex'
            rw [ey] at ey'
            cases ey'
            have nTD : D ≠ T := ne_of_none eD hT
            have SS1 := SS.val (o := .tup [xv, yv]) hT
            have x2 : Ext ρ1 H ρ1 (upd H T (.tup [xv, yv])) := Ext.fresh hT
            have eD1 : upd H T (.tup [xv, yv]) D = some (.lst acc) := by rw [upd_ne nTD]; exact eD
            have rt : RV C ρ1 (D :: Z) (upd H T (.tup [xv, yv])) (.tup [ds[i], es[i]]) (.ref T) := by
              unfold RV
              exact ⟨T, [xv, yv], rfl, .inl ⟨upd_same, SS.fresh hT, SS.nz hT⟩, (RVs.cons (rxv.later xx hz) (RVs.cons (ryv.later xx hz) RVs.nil)).ext x2⟩
            refine ⟨SS1.hid mD nD eD1, (xx.trans x2).hid hD, upd_same, ?_⟩
            rw [zipD_take (List.getElem?_eq_getElem hli) (List.getElem?_eq_getElem hlj)]
            exact (((rr.ext x2).snoc rt)).hid mD
          · rw [hl, List.take_length] at rr
            have h2 := After.back xx h1
            unfold mkL at h2
            cases cell with
            | false =>
              refine h2 ρ1 H (.ref D) (Ext.refl _ _) SS.less ?_
              unfold RV
              exact ⟨D, acc, rfl, ⟨eD, nD, S1.nz hD⟩, rr.less⟩
            | true =>
              refine h1 (ρ1 ++ [D]) H (.ref D) ⟨xx.pre.trans (List.prefix_append _ _), xx.keep, fun a m n o e => ?_⟩ (SS.less.grown (ob := .lst (zipD ds es)) nD ⟨acc, eD, rr⟩ SS (S1.nz hD)) ?_
              · rcases List.mem_append.mp m with z | z
                · exact absurd z n
                · rw [List.mem_singleton.mp z, hD] at e; cases e
              · unfold RV
                exact ⟨D, rfl, by rw [← SS.len, List.getElem?_append_right (Nat.le_refl _), Nat.sub_self]; rfl⟩
        · exact h1.elim
      · exact h1.elim
    · exact h1.elim
/-! ### a test that is a choice of tests -/
def dIfB (t a b : DenB) : DenB := fun env st => bindR (t env st) fun k st => if k then a env st else b env st
theorem pdb_if {c a b : Expr} {tc ta tb : DenB} (hc : PDB X C W c tc) (ha : PDB X C W a ta) (hb : PDB X C W b tb) : PDB X C W (.IfExp c a b pos) (dIfB tc ta tb) := by
  refine ⟨fun pins s σ H Q I h => ?_⟩
  obtain ⟨ρ, Z, env, st, S, E, h⟩ := h
  show wpAny _ _ (isTrue c X.env (eval c X.env) >>= fun k => if k = true then isTrue a X.env (eval a X.env) else isTrue b X.env (eval b X.env)) _ _ s
  refine wpAny_bind (thn (hc.run pins s σ H _ I (seqBB S E h)) fun k s1 ⟨H1, I1, ρ1, st1, S1, E1, _, _, h1⟩ => ?_)
  cases k with
  | true =>
    rw [if_pos rfl]
    exact ha.run pins s1 σ H1 Q I1 (tDB_of S1 E1 h1)
  | false =>
    rw [if_neg Bool.false_ne_true]
    exact hb.run pins s1 σ H1 Q I1 (tDB_of S1 E1 h1)
end
end Pd
end
section
set_option Elab.async false
set_option linter.all false
set_option maxRecDepth 100000
namespace Pd
open PySem PySem.Spec L2 LamX
open PyProof.Rows hiding St

/-! ### the law's own def: it makes lambdas -/
structure LawD (C : Ct) (x : Str) (st : Stmt) (ps : List Str) (fa : Addr) (fd : FuncData) (c : Addr) : Prop where
  ex : ∃ (oc : Value) (od : Option Addr) (kV doc pm : Value) (an : Option Addr) (ct : Value) (osl : Array (Option Value)),
    fd = PySem.W.fnOf x x (defArgs st) (defBody st) (defScope st) .none kV doc pm an (.ref c) ct ∧ C.K.lookup fa = some ⟨oc, od, .func fd, osl⟩ ∧ PySem.W.codeIn C.K (.ref c) x = true
section
variable {P : Program} {w : World} {C : Ct} {base : Heap}
theorem law_ok {x : Str} {st : Stmt} {f c : Addr} {fd : FuncData} {N ps : List Str} {k : Nat} {b : DenS} {keep : Bool} (F : LawD C x st ps f fd c) (S : FnScope N ps (defScope st)) (hN : ps.length ≤ N.length)
    (hb : ∀ (A : Around) (outer : List Env) (s : Shared) (H : Hp) (E : XK), Go (cxOf (L2.CX P w) P w C.K C.mg base N x (defScope st) f (.ref c) A outer s H E) C (fun c d _ H => E c d H) k →
      PSsD (cxOf (L2.CX P w) P w C.K C.mg base N x (defScope st) f (.ref c) A outer s H E) C (fun c d _ H => E c d H) (defBody st) b) :
    FnOk P w C.K C.mg base (L2.CX P w) (k + 1) f fd ps (spD C ps.length (runF keep ps.length N.length b)) := by
  obtain ⟨oc, od, kV, doc, pm, an, ct, osl, rfl, lk, hcd⟩ := F.ex
  refine fn_of lk hcd S (fun vs H Q E h => ?_) fun A outer s H vs Q E hr h => ?_
  · obtain ⟨_, _, _, _, _, _, e, _⟩ := h
    exact e
  · obtain ⟨ρ, Z, sto, ds, S0, r, hl, h⟩ := h
    refine ⟨_, hb A outer s H E ⟨rfl, rfl, takes_of rfl rfl rfl rfl, hr, rfl, S.nd, passes_of rfl⟩, ρ, Z, _, sto, S0, start_RE r (by rw [hl]; exact hN), ?_⟩
    have hd : ds.length = ps.length := by rw [r.length, hl]
    unfold runF at h
    rw [if_pos hd] at h
    rw [hl]
    cases e : b (ds.map some ++ List.replicate (N.length - ps.length) none) sto with
    | none => rw [e] at h; exact h.elim
    | some o =>
      rw [e] at h
      cases o with
      | nx env' st' => exact fun ρ' H' σ' x S' E' => finK_ok (d := .non) rfl S0 x S' (by unfold RV; rfl) h
      | rt d st' => exact fun ρ' H' v x S' r' => finK_ok rfl S0 x S' r' h
      | bk env' st' => exact h.elim
      | ct env' st' => exact h.elim
      | ex c env' st' => exact fun ρ' H' σ' cls x S' E' m => cut_ok rfl S0 x S' m h
end
/-- what the law's lambdas need: the code object at c with its table at T0 -/
structure LamD (C : Ct) (base : Heap) (c T0 : Addr) (q : Str) : Prop where
  tb : TabB base C.mg c T0
  tm : (T0, q) ∈ C.T
  tu : ∀ p ∈ C.T, p.1 = T0 → p.2 = q
end Pd
end
section
set_option Elab.async false
set_option linter.all false
set_option maxRecDepth 100000
set_option maxHeartbeats 4000000
namespace Pd
open PySem PySem.Spec L2 LamX
open PyProof.Rows hiding St
def topS (i : Nat) : Stmt := PySem.Challenge.pw_swaytold_k70_outcomes_and_losses.main.body.getD i (.Pass ⟨0, 0, 0, 0⟩)
def clsN : List Str := ["BadHolders", "BadPromise", "BadOutcome"]
abbrev s_is_whole : Stmt := topS 9
abbrev s_is_ratio : Stmt := topS 10
abbrev s_is_chance : Stmt := topS 11
abbrev s_lowest : Stmt := topS 12
abbrev s_plus : Stmt := topS 13
abbrev s_minus : Stmt := topS 14
abbrev s_times : Stmt := topS 15
abbrev s_is_less : Stmt := topS 16
abbrev s_total : Stmt := topS 17
abbrev s_greatest_of : Stmt := topS 18
abbrev s_is_word : Stmt := topS 21
abbrev s_is_holder : Stmt := topS 25
abbrev s_are_rows : Stmt := topS 26
abbrev s_are_passes : Stmt := topS 27
abbrev s_is_holders : Stmt := topS 28
abbrev s_need_holders : Stmt := topS 29
abbrev s_words_of : Stmt := topS 30
abbrev s_can_show : Stmt := topS 31
abbrev s_top_for : Stmt := topS 33
abbrev s_are_ratios : Stmt := topS 35
abbrev s_outcome : Stmt := topS 36
abbrev s_loss_of : Stmt := topS 37
abbrev s_loss : Stmt := topS 38
abbrev s_l_law_begun : Stmt := topS 40
abbrev s_l_law_blended : Stmt := topS 41
abbrev s_l_law_draw : Stmt := topS 42
abbrev s_l_law_pick : Stmt := topS 43
abbrev s_l_law_shuffled : Stmt := topS 44
abbrev s_l_law_caught : Stmt := topS 45
abbrev s_l_law_is_truth : Stmt := topS 46
abbrev s_l_law_same : Stmt := topS 47
abbrev s_l_law_q : Stmt := topS 48
abbrev s_l_law_plus : Stmt := topS 49
abbrev s_l_law_minus : Stmt := topS 50
abbrev s_l_law_times : Stmt := topS 51
abbrev s_l_law_less : Stmt := topS 52
abbrev s_l_law_sum : Stmt := topS 53
abbrev s_l_law_words : Stmt := topS 54
abbrev s_l_law_number : Stmt := topS 55
abbrev s_l_law_odd : Stmt := topS 56
abbrev s_l_law_pp_holders : Stmt := topS 57
abbrev s_l_law_pp_closed : Stmt := topS 58
abbrev s_l_law_pp_words : Stmt := topS 59
abbrev s_l_law_pp_can : Stmt := topS 60
abbrev s_l_law_pp_least : Stmt := topS 61
abbrev s_l_law_pp_most : Stmt := topS 62
abbrev s_l_law_pp_outcome : Stmt := topS 63
abbrev s_l_law_pp_loss : Stmt := topS 64
abbrev s_law : Stmt := topS 65
theorem sc_is_whole : FnScope ["value"] ["value"] (defScope s_is_whole) := ⟨rfl, rfl, rfl, by decide +kernel, rfl, by decide +kernel, by decide +kernel⟩
theorem sc_is_ratio : FnScope ["value", "part"] ["value"] (defScope s_is_ratio) := ⟨rfl, rfl, rfl, by decide +kernel, rfl, by decide +kernel, by decide +kernel⟩
theorem sc_is_chance : FnScope ["value"] ["value"] (defScope s_is_chance) := ⟨rfl, rfl, rfl, by decide +kernel, rfl, by decide +kernel, by decide +kernel⟩
theorem sc_lowest : FnScope ["n", "d", "common"] ["n", "d"] (defScope s_lowest) := ⟨rfl, rfl, rfl, by decide +kernel, rfl, by decide +kernel, by decide +kernel⟩
theorem sc_plus : FnScope ["one", "other"] ["one", "other"] (defScope s_plus) := ⟨rfl, rfl, rfl, by decide +kernel, rfl, by decide +kernel, by decide +kernel⟩
theorem sc_minus : FnScope ["one", "other"] ["one", "other"] (defScope s_minus) := ⟨rfl, rfl, rfl, by decide +kernel, rfl, by decide +kernel, by decide +kernel⟩
theorem sc_times : FnScope ["one", "other"] ["one", "other"] (defScope s_times) := ⟨rfl, rfl, rfl, by decide +kernel, rfl, by decide +kernel, by decide +kernel⟩
theorem sc_is_less : FnScope ["one", "other"] ["one", "other"] (defScope s_is_less) := ⟨rfl, rfl, rfl, by decide +kernel, rfl, by decide +kernel, by decide +kernel⟩
theorem sc_total : FnScope ["ratios", "found", "each"] ["ratios"] (defScope s_total) := ⟨rfl, rfl, rfl, by decide +kernel, rfl, by decide +kernel, by decide +kernel⟩
theorem sc_greatest_of : FnScope ["ratios", "found", "each"] ["ratios"] (defScope s_greatest_of) := ⟨rfl, rfl, rfl, by decide +kernel, rfl, by decide +kernel, by decide +kernel⟩
theorem sc_is_word : FnScope ["value", "letter"] ["value"] (defScope s_is_word) := ⟨rfl, rfl, rfl, by decide +kernel, rfl, by decide +kernel, by decide +kernel⟩
theorem sc_is_holder : FnScope ["value"] ["value"] (defScope s_is_holder) := ⟨rfl, rfl, rfl, by decide +kernel, rfl, by decide +kernel, by decide +kernel⟩
theorem sc_are_rows : FnScope ["value", "row", "one", "other"] ["value"] (defScope s_are_rows) := ⟨rfl, rfl, rfl, by decide +kernel, rfl, by decide +kernel, by decide +kernel⟩
theorem sc_are_passes : FnScope ["words", "value", "pair", "word", "one", "other", "third"] ["words", "value"] (defScope s_are_passes) := ⟨rfl, rfl, rfl, by decide +kernel, rfl, by decide +kernel, by decide +kernel⟩
theorem sc_is_holders : FnScope ["value", "row"] ["value"] (defScope s_is_holders) := ⟨rfl, rfl, rfl, by decide +kernel, rfl, by decide +kernel, by decide +kernel⟩
theorem sc_need_holders : FnScope ["holders"] ["holders"] (defScope s_need_holders) := ⟨rfl, rfl, rfl, by decide +kernel, rfl, by decide +kernel, by decide +kernel⟩
theorem sc_words_of : FnScope ["holders", "row"] ["holders"] (defScope s_words_of) := ⟨rfl, rfl, rfl, by decide +kernel, rfl, by decide +kernel, by decide +kernel⟩
theorem sc_can_show : FnScope ["holders", "one", "other"] ["holders", "one", "other"] (defScope s_can_show) := ⟨rfl, rfl, rfl, by decide +kernel, rfl, by decide +kernel, by decide +kernel⟩
theorem sc_top_for : FnScope ["holders", "told", "word", "names", "answer", "paper"] ["holders", "told", "word"] (defScope s_top_for) := ⟨rfl, rfl, rfl, by decide +kernel, rfl, by decide +kernel, by decide +kernel⟩
theorem sc_are_ratios : FnScope ["holders", "value", "part"] ["holders", "value"] (defScope s_are_ratios) := ⟨rfl, rfl, rfl, by decide +kernel, rfl, by decide +kernel, by decide +kernel⟩
theorem sc_outcome : FnScope ["holders", "promise", "word"] ["holders", "promise"] (defScope s_outcome) := ⟨rfl, rfl, rfl, by decide +kernel, rfl, by decide +kernel, by decide +kernel⟩
theorem sc_loss_of : FnScope ["holders", "told", "gaps", "part", "row", "gap"] ["holders", "told"] (defScope s_loss_of) := ⟨rfl, rfl, rfl, by decide +kernel, rfl, by decide +kernel, by decide +kernel⟩
theorem sc_loss : FnScope ["holders", "outcome"] ["holders", "outcome"] (defScope s_loss) := ⟨rfl, rfl, rfl, by decide +kernel, rfl, by decide +kernel, by decide +kernel⟩
theorem sc_l_law_begun : FnScope ["script", "great", "cell"] ["script"] (defScope s_l_law_begun) := ⟨rfl, rfl, rfl, by decide +kernel, rfl, by decide +kernel, by decide +kernel⟩
theorem sc_l_law_blended : FnScope ["state", "turn", "found", "prime", "blend", "cell"] ["state"] (defScope s_l_law_blended) := ⟨rfl, rfl, rfl, by decide +kernel, rfl, by decide +kernel, by decide +kernel⟩
theorem sc_l_law_draw : FnScope ["state", "room", "found"] ["state", "room"] (defScope s_l_law_draw) := ⟨rfl, rfl, rfl, by decide +kernel, rfl, by decide +kernel, by decide +kernel⟩
theorem sc_l_law_pick : FnScope ["state", "some"] ["state", "some"] (defScope s_l_law_pick) := ⟨rfl, rfl, rfl, by decide +kernel, rfl, by decide +kernel, by decide +kernel⟩
theorem sc_l_law_shuffled : FnScope ["state", "some", "left", "found"] ["state", "some"] (defScope s_l_law_shuffled) := ⟨rfl, rfl, rfl, by decide +kernel, rfl, by decide +kernel, by decide +kernel⟩
theorem sc_l_law_is_truth : FnScope ["found", "due"] ["found", "due"] (defScope s_l_law_is_truth) := ⟨rfl, rfl, rfl, by decide +kernel, rfl, by decide +kernel, by decide +kernel⟩
theorem sc_l_law_same : FnScope ["found", "due", "waiting", "one", "other", "key", "alike", "left", "right"] ["found", "due"] (defScope s_l_law_same) := ⟨rfl, rfl, rfl, by decide +kernel, rfl, by decide +kernel, by decide +kernel⟩
theorem sc_l_law_q : FnScope ["n", "d", "one", "other"] ["n", "d"] (defScope s_l_law_q) := ⟨rfl, rfl, rfl, by decide +kernel, rfl, by decide +kernel, by decide +kernel⟩
theorem sc_l_law_plus : FnScope ["one", "other"] ["one", "other"] (defScope s_l_law_plus) := ⟨rfl, rfl, rfl, by decide +kernel, rfl, by decide +kernel, by decide +kernel⟩
theorem sc_l_law_minus : FnScope ["one", "other"] ["one", "other"] (defScope s_l_law_minus) := ⟨rfl, rfl, rfl, by decide +kernel, rfl, by decide +kernel, by decide +kernel⟩
theorem sc_l_law_times : FnScope ["one", "other"] ["one", "other"] (defScope s_l_law_times) := ⟨rfl, rfl, rfl, by decide +kernel, rfl, by decide +kernel, by decide +kernel⟩
theorem sc_l_law_less : FnScope ["one", "other"] ["one", "other"] (defScope s_l_law_less) := ⟨rfl, rfl, rfl, by decide +kernel, rfl, by decide +kernel, by decide +kernel⟩
theorem sc_l_law_sum : FnScope ["some", "found", "each"] ["some"] (defScope s_l_law_sum) := ⟨rfl, rfl, rfl, by decide +kernel, rfl, by decide +kernel, by decide +kernel⟩
theorem sc_l_law_words : FnScope ["draws", "many", "found", "word", "lap"] ["draws", "many"] (defScope s_l_law_words) := ⟨rfl, rfl, rfl, by decide +kernel, rfl, by decide +kernel, by decide +kernel⟩
theorem sc_l_law_number : FnScope ["draws", "size", "n", "d"] ["draws", "size"] (defScope s_l_law_number) := ⟨rfl, rfl, rfl, by decide +kernel, rfl, by decide +kernel, by decide +kernel⟩
theorem sc_l_law_odd : FnScope ["draws", "some"] ["draws"] (defScope s_l_law_odd) := ⟨rfl, rfl, rfl, by decide +kernel, rfl, by decide +kernel, by decide +kernel⟩
theorem sc_l_law_pp_holders : FnScope ["draws", "many", "words", "weights", "reach", "word", "rows", "weight", "found", "way", "order", "at", "one", "other"] ["draws", "many"] (defScope s_l_law_pp_holders) := ⟨rfl, rfl, rfl, by decide +kernel, rfl, by decide +kernel, by decide +kernel⟩
theorem sc_l_law_pp_closed : FnScope ["words", "some", "found", "third", "one", "other"] ["words", "some"] (defScope s_l_law_pp_closed) := ⟨rfl, rfl, rfl, by decide +kernel, rfl, by decide +kernel, by decide +kernel⟩
theorem sc_l_law_pp_words : FnScope ["holders", "row"] ["holders"] (defScope s_l_law_pp_words) := ⟨rfl, rfl, rfl, by decide +kernel, rfl, by decide +kernel, by decide +kernel⟩
theorem sc_l_law_pp_can : FnScope ["holders", "one", "other"] ["holders", "one", "other"] (defScope s_l_law_pp_can) := ⟨rfl, rfl, rfl, by decide +kernel, rfl, by decide +kernel, by decide +kernel⟩
theorem sc_l_law_pp_least : FnScope ["some", "found", "each"] ["some"] (defScope s_l_law_pp_least) := ⟨rfl, rfl, rfl, by decide +kernel, rfl, by decide +kernel, by decide +kernel⟩
theorem sc_l_law_pp_most : FnScope ["some", "found", "each"] ["some"] (defScope s_l_law_pp_most) := ⟨rfl, rfl, rfl, by decide +kernel, rfl, by decide +kernel, by decide +kernel⟩
theorem sc_l_law_pp_outcome : FnScope ["holders", "promise", "words", "part", "paper", "word"] ["holders", "promise"] (defScope s_l_law_pp_outcome) := ⟨rfl, rfl, rfl, by decide +kernel, rfl, by decide +kernel, by decide +kernel⟩
theorem sc_l_law_pp_loss : FnScope ["holders", "told", "gaps", "part", "row", "gap"] ["holders", "told"] (defScope s_l_law_pp_loss) := ⟨rfl, rfl, rfl, by decide +kernel, rfl, by decide +kernel, by decide +kernel⟩
theorem sc_law : FnScope ["script", "draws", "turn", "holders", "many", "words", "promise", "lap", "due", "part", "one", "other", "again", "word", "told", "lost", "odd", "wrong", "ask"] ["script"] (defScope s_law) := ⟨rfl, rfl, rfl, by decide +kernel, rfl, by decide +kernel, by decide +kernel⟩
structure Hy (P : Program) (w : World) (C : Ct) (base : Heap) : Prop where
  z_abs : C.mg "abs" = none
  z_all : C.mg "all" = none
  z_bool : C.mg "bool" = none
  z_dict : C.mg "dict" = none
  z_enumerate : C.mg "enumerate" = none
  z_int : C.mg "int" = none
  z_isinstance : C.mg "isinstance" = none
  z_len : C.mg "len" = none
  z_list : C.mg "list" = none
  z_min : C.mg "min" = none
  z_range : C.mg "range" = none
  z_set : C.mg "set" = none
  z_sorted : C.mg "sorted" = none
  z_str : C.mg "str" = none
  z_sum : C.mg "sum" = none
  z_tuple : C.mg "tuple" = none
  z_zip : C.mg "zip" = none
  g_LEAST_HOLDERS : GV C "LEAST_HOLDERS" (.int 2)
  g_LETTERS : GV C "LETTERS" (.str "abcdefghijklmnopqrstuvwxyz")
  g_MOST_HOLDERS : GV C "MOST_HOLDERS" (.int 6)
  g_ONE : GV C "ONE" (.tup [(.int 1), (.int 1)])
  g_ZERO : GV C "ZERO" (.tup [(.int 0), (.int 1)])
  b_gcd : C.mg "gcd" = some (.builtin "math.gcd")
  c_BadHolders : ExcD C "BadHolders"
  c_BadOutcome : ExcD C "BadOutcome"
  c_BadPromise : ExcD C "BadPromise"
  f_is_whole : DefD C "is_whole" s_is_whole ["value"]
  f_is_ratio : DefD C "is_ratio" s_is_ratio ["value"]
  f_is_chance : DefD C "is_chance" s_is_chance ["value"]
  f_lowest : DefD C "lowest" s_lowest ["n", "d"]
  f_plus : DefD C "plus" s_plus ["one", "other"]
  f_minus : DefD C "minus" s_minus ["one", "other"]
  f_times : DefD C "times" s_times ["one", "other"]
  f_is_less : DefD C "is_less" s_is_less ["one", "other"]
  f_total : DefD C "total" s_total ["ratios"]
  f_greatest_of : DefD C "greatest_of" s_greatest_of ["ratios"]
  f_is_word : DefD C "is_word" s_is_word ["value"]
  f_is_holder : DefD C "is_holder" s_is_holder ["value"]
  f_are_rows : DefD C "are_rows" s_are_rows ["value"]
  f_are_passes : DefD C "are_passes" s_are_passes ["words", "value"]
  f_is_holders : DefD C "is_holders" s_is_holders ["value"]
  f_need_holders : DefD C "need_holders" s_need_holders ["holders"]
  f_words_of : DefD C "words_of" s_words_of ["holders"]
  f_can_show : DefD C "can_show" s_can_show ["holders", "one", "other"]
  f_top_for : DefD C "top_for" s_top_for ["holders", "told", "word"]
  f_are_ratios : DefD C "are_ratios" s_are_ratios ["holders", "value"]
  f_outcome : DefD C "outcome" s_outcome ["holders", "promise"]
  f_loss_of : DefD C "loss_of" s_loss_of ["holders", "told"]
  f_loss : DefD C "loss" s_loss ["holders", "outcome"]
  f_l_law_begun : DefD C "_law_begun" s_l_law_begun ["script"]
  f_l_law_blended : DefD C "_law_blended" s_l_law_blended ["state"]
  f_l_law_draw : DefD C "_law_draw" s_l_law_draw ["state", "room"]
  f_l_law_pick : DefD C "_law_pick" s_l_law_pick ["state", "some"]
  f_l_law_shuffled : DefD C "_law_shuffled" s_l_law_shuffled ["state", "some"]
  f_l_law_is_truth : DefD C "_law_is_truth" s_l_law_is_truth ["found", "due"]
  f_l_law_same : DefD C "_law_same" s_l_law_same ["found", "due"]
  f_l_law_q : DefD C "_law_q" s_l_law_q ["n", "d"]
  f_l_law_plus : DefD C "_law_plus" s_l_law_plus ["one", "other"]
  f_l_law_minus : DefD C "_law_minus" s_l_law_minus ["one", "other"]
  f_l_law_times : DefD C "_law_times" s_l_law_times ["one", "other"]
  f_l_law_less : DefD C "_law_less" s_l_law_less ["one", "other"]
  f_l_law_sum : DefD C "_law_sum" s_l_law_sum ["some"]
  f_l_law_words : DefD C "_law_words" s_l_law_words ["draws", "many"]
  f_l_law_number : DefD C "_law_number" s_l_law_number ["draws", "size"]
  f_l_law_odd : DefD C "_law_odd" s_l_law_odd ["draws"]
  f_l_law_pp_holders : DefD C "_law_pp_holders" s_l_law_pp_holders ["draws", "many"]
  f_l_law_pp_closed : DefD C "_law_pp_closed" s_l_law_pp_closed ["words", "some"]
  f_l_law_pp_words : DefD C "_law_pp_words" s_l_law_pp_words ["holders"]
  f_l_law_pp_can : DefD C "_law_pp_can" s_l_law_pp_can ["holders", "one", "other"]
  f_l_law_pp_least : DefD C "_law_pp_least" s_l_law_pp_least ["some"]
  f_l_law_pp_most : DefD C "_law_pp_most" s_l_law_pp_most ["some"]
  f_l_law_pp_outcome : DefD C "_law_pp_outcome" s_l_law_pp_outcome ["holders", "promise"]
  f_l_law_pp_loss : DefD C "_law_pp_loss" s_l_law_pp_loss ["holders", "told"]
  f_law : DefD C "law" s_law ["script"]
variable {P : Program} {w : World} {C : Ct} {base : Heap}
noncomputable def b_is_whole : DenS := sRet (dAndV (dIsi .int (dVar 0)) (dNotV (dIsi .bl (dVar 0))))
noncomputable def f_is_whole : List D → Sto → Option (R D) := runF false 1 1 b_is_whole
theorem fd_is_whole (h : Hy P w C base) : FD P w C base 1 "is_whole" s_is_whole ["value"] f_is_whole := by
  obtain ⟨a, fd, m, F, B⟩ := h.f_is_whole.ex
  exact fd_ok false m F sc_is_whole (by decide) B fun cdv A outer s H E ha => (psd_one (psd_ret (pd_and (pd_isi .int (pd_var 0) h.z_isinstance h.z_int) (pd_one (pd_not (pd_isi .bl (pd_var 0) h.z_isinstance h.z_bool))))))
noncomputable def b_is_ratio : DenS := sSeq (sIf (dOr (dNot (dTruth truD (dIsi .tup (dVar 0)))) (dOr (dTruth isBl (dBin opNe (dArgs fLen (dCons (dVar 0) (dNil))) (dC (.int 2)))) (dNot (dTruth truD (dArgs fAll (dCons (dLc false [1] (dIt (dVar 0)) (gNm 1) dYes (dArgs f_is_whole (dCons (dVar 1) (dNil)))) (dNil))))))) (sRet (dC (.bl false))) (sSkip)) (sRet (dAndV (dBin opGt (dBin opIx (dVar 0) (dC (.int 1))) (dC (.int 0))) (dBin opEq (dArgs fGcd (dCons (dBin opIx (dVar 0) (dC (.int 0))) (dCons (dBin opIx (dVar 0) (dC (.int 1))) (dNil)))) (dC (.int 1)))))
noncomputable def f_is_ratio : List D → Sto → Option (R D) := runF false 1 2 b_is_ratio
theorem fd_is_ratio (h : Hy P w C base) : FD P w C base 2 "is_ratio" s_is_ratio ["value"] f_is_ratio := by
  obtain ⟨a, fd, m, F, B⟩ := h.f_is_ratio.ex
  exact fd_ok false m F sc_is_ratio (by decide) B fun cdv A outer s H E ha => (psd_cons (psd_if (pdb_w (pdw_or (pdb_not (pdb_truth (pd_isi .tup (pd_var 0) h.z_isinstance h.z_tuple))) (pdw_or (pdb_cmp (op_neA gu64) sem_ne (pd_callB call_lenA sem_len h.z_len (pdl_cons (pd_var 0) (pdl_nil))) (pd_int) (nomark _)) (pdw_or1 (pdb_not (pdb_truth (pd_callB (cr_all rfl) sem_all h.z_all (pdl_cons (pd_lc false [("part", 1)] (blk_by (by rfl)) (pid_it (pd_var 0)) (fun _ _ _ _ _ => pgd_name 1) (fun _ _ _ _ _ => ptsd_nil) (fun _ _ _ _ _ => pd_call (fd_is_whole h) (pdl_cons (pd_var 1) (pdl_nil)))) (pdl_nil))))))))) (psd_one (psd_ret (pd_bl))) (psd_nil)) (psd_one (psd_ret (pd_and (pd_cmp op_gt sem_cmpI (pd_ix (ix_any gu1) sem_ix (pd_var 0) (pd_int)) (pd_int) (nomark _)) (pd_one (pd_cmp (op_eqA gu64) sem_eq (pd_callBfun cr_gcd sem_gcd h.b_gcd (pdl_cons (pd_ix (ix_any gu1) sem_ix (pd_var 0) (pd_int)) (pdl_cons (pd_ix (ix_any gu1) sem_ix (pd_var 0) (pd_int)) (pdl_nil)))) (pd_int) (nomark _)))))))
noncomputable def b_is_chance : DenS := sRet (dAndV (dArgs f_is_ratio (dCons (dVar 0) (dNil))) (dChain opLe opLe (dC (.int 0)) (dBin opIx (dVar 0) (dC (.int 0))) (dBin opIx (dVar 0) (dC (.int 1)))))
noncomputable def f_is_chance : List D → Sto → Option (R D) := runF false 1 1 b_is_chance
theorem fd_is_chance (h : Hy P w C base) : FD P w C base 3 "is_chance" s_is_chance ["value"] f_is_chance := by
  obtain ⟨a, fd, m, F, B⟩ := h.f_is_chance.ex
  exact fd_ok false m F sc_is_chance (by decide) B fun cdv A outer s H E ha => (psd_one (psd_ret (pd_and (pd_call (fd_is_ratio h) (pdl_cons (pd_var 0) (pdl_nil))) (pd_one (pd_chain op_le op_le sem_cmpI sem_cmpI (pd_int) (pd_ix (ix_any gu1) sem_ix (pd_var 0) (pd_int)) (pd_ix (ix_any gu1) sem_ix (pd_var 0) (pd_int)))))))
noncomputable def b_lowest : DenS := sSeq (sSet 2 (dIf (dTruth isBl (dBin opGt (dVar 1) (dC (.int 0)))) (dArgs fGcd (dCons (dVar 0) (dCons (dVar 1) (dNil)))) (dUn opNeg (dArgs fGcd (dCons (dVar 0) (dCons (dVar 1) (dNil))))))) (sRet (dArgs fTup (dCons (dBin opFdiv (dVar 0) (dVar 2)) (dCons (dBin opFdiv (dVar 1) (dVar 2)) (dNil)))))
noncomputable def f_lowest : List D → Sto → Option (R D) := runF false 2 3 b_lowest
theorem fd_lowest (h : Hy P w C base) : FD P w C base 1 "lowest" s_lowest ["n", "d"] f_lowest := by
  obtain ⟨a, fd, m, F, B⟩ := h.f_lowest.ex
  exact fd_ok false m F sc_lowest (by decide) B fun cdv A outer s H E ha => (psd_cons (psd_set (i := 2) (pd_if (pdb_cmp op_gt sem_cmpI (pd_var 1) (pd_int) (nomark _)) (pd_callBfun cr_gcd sem_gcd h.b_gcd (pdl_cons (pd_var 0) (pdl_cons (pd_var 1) (pdl_nil)))) (pd_un un_neg sem_neg (pd_callBfun cr_gcd sem_gcd h.b_gcd (pdl_cons (pd_var 0) (pdl_cons (pd_var 1) (pdl_nil))))))) (psd_one (psd_ret (pd_tup (pdl_cons (pd_op op_fdivA sem_fdiv (pd_var 0) (pd_var 2)) (pdl_cons (pd_op op_fdivA sem_fdiv (pd_var 1) (pd_var 2)) (pdl_nil)))))))
noncomputable def b_plus : DenS := sRet (dArgs f_lowest (dCons (dBin (opAdd false) (dBin (opMul false) (dBin opIx (dVar 0) (dC (.int 0))) (dBin opIx (dVar 1) (dC (.int 1)))) (dBin (opMul false) (dBin opIx (dVar 1) (dC (.int 0))) (dBin opIx (dVar 0) (dC (.int 1))))) (dCons (dBin (opMul false) (dBin opIx (dVar 0) (dC (.int 1))) (dBin opIx (dVar 1) (dC (.int 1)))) (dNil))))
noncomputable def f_plus : List D → Sto → Option (R D) := runF false 2 2 b_plus
theorem fd_plus (h : Hy P w C base) : FD P w C base 2 "plus" s_plus ["one", "other"] f_plus := by
  obtain ⟨a, fd, m, F, B⟩ := h.f_plus.ex
  exact fd_ok false m F sc_plus (by decide) B fun cdv A outer s H E ha => (psd_one (psd_ret (pd_call (fd_lowest h) (pdl_cons (pd_op op_addA (sem_add false) (pd_op op_mulA (sem_mul false) (pd_ix (ix_any gu1) sem_ix (pd_var 0) (pd_int)) (pd_ix (ix_any gu1) sem_ix (pd_var 1) (pd_int))) (pd_op op_mulA (sem_mul false) (pd_ix (ix_any gu1) sem_ix (pd_var 1) (pd_int)) (pd_ix (ix_any gu1) sem_ix (pd_var 0) (pd_int)))) (pdl_cons (pd_op op_mulA (sem_mul false) (pd_ix (ix_any gu1) sem_ix (pd_var 0) (pd_int)) (pd_ix (ix_any gu1) sem_ix (pd_var 1) (pd_int))) (pdl_nil))))))
noncomputable def b_minus : DenS := sRet (dArgs f_lowest (dCons (dBin opSub (dBin (opMul false) (dBin opIx (dVar 0) (dC (.int 0))) (dBin opIx (dVar 1) (dC (.int 1)))) (dBin (opMul false) (dBin opIx (dVar 1) (dC (.int 0))) (dBin opIx (dVar 0) (dC (.int 1))))) (dCons (dBin (opMul false) (dBin opIx (dVar 0) (dC (.int 1))) (dBin opIx (dVar 1) (dC (.int 1)))) (dNil))))
noncomputable def f_minus : List D → Sto → Option (R D) := runF false 2 2 b_minus
theorem fd_minus (h : Hy P w C base) : FD P w C base 2 "minus" s_minus ["one", "other"] f_minus := by
  obtain ⟨a, fd, m, F, B⟩ := h.f_minus.ex
  exact fd_ok false m F sc_minus (by decide) B fun cdv A outer s H E ha => (psd_one (psd_ret (pd_call (fd_lowest h) (pdl_cons (pd_op op_sub sem_sub (pd_op op_mulA (sem_mul false) (pd_ix (ix_any gu1) sem_ix (pd_var 0) (pd_int)) (pd_ix (ix_any gu1) sem_ix (pd_var 1) (pd_int))) (pd_op op_mulA (sem_mul false) (pd_ix (ix_any gu1) sem_ix (pd_var 1) (pd_int)) (pd_ix (ix_any gu1) sem_ix (pd_var 0) (pd_int)))) (pdl_cons (pd_op op_mulA (sem_mul false) (pd_ix (ix_any gu1) sem_ix (pd_var 0) (pd_int)) (pd_ix (ix_any gu1) sem_ix (pd_var 1) (pd_int))) (pdl_nil))))))
noncomputable def b_times : DenS := sRet (dArgs f_lowest (dCons (dBin (opMul false) (dBin opIx (dVar 0) (dC (.int 0))) (dBin opIx (dVar 1) (dC (.int 0)))) (dCons (dBin (opMul false) (dBin opIx (dVar 0) (dC (.int 1))) (dBin opIx (dVar 1) (dC (.int 1)))) (dNil))))
noncomputable def f_times : List D → Sto → Option (R D) := runF false 2 2 b_times
theorem fd_times (h : Hy P w C base) : FD P w C base 2 "times" s_times ["one", "other"] f_times := by
  obtain ⟨a, fd, m, F, B⟩ := h.f_times.ex
  exact fd_ok false m F sc_times (by decide) B fun cdv A outer s H E ha => (psd_one (psd_ret (pd_call (fd_lowest h) (pdl_cons (pd_op op_mulA (sem_mul false) (pd_ix (ix_any gu1) sem_ix (pd_var 0) (pd_int)) (pd_ix (ix_any gu1) sem_ix (pd_var 1) (pd_int))) (pdl_cons (pd_op op_mulA (sem_mul false) (pd_ix (ix_any gu1) sem_ix (pd_var 0) (pd_int)) (pd_ix (ix_any gu1) sem_ix (pd_var 1) (pd_int))) (pdl_nil))))))
noncomputable def b_is_less : DenS := sRet (dBin opLt (dBin (opMul false) (dBin opIx (dVar 0) (dC (.int 0))) (dBin opIx (dVar 1) (dC (.int 1)))) (dBin (opMul false) (dBin opIx (dVar 1) (dC (.int 0))) (dBin opIx (dVar 0) (dC (.int 1)))))
noncomputable def f_is_less : List D → Sto → Option (R D) := runF false 2 2 b_is_less
theorem fd_is_less (h : Hy P w C base) : FD P w C base 1 "is_less" s_is_less ["one", "other"] f_is_less := by
  obtain ⟨a, fd, m, F, B⟩ := h.f_is_less.ex
  exact fd_ok false m F sc_is_less (by decide) B fun cdv A outer s H E ha => (psd_one (psd_ret (pd_cmp (op_ltA gu64) sem_lt (pd_op op_mulA (sem_mul false) (pd_ix (ix_any gu1) sem_ix (pd_var 0) (pd_int)) (pd_ix (ix_any gu1) sem_ix (pd_var 1) (pd_int))) (pd_op op_mulA (sem_mul false) (pd_ix (ix_any gu1) sem_ix (pd_var 1) (pd_int)) (pd_ix (ix_any gu1) sem_ix (pd_var 0) (pd_int))) (nomark _))))
noncomputable def b_total : DenS := sSeq (sSet 1 (dC (.tup [(.int 0), (.int 1)]))) (sSeq (sFor (dIt (dVar 0)) (gNm 2) (sSet 1 (dArgs f_plus (dCons (dVar 1) (dCons (dVar 2) (dNil)))))) (sRet (dVar 1)))
noncomputable def f_total : List D → Sto → Option (R D) := runF false 1 3 b_total
theorem fd_total (h : Hy P w C base) : FD P w C base 3 "total" s_total ["ratios"] f_total := by
  obtain ⟨a, fd, m, F, B⟩ := h.f_total.ex
  exact fd_ok false m F sc_total (by decide) B fun cdv A outer s H E ha => (psd_cons (psd_set (i := 1) (pd_glob h.g_ZERO)) (psd_cons (psd_for (pid_it (pd_var 0)) (pgd_name 2) (psd_one (psd_set (i := 1) (pd_call (fd_plus h) (pdl_cons (pd_var 1) (pdl_cons (pd_var 2) (pdl_nil))))))) (psd_one (psd_ret (pd_var 1)))))
noncomputable def b_greatest_of : DenS := sSeq (sSet 1 (dBin opIx (dVar 0) (dC (.int 0)))) (sSeq (sFor (dIt (dSlice (opSl false) (dVar 0) (dPart (dC (.int 1))) dNoPart)) (gNm 2) (sSet 1 (dIf (dTruth truD (dArgs f_is_less (dCons (dVar 1) (dCons (dVar 2) (dNil))))) (dVar 2) (dVar 1)))) (sRet (dVar 1)))
noncomputable def f_greatest_of : List D → Sto → Option (R D) := runF false 1 3 b_greatest_of
theorem fd_greatest_of (h : Hy P w C base) : FD P w C base 2 "greatest_of" s_greatest_of ["ratios"] f_greatest_of := by
  obtain ⟨a, fd, m, F, B⟩ := h.f_greatest_of.ex
  exact fd_ok false m F sc_greatest_of (by decide) B fun cdv A outer s H E ha => (psd_cons (psd_set (i := 1) (pd_ix (ix_any gu1) sem_ix (pd_var 0) (pd_int))) (psd_cons (psd_for (pid_it (pd_slice sl_all (sem_sl false) (pd_var 0) (pdo_some (pd_int)) pdo_none)) (pgd_name 2) (psd_one (psd_set (i := 1) (pd_if (pdb_truth (pd_call (fd_is_less h) (pdl_cons (pd_var 1) (pdl_cons (pd_var 2) (pdl_nil))))) (pd_var 2) (pd_var 1))))) (psd_one (psd_ret (pd_var 1)))))
noncomputable def b_is_word : DenS := sRet (dAndV (dIsi .str (dVar 0)) (dAndV (dChain opLe opLe (dC (.int 1)) (dArgs fLen (dCons (dVar 0) (dNil))) (dC (.int 8))) (dArgs fAll (dCons (dLc false [1] (dIt (dVar 0)) (gNm 1) dYes (dBin opIn (dVar 1) (dC (.str "abcdefghijklmnopqrstuvwxyz")))) (dNil)))))
noncomputable def f_is_word : List D → Sto → Option (R D) := runF false 1 2 b_is_word
theorem fd_is_word (h : Hy P w C base) : FD P w C base 1 "is_word" s_is_word ["value"] f_is_word := by
  obtain ⟨a, fd, m, F, B⟩ := h.f_is_word.ex
  exact fd_ok false m F sc_is_word (by decide) B fun cdv A outer s H E ha => (psd_one (psd_ret (pd_and (pd_isi .str (pd_var 0) h.z_isinstance h.z_str) (pd_and (pd_chain op_le op_le sem_cmpI sem_cmpI (pd_int) (pd_callB call_lenA sem_len h.z_len (pdl_cons (pd_var 0) (pdl_nil))) (pd_int)) (pd_one (pd_callB (cr_all rfl) sem_all h.z_all (pdl_cons (pd_lc false [("letter", 1)] (blk_by (by rfl)) (pid_it (pd_var 0)) (fun _ _ _ _ _ => pgd_name 1) (fun _ _ _ _ _ => ptsd_nil) (fun _ _ _ _ _ => pd_cmp (op_inA gu65) sem_in (pd_var 1) (pd_glob h.g_LETTERS) (by rfl))) (pdl_nil))))))))
noncomputable def b_is_holder : DenS := sSeq (sIf (dOr (dNot (dTruth truD (dIsi .tup (dVar 0)))) (dOr (dTruth isBl (dBin opNe (dArgs fLen (dCons (dVar 0) (dNil))) (dC (.int 3)))) (dNot (dTruth truD (dArgs f_is_word (dCons (dBin opIx (dVar 0) (dC (.int 0))) (dNil))))))) (sRet (dC (.bl false))) (sSkip)) (sRet (dAndV (dArgs f_is_chance (dCons (dBin opIx (dVar 0) (dC (.int 1))) (dNil))) (dAndV (dBin opGt (dBin opIx (dBin opIx (dVar 0) (dC (.int 1))) (dC (.int 0))) (dC (.int 0))) (dArgs f_is_ratio (dCons (dBin opIx (dVar 0) (dC (.int 2))) (dNil))))))
noncomputable def f_is_holder : List D → Sto → Option (R D) := runF false 1 1 b_is_holder
theorem fd_is_holder (h : Hy P w C base) : FD P w C base 4 "is_holder" s_is_holder ["value"] f_is_holder := by
  obtain ⟨a, fd, m, F, B⟩ := h.f_is_holder.ex
  exact fd_ok false m F sc_is_holder (by decide) B fun cdv A outer s H E ha => (psd_cons (psd_if (pdb_w (pdw_or (pdb_not (pdb_truth (pd_isi .tup (pd_var 0) h.z_isinstance h.z_tuple))) (pdw_or (pdb_cmp (op_neA gu64) sem_ne (pd_callB call_lenA sem_len h.z_len (pdl_cons (pd_var 0) (pdl_nil))) (pd_int) (nomark _)) (pdw_or1 (pdb_not (pdb_truth (pd_call (fd_is_word h) (pdl_cons (pd_ix (ix_any gu1) sem_ix (pd_var 0) (pd_int)) (pdl_nil))))))))) (psd_one (psd_ret (pd_bl))) (psd_nil)) (psd_one (psd_ret (pd_and (pd_call (fd_is_chance h) (pdl_cons (pd_ix (ix_any gu1) sem_ix (pd_var 0) (pd_int)) (pdl_nil))) (pd_and (pd_cmp op_gt sem_cmpI (pd_ix (ix_any gu1) sem_ix (pd_ix (ix_any gu1) sem_ix (pd_var 0) (pd_int)) (pd_int)) (pd_int) (nomark _)) (pd_one (pd_call (fd_is_ratio h) (pdl_cons (pd_ix (ix_any gu1) sem_ix (pd_var 0) (pd_int)) (pdl_nil)))))))))
noncomputable def b_are_rows : DenS := sSeq (sIf (dOr (dNot (dTruth truD (dIsi .tup (dVar 0)))) (dNot (dTruth isBl (dChain opLe opLe (dC (.int 2)) (dArgs fLen (dCons (dVar 0) (dNil))) (dC (.int 6)))))) (sRet (dC (.bl false))) (sSkip)) (sSeq (sIf (dOr (dNot (dTruth truD (dArgs fAll (dCons (dLc false [1] (dIt (dVar 0)) (gNm 1) dYes (dArgs f_is_holder (dCons (dVar 1) (dNil)))) (dNil))))) (dTruth isBl (dBin opNe (dArgs f_total (dCons (dLc false [1] (dIt (dVar 0)) (gNm 1) dYes (dBin opIx (dVar 1) (dC (.int 1)))) (dNil))) (dC (.tup [(.int 1), (.int 1)]))))) (sRet (dC (.bl false))) (sSkip)) (sRet (dArgs fAll (dCons (dLc false [2, 3] (dZip (dCons (dVar 0) (dCons (dSlice (opSl false) (dVar 0) (dPart (dC (.int 1))) dNoPart) (dNil)))) (gUnp 2 (gsCons (gNm 2) (gsCons (gNm 3) (gsNil)))) dYes (dBin opLt (dBin opIx (dVar 2) (dC (.int 0))) (dBin opIx (dVar 3) (dC (.int 0))))) (dNil)))))
noncomputable def f_are_rows : List D → Sto → Option (R D) := runF false 1 4 b_are_rows
theorem fd_are_rows (h : Hy P w C base) : FD P w C base 5 "are_rows" s_are_rows ["value"] f_are_rows := by
  obtain ⟨a, fd, m, F, B⟩ := h.f_are_rows.ex
  exact fd_ok false m F sc_are_rows (by decide) B fun cdv A outer s H E ha => (psd_cons (psd_if (pdb_w (pdw_or (pdb_not (pdb_truth (pd_isi .tup (pd_var 0) h.z_isinstance h.z_tuple))) (pdw_or1 (pdb_not (pdb_chain op_le op_le sem_cmpI sem_cmpI (pd_glob h.g_LEAST_HOLDERS) (pd_callB call_lenA sem_len h.z_len (pdl_cons (pd_var 0) (pdl_nil))) (pd_glob h.g_MOST_HOLDERS)))))) (psd_one (psd_ret (pd_bl))) (psd_nil)) (psd_cons (psd_if (pdb_w (pdw_or (pdb_not (pdb_truth (pd_callB (cr_all rfl) sem_all h.z_all (pdl_cons (pd_lc false [("row", 1)] (blk_by (by rfl)) (pid_it (pd_var 0)) (fun _ _ _ _ _ => pgd_name 1) (fun _ _ _ _ _ => ptsd_nil) (fun _ _ _ _ _ => pd_call (fd_is_holder h) (pdl_cons (pd_var 1) (pdl_nil)))) (pdl_nil))))) (pdw_or1 (pdb_cmp (op_neA gu64) sem_ne (pd_call (fd_total h) (pdl_cons (pd_lc false [("row", 1)] (blk_by (by rfl)) (pid_it (pd_var 0)) (fun _ _ _ _ _ => pgd_name 1) (fun _ _ _ _ _ => ptsd_nil) (fun _ _ _ _ _ => pd_ix (ix_any gu1) sem_ix (pd_var 1) (pd_int))) (pdl_nil))) (pd_glob h.g_ONE) (nomark _))))) (psd_one (psd_ret (pd_bl))) (psd_nil)) (psd_one (psd_ret (pd_callB (cr_all rfl) sem_all h.z_all (pdl_cons (pd_lc false [("one", 2), ("other", 3)] (blk_by (by rfl)) (pid_zip h.z_zip (pdl_cons (pd_var 0) (pdl_cons (pd_slice sl_all (sem_sl false) (pd_var 0) (pdo_some (pd_int)) pdo_none) (pdl_nil)))) (fun _ _ _ _ _ => pgd_tup (pgsd_cons (pgd_name 2) (pgsd_cons (pgd_name 3) (pgsd_nil)))) (fun _ _ _ _ _ => ptsd_nil) (fun _ _ _ _ _ => pd_cmp (op_ltA gu64) sem_lt (pd_ix (ix_any gu1) sem_ix (pd_var 2) (pd_int)) (pd_ix (ix_any gu1) sem_ix (pd_var 3) (pd_int)) (nomark _))) (pdl_nil)))))))
noncomputable def b_are_passes : DenS := sSeq (sIf (dNot (dTruth truD (dIsi .tup (dVar 1)))) (sRet (dC (.bl false))) (sSkip)) (sSeq (sFor (dIt (dVar 1)) (gNm 2) (sSeq (sIf (dOr (dNot (dTruth truD (dIsi .tup (dVar 2)))) (dOr (dTruth isBl (dBin opNe (dArgs fLen (dCons (dVar 2) (dNil))) (dC (.int 2)))) (dNot (dTruth truD (dArgs fAll (dCons (dLc false [3] (dIt (dVar 2)) (gNm 3) dYes (dIsi .str (dVar 3))) (dNil))))))) (sRet (dC (.bl false))) (sSkip)) (sIf (dOr (dTruth isBl (dBin opEq (dBin opIx (dVar 2) (dC (.int 0))) (dBin opIx (dVar 2) (dC (.int 1))))) (dNot (dTruth truD (dArgs fAll (dCons (dLc false [3] (dIt (dVar 2)) (gNm 3) dYes (dBin opIn (dVar 3) (dVar 0))) (dNil)))))) (sRet (dC (.bl false))) (sSkip)))) (sSeq (sIf (dNot (dTruth truD (dArgs fAll (dCons (dLc false [4, 5] (dZip (dCons (dVar 1) (dCons (dSlice (opSl false) (dVar 1) (dPart (dC (.int 1))) dNoPart) (dNil)))) (gUnp 2 (gsCons (gNm 4) (gsCons (gNm 5) (gsNil)))) dYes (dBin opLt (dVar 4) (dVar 5))) (dNil))))) (sRet (dC (.bl false))) (sSkip)) (sSeq (sFor (dIt (dVar 1)) (gUnp 2 (gsCons (gNm 4) (gsCons (gNm 5) (gsNil)))) (sFor (dIt (dVar 0)) (gNm 6) (sIf (dAnd (dTruth isBl (dBin opIn (dArgs fTup (dCons (dVar 5) (dCons (dVar 6) (dNil)))) (dVar 1))) (dAnd (dTruth isBl (dBin opNe (dVar 6) (dVar 4))) (dTruth isBl (dBin opNotIn (dArgs fTup (dCons (dVar 4) (dCons (dVar 6) (dNil)))) (dVar 1))))) (sRet (dC (.bl false))) (sSkip)))) (sRet (dC (.bl true))))))
noncomputable def f_are_passes : List D → Sto → Option (R D) := runF false 2 7 b_are_passes
theorem fd_are_passes (h : Hy P w C base) : FD P w C base 1 "are_passes" s_are_passes ["words", "value"] f_are_passes := by
  obtain ⟨a, fd, m, F, B⟩ := h.f_are_passes.ex
  exact fd_ok false m F sc_are_passes (by decide) B fun cdv A outer s H E ha => (psd_cons (psd_if (pdb_not (pdb_truth (pd_isi .tup (pd_var 1) h.z_isinstance h.z_tuple))) (psd_one (psd_ret (pd_bl))) (psd_nil)) (psd_cons (psd_for (pid_it (pd_var 1)) (pgd_name 2) (psd_cons (psd_if (pdb_w (pdw_or (pdb_not (pdb_truth (pd_isi .tup (pd_var 2) h.z_isinstance h.z_tuple))) (pdw_or (pdb_cmp (op_neA gu64) sem_ne (pd_callB call_lenA sem_len h.z_len (pdl_cons (pd_var 2) (pdl_nil))) (pd_int) (nomark _)) (pdw_or1 (pdb_not (pdb_truth (pd_callB (cr_all rfl) sem_all h.z_all (pdl_cons (pd_lc false [("word", 3)] (blk_by (by rfl)) (pid_it (pd_var 2)) (fun _ _ _ _ _ => pgd_name 3) (fun _ _ _ _ _ => ptsd_nil) (fun _ _ _ _ _ => pd_isi .str (pd_var 3) h.z_isinstance h.z_str)) (pdl_nil))))))))) (psd_one (psd_ret (pd_bl))) (psd_nil)) (psd_one (psd_if (pdb_w (pdw_or (pdb_cmp (op_eqA gu64) sem_eq (pd_ix (ix_any gu1) sem_ix (pd_var 2) (pd_int)) (pd_ix (ix_any gu1) sem_ix (pd_var 2) (pd_int)) (nomark _)) (pdw_or1 (pdb_not (pdb_truth (pd_callB (cr_all rfl) sem_all h.z_all (pdl_cons (pd_lc false [("word", 3)] (blk_by (by rfl)) (pid_it (pd_var 2)) (fun _ _ _ _ _ => pgd_name 3) (fun _ _ _ _ _ => ptsd_nil) (fun _ _ _ _ _ => pd_cmp (op_inA gu65) sem_in (pd_var 3) (pd_var 0) (by rfl))) (pdl_nil)))))))) (psd_one (psd_ret (pd_bl))) (psd_nil))))) (psd_cons (psd_if (pdb_not (pdb_truth (pd_callB (cr_all rfl) sem_all h.z_all (pdl_cons (pd_lc false [("one", 4), ("other", 5)] (blk_by (by rfl)) (pid_zip h.z_zip (pdl_cons (pd_var 1) (pdl_cons (pd_slice sl_all (sem_sl false) (pd_var 1) (pdo_some (pd_int)) pdo_none) (pdl_nil)))) (fun _ _ _ _ _ => pgd_tup (pgsd_cons (pgd_name 4) (pgsd_cons (pgd_name 5) (pgsd_nil)))) (fun _ _ _ _ _ => ptsd_nil) (fun _ _ _ _ _ => pd_cmp (op_ltA gu64) sem_lt (pd_var 4) (pd_var 5) (nomark _))) (pdl_nil))))) (psd_one (psd_ret (pd_bl))) (psd_nil)) (psd_cons (psd_for (pid_it (pd_var 1)) (pgd_tup (pgsd_cons (pgd_name 4) (pgsd_cons (pgd_name 5) (pgsd_nil)))) (psd_one (psd_for (pid_it (pd_var 0)) (pgd_name 6) (psd_one (psd_if (pdb_w (pdw_and (pdb_cmp (op_inA gu65) sem_in (pd_tup (pdl_cons (pd_var 5) (pdl_cons (pd_var 6) (pdl_nil)))) (pd_var 1) (by rfl)) (pdw_and (pdb_cmp (op_neA gu64) sem_ne (pd_var 6) (pd_var 4) (nomark _)) (pdw_and1 (pdb_cmp (op_notInA gu65) sem_notIn (pd_tup (pdl_cons (pd_var 4) (pdl_cons (pd_var 6) (pdl_nil)))) (pd_var 1) (by rfl)))))) (psd_one (psd_ret (pd_bl))) (psd_nil)))))) (psd_one (psd_ret (pd_bl)))))))
noncomputable def b_is_holders : DenS := sSeq (sIf (dOr (dNot (dTruth truD (dIsi .tup (dVar 0)))) (dOr (dTruth isBl (dBin opNe (dArgs fLen (dCons (dVar 0) (dNil))) (dC (.int 3)))) (dOr (dNot (dTruth truD (dIsi .str (dBin opIx (dVar 0) (dC (.int 0)))))) (dTruth isBl (dBin opNe (dBin opIx (dVar 0) (dC (.int 0))) (dC (.str "holders"))))))) (sRet (dC (.bl false))) (sSkip)) (sRet (dAndV (dArgs f_are_rows (dCons (dBin opIx (dVar 0) (dC (.int 1))) (dNil))) (dArgs f_are_passes (dCons (dLc false [1] (dIt (dBin opIx (dVar 0) (dC (.int 1)))) (gNm 1) dYes (dBin opIx (dVar 1) (dC (.int 0)))) (dCons (dBin opIx (dVar 0) (dC (.int 2))) (dNil))))))
noncomputable def f_is_holders : List D → Sto → Option (R D) := runF false 1 2 b_is_holders
theorem fd_is_holders (h : Hy P w C base) : FD P w C base 6 "is_holders" s_is_holders ["value"] f_is_holders := by
  obtain ⟨a, fd, m, F, B⟩ := h.f_is_holders.ex
  exact fd_ok false m F sc_is_holders (by decide) B fun cdv A outer s H E ha => (psd_cons (psd_if (pdb_w (pdw_or (pdb_not (pdb_truth (pd_isi .tup (pd_var 0) h.z_isinstance h.z_tuple))) (pdw_or (pdb_cmp (op_neA gu64) sem_ne (pd_callB call_lenA sem_len h.z_len (pdl_cons (pd_var 0) (pdl_nil))) (pd_int) (nomark _)) (pdw_or (pdb_not (pdb_truth (pd_isi .str (pd_ix (ix_any gu1) sem_ix (pd_var 0) (pd_int)) h.z_isinstance h.z_str))) (pdw_or1 (pdb_cmp (op_neA gu64) sem_ne (pd_ix (ix_any gu1) sem_ix (pd_var 0) (pd_int)) (pd_str) (nomark _))))))) (psd_one (psd_ret (pd_bl))) (psd_nil)) (psd_one (psd_ret (pd_and (pd_call (fd_are_rows h) (pdl_cons (pd_ix (ix_any gu1) sem_ix (pd_var 0) (pd_int)) (pdl_nil))) (pd_one (pd_call (fd_are_passes h) (pdl_cons (pd_lc false [("row", 1)] (blk_by (by rfl)) (pid_it (pd_ix (ix_any gu1) sem_ix (pd_var 0) (pd_int))) (fun _ _ _ _ _ => pgd_name 1) (fun _ _ _ _ _ => ptsd_nil) (fun _ _ _ _ _ => pd_ix (ix_any gu1) sem_ix (pd_var 1) (pd_int))) (pdl_cons (pd_ix (ix_any gu1) sem_ix (pd_var 0) (pd_int)) (pdl_nil)))))))))
noncomputable def b_need_holders : DenS := sIf (dNot (dTruth truD (dArgs f_is_holders (dCons (dVar 0) (dNil))))) (sRaise "BadHolders") (sSkip)
noncomputable def f_need_holders : List D → Sto → Option (R D) := runF false 1 1 b_need_holders
theorem fd_need_holders (h : Hy P w C base) : FD P w C base 7 "need_holders" s_need_holders ["holders"] f_need_holders := by
  obtain ⟨a, fd, m, F, B⟩ := h.f_need_holders.ex
  exact fd_ok false m F sc_need_holders (by decide) B fun cdv A outer s H E ha => (psd_one (psd_if (pdb_not (pdb_truth (pd_call (fd_is_holders h) (pdl_cons (pd_var 0) (pdl_nil))))) (psd_one (psd_raiseD h.c_BadHolders)) (psd_nil)))
noncomputable def b_words_of : DenS := sRet (dLc false [1] (dIt (dBin opIx (dVar 0) (dC (.int 1)))) (gNm 1) dYes (dBin opIx (dVar 1) (dC (.int 0))))
noncomputable def f_words_of : List D → Sto → Option (R D) := runF false 1 2 b_words_of
theorem fd_words_of (h : Hy P w C base) : FD P w C base 1 "words_of" s_words_of ["holders"] f_words_of := by
  obtain ⟨a, fd, m, F, B⟩ := h.f_words_of.ex
  exact fd_ok false m F sc_words_of (by decide) B fun cdv A outer s H E ha => (psd_one (psd_ret (pd_lc false [("row", 1)] (blk_by (by rfl)) (pid_it (pd_ix (ix_any gu1) sem_ix (pd_var 0) (pd_int))) (fun _ _ _ _ _ => pgd_name 1) (fun _ _ _ _ _ => ptsd_nil) (fun _ _ _ _ _ => pd_ix (ix_any gu1) sem_ix (pd_var 1) (pd_int)))))
noncomputable def b_can_show : DenS := sRet (dOrV (dBin opEq (dVar 1) (dVar 2)) (dBin opIn (dArgs fTup (dCons (dVar 1) (dCons (dVar 2) (dNil)))) (dBin opIx (dVar 0) (dC (.int 2)))))
noncomputable def f_can_show : List D → Sto → Option (R D) := runF false 3 3 b_can_show
theorem fd_can_show (h : Hy P w C base) : FD P w C base 1 "can_show" s_can_show ["holders", "one", "other"] f_can_show := by
  obtain ⟨a, fd, m, F, B⟩ := h.f_can_show.ex
  exact fd_ok false m F sc_can_show (by decide) B fun cdv A outer s H E ha => (psd_one (psd_ret (pd_or (pd_cmp (op_eqA gu64) sem_eq (pd_var 1) (pd_var 2) (nomark _)) (pd_one (pd_cmp (op_inA gu65) sem_in (pd_tup (pdl_cons (pd_var 1) (pdl_cons (pd_var 2) (pdl_nil)))) (pd_ix (ix_any gu1) sem_ix (pd_var 0) (pd_int)) (by rfl))))))
noncomputable def b_top_for : DenS := sSeq (sSet 3 (dArgs f_words_of (dCons (dVar 0) (dNil)))) (sRet (dArgs f_greatest_of (dCons (dLc false [4, 5] (dZip (dCons (dVar 1) (dCons (dVar 3) (dNil)))) (gUnp 2 (gsCons (gNm 4) (gsCons (gNm 5) (gsNil)))) (dTruth truD (dArgs f_can_show (dCons (dVar 0) (dCons (dVar 2) (dCons (dVar 5) (dNil)))))) (dVar 4)) (dNil))))
noncomputable def f_top_for : List D → Sto → Option (R D) := runF false 3 6 b_top_for
theorem fd_top_for (h : Hy P w C base) : FD P w C base 3 "top_for" s_top_for ["holders", "told", "word"] f_top_for := by
  obtain ⟨a, fd, m, F, B⟩ := h.f_top_for.ex
  exact fd_ok false m F sc_top_for (by decide) B fun cdv A outer s H E ha => (psd_cons (psd_set (i := 3) (pd_call (fd_words_of h) (pdl_cons (pd_var 0) (pdl_nil)))) (psd_one (psd_ret (pd_call (fd_greatest_of h) (pdl_cons (pd_lc false [("answer", 4), ("paper", 5)] (blk_by (by rfl)) (pid_zip h.z_zip (pdl_cons (pd_var 1) (pdl_cons (pd_var 3) (pdl_nil)))) (fun _ _ _ _ _ => pgd_tup (pgsd_cons (pgd_name 4) (pgsd_cons (pgd_name 5) (pgsd_nil)))) (fun _ _ _ _ _ => ptsd_one (pdb_truth (pd_call (fd_can_show h) (pdl_cons (pd_var 0) (pdl_cons (pd_var 2) (pdl_cons (pd_var 5) (pdl_nil))))))) (fun _ _ _ _ _ => pd_var 4)) (pdl_nil))))))
noncomputable def b_are_ratios : DenS := sRet (dAndV (dIsi .tup (dVar 1)) (dAndV (dBin opEq (dArgs fLen (dCons (dVar 1) (dNil))) (dArgs fLen (dCons (dBin opIx (dVar 0) (dC (.int 1))) (dNil)))) (dArgs fAll (dCons (dLc false [2] (dIt (dVar 1)) (gNm 2) dYes (dArgs f_is_ratio (dCons (dVar 2) (dNil)))) (dNil)))))
noncomputable def f_are_ratios : List D → Sto → Option (R D) := runF false 2 3 b_are_ratios
theorem fd_are_ratios (h : Hy P w C base) : FD P w C base 3 "are_ratios" s_are_ratios ["holders", "value"] f_are_ratios := by
  obtain ⟨a, fd, m, F, B⟩ := h.f_are_ratios.ex
  exact fd_ok false m F sc_are_ratios (by decide) B fun cdv A outer s H E ha => (psd_one (psd_ret (pd_and (pd_isi .tup (pd_var 1) h.z_isinstance h.z_tuple) (pd_and (pd_cmp (op_eqA gu64) sem_eq (pd_callB call_lenA sem_len h.z_len (pdl_cons (pd_var 1) (pdl_nil))) (pd_callB call_lenA sem_len h.z_len (pdl_cons (pd_ix (ix_any gu1) sem_ix (pd_var 0) (pd_int)) (pdl_nil))) (nomark _)) (pd_one (pd_callB (cr_all rfl) sem_all h.z_all (pdl_cons (pd_lc false [("part", 2)] (blk_by (by rfl)) (pid_it (pd_var 1)) (fun _ _ _ _ _ => pgd_name 2) (fun _ _ _ _ _ => ptsd_nil) (fun _ _ _ _ _ => pd_call (fd_is_ratio h) (pdl_cons (pd_var 2) (pdl_nil)))) (pdl_nil))))))))
noncomputable def b_outcome : DenS := sSeq (sExpr (dArgs f_need_holders (dCons (dVar 0) (dNil)))) (sSeq (sIf (dNot (dTruth truD (dArgs f_are_ratios (dCons (dVar 0) (dCons (dVar 1) (dNil)))))) (sRaise "BadPromise") (sSkip)) (sRet (dArgs fTuple (dCons (dLc false [2] (dIt (dArgs f_words_of (dCons (dVar 0) (dNil)))) (gNm 2) dYes (dArgs f_top_for (dCons (dVar 0) (dCons (dVar 1) (dCons (dVar 2) (dNil)))))) (dNil)))))
noncomputable def f_outcome : List D → Sto → Option (R D) := runF false 2 3 b_outcome
theorem fd_outcome (h : Hy P w C base) : FD P w C base 8 "outcome" s_outcome ["holders", "promise"] f_outcome := by
  obtain ⟨a, fd, m, F, B⟩ := h.f_outcome.ex
  exact fd_ok false m F sc_outcome (by decide) B fun cdv A outer s H E ha => (psd_cons (psd_expr (pd_call (fd_need_holders h) (pdl_cons (pd_var 0) (pdl_nil)))) (psd_cons (psd_if (pdb_not (pdb_truth (pd_call (fd_are_ratios h) (pdl_cons (pd_var 0) (pdl_cons (pd_var 1) (pdl_nil)))))) (psd_one (psd_raiseD h.c_BadPromise)) (psd_nil)) (psd_one (psd_ret (pd_callTy call_tuple_of sem_tuple h.z_tuple (pdl_cons (pd_lc false [("word", 2)] (blk_by (by rfl)) (pid_it (pd_call (fd_words_of h) (pdl_cons (pd_var 0) (pdl_nil)))) (fun _ _ _ _ _ => pgd_name 2) (fun _ _ _ _ _ => ptsd_nil) (fun _ _ _ _ _ => pd_call (fd_top_for h) (pdl_cons (pd_var 0) (pdl_cons (pd_var 1) (pdl_cons (pd_var 2) (pdl_nil)))))) (pdl_nil)))))))
noncomputable def b_loss_of : DenS := sSeq (sSet 2 (dLc false [3, 4] (dZip (dCons (dVar 1) (dCons (dBin opIx (dVar 0) (dC (.int 1))) (dNil)))) (gUnp 2 (gsCons (gNm 3) (gsCons (gNm 4) (gsNil)))) dYes (dArgs f_minus (dCons (dVar 3) (dCons (dBin opIx (dVar 4) (dC (.int 2))) (dNil)))))) (sRet (dArgs f_total (dCons (dLc false [5, 4] (dZip (dCons (dVar 2) (dCons (dBin opIx (dVar 0) (dC (.int 1))) (dNil)))) (gUnp 2 (gsCons (gNm 5) (gsCons (gNm 4) (gsNil)))) dYes (dArgs f_times (dCons (dBin opIx (dVar 4) (dC (.int 1))) (dCons (dArgs f_times (dCons (dVar 5) (dCons (dVar 5) (dNil)))) (dNil))))) (dNil))))
noncomputable def f_loss_of : List D → Sto → Option (R D) := runF false 2 6 b_loss_of
theorem fd_loss_of (h : Hy P w C base) : FD P w C base 4 "loss_of" s_loss_of ["holders", "told"] f_loss_of := by
  obtain ⟨a, fd, m, F, B⟩ := h.f_loss_of.ex
  exact fd_ok false m F sc_loss_of (by decide) B fun cdv A outer s H E ha => (psd_cons (psd_setLc (i := 2) (false) ([("part", 3), ("row", 4)]) (blk_by (by rfl)) (pid_zip h.z_zip (pdl_cons (pd_var 1) (pdl_cons (pd_ix (ix_any gu1) sem_ix (pd_var 0) (pd_int)) (pdl_nil)))) (fun _ _ _ _ _ => pgd_tup (pgsd_cons (pgd_name 3) (pgsd_cons (pgd_name 4) (pgsd_nil)))) (fun _ _ _ _ _ => ptsd_nil) (fun _ _ _ _ _ => pd_call (fd_minus h) (pdl_cons (pd_var 3) (pdl_cons (pd_ix (ix_any gu1) sem_ix (pd_var 4) (pd_int)) (pdl_nil))))) (psd_one (psd_ret (pd_call (fd_total h) (pdl_cons (pd_lc false [("gap", 5), ("row", 4)] (blk_by (by rfl)) (pid_zip h.z_zip (pdl_cons (pd_var 2) (pdl_cons (pd_ix (ix_any gu1) sem_ix (pd_var 0) (pd_int)) (pdl_nil)))) (fun _ _ _ _ _ => pgd_tup (pgsd_cons (pgd_name 5) (pgsd_cons (pgd_name 4) (pgsd_nil)))) (fun _ _ _ _ _ => ptsd_nil) (fun _ _ _ _ _ => pd_call (fd_times h) (pdl_cons (pd_ix (ix_any gu1) sem_ix (pd_var 4) (pd_int)) (pdl_cons (pd_call (fd_times h) (pdl_cons (pd_var 5) (pdl_cons (pd_var 5) (pdl_nil)))) (pdl_nil))))) (pdl_nil))))))
noncomputable def b_loss : DenS := sSeq (sExpr (dArgs f_need_holders (dCons (dVar 0) (dNil)))) (sSeq (sIf (dNot (dTruth truD (dArgs f_are_ratios (dCons (dVar 0) (dCons (dVar 1) (dNil)))))) (sRaise "BadOutcome") (sSkip)) (sRet (dArgs f_loss_of (dCons (dVar 0) (dCons (dVar 1) (dNil))))))
noncomputable def f_loss : List D → Sto → Option (R D) := runF false 2 2 b_loss
theorem fd_loss (h : Hy P w C base) : FD P w C base 8 "loss" s_loss ["holders", "outcome"] f_loss := by
  obtain ⟨a, fd, m, F, B⟩ := h.f_loss.ex
  exact fd_ok false m F sc_loss (by decide) B fun cdv A outer s H E ha => (psd_cons (psd_expr (pd_call (fd_need_holders h) (pdl_cons (pd_var 0) (pdl_nil)))) (psd_cons (psd_if (pdb_not (pdb_truth (pd_call (fd_are_ratios h) (pdl_cons (pd_var 0) (pdl_cons (pd_var 1) (pdl_nil)))))) (psd_one (psd_raiseD h.c_BadOutcome)) (psd_nil)) (psd_one (psd_ret (pd_call (fd_loss_of h) (pdl_cons (pd_var 0) (pdl_cons (pd_var 1) (pdl_nil))))))))
noncomputable def b_l_law_begun : DenS := sSeq (sSet 1 (dLc true [2] (dIt (dVar 0)) (gNm 2) (dTruth isBl (dBin opGe (dArgs fAbs (dCons (dVar 2) (dNil))) (dBin opPow (dC (.int 10)) (dC (.int 18))))) (dBin opSub (dArgs fAbs (dCons (dVar 2) (dNil))) (dBin opPow (dC (.int 10)) (dC (.int 18)))))) (sRet (dDisp true [("great", dVar 1), ("cells", dLc false [2] (dIt (dVar 0)) (gNm 2) dYes (dArgs fAbs (dCons (dVar 2) (dNil)))), ("rest", dC (.int 0)), ("turn", dC (.int 0))]))
noncomputable def f_l_law_begun : List D → Sto → Option (R D) := runF true 1 3 b_l_law_begun
theorem fd_l_law_begun (h : Hy P w C base) : FD P w C base 1 "_law_begun" s_l_law_begun ["script"] f_l_law_begun := by
  obtain ⟨a, fd, m, F, B⟩ := h.f_l_law_begun.ex
  exact fd_ok true m F sc_l_law_begun (by decide) B fun cdv A outer s H E ha => (psd_cons (psd_setLc (i := 1) (true) ([("cell", 2)]) (blk_by (by rfl)) (pid_it (pd_var 0)) (fun _ _ _ _ _ => pgd_name 2) (fun _ _ _ _ _ => ptsd_one (pdb_cmp op_ge sem_cmpI (pd_callB call_abs sem_abs h.z_abs (pdl_cons (pd_var 2) (pdl_nil))) (pd_op op_pow sem_pow (pd_int) (pd_int)) (nomark _))) (fun _ _ _ _ _ => pd_op op_sub sem_sub (pd_callB call_abs sem_abs h.z_abs (pdl_cons (pd_var 2) (pdl_nil))) (pd_op op_pow sem_pow (pd_int) (pd_int)))) (psd_one (psd_ret (pd_disp true (ppd_cons (pd_var 1) (ppd_cons (pd_lc false [("cell", 2)] (blk_by (by rfl)) (pid_it (pd_var 0)) (fun _ _ _ _ _ => pgd_name 2) (fun _ _ _ _ _ => ptsd_nil) (fun _ _ _ _ _ => pd_callB call_abs sem_abs h.z_abs (pdl_cons (pd_var 2) (pdl_nil)))) (ppd_cons (pd_int) (ppd_cons (pd_int) (ppd_nil)))))))))
noncomputable def b_l_law_blended : DenS := sSeq (sPar 1 2 (dCons (dBin (opAdd false) (dBin opIx (dVar 0) (dC (.str "turn"))) (dC (.int 1))) (dCons (dC (.int 0)) (dNil)))) (sSeq (sAsg (dVar 1) (gSb setOb (dVar 0) (dC (.str "turn")))) (sSeq (sFor (dIt (dArgs (fLst false) (dCons (dC (.int 2147483579)) (dCons (dC (.int 2147483629)) (dCons (dC (.int 2147483563)) (dNil)))))) (gNm 3) (sSeq (sSet 4 (dBin (opAdd false) (dBin (opMul false) (dC (.int 48271)) (dVar 1)) (dBin opFdiv (dVar 3) (dC (.int 53))))) (sSeq (sFor (dIt (dBin opIx (dVar 0) (dC (.str "cells")))) (gNm 5) (sSet 4 (dBin opMod (dArgs fInt (dCons (dBin (opAdd false) (dBin (opAdd false) (dBin (opMul false) (dVar 4) (dC (.int 69621))) (dVar 5)) (dVar 1)) (dNil))) (dVar 3)))) (sSet 2 (dBin (opAdd false) (dBin (opMul false) (dVar 2) (dC (.int 2147483647))) (dBin opMod (dArgs fInt (dCons (dBin opPow (dVar 4) (dC (.int 5))) (dNil))) (dVar 3))))))) (sRet (dVar 2))))
noncomputable def f_l_law_blended : List D → Sto → Option (R D) := runF false 1 6 b_l_law_blended
theorem fd_l_law_blended (h : Hy P w C base) : FD P w C base 1 "_law_blended" s_l_law_blended ["state"] f_l_law_blended := by
  obtain ⟨a, fd, m, F, B⟩ := h.f_l_law_blended.ex
  exact fd_ok false m F sc_l_law_blended (by decide) B fun cdv A outer s H E ha => (psd_cons (psd_par (i := 1) (j := 2) (pdl_cons (pd_op op_addA (sem_add false) (pd_ix (ix_any gu1) sem_ix (pd_var 0) (pd_str)) (pd_int)) (pdl_cons (pd_int) (pdl_nil)))) (psd_cons (psd_asg (pd_var 1) (pgd_sub (set_any gu1) sem_set (pd_var 0) (pd_str))) (psd_cons (psd_for (pid_it (pd_lst false (pdl_cons (pd_int) (pdl_cons (pd_int) (pdl_cons (pd_int) (pdl_nil)))))) (pgd_name 3) (psd_cons (psd_set (i := 4) (pd_op op_addA (sem_add false) (pd_op op_mulA (sem_mul false) (pd_int) (pd_var 1)) (pd_op op_fdivA sem_fdiv (pd_var 3) (pd_int)))) (psd_cons (psd_for (pid_it (pd_ix (ix_any gu1) sem_ix (pd_var 0) (pd_str))) (pgd_name 5) (psd_one (psd_set (i := 4) (pd_op op_modN sem_mod (pd_callTy call_int1 sem_int h.z_int (pdl_cons (pd_op op_addA (sem_add false) (pd_op op_addA (sem_add false) (pd_op op_mulA (sem_mul false) (pd_var 4) (pd_int)) (pd_var 5)) (pd_var 1)) (pdl_nil))) (pd_var 3))))) (psd_one (psd_set (i := 2) (pd_op op_addA (sem_add false) (pd_op op_mulA (sem_mul false) (pd_var 2) (pd_int)) (pd_op op_modN sem_mod (pd_callTy call_int1 sem_int h.z_int (pdl_cons (pd_op op_pow sem_pow (pd_var 4) (pd_int)) (pdl_nil))) (pd_var 3)))))))) (psd_one (psd_ret (pd_var 2))))))
noncomputable def b_l_law_draw : DenS := sSeq (sIf (dTruth isBl (dBin opEq (dBin opIx (dVar 0) (dC (.str "rest"))) (dC (.int 0)))) (sAsg (dIf (dTruth isBl (dBin opNe (dBin opIx (dVar 0) (dC (.str "great"))) (dArgs (fLst false) (dNil)))) (dMethL mPopAt (dBin opIx (dVar 0) (dC (.str "great"))) (dCons (dC (.int 0)) (dNil))) (dArgs f_l_law_blended (dCons (dVar 0) (dNil)))) (gSb setOb (dVar 0) (dC (.str "rest")))) (sSkip)) (sSeq (sSet 2 (dBin opMod (dArgs fInt (dCons (dBin opIx (dVar 0) (dC (.str "rest"))) (dNil))) (dVar 1))) (sSeq (sAsg (dBin opFdiv (dBin opIx (dVar 0) (dC (.str "rest"))) (dVar 1)) (gSb setOb (dVar 0) (dC (.str "rest")))) (sRet (dVar 2))))
noncomputable def f_l_law_draw : List D → Sto → Option (R D) := runF false 2 3 b_l_law_draw
theorem fd_l_law_draw (h : Hy P w C base) : FD P w C base 2 "_law_draw" s_l_law_draw ["state", "room"] f_l_law_draw := by
  obtain ⟨a, fd, m, F, B⟩ := h.f_l_law_draw.ex
  exact fd_ok false m F sc_l_law_draw (by decide) B fun cdv A outer s H E ha => (psd_cons (psd_if (pdb_cmp (op_eqA gu64) sem_eq (pd_ix (ix_any gu1) sem_ix (pd_var 0) (pd_str)) (pd_int) (nomark _)) (psd_one (psd_asg (pd_if (pdb_cmp (op_neA gu64) sem_ne (pd_ix (ix_any gu1) sem_ix (pd_var 0) (pd_str)) (pd_lst false (pdl_nil)) (nomark _)) (pd_ml PySem.F.slot_list_pop PySem.F.type_list_pop mt_popAt sem_popAt (pd_ix (ix_any gu1) sem_ix (pd_var 0) (pd_str)) (pdl_cons (pd_int) (pdl_nil))) (pd_call (fd_l_law_blended h) (pdl_cons (pd_var 0) (pdl_nil)))) (pgd_sub (set_any gu1) sem_set (pd_var 0) (pd_str)))) (psd_nil)) (psd_cons (psd_set (i := 2) (pd_op op_modN sem_mod (pd_callTy call_int1 sem_int h.z_int (pdl_cons (pd_ix (ix_any gu1) sem_ix (pd_var 0) (pd_str)) (pdl_nil))) (pd_var 1))) (psd_cons (psd_asg (pd_op op_fdivA sem_fdiv (pd_ix (ix_any gu1) sem_ix (pd_var 0) (pd_str)) (pd_var 1)) (pgd_sub (set_any gu1) sem_set (pd_var 0) (pd_str))) (psd_one (psd_ret (pd_var 2))))))
noncomputable def b_l_law_pick : DenS := sRet (dBin opIx (dVar 1) (dArgs f_l_law_draw (dCons (dVar 0) (dCons (dArgs fLen (dCons (dVar 1) (dNil))) (dNil)))))
noncomputable def f_l_law_pick : List D → Sto → Option (R D) := runF false 2 2 b_l_law_pick
theorem fd_l_law_pick (h : Hy P w C base) : FD P w C base 3 "_law_pick" s_l_law_pick ["state", "some"] f_l_law_pick := by
  obtain ⟨a, fd, m, F, B⟩ := h.f_l_law_pick.ex
  exact fd_ok false m F sc_l_law_pick (by decide) B fun cdv A outer s H E ha => (psd_one (psd_ret (pd_ix (ix_any gu1) sem_ix (pd_var 1) (pd_call (fd_l_law_draw h) (pdl_cons (pd_var 0) (pdl_cons (pd_callB call_lenA sem_len h.z_len (pdl_cons (pd_var 1) (pdl_nil))) (pdl_nil)))))))
noncomputable def b_l_law_shuffled : DenS := sSeq (sPar 2 3 (dCons (dArgs (fList true) (dCons (dVar 1) (dNil))) (dCons (dArgs (fLst true) (dNil)) (dNil)))) (sSeq (sWhile (dTruth isBl (dBin opNe (dVar 2) (dArgs (fLst false) (dNil)))) (sExpr (dMethL mAppend (dVar 3) (dCons (dMethL mPopAt (dVar 2) (dCons (dArgs f_l_law_draw (dCons (dVar 0) (dCons (dArgs fLen (dCons (dVar 2) (dNil))) (dNil)))) (dNil))) (dNil))))) (sRet (dVar 3)))
noncomputable def f_l_law_shuffled : List D → Sto → Option (R D) := runF false 2 4 b_l_law_shuffled
theorem fd_l_law_shuffled (h : Hy P w C base) : FD P w C base 3 "_law_shuffled" s_l_law_shuffled ["state", "some"] f_l_law_shuffled := by
  obtain ⟨a, fd, m, F, B⟩ := h.f_l_law_shuffled.ex
  exact fd_ok false m F sc_l_law_shuffled (by decide) B fun cdv A outer s H E ha => (psd_cons (psd_par (i := 2) (j := 3) (pdl_cons (pd_callTy call_list_of (sem_list true) h.z_list (pdl_cons (pd_var 1) (pdl_nil))) (pdl_cons (pd_lst true (pdl_nil)) (pdl_nil)))) (psd_cons (psd_while (pdb_cmp (op_neA gu64) sem_ne (pd_var 2) (pd_lst false (pdl_nil)) (nomark _)) (psd_one (psd_expr (pd_ml PySem.F.slot_list_append PySem.F.type_list_append mt_append sem_append (pd_var 3) (pdl_cons (pd_ml PySem.F.slot_list_pop PySem.F.type_list_pop mt_popAt sem_popAt (pd_var 2) (pdl_cons (pd_call (fd_l_law_draw h) (pdl_cons (pd_var 0) (pdl_cons (pd_callB call_lenA sem_len h.z_len (pdl_cons (pd_var 2) (pdl_nil))) (pdl_nil)))) (pdl_nil))) (pdl_nil)))))) (psd_one (psd_ret (pd_var 3)))))
noncomputable def b_l_law_is_truth : DenS := sRet (dIf (dTruth truD (dVar 1)) (dBin opIs (dVar 0) (dC (.bl true))) (dBin opIs (dVar 0) (dC (.bl false))))
noncomputable def f_l_law_is_truth : List D → Sto → Option (R D) := runF false 2 2 b_l_law_is_truth
theorem fd_l_law_is_truth (h : Hy P w C base) : FD P w C base 1 "_law_is_truth" s_l_law_is_truth ["found", "due"] f_l_law_is_truth := by
  obtain ⟨a, fd, m, F, B⟩ := h.f_l_law_is_truth.ex
  exact fd_ok false m F sc_l_law_is_truth (by decide) B fun cdv A outer s H E ha => (psd_one (psd_ret (pd_if (pdb_truth (pd_var 1)) (pd_cmp op_isA sem_is (pd_var 0) (pd_bl) (nomark _)) (pd_cmp op_isA sem_is (pd_var 0) (pd_bl) (nomark _)))))
noncomputable def b_l_law_same : DenS := sSeq (sSet 2 (dArgs (fLst true) (dCons (dArgs fTup (dCons (dVar 0) (dCons (dVar 1) (dNil)))) (dNil)))) (sSeq (sWhile (dTruth isBl (dBin opNe (dVar 2) (dArgs (fLst false) (dNil)))) (sSeq (sAsg (dMethL0 mPop (dVar 2)) (gUnp 2 (gsCons (gNm 3) (gsCons (gNm 4) (gsNil))))) (sIf (dOr (dTruth isBl (dBin opIs (dVar 4) (dC .non))) (dTruth truD (dIsi .bl (dVar 4)))) (sIf (dIfB (dTruth isBl (dBin opIs (dVar 4) (dC .non))) (dTruth isBl (dBin opIsN (dVar 3) (dC .non))) (dNot (dTruth truD (dArgs f_l_law_is_truth (dCons (dVar 3) (dCons (dVar 4) (dNil))))))) (sRet (dC (.bl false))) (sSkip)) (sIf (dTruth truD (dIsi2 .int .str (dVar 4))) (sIf (dOr (dTruth truD (dIsi .bl (dVar 3))) (dOr (dTruth isBl (dBin opNe (dIsi .int (dVar 3)) (dIsi .int (dVar 4)))) (dTruth isBl (dBin opNe (dVar 3) (dVar 4))))) (sRet (dC (.bl false))) (sSkip)) (sIf (dTruth truD (dIsi .dct (dVar 4))) (sDead) (sSeq (sSet 6 (dArgs (fLst false) (dCons (dAndV (dIsi .tup (dVar 3)) (dIsi .tup (dVar 4))) (dCons (dAndV (dIsi .lst (dVar 3)) (dIsi .lst (dVar 4))) (dNil))))) (sSeq (sIf (dOr (dTruth isBl (dBin opNotIn (dC (.bl true)) (dVar 6))) (dTruth isBl (dBin opNe (dArgs fLen (dCons (dVar 3) (dNil))) (dArgs fLen (dCons (dVar 4) (dNil)))))) (sRet (dC (.bl false))) (sSkip)) (sExpr (dMethL mExtend (dVar 2) (dCons (dLc false [7, 8] (dZip (dCons (dVar 3) (dCons (dVar 4) (dNil)))) (gUnp 2 (gsCons (gNm 7) (gsCons (gNm 8) (gsNil)))) dYes (dArgs fTup (dCons (dVar 7) (dCons (dVar 8) (dNil))))) (dNil))))))))))) (sRet (dC (.bl true))))
noncomputable def f_l_law_same : List D → Sto → Option (R D) := runF false 2 9 b_l_law_same
theorem fd_l_law_same (h : Hy P w C base) : FD P w C base 2 "_law_same" s_l_law_same ["found", "due"] f_l_law_same := by
  obtain ⟨a, fd, m, F, B⟩ := h.f_l_law_same.ex
  exact fd_ok false m F sc_l_law_same (by decide) B fun cdv A outer s H E ha => (psd_cons (psd_set (i := 2) (pd_lst true (pdl_cons (pd_tup (pdl_cons (pd_var 0) (pdl_cons (pd_var 1) (pdl_nil)))) (pdl_nil)))) (psd_cons (psd_while (pdb_cmp (op_neA gu64) sem_ne (pd_var 2) (pd_lst false (pdl_nil)) (nomark _)) (psd_cons (psd_asg (pd_ml0 PySem.F.slot_list_pop PySem.F.type_list_pop mt_pop sem_pop (pd_var 2)) (pgd_tup (pgsd_cons (pgd_name 3) (pgsd_cons (pgd_name 4) (pgsd_nil))))) (psd_one (psd_if (pdb_w (pdw_or (pdb_cmp op_isA sem_is (pd_var 4) (pd_non) (nomark _)) (pdw_or1 (pdb_truth (pd_isi .bl (pd_var 4) h.z_isinstance h.z_bool))))) (psd_one (psd_if (pdb_if (pdb_cmp op_isA sem_is (pd_var 4) (pd_non) (nomark _)) (pdb_cmp op_isNA sem_isN (pd_var 3) (pd_non) (nomark _)) (pdb_not (pdb_truth (pd_call (fd_l_law_is_truth h) (pdl_cons (pd_var 3) (pdl_cons (pd_var 4) (pdl_nil))))))) (psd_one (psd_ret (pd_bl))) (psd_nil))) (psd_one (psd_if (pdb_truth (pd_isi2 .int .str (pd_var 4) h.z_isinstance h.z_int h.z_str)) (psd_one (psd_if (pdb_w (pdw_or (pdb_truth (pd_isi .bl (pd_var 3) h.z_isinstance h.z_bool)) (pdw_or (pdb_cmp (op_neA gu64) sem_ne (pd_isi .int (pd_var 3) h.z_isinstance h.z_int) (pd_isi .int (pd_var 4) h.z_isinstance h.z_int) (nomark _)) (pdw_or1 (pdb_cmp (op_neA gu64) sem_ne (pd_var 3) (pd_var 4) (nomark _)))))) (psd_one (psd_ret (pd_bl))) (psd_nil))) (psd_one (psd_if (pdb_truth (pd_isi .dct (pd_var 4) h.z_isinstance h.z_dict)) (psd_dead) (psd_cons (psd_set (i := 6) (pd_lst false (pdl_cons (pd_and (pd_isi .tup (pd_var 3) h.z_isinstance h.z_tuple) (pd_one (pd_isi .tup (pd_var 4) h.z_isinstance h.z_tuple))) (pdl_cons (pd_and (pd_isi .lst (pd_var 3) h.z_isinstance h.z_list) (pd_one (pd_isi .lst (pd_var 4) h.z_isinstance h.z_list))) (pdl_nil))))) (psd_cons (psd_if (pdb_w (pdw_or (pdb_cmp (op_notInA gu65) sem_notIn (pd_bl) (pd_var 6) (by rfl)) (pdw_or1 (pdb_cmp (op_neA gu64) sem_ne (pd_callB call_lenA sem_len h.z_len (pdl_cons (pd_var 3) (pdl_nil))) (pd_callB call_lenA sem_len h.z_len (pdl_cons (pd_var 4) (pdl_nil))) (nomark _))))) (psd_one (psd_ret (pd_bl))) (psd_nil)) (psd_one (psd_expr (pd_ml PySem.F.slot_list_extend PySem.F.type_list_extend mt_extend sem_extend (pd_var 2) (pdl_cons (pd_lc false [("left", 7), ("right", 8)] (blk_by (by rfl)) (pid_zip h.z_zip (pdl_cons (pd_var 3) (pdl_cons (pd_var 4) (pdl_nil)))) (fun _ _ _ _ _ => pgd_tup (pgsd_cons (pgd_name 7) (pgsd_cons (pgd_name 8) (pgsd_nil)))) (fun _ _ _ _ _ => ptsd_nil) (fun _ _ _ _ _ => pd_tup (pdl_cons (pd_var 7) (pdl_cons (pd_var 8) (pdl_nil))))) (pdl_nil))))))))))))))) (psd_one (psd_ret (pd_bl)))))
noncomputable def b_l_law_q : DenS := sSeq (sPar 2 3 (dCons (dArgs fAbs (dCons (dVar 0) (dNil))) (dCons (dArgs fAbs (dCons (dVar 1) (dNil))) (dNil)))) (sSeq (sWhile (dTruth isBl (dBin opGt (dVar 3) (dC (.int 0)))) (sPar 2 3 (dCons (dVar 3) (dCons (dBin opMod (dArgs fInt (dCons (dVar 2) (dNil))) (dVar 3)) (dNil))))) (sRet (dIf (dTruth isBl (dBin opGt (dVar 1) (dC (.int 0)))) (dArgs fTup (dCons (dBin opFdiv (dVar 0) (dVar 2)) (dCons (dBin opFdiv (dVar 1) (dVar 2)) (dNil)))) (dArgs fTup (dCons (dBin opFdiv (dUn opNeg (dVar 0)) (dVar 2)) (dCons (dBin opFdiv (dUn opNeg (dVar 1)) (dVar 2)) (dNil)))))))
noncomputable def f_l_law_q : List D → Sto → Option (R D) := runF false 2 4 b_l_law_q
theorem fd_l_law_q (h : Hy P w C base) : FD P w C base 1 "_law_q" s_l_law_q ["n", "d"] f_l_law_q := by
  obtain ⟨a, fd, m, F, B⟩ := h.f_l_law_q.ex
  exact fd_ok false m F sc_l_law_q (by decide) B fun cdv A outer s H E ha => (psd_cons (psd_par (i := 2) (j := 3) (pdl_cons (pd_callB call_abs sem_abs h.z_abs (pdl_cons (pd_var 0) (pdl_nil))) (pdl_cons (pd_callB call_abs sem_abs h.z_abs (pdl_cons (pd_var 1) (pdl_nil))) (pdl_nil)))) (psd_cons (psd_while (pdb_cmp op_gt sem_cmpI (pd_var 3) (pd_int) (nomark _)) (psd_one (psd_par (i := 2) (j := 3) (pdl_cons (pd_var 3) (pdl_cons (pd_op op_modN sem_mod (pd_callTy call_int1 sem_int h.z_int (pdl_cons (pd_var 2) (pdl_nil))) (pd_var 3)) (pdl_nil)))))) (psd_one (psd_ret (pd_if (pdb_cmp op_gt sem_cmpI (pd_var 1) (pd_int) (nomark _)) (pd_tup (pdl_cons (pd_op op_fdivA sem_fdiv (pd_var 0) (pd_var 2)) (pdl_cons (pd_op op_fdivA sem_fdiv (pd_var 1) (pd_var 2)) (pdl_nil)))) (pd_tup (pdl_cons (pd_op op_fdivA sem_fdiv (pd_un un_neg sem_neg (pd_var 0)) (pd_var 2)) (pdl_cons (pd_op op_fdivA sem_fdiv (pd_un un_neg sem_neg (pd_var 1)) (pd_var 2)) (pdl_nil)))))))))
noncomputable def b_l_law_plus : DenS := sRet (dArgs f_l_law_q (dCons (dBin (opAdd false) (dBin (opMul false) (dBin opIx (dVar 0) (dC (.int 0))) (dBin opIx (dVar 1) (dC (.int 1)))) (dBin (opMul false) (dBin opIx (dVar 1) (dC (.int 0))) (dBin opIx (dVar 0) (dC (.int 1))))) (dCons (dBin (opMul false) (dBin opIx (dVar 0) (dC (.int 1))) (dBin opIx (dVar 1) (dC (.int 1)))) (dNil))))
noncomputable def f_l_law_plus : List D → Sto → Option (R D) := runF false 2 2 b_l_law_plus
theorem fd_l_law_plus (h : Hy P w C base) : FD P w C base 2 "_law_plus" s_l_law_plus ["one", "other"] f_l_law_plus := by
  obtain ⟨a, fd, m, F, B⟩ := h.f_l_law_plus.ex
  exact fd_ok false m F sc_l_law_plus (by decide) B fun cdv A outer s H E ha => (psd_one (psd_ret (pd_call (fd_l_law_q h) (pdl_cons (pd_op op_addA (sem_add false) (pd_op op_mulA (sem_mul false) (pd_ix (ix_any gu1) sem_ix (pd_var 0) (pd_int)) (pd_ix (ix_any gu1) sem_ix (pd_var 1) (pd_int))) (pd_op op_mulA (sem_mul false) (pd_ix (ix_any gu1) sem_ix (pd_var 1) (pd_int)) (pd_ix (ix_any gu1) sem_ix (pd_var 0) (pd_int)))) (pdl_cons (pd_op op_mulA (sem_mul false) (pd_ix (ix_any gu1) sem_ix (pd_var 0) (pd_int)) (pd_ix (ix_any gu1) sem_ix (pd_var 1) (pd_int))) (pdl_nil))))))
noncomputable def b_l_law_minus : DenS := sRet (dArgs f_l_law_q (dCons (dBin opSub (dBin (opMul false) (dBin opIx (dVar 0) (dC (.int 0))) (dBin opIx (dVar 1) (dC (.int 1)))) (dBin (opMul false) (dBin opIx (dVar 1) (dC (.int 0))) (dBin opIx (dVar 0) (dC (.int 1))))) (dCons (dBin (opMul false) (dBin opIx (dVar 0) (dC (.int 1))) (dBin opIx (dVar 1) (dC (.int 1)))) (dNil))))
noncomputable def f_l_law_minus : List D → Sto → Option (R D) := runF false 2 2 b_l_law_minus
theorem fd_l_law_minus (h : Hy P w C base) : FD P w C base 2 "_law_minus" s_l_law_minus ["one", "other"] f_l_law_minus := by
  obtain ⟨a, fd, m, F, B⟩ := h.f_l_law_minus.ex
  exact fd_ok false m F sc_l_law_minus (by decide) B fun cdv A outer s H E ha => (psd_one (psd_ret (pd_call (fd_l_law_q h) (pdl_cons (pd_op op_sub sem_sub (pd_op op_mulA (sem_mul false) (pd_ix (ix_any gu1) sem_ix (pd_var 0) (pd_int)) (pd_ix (ix_any gu1) sem_ix (pd_var 1) (pd_int))) (pd_op op_mulA (sem_mul false) (pd_ix (ix_any gu1) sem_ix (pd_var 1) (pd_int)) (pd_ix (ix_any gu1) sem_ix (pd_var 0) (pd_int)))) (pdl_cons (pd_op op_mulA (sem_mul false) (pd_ix (ix_any gu1) sem_ix (pd_var 0) (pd_int)) (pd_ix (ix_any gu1) sem_ix (pd_var 1) (pd_int))) (pdl_nil))))))
noncomputable def b_l_law_times : DenS := sRet (dArgs f_l_law_q (dCons (dBin (opMul false) (dBin opIx (dVar 0) (dC (.int 0))) (dBin opIx (dVar 1) (dC (.int 0)))) (dCons (dBin (opMul false) (dBin opIx (dVar 0) (dC (.int 1))) (dBin opIx (dVar 1) (dC (.int 1)))) (dNil))))
noncomputable def f_l_law_times : List D → Sto → Option (R D) := runF false 2 2 b_l_law_times
theorem fd_l_law_times (h : Hy P w C base) : FD P w C base 2 "_law_times" s_l_law_times ["one", "other"] f_l_law_times := by
  obtain ⟨a, fd, m, F, B⟩ := h.f_l_law_times.ex
  exact fd_ok false m F sc_l_law_times (by decide) B fun cdv A outer s H E ha => (psd_one (psd_ret (pd_call (fd_l_law_q h) (pdl_cons (pd_op op_mulA (sem_mul false) (pd_ix (ix_any gu1) sem_ix (pd_var 0) (pd_int)) (pd_ix (ix_any gu1) sem_ix (pd_var 1) (pd_int))) (pdl_cons (pd_op op_mulA (sem_mul false) (pd_ix (ix_any gu1) sem_ix (pd_var 0) (pd_int)) (pd_ix (ix_any gu1) sem_ix (pd_var 1) (pd_int))) (pdl_nil))))))
noncomputable def b_l_law_less : DenS := sRet (dBin opLt (dBin (opMul false) (dBin opIx (dVar 0) (dC (.int 0))) (dBin opIx (dVar 1) (dC (.int 1)))) (dBin (opMul false) (dBin opIx (dVar 1) (dC (.int 0))) (dBin opIx (dVar 0) (dC (.int 1)))))
noncomputable def f_l_law_less : List D → Sto → Option (R D) := runF false 2 2 b_l_law_less
theorem fd_l_law_less (h : Hy P w C base) : FD P w C base 1 "_law_less" s_l_law_less ["one", "other"] f_l_law_less := by
  obtain ⟨a, fd, m, F, B⟩ := h.f_l_law_less.ex
  exact fd_ok false m F sc_l_law_less (by decide) B fun cdv A outer s H E ha => (psd_one (psd_ret (pd_cmp (op_ltA gu64) sem_lt (pd_op op_mulA (sem_mul false) (pd_ix (ix_any gu1) sem_ix (pd_var 0) (pd_int)) (pd_ix (ix_any gu1) sem_ix (pd_var 1) (pd_int))) (pd_op op_mulA (sem_mul false) (pd_ix (ix_any gu1) sem_ix (pd_var 1) (pd_int)) (pd_ix (ix_any gu1) sem_ix (pd_var 0) (pd_int))) (nomark _))))
noncomputable def b_l_law_sum : DenS := sSeq (sSet 1 (dArgs fTup (dCons (dC (.int 0)) (dCons (dC (.int 1)) (dNil))))) (sSeq (sFor (dIt (dVar 0)) (gNm 2) (sSet 1 (dArgs f_l_law_plus (dCons (dVar 1) (dCons (dVar 2) (dNil)))))) (sRet (dVar 1)))
noncomputable def f_l_law_sum : List D → Sto → Option (R D) := runF false 1 3 b_l_law_sum
theorem fd_l_law_sum (h : Hy P w C base) : FD P w C base 3 "_law_sum" s_l_law_sum ["some"] f_l_law_sum := by
  obtain ⟨a, fd, m, F, B⟩ := h.f_l_law_sum.ex
  exact fd_ok false m F sc_l_law_sum (by decide) B fun cdv A outer s H E ha => (psd_cons (psd_set (i := 1) (pd_tup (pdl_cons (pd_int) (pdl_cons (pd_int) (pdl_nil))))) (psd_cons (psd_for (pid_it (pd_var 0)) (pgd_name 2) (psd_one (psd_set (i := 1) (pd_call (fd_l_law_plus h) (pdl_cons (pd_var 1) (pdl_cons (pd_var 2) (pdl_nil))))))) (psd_one (psd_ret (pd_var 1)))))
noncomputable def b_l_law_words : DenS := sSeq (sSet 2 (dArgs (fLst false) (dNil))) (sSeq (sWhile (dTruth isBl (dBin opLt (dArgs fLen (dCons (dVar 2) (dNil))) (dVar 1))) (sSeq (sSet 3 (dJoin (dC (.str "")) (dLc false [4] (dRange1 (dCons (dBin (opAdd false) (dC (.int 1)) (dArgs f_l_law_draw (dCons (dVar 0) (dCons (dC (.int 8)) (dNil))))) (dNil))) (gNm 4) dYes (dArgs f_l_law_pick (dCons (dVar 0) (dCons (dArgs (fListS false) (dCons (dC (.str "abcdefghijklmnopqrstuvwxyz")) (dNil))) (dNil))))))) (sSet 2 (dBin (opAdd false) (dVar 2) (dIf (dTruth isBl (dBin opNotIn (dVar 3) (dVar 2))) (dArgs (fLst false) (dCons (dVar 3) (dNil))) (dIf (dAnd (dTruth isBl (dBin opNotIn (dBin (opAdd false) (dSlice (opSl false) (dVar 3) dNoPart (dPart (dC (.int 1)))) (dBin (opMul false) (dC (.str "q")) (dArgs fLen (dCons (dVar 2) (dNil))))) (dVar 2))) (dTruth isBl (dBin opLt (dArgs fLen (dCons (dVar 2) (dNil))) (dC (.int 8))))) (dArgs (fLst false) (dCons (dBin (opAdd false) (dSlice (opSl false) (dVar 3) dNoPart (dPart (dC (.int 1)))) (dBin (opMul false) (dC (.str "q")) (dArgs fLen (dCons (dVar 2) (dNil))))) (dNil))) (dArgs (fLst false) (dNil)))))))) (sRet (dArgs (fSorted false) (dCons (dVar 2) (dNil)))))
noncomputable def f_l_law_words : List D → Sto → Option (R D) := runF false 2 5 b_l_law_words
theorem fd_l_law_words (h : Hy P w C base) : FD P w C base 4 "_law_words" s_l_law_words ["draws", "many"] f_l_law_words := by
  obtain ⟨a, fd, m, F, B⟩ := h.f_l_law_words.ex
  exact fd_ok false m F sc_l_law_words (by decide) B fun cdv A outer s H E ha => (psd_cons (psd_set (i := 2) (pd_lst false (pdl_nil))) (psd_cons (psd_while (pdb_cmp (op_ltA gu64) sem_lt (pd_callB call_lenA sem_len h.z_len (pdl_cons (pd_var 2) (pdl_nil))) (pd_var 1) (nomark _)) (psd_cons (psd_set (i := 3) (pd_join (pd_str) (pd_lc false [("lap", 4)] (blk_by (by rfl)) (pid_range1 h.z_range (pdl_cons (pd_op op_addA (sem_add false) (pd_int) (pd_call (fd_l_law_draw h) (pdl_cons (pd_var 0) (pdl_cons (pd_int) (pdl_nil))))) (pdl_nil))) (fun _ _ _ _ _ => pgd_name 4) (fun _ _ _ _ _ => ptsd_nil) (fun _ _ _ _ _ => pd_call (fd_l_law_pick h) (pdl_cons (pd_var 0) (pdl_cons (pd_callTy (call_list_text rfl) (sem_listS false) h.z_list (pdl_cons (pd_str) (pdl_nil))) (pdl_nil))))))) (psd_one (psd_set (i := 2) (pd_op op_addA (sem_add false) (pd_var 2) (pd_if (pdb_cmp (op_notInA gu65) sem_notIn (pd_var 3) (pd_var 2) (by rfl)) (pd_lst false (pdl_cons (pd_var 3) (pdl_nil))) (pd_if (pdb_w (pdw_and (pdb_cmp (op_notInA gu65) sem_notIn (pd_op op_addA (sem_add false) (pd_slice sl_all (sem_sl false) (pd_var 3) pdo_none (pdo_some (pd_int))) (pd_op op_mulA (sem_mul false) (pd_str) (pd_callB call_lenA sem_len h.z_len (pdl_cons (pd_var 2) (pdl_nil))))) (pd_var 2) (by rfl)) (pdw_and1 (pdb_cmp (op_ltA gu64) sem_lt (pd_callB call_lenA sem_len h.z_len (pdl_cons (pd_var 2) (pdl_nil))) (pd_int) (nomark _))))) (pd_lst false (pdl_cons (pd_op op_addA (sem_add false) (pd_slice sl_all (sem_sl false) (pd_var 3) pdo_none (pdo_some (pd_int))) (pd_op op_mulA (sem_mul false) (pd_str) (pd_callB call_lenA sem_len h.z_len (pdl_cons (pd_var 2) (pdl_nil))))) (pdl_nil))) (pd_lst false (pdl_nil))))))))) (psd_one (psd_ret (pd_callB (call_sortD gu68) (sem_sorted false) h.z_sorted (pdl_cons (pd_var 2) (pdl_nil)))))))
noncomputable def b_l_law_number : DenS := sSeq (sPar 2 3 (dCons (dArgs f_l_law_draw (dCons (dVar 0) (dCons (dBin (opAdd false) (dVar 1) (dC (.int 1))) (dNil)))) (dCons (dBin (opAdd false) (dC (.int 1)) (dArgs f_l_law_draw (dCons (dVar 0) (dCons (dArgs f_l_law_pick (dCons (dVar 0) (dCons (dArgs (fLst false) (dCons (dC (.int 1)) (dCons (dC (.int 1)) (dCons (dC (.int 3)) (dCons (dVar 1) (dNil)))))) (dNil)))) (dNil))))) (dNil)))) (sRet (dArgs f_l_law_q (dCons (dIf (dTruth isBl (dBin opEq (dArgs f_l_law_draw (dCons (dVar 0) (dCons (dC (.int 2)) (dNil)))) (dC (.int 0)))) (dVar 2) (dBin opSub (dC (.int 0)) (dVar 2))) (dCons (dVar 3) (dNil)))))
noncomputable def f_l_law_number : List D → Sto → Option (R D) := runF false 2 4 b_l_law_number
theorem fd_l_law_number (h : Hy P w C base) : FD P w C base 4 "_law_number" s_l_law_number ["draws", "size"] f_l_law_number := by
  obtain ⟨a, fd, m, F, B⟩ := h.f_l_law_number.ex
  exact fd_ok false m F sc_l_law_number (by decide) B fun cdv A outer s H E ha => (psd_cons (psd_par (i := 2) (j := 3) (pdl_cons (pd_call (fd_l_law_draw h) (pdl_cons (pd_var 0) (pdl_cons (pd_op op_addA (sem_add false) (pd_var 1) (pd_int)) (pdl_nil)))) (pdl_cons (pd_op op_addA (sem_add false) (pd_int) (pd_call (fd_l_law_draw h) (pdl_cons (pd_var 0) (pdl_cons (pd_call (fd_l_law_pick h) (pdl_cons (pd_var 0) (pdl_cons (pd_lst false (pdl_cons (pd_int) (pdl_cons (pd_int) (pdl_cons (pd_int) (pdl_cons (pd_var 1) (pdl_nil)))))) (pdl_nil)))) (pdl_nil))))) (pdl_nil)))) (psd_one (psd_ret (pd_call (fd_l_law_q h) (pdl_cons (pd_if (pdb_cmp (op_eqA gu64) sem_eq (pd_call (fd_l_law_draw h) (pdl_cons (pd_var 0) (pdl_cons (pd_int) (pdl_nil)))) (pd_int) (nomark _)) (pd_var 2) (pd_op op_sub sem_sub (pd_int) (pd_var 2))) (pdl_cons (pd_var 3) (pdl_nil)))))))
noncomputable def b_l_law_odd : DenS := sSeq (sSet 1 (dArgs (fLst false) (dCons (dC .non) (dCons (dC (.bl true)) (dCons (dC (.int 0)) (dCons (dC (.int 5)) (dCons (dC (.str "")) (dCons (dC (.str "telling")) (dCons (dArgs fTup (dNil)) (dCons (dArgs (fLst false) (dNil)) (dCons (dNewD false) (dCons (dArgs fTup (dCons (dArgs fTup (dCons (dC (.int 0)) (dCons (dC (.int 1)) (dNil)))) (dCons (dArgs fTup (dCons (dC (.int 1)) (dCons (dC (.int 1)) (dNil)))) (dCons (dArgs fTup (dCons (dC (.int 1)) (dCons (dC (.int 1)) (dNil)))) (dNil))))) (dCons (dArgs fTup (dCons (dC (.str "telling")) (dNil))) (dCons (dArgs fTup (dCons (dC (.str "telling")) (dCons (dArgs fTup (dNil)) (dNil)))) (dCons (dArgs fTup (dCons (dC (.str "deeds")) (dCons (dArgs fTup (dNil)) (dNil)))) (dCons (dArgs fTup (dCons (dC (.str "deeds")) (dNil))) (dNil))))))))))))))))) (sRet (dArgs f_l_law_pick (dCons (dVar 0) (dCons (dBin (opAdd false) (dVar 1) (dArgs (fLst false) (dCons (dArgs fTup (dCons (dArgs fTup (dCons (dC (.int 1)) (dCons (dC (.int 2)) (dNil)))) (dCons (dArgs fTup (dCons (dC (.int 1)) (dCons (dC (.int 3)) (dNil)))) (dNil)))) (dCons (dArgs fTup (dCons (dArgs fTup (dCons (dC (.int 3)) (dCons (dC (.int 2)) (dNil)))) (dCons (dArgs fTup (dCons (dUn opNeg (dC (.int 1))) (dCons (dC (.int 2)) (dNil)))) (dNil)))) (dCons (dArgs fTup (dCons (dC (.str "telling")) (dCons (dArgs fTup (dCons (dArgs fTup (dCons (dC (.str "a")) (dCons (dArgs fTup (dCons (dArgs fTup (dCons (dC (.int 1)) (dCons (dC (.int 1)) (dNil)))) (dNil))) (dNil)))) (dNil))) (dNil)))) (dCons (dArgs fTup (dCons (dArgs fTup (dCons (dC (.int 1)) (dCons (dC (.int 1)) (dNil)))) (dNil))) (dNil))))))) (dNil)))))
noncomputable def f_l_law_odd : List D → Sto → Option (R D) := runF false 1 2 b_l_law_odd
theorem fd_l_law_odd (h : Hy P w C base) : FD P w C base 4 "_law_odd" s_l_law_odd ["draws"] f_l_law_odd := by
  obtain ⟨a, fd, m, F, B⟩ := h.f_l_law_odd.ex
  exact fd_ok false m F sc_l_law_odd (by decide) B fun cdv A outer s H E ha => (psd_cons (psd_set (i := 1) (pd_lst false (pdl_cons (pd_non) (pdl_cons (pd_bl) (pdl_cons (pd_int) (pdl_cons (pd_int) (pdl_cons (pd_str) (pdl_cons (pd_str) (pdl_cons (pd_tup (pdl_nil)) (pdl_cons (pd_lst false (pdl_nil)) (pdl_cons (pd_newD false) (pdl_cons (pd_tup (pdl_cons (pd_tup (pdl_cons (pd_int) (pdl_cons (pd_int) (pdl_nil)))) (pdl_cons (pd_tup (pdl_cons (pd_int) (pdl_cons (pd_int) (pdl_nil)))) (pdl_cons (pd_tup (pdl_cons (pd_int) (pdl_cons (pd_int) (pdl_nil)))) (pdl_nil))))) (pdl_cons (pd_tup (pdl_cons (pd_str) (pdl_nil))) (pdl_cons (pd_tup (pdl_cons (pd_str) (pdl_cons (pd_tup (pdl_nil)) (pdl_nil)))) (pdl_cons (pd_tup (pdl_cons (pd_str) (pdl_cons (pd_tup (pdl_nil)) (pdl_nil)))) (pdl_cons (pd_tup (pdl_cons (pd_str) (pdl_nil))) (pdl_nil))))))))))))))))) (psd_one (psd_ret (pd_call (fd_l_law_pick h) (pdl_cons (pd_var 0) (pdl_cons (pd_op op_addA (sem_add false) (pd_var 1) (pd_lst false (pdl_cons (pd_tup (pdl_cons (pd_tup (pdl_cons (pd_int) (pdl_cons (pd_int) (pdl_nil)))) (pdl_cons (pd_tup (pdl_cons (pd_int) (pdl_cons (pd_int) (pdl_nil)))) (pdl_nil)))) (pdl_cons (pd_tup (pdl_cons (pd_tup (pdl_cons (pd_int) (pdl_cons (pd_int) (pdl_nil)))) (pdl_cons (pd_tup (pdl_cons (pd_un un_neg sem_neg (pd_int)) (pdl_cons (pd_int) (pdl_nil)))) (pdl_nil)))) (pdl_cons (pd_tup (pdl_cons (pd_str) (pdl_cons (pd_tup (pdl_cons (pd_tup (pdl_cons (pd_str) (pdl_cons (pd_tup (pdl_cons (pd_tup (pdl_cons (pd_int) (pdl_cons (pd_int) (pdl_nil)))) (pdl_nil))) (pdl_nil)))) (pdl_nil))) (pdl_nil)))) (pdl_cons (pd_tup (pdl_cons (pd_tup (pdl_cons (pd_int) (pdl_cons (pd_int) (pdl_nil)))) (pdl_nil))) (pdl_nil))))))) (pdl_nil)))))))
noncomputable def b_l_law_pp_closed : DenS := sSeq (sSet 2 (dSortSet true (dVar 1))) (sSeq (sFor (dIt (dVar 0)) (gNm 3) (sFor (dIt (dVar 0)) (gNm 4) (sFor (dIt (dVar 0)) (gNm 5) (sIf (dAnd (dTruth isBl (dBin opNe (dVar 4) (dVar 5))) (dAnd (dTruth isBl (dBin opIn (dArgs fTup (dCons (dVar 4) (dCons (dVar 3) (dNil)))) (dVar 2))) (dAnd (dTruth isBl (dBin opIn (dArgs fTup (dCons (dVar 3) (dCons (dVar 5) (dNil)))) (dVar 2))) (dTruth isBl (dBin opNotIn (dArgs fTup (dCons (dVar 4) (dCons (dVar 5) (dNil)))) (dVar 2)))))) (sExpr (dMethL mAppend (dVar 2) (dCons (dArgs fTup (dCons (dVar 4) (dCons (dVar 5) (dNil)))) (dNil)))) (sSkip))))) (sRet (dArgs fTuple (dCons (dArgs (fSorted false) (dCons (dVar 2) (dNil))) (dNil)))))
noncomputable def f_l_law_pp_closed : List D → Sto → Option (R D) := runF false 2 6 b_l_law_pp_closed
theorem fd_l_law_pp_closed (h : Hy P w C base) : FD P w C base 1 "_law_pp_closed" s_l_law_pp_closed ["words", "some"] f_l_law_pp_closed := by
  obtain ⟨a, fd, m, F, B⟩ := h.f_l_law_pp_closed.ex
  exact fd_ok false m F sc_l_law_pp_closed (by decide) B fun cdv A outer s H E ha => (psd_cons (psd_set (i := 2) (pd_sortSet true h.z_sorted h.z_set (pd_var 1))) (psd_cons (psd_for (pid_it (pd_var 0)) (pgd_name 3) (psd_one (psd_for (pid_it (pd_var 0)) (pgd_name 4) (psd_one (psd_for (pid_it (pd_var 0)) (pgd_name 5) (psd_one (psd_if (pdb_w (pdw_and (pdb_cmp (op_neA gu64) sem_ne (pd_var 4) (pd_var 5) (nomark _)) (pdw_and (pdb_cmp (op_inA gu65) sem_in (pd_tup (pdl_cons (pd_var 4) (pdl_cons (pd_var 3) (pdl_nil)))) (pd_var 2) (by rfl)) (pdw_and (pdb_cmp (op_inA gu65) sem_in (pd_tup (pdl_cons (pd_var 3) (pdl_cons (pd_var 5) (pdl_nil)))) (pd_var 2) (by rfl)) (pdw_and1 (pdb_cmp (op_notInA gu65) sem_notIn (pd_tup (pdl_cons (pd_var 4) (pdl_cons (pd_var 5) (pdl_nil)))) (pd_var 2) (by rfl))))))) (psd_one (psd_expr (pd_ml PySem.F.slot_list_append PySem.F.type_list_append mt_append sem_append (pd_var 2) (pdl_cons (pd_tup (pdl_cons (pd_var 4) (pdl_cons (pd_var 5) (pdl_nil)))) (pdl_nil))))) (psd_nil)))))))) (psd_one (psd_ret (pd_callTy call_tuple_of sem_tuple h.z_tuple (pdl_cons (pd_callB (call_sortD gu68) (sem_sorted false) h.z_sorted (pdl_cons (pd_var 2) (pdl_nil))) (pdl_nil)))))))
noncomputable def b_l_law_pp_holders : DenS := sSeq (sSet 2 (dArgs f_l_law_words (dCons (dVar 0) (dCons (dBin (opAdd false) (dC (.int 2)) (dArgs f_l_law_draw (dCons (dVar 0) (dCons (dBin opSub (dVar 1) (dC (.int 1))) (dNil))))) (dNil))))) (sSeq (sAsg (dArgs fTup (dCons (dLc false [5] (dIt (dVar 2)) (gNm 5) dYes (dBin (opAdd false) (dC (.int 1)) (dArgs f_l_law_draw (dCons (dVar 0) (dCons (dArgs f_l_law_pick (dCons (dVar 0) (dCons (dArgs (fLst false) (dCons (dC (.int 1)) (dCons (dC (.int 5)) (dNil)))) (dNil)))) (dNil)))))) (dCons (dArgs f_l_law_pick (dCons (dVar 0) (dCons (dArgs (fLst false) (dCons (dC (.int 2)) (dCons (dC (.int 5)) (dCons (dC (.int 30)) (dNil))))) (dNil)))) (dNil)))) (gUnp 2 (gsCons (gNm 3) (gsCons (gNm 4) (gsNil))))) (sSeq (sSet 6 (dArgs fTuple (dCons (dLc false [5, 7] (dZip (dCons (dVar 2) (dCons (dVar 3) (dNil)))) (gUnp 2 (gsCons (gNm 5) (gsCons (gNm 7) (gsNil)))) dYes (dArgs fTup (dCons (dVar 5) (dCons (dArgs f_l_law_q (dCons (dVar 7) (dCons (dArgs fSum (dCons (dVar 3) (dNil))) (dNil)))) (dCons (dArgs f_l_law_number (dCons (dVar 0) (dCons (dVar 4) (dNil)))) (dNil)))))) (dNil)))) (sSeq (sPar 8 9 (dCons (dArgs (fLst true) (dNil)) (dCons (dArgs f_l_law_draw (dCons (dVar 0) (dCons (dC (.int 5)) (dNil)))) (dNil)))) (sSeq (sSet 10 (dArgs f_l_law_shuffled (dCons (dVar 0) (dCons (dVar 2) (dNil))))) (sSeq (sFor (dEnum (dCons (dVar 10) (dNil))) (gUnp 2 (gsCons (gNm 11) (gsCons (gNm 12) (gsNil)))) (sFor (dIt (dSlice (opSl false) (dVar 10) (dPart (dBin (opAdd false) (dVar 11) (dC (.int 1)))) dNoPart)) (gNm 13) (sIf (dAnd (dTruth isBl (dBin opGt (dVar 9) (dC (.int 0)))) (dTruth isBl (dBin opEq (dArgs f_l_law_draw (dCons (dVar 0) (dCons (dArgs f_l_law_pick (dCons (dVar 0) (dCons (dArgs (fLst false) (dCons (dC (.int 1)) (dCons (dC (.int 2)) (dCons (dC (.int 3)) (dNil))))) (dNil)))) (dNil)))) (dC (.int 0))))) (sSeq (sExpr (dMethL mAppend (dVar 8) (dCons (dArgs fTup (dCons (dVar 12) (dCons (dVar 13) (dNil)))) (dNil)))) (sSet 8 (dBin (opAdd true) (dVar 8) (dIf (dTruth isBl (dBin opEq (dArgs f_l_law_draw (dCons (dVar 0) (dCons (dC (.int 6)) (dNil)))) (dC (.int 0)))) (dArgs (fLst false) (dCons (dArgs fTup (dCons (dVar 13) (dCons (dVar 12) (dNil)))) (dNil))) (dArgs (fLst false) (dNil)))))) (sSkip)))) (sRet (dArgs fTup (dCons (dC (.str "holders")) (dCons (dVar 6) (dCons (dArgs f_l_law_pp_closed (dCons (dVar 2) (dCons (dVar 8) (dNil)))) (dNil)))))))))))
noncomputable def f_l_law_pp_holders : List D → Sto → Option (R D) := runF false 2 14 b_l_law_pp_holders
theorem fd_l_law_pp_holders (h : Hy P w C base) : FD P w C base 5 "_law_pp_holders" s_l_law_pp_holders ["draws", "many"] f_l_law_pp_holders := by
  obtain ⟨a, fd, m, F, B⟩ := h.f_l_law_pp_holders.ex
  exact fd_ok false m F sc_l_law_pp_holders (by decide) B fun cdv A outer s H E ha => (psd_cons (psd_set (i := 2) (pd_call (fd_l_law_words h) (pdl_cons (pd_var 0) (pdl_cons (pd_op op_addA (sem_add false) (pd_int) (pd_call (fd_l_law_draw h) (pdl_cons (pd_var 0) (pdl_cons (pd_op op_sub sem_sub (pd_var 1) (pd_int)) (pdl_nil))))) (pdl_nil))))) (psd_cons (psd_asg (pd_tup (pdl_cons (pd_lc false [("word", 5)] (blk_by (by rfl)) (pid_it (pd_var 2)) (fun _ _ _ _ _ => pgd_name 5) (fun _ _ _ _ _ => ptsd_nil) (fun _ _ _ _ _ => pd_op op_addA (sem_add false) (pd_int) (pd_call (fd_l_law_draw h) (pdl_cons (pd_var 0) (pdl_cons (pd_call (fd_l_law_pick h) (pdl_cons (pd_var 0) (pdl_cons (pd_lst false (pdl_cons (pd_int) (pdl_cons (pd_int) (pdl_nil)))) (pdl_nil)))) (pdl_nil)))))) (pdl_cons (pd_call (fd_l_law_pick h) (pdl_cons (pd_var 0) (pdl_cons (pd_lst false (pdl_cons (pd_int) (pdl_cons (pd_int) (pdl_cons (pd_int) (pdl_nil))))) (pdl_nil)))) (pdl_nil)))) (pgd_tup (pgsd_cons (pgd_name 3) (pgsd_cons (pgd_name 4) (pgsd_nil))))) (psd_cons (psd_set (i := 6) (pd_callTy call_tuple_of sem_tuple h.z_tuple (pdl_cons (pd_lc false [("word", 5), ("weight", 7)] (blk_by (by rfl)) (pid_zip h.z_zip (pdl_cons (pd_var 2) (pdl_cons (pd_var 3) (pdl_nil)))) (fun _ _ _ _ _ => pgd_tup (pgsd_cons (pgd_name 5) (pgsd_cons (pgd_name 7) (pgsd_nil)))) (fun _ _ _ _ _ => ptsd_nil) (fun _ _ _ _ _ => pd_tup (pdl_cons (pd_var 5) (pdl_cons (pd_call (fd_l_law_q h) (pdl_cons (pd_var 7) (pdl_cons (pd_callB (cr_sum rfl) sem_sum h.z_sum (pdl_cons (pd_var 3) (pdl_nil))) (pdl_nil)))) (pdl_cons (pd_call (fd_l_law_number h) (pdl_cons (pd_var 0) (pdl_cons (pd_var 4) (pdl_nil)))) (pdl_nil)))))) (pdl_nil)))) (psd_cons (psd_par (i := 8) (j := 9) (pdl_cons (pd_lst true (pdl_nil)) (pdl_cons (pd_call (fd_l_law_draw h) (pdl_cons (pd_var 0) (pdl_cons (pd_int) (pdl_nil)))) (pdl_nil)))) (psd_cons (psd_set (i := 10) (pd_call (fd_l_law_shuffled h) (pdl_cons (pd_var 0) (pdl_cons (pd_var 2) (pdl_nil))))) (psd_cons (psd_for (pid_enum h.z_enumerate (pdl_cons (pd_var 10) (pdl_nil))) (pgd_tup (pgsd_cons (pgd_name 11) (pgsd_cons (pgd_name 12) (pgsd_nil)))) (psd_one (psd_for (pid_it (pd_slice sl_all (sem_sl false) (pd_var 10) (pdo_some (pd_op op_addA (sem_add false) (pd_var 11) (pd_int))) pdo_none)) (pgd_name 13) (psd_one (psd_if (pdb_w (pdw_and (pdb_cmp op_gt sem_cmpI (pd_var 9) (pd_int) (nomark _)) (pdw_and1 (pdb_cmp (op_eqA gu64) sem_eq (pd_call (fd_l_law_draw h) (pdl_cons (pd_var 0) (pdl_cons (pd_call (fd_l_law_pick h) (pdl_cons (pd_var 0) (pdl_cons (pd_lst false (pdl_cons (pd_int) (pdl_cons (pd_int) (pdl_cons (pd_int) (pdl_nil))))) (pdl_nil)))) (pdl_nil)))) (pd_int) (nomark _))))) (psd_cons (psd_expr (pd_ml PySem.F.slot_list_append PySem.F.type_list_append mt_append sem_append (pd_var 8) (pdl_cons (pd_tup (pdl_cons (pd_var 12) (pdl_cons (pd_var 13) (pdl_nil)))) (pdl_nil)))) (psd_one (psd_set (i := 8) (pd_op op_addA (sem_add true) (pd_var 8) (pd_if (pdb_cmp (op_eqA gu64) sem_eq (pd_call (fd_l_law_draw h) (pdl_cons (pd_var 0) (pdl_cons (pd_int) (pdl_nil)))) (pd_int) (nomark _)) (pd_lst false (pdl_cons (pd_tup (pdl_cons (pd_var 13) (pdl_cons (pd_var 12) (pdl_nil)))) (pdl_nil))) (pd_lst false (pdl_nil))))))) (psd_nil)))))) (psd_one (psd_ret (pd_tup (pdl_cons (pd_str) (pdl_cons (pd_var 6) (pdl_cons (pd_call (fd_l_law_pp_closed h) (pdl_cons (pd_var 2) (pdl_cons (pd_var 8) (pdl_nil)))) (pdl_nil)))))))))))))
noncomputable def b_l_law_pp_words : DenS := sRet (dLc false [1] (dIt (dBin opIx (dVar 0) (dC (.int 1)))) (gNm 1) dYes (dBin opIx (dVar 1) (dC (.int 0))))
noncomputable def f_l_law_pp_words : List D → Sto → Option (R D) := runF false 1 2 b_l_law_pp_words
theorem fd_l_law_pp_words (h : Hy P w C base) : FD P w C base 1 "_law_pp_words" s_l_law_pp_words ["holders"] f_l_law_pp_words := by
  obtain ⟨a, fd, m, F, B⟩ := h.f_l_law_pp_words.ex
  exact fd_ok false m F sc_l_law_pp_words (by decide) B fun cdv A outer s H E ha => (psd_one (psd_ret (pd_lc false [("row", 1)] (blk_by (by rfl)) (pid_it (pd_ix (ix_any gu1) sem_ix (pd_var 0) (pd_int))) (fun _ _ _ _ _ => pgd_name 1) (fun _ _ _ _ _ => ptsd_nil) (fun _ _ _ _ _ => pd_ix (ix_any gu1) sem_ix (pd_var 1) (pd_int)))))
noncomputable def b_l_law_pp_can : DenS := sRet (dOrV (dBin opEq (dVar 1) (dVar 2)) (dBin opIn (dArgs fTup (dCons (dVar 1) (dCons (dVar 2) (dNil)))) (dBin opIx (dVar 0) (dC (.int 2)))))
noncomputable def f_l_law_pp_can : List D → Sto → Option (R D) := runF false 3 3 b_l_law_pp_can
theorem fd_l_law_pp_can (h : Hy P w C base) : FD P w C base 1 "_law_pp_can" s_l_law_pp_can ["holders", "one", "other"] f_l_law_pp_can := by
  obtain ⟨a, fd, m, F, B⟩ := h.f_l_law_pp_can.ex
  exact fd_ok false m F sc_l_law_pp_can (by decide) B fun cdv A outer s H E ha => (psd_one (psd_ret (pd_or (pd_cmp (op_eqA gu64) sem_eq (pd_var 1) (pd_var 2) (nomark _)) (pd_one (pd_cmp (op_inA gu65) sem_in (pd_tup (pdl_cons (pd_var 1) (pdl_cons (pd_var 2) (pdl_nil)))) (pd_ix (ix_any gu1) sem_ix (pd_var 0) (pd_int)) (by rfl))))))
noncomputable def b_l_law_pp_least : DenS := sSeq (sSet 1 (dBin opIx (dVar 0) (dC (.int 0)))) (sSeq (sFor (dIt (dVar 0)) (gNm 2) (sSet 1 (dIf (dTruth truD (dArgs f_l_law_less (dCons (dVar 2) (dCons (dVar 1) (dNil))))) (dVar 2) (dVar 1)))) (sRet (dVar 1)))
noncomputable def f_l_law_pp_least : List D → Sto → Option (R D) := runF false 1 3 b_l_law_pp_least
theorem fd_l_law_pp_least (h : Hy P w C base) : FD P w C base 2 "_law_pp_least" s_l_law_pp_least ["some"] f_l_law_pp_least := by
  obtain ⟨a, fd, m, F, B⟩ := h.f_l_law_pp_least.ex
  exact fd_ok false m F sc_l_law_pp_least (by decide) B fun cdv A outer s H E ha => (psd_cons (psd_set (i := 1) (pd_ix (ix_any gu1) sem_ix (pd_var 0) (pd_int))) (psd_cons (psd_for (pid_it (pd_var 0)) (pgd_name 2) (psd_one (psd_set (i := 1) (pd_if (pdb_truth (pd_call (fd_l_law_less h) (pdl_cons (pd_var 2) (pdl_cons (pd_var 1) (pdl_nil))))) (pd_var 2) (pd_var 1))))) (psd_one (psd_ret (pd_var 1)))))
noncomputable def b_l_law_pp_most : DenS := sSeq (sSet 1 (dBin opIx (dVar 0) (dC (.int 0)))) (sSeq (sFor (dIt (dVar 0)) (gNm 2) (sSet 1 (dIf (dTruth truD (dArgs f_l_law_less (dCons (dVar 1) (dCons (dVar 2) (dNil))))) (dVar 2) (dVar 1)))) (sRet (dVar 1)))
noncomputable def f_l_law_pp_most : List D → Sto → Option (R D) := runF false 1 3 b_l_law_pp_most
theorem fd_l_law_pp_most (h : Hy P w C base) : FD P w C base 2 "_law_pp_most" s_l_law_pp_most ["some"] f_l_law_pp_most := by
  obtain ⟨a, fd, m, F, B⟩ := h.f_l_law_pp_most.ex
  exact fd_ok false m F sc_l_law_pp_most (by decide) B fun cdv A outer s H E ha => (psd_cons (psd_set (i := 1) (pd_ix (ix_any gu1) sem_ix (pd_var 0) (pd_int))) (psd_cons (psd_for (pid_it (pd_var 0)) (pgd_name 2) (psd_one (psd_set (i := 1) (pd_if (pdb_truth (pd_call (fd_l_law_less h) (pdl_cons (pd_var 1) (pdl_cons (pd_var 2) (pdl_nil))))) (pd_var 2) (pd_var 1))))) (psd_one (psd_ret (pd_var 1)))))
noncomputable def b_l_law_pp_outcome : DenS := sSeq (sSet 2 (dArgs f_l_law_pp_words (dCons (dVar 0) (dNil)))) (sRet (dArgs fTuple (dCons (dLc false [5] (dIt (dVar 2)) (gNm 5) dYes (dArgs f_l_law_pp_most (dCons (dLc false [3, 4] (dZip (dCons (dVar 1) (dCons (dVar 2) (dNil)))) (gUnp 2 (gsCons (gNm 3) (gsCons (gNm 4) (gsNil)))) (dTruth truD (dArgs f_l_law_pp_can (dCons (dVar 0) (dCons (dVar 5) (dCons (dVar 4) (dNil)))))) (dVar 3)) (dNil)))) (dNil))))
noncomputable def f_l_law_pp_outcome : List D → Sto → Option (R D) := runF false 2 6 b_l_law_pp_outcome
theorem fd_l_law_pp_outcome (h : Hy P w C base) : FD P w C base 3 "_law_pp_outcome" s_l_law_pp_outcome ["holders", "promise"] f_l_law_pp_outcome := by
  obtain ⟨a, fd, m, F, B⟩ := h.f_l_law_pp_outcome.ex
  exact fd_ok false m F sc_l_law_pp_outcome (by decide) B fun cdv A outer s H E ha => (psd_cons (psd_set (i := 2) (pd_call (fd_l_law_pp_words h) (pdl_cons (pd_var 0) (pdl_nil)))) (psd_one (psd_ret (pd_callTy call_tuple_of sem_tuple h.z_tuple (pdl_cons (pd_lc false [("word", 5)] (blk_by (by rfl)) (pid_it (pd_var 2)) (fun _ _ _ _ _ => pgd_name 5) (fun _ _ _ _ _ => ptsd_nil) (fun _ _ _ _ _ => pd_call (fd_l_law_pp_most h) (pdl_cons (pd_lc false [("part", 3), ("paper", 4)] (blk_by (by rfl)) (pid_zip h.z_zip (pdl_cons (pd_var 1) (pdl_cons (pd_var 2) (pdl_nil)))) (fun _ _ _ _ _ => pgd_tup (pgsd_cons (pgd_name 3) (pgsd_cons (pgd_name 4) (pgsd_nil)))) (fun _ _ _ _ _ => ptsd_one (pdb_truth (pd_call (fd_l_law_pp_can h) (pdl_cons (pd_var 0) (pdl_cons (pd_var 5) (pdl_cons (pd_var 4) (pdl_nil))))))) (fun _ _ _ _ _ => pd_var 3)) (pdl_nil)))) (pdl_nil))))))
noncomputable def b_l_law_pp_loss : DenS := sSeq (sSet 2 (dLc false [3, 4] (dZip (dCons (dVar 1) (dCons (dBin opIx (dVar 0) (dC (.int 1))) (dNil)))) (gUnp 2 (gsCons (gNm 3) (gsCons (gNm 4) (gsNil)))) dYes (dArgs f_l_law_minus (dCons (dVar 3) (dCons (dBin opIx (dVar 4) (dC (.int 2))) (dNil)))))) (sRet (dArgs f_l_law_sum (dCons (dLc false [5, 4] (dZip (dCons (dVar 2) (dCons (dBin opIx (dVar 0) (dC (.int 1))) (dNil)))) (gUnp 2 (gsCons (gNm 5) (gsCons (gNm 4) (gsNil)))) dYes (dArgs f_l_law_times (dCons (dBin opIx (dVar 4) (dC (.int 1))) (dCons (dArgs f_l_law_times (dCons (dVar 5) (dCons (dVar 5) (dNil)))) (dNil))))) (dNil))))
noncomputable def f_l_law_pp_loss : List D → Sto → Option (R D) := runF false 2 6 b_l_law_pp_loss
theorem fd_l_law_pp_loss (h : Hy P w C base) : FD P w C base 4 "_law_pp_loss" s_l_law_pp_loss ["holders", "told"] f_l_law_pp_loss := by
  obtain ⟨a, fd, m, F, B⟩ := h.f_l_law_pp_loss.ex
  exact fd_ok false m F sc_l_law_pp_loss (by decide) B fun cdv A outer s H E ha => (psd_cons (psd_setLc (i := 2) (false) ([("part", 3), ("row", 4)]) (blk_by (by rfl)) (pid_zip h.z_zip (pdl_cons (pd_var 1) (pdl_cons (pd_ix (ix_any gu1) sem_ix (pd_var 0) (pd_int)) (pdl_nil)))) (fun _ _ _ _ _ => pgd_tup (pgsd_cons (pgd_name 3) (pgsd_cons (pgd_name 4) (pgsd_nil)))) (fun _ _ _ _ _ => ptsd_nil) (fun _ _ _ _ _ => pd_call (fd_l_law_minus h) (pdl_cons (pd_var 3) (pdl_cons (pd_ix (ix_any gu1) sem_ix (pd_var 4) (pd_int)) (pdl_nil))))) (psd_one (psd_ret (pd_call (fd_l_law_sum h) (pdl_cons (pd_lc false [("gap", 5), ("row", 4)] (blk_by (by rfl)) (pid_zip h.z_zip (pdl_cons (pd_var 2) (pdl_cons (pd_ix (ix_any gu1) sem_ix (pd_var 0) (pd_int)) (pdl_nil)))) (fun _ _ _ _ _ => pgd_tup (pgsd_cons (pgd_name 5) (pgsd_cons (pgd_name 4) (pgsd_nil)))) (fun _ _ _ _ _ => ptsd_nil) (fun _ _ _ _ _ => pd_call (fd_l_law_times h) (pdl_cons (pd_ix (ix_any gu1) sem_ix (pd_var 4) (pd_int)) (pdl_cons (pd_call (fd_l_law_times h) (pdl_cons (pd_var 5) (pdl_cons (pd_var 5) (pdl_nil)))) (pdl_nil))))) (pdl_nil))))))
noncomputable def fs_law_ask : FS := fun x => if x = "outcome" then some f_outcome else if x = "loss" then some f_loss else none
theorem ok_fs_law_ask (h : Hy P w C base) : ∀ f F, fs_law_ask f = some F → ∃ j sd ps, FD P w C base j f sd ps F ∧ j ≤ 8 := fun f F e => by
  unfold fs_law_ask at e
  split at e
  · cases e; subst f; exact ⟨_, _, _, fd_outcome h, by decide⟩
  split at e
  · cases e; subst f; exact ⟨_, _, _, fd_loss h, by decide⟩
  cases e
noncomputable def b_law : DenS := sSeq (sSet 1 (dArgs f_l_law_begun (dCons (dVar 0) (dNil)))) (sSeq (sFor (dRange1 (dCons (dBin (opAdd false) (dC (.int 3)) (dArgs fMin2 (dCons (dArgs fLen (dCons (dVar 0) (dNil))) (dCons (dC (.int 5)) (dNil))))) (dNil))) (gNm 2) (sSeq (sSet 3 (dArgs f_l_law_pp_holders (dCons (dVar 1) (dCons (dC (.int 6)) (dNil))))) (sSeq (sAsg (dArgs fTup (dCons (dArgs fLen (dCons (dBin opIx (dVar 3) (dC (.int 1))) (dNil))) (dCons (dArgs f_l_law_pp_words (dCons (dVar 3) (dNil))) (dNil)))) (gUnp 2 (gsCons (gNm 4) (gsCons (gNm 5) (gsNil))))) (sSeq (sSet 6 (dArgs fTuple (dCons (dLc false [7] (dRange1 (dCons (dVar 4) (dNil))) (gNm 7) dYes (dArgs f_l_law_number (dCons (dVar 1) (dCons (dC (.int 9)) (dNil))))) (dNil)))) (sSeq (sSet 8 (dArgs f_l_law_pp_outcome (dCons (dVar 3) (dCons (dVar 6) (dNil))))) (sSeq (sIf (dNot (dTruth truD (dArgs f_l_law_same (dCons (dArgs (fLst false) (dCons (dArgs f_outcome (dCons (dVar 3) (dCons (dVar 6) (dNil)))) (dCons (dArgsK [1, 0] f_outcome (dCons (dVar 6) (dCons (dVar 3) (dNil)))) (dNil)))) (dCons (dArgs (fLst false) (dCons (dVar 8) (dCons (dVar 8) (dNil)))) (dNil)))))) (sRet (dC (.bl false))) (sSkip)) (sSeq (sSet 9 (dArgs (fDict false) (dCons (dListZip false (dCons (dVar 5) (dCons (dVar 8) (dNil)))) (dNil)))) (sSeq (sIf (dTruth isBl (dBin opNe (dLc false [10, 11] (dIt (dBin opIx (dVar 3) (dC (.int 2)))) (gUnp 2 (gsCons (gNm 10) (gsCons (gNm 11) (gsNil)))) (dTruth truD (dArgs f_l_law_less (dCons (dBin opIx (dVar 9) (dVar 10)) (dCons (dBin opIx (dVar 9) (dVar 11)) (dNil))))) (dC (.int 1))) (dArgs (fLst false) (dNil)))) (sRet (dC (.bl false))) (sSkip)) (sSeq (sSet 12 (dArgs fTuple (dCons (dLc false [13] (dIt (dVar 5)) (gNm 13) dYes (dArgs f_l_law_pp_least (dCons (dLc false [11] (dIt (dVar 5)) (gNm 11) (dTruth truD (dArgs f_l_law_pp_can (dCons (dVar 3) (dCons (dVar 11) (dCons (dVar 13) (dNil)))))) (dBin opIx (dVar 9) (dVar 11))) (dNil)))) (dNil)))) (sSeq (sIf (dNot (dTruth truD (dArgs f_l_law_same (dCons (dArgs f_outcome (dCons (dVar 3) (dCons (dVar 12) (dNil)))) (dCons (dVar 8) (dNil)))))) (sRet (dC (.bl false))) (sSkip)) (sSeq (sFor (dIt (dArgs (fLst false) (dCons (dVar 8) (dCons (dVar 6) (dNil))))) (gNm 14) (sSeq (sSet 15 (dArgs f_l_law_pp_loss (dCons (dVar 3) (dCons (dVar 14) (dNil))))) (sIf (dNot (dTruth truD (dArgs f_l_law_same (dCons (dArgs (fLst false) (dCons (dArgs f_loss (dCons (dVar 3) (dCons (dVar 14) (dNil)))) (dCons (dArgsK [1, 0] f_loss (dCons (dVar 14) (dCons (dVar 3) (dNil)))) (dNil)))) (dCons (dArgs (fLst false) (dCons (dVar 15) (dCons (dVar 15) (dNil)))) (dNil)))))) (sRet (dC (.bl false))) (sSkip)))) (sSeq (sAsg (dArgs fTup (dCons (dArgs f_l_law_odd (dCons (dVar 1) (dNil))) (dCons (dArgs f_l_law_pick (dCons (dVar 1) (dCons (dArgs (fLst false) (dCons (dC .non) (dCons (dArgs (fList false) (dCons (dVar 6) (dNil))) (dCons (dSlice (opSl false) (dVar 6) (dPart (dC (.int 1))) dNoPart) (dCons (dBin (opAdd false) (dVar 6) (dArgs fTup (dCons (dArgs fTup (dCons (dC (.int 0)) (dCons (dC (.int 1)) (dNil)))) (dNil)))) (dCons (dBin (opMul false) (dArgs fTup (dCons (dC (.int 0)) (dNil))) (dVar 4)) (dCons (dBin (opMul false) (dArgs fTup (dCons (dArgs fTup (dCons (dC (.int 2)) (dCons (dC (.int 4)) (dNil)))) (dNil))) (dVar 4)) (dCons (dBin (opMul false) (dArgs fTup (dCons (dArgs fTup (dCons (dC (.int 1)) (dCons (dC (.int 0)) (dNil)))) (dNil))) (dVar 4)) (dCons (dBin (opMul false) (dArgs fTup (dCons (dC (.bl true)) (dNil))) (dVar 4)) (dNil)))))))))) (dNil)))) (dNil)))) (gUnp 2 (gsCons (gNm 16) (gsCons (gNm 17) (gsNil))))) (sSeq (sFor (dIt (dArgs (fLst false) (dCons (dC (.fn "outcome")) (dCons (dC (.fn "loss")) (dNil))))) (gNm 18) (sIf (dNot (dTruth truD (dIsX "BadHolders" (dCaught clsN (dCallV 18 fs_law_ask (dCons (dVar 16) (dCons (dVar 17) (dNil)))))))) (sRet (dC (.bl false))) (sSkip))) (sSeq (sIf (dNot (dTruth truD (dIsX "BadPromise" (dCaught clsN (dArgs f_outcome (dCons (dVar 3) (dCons (dVar 17) (dNil)))))))) (sRet (dC (.bl false))) (sSkip)) (sIf (dNot (dTruth truD (dIsX "BadOutcome" (dCaught clsN (dArgs f_loss (dCons (dVar 3) (dCons (dVar 17) (dNil)))))))) (sRet (dC (.bl false))) (sSkip)))))))))))))))) (sRet (dC (.bl true))))
noncomputable def f_law : List D → Sto → Option (R D) := runF false 1 19 b_law
end Pd
end
section
set_option Elab.async false
set_option linter.all false
set_option maxRecDepth 100000
set_option maxHeartbeats 4000000
namespace Pd
open PySem PySem.Spec L2 LamX
open PyProof.Rows hiding St
section
variable {K : PySem.W.Frag} {h : Heap} {mg : Str → Option Value} {T : List (Addr × Str)}
theorem defD_mk (X : K.In h) (G : h.Ns mainGlobals mg) {x : Str} {st : Stmt} {ps : List Str} {f : Addr} {oc : Value} {od an : Option Addr} {osl : Array (Option Value)} {kV doc pm cdv ct : Value}
    (e : PySem.W.nsIn K mainGlobals x = some (some (.ref f))) (l : K.lookup f = some ⟨oc, od, .func (PySem.W.fnOf x x (defArgs st) (defBody st) (defScope st) .none kV doc pm an cdv ct), osl⟩)
    (c : PySem.W.codeIn K cdv x = true) (k : PySem.W.keepIn K (.ref f) = true)
    (hb : ∀ (kV doc pm : Value) (an : Option Addr) (cdv ct : Value) (us : List Value), us.length = ps.length → bindArgs (PySem.W.fnOf x x (defArgs st) (defBody st) (defScope st) .none kV doc pm an cdv ct) ⟨us, []⟩ = pure (ps.zip us)) :
    DefD ⟨K, mg, T⟩ x st ps := ⟨f, _, PySem.W.mg_of X G e, fun_mk l c k, (fun_mk l c k).binds hb⟩
theorem gvI_mk (X : K.In h) (G : h.Ns mainGlobals mg) {x : Str} {i : Int} {t : Tok} (e : PySem.W.nsIn K mainGlobals x = some (some (.int i t))) : GV ⟨K, mg, T⟩ x (.int i) := GV.int (PySem.W.mg_of X G e)
theorem gvS_mk (X : K.In h) (G : h.Ns mainGlobals mg) {x y : Str} {t : Tok} (e : PySem.W.nsIn K mainGlobals x = some (some (.str y t))) : GV ⟨K, mg, T⟩ x (.str y) := GV.str (PySem.W.mg_of X G e)
theorem gvT_mk (X : K.In h) (G : h.Ns mainGlobals mg) {x : Str} {ds : List D} {vs : List V} {a : Addr} {od : Option Addr} {its : Array Value} {n : Nat} {sl : Array (Option Value)}
    (e : PySem.W.nsIn K mainGlobals x = some (some (.ref a))) (l : K.lookup a = some ⟨.type "tuple", od, .seq its n, sl⟩) (hs : its.size ≤ sizeLine) (hv : Vals vs its.toList)
    (hr : ∀ ρ Z H, RVs ⟨K, mg, T⟩ ρ Z H ds vs) : GV ⟨K, mg, T⟩ x (.tup ds) :=
  ⟨.ref a, _, PySem.W.mg_of X G e, rfl, fun ρ Z H => by
    unfold RV
    exact ⟨a, vs, rfl, .inr ⟨_, its, n, l, rfl, rfl, hs, hv⟩, hr ρ Z H⟩⟩
theorem excD_mk (X : K.In h) (G : h.Ns mainGlobals mg) {x : Str} {a : Addr} (e : PySem.W.nsIn K mainGlobals x = some (some (.ref a)))
    (h1 : PySem.W.excIn K a [.type "ValueError", .type "Exception", .type "BaseException", .type "object"] "ValueError.__new__" = true) (h2 : PySem.W.keepIn K (.ref a) = true)
    (h3 : PySem.W.subIn K (.ref a) (.type "BaseException") = some true) (h4 : PySem.W.typeIn K (.ref a) = some (.type "type"))
    (hg : PySem.W.findIn K (.ref a) "__getattribute__" = some (some (.builtin "BaseException.__getattribute__"))) (hk : PySem.W.findIn K (.ref a) "__getattr__" = some none)
    (hd : PySem.W.hasDictIn K a = true) (ha : PySem.W.findIn K (.ref a) "__class__" = some (some (.builtin "object.__class__")))
    (hn : PySem.W.specialIn K (.builtin "object.__class__") "__get__" = some (some (.builtin "getset_descriptor.__get__"))) (ht : PySem.W.takesIn K (.builtin "object.__class__") = some true)
    (hm : PySem.W.mroIn K a (.type "object") = some true) (kt : PySem.W.kitOne K (.ref a) (.ref a) = some true) : ExcD ⟨K, mg, T⟩ x :=
  ⟨a, PySem.W.mg_of X G e, h1, h2, h3, h4, ⟨hg, hk, h3, hd, ha, hn, ht, hm⟩, kt⟩
theorem cls_nil {CS : Addr} : ∀ c, c ∈ ([] : List Str) → ∀ cls, mg c = some (.ref cls) → PySem.W.exmOne K (.ref cls) (.ref CS) = some true := fun _ h => nomatch h
theorem cls_cons (X : K.In h) (G : h.Ns mainGlobals mg) {CS : Addr} {x : Str} {r : List Str} {a : Addr} (e : PySem.W.nsIn K mainGlobals x = some (some (.ref a)))
    (h1 : PySem.W.subIn K (.ref CS) (.type "BaseException") = some true) (hd : PySem.W.hasDictIn K CS = true) (ht : PySem.W.typeIn K (.ref CS) = some (.type "type")) (h4 : PySem.W.subIn K (.ref a) (.ref CS) = some true)
    (hr : ∀ c, c ∈ r → ∀ cls, mg c = some (.ref cls) → PySem.W.exmOne K (.ref cls) (.ref CS) = some true) :
    ∀ c, c ∈ x :: r → ∀ cls, mg c = some (.ref cls) → PySem.W.exmOne K (.ref cls) (.ref CS) = some true := fun c hc cls hm => by
  rcases List.mem_cons.mp hc with z | z
  · subst z
    rw [PySem.W.mg_of X G e] at hm
    cases hm
    exact PySem.W.exm_ref h1 hd ht h4
  · exact hr c z cls hm
/-- the script stands as a list of the written part, or as a list of our own, or as a frozen one -/
theorem rvs_ints {C : Ct} {ρ Z : List Addr} {H : Hp} : ∀ ns : List Int, RVs C ρ Z H (ns.map D.int) (ns.map V.int)
  | [] => by unfold RVs; rfl
  | n :: ns => by
    unfold RVs
    exact ⟨.int n, ns.map V.int, rfl, by unfold RV; rfl, rvs_ints ns⟩
/-- the law at a script: what the plain function answers is what is asked -/
theorem ask_law {C : Ct} {f : List D → Sto → Option (R D)} {H : Hp} {a : Addr} {ns : List Int} (hT : ∀ p ∈ C.T, H p.1 = some (.tbl #[])) (hS : SqL C.K H a (ns.map V.int))
    (h1 : f [.scr (ns.map D.int)] [] = some (.ok (.bl true) [])) (h2 : f [.lst (ns.map D.int)] [] = some (.ok (.bl true) [])) :
    spD C 1 f [.ref a] H (fun v _ => v = .bl true) fun _ _ _ => False := by
  have S : RS C [] [] H [] := ⟨rfl, List.nodup_nil, fun n a o e => by simp at e, fun p hp => TabS.nil (hT p hp), fun a h => (nomatch h), fun a h => (nomatch h)⟩
  have now : ∀ d : D, RV C [] [] H d (.ref a) → f [d] [] = some (.ok (.bl true) []) → spD C 1 f [.ref a] H (fun v _ => v = .bl true) fun _ _ _ => False := fun d r e => by
    refine ⟨[], [], [], [d], S, by unfold RVs; exact ⟨_, _, rfl, r, by unfold RVs; rfl⟩, rfl, ?_⟩
    rw [e]
    unfold After
    intro ρ' H' v _ _ r
    exact rv_bl.mp r
  rcases hS with z | z
  · rcases z with z | ⟨o, z⟩
    · refine now (.lst (ns.map D.int)) ?_ h2
      unfold RV
      exact ⟨a, _, rfl, ⟨z, by simp, by simp⟩, rvs_ints ns⟩
    · refine now (.scr (ns.map D.int)) ?_ h1
      unfold RV
      exact ⟨a, _, rfl, .inl ⟨o, z, by simp, by simp⟩, rvs_ints ns⟩
  · refine now (.scr (ns.map D.int)) ?_ h1
    unfold RV
    exact ⟨a, _, rfl, .inr z, rvs_ints ns⟩
end
end Pd
end
section
set_option Elab.async false
set_option linter.all false
set_option maxRecDepth 100000
namespace Pd
open PySem PySem.Spec L2 LamX
open PyProof.Rows hiding St
/-! ### evaluation of plain functions -/
theorem bindR_ok {α β : Type} (a : α) (st : Sto) (f : α → Sto → Option (R β)) : bindR (some (.ok a st)) f = f a st := rfl
theorem bindS_ok (a : D) (st : Sto) (env : En) (f : D → Sto → Option Out) : bindS (some (.ok a st)) env f = f a st := rfl
theorem bindSB_ok (a : Bool) (st : Sto) (env : En) (f : Bool → Sto → Option Out) : bindSB (some (.ok a st)) env f = f a st := rfl
theorem fin_same (d : D) (st : Sto) : fin st.length d st = some (.ok d st) := by simp [fin]
theorem endF_rt (keep : Bool) (d : D) (st : Sto) : endF keep st.length (some (.rt d st)) = some (.ok d st) := by
  cases keep <;> simp [endF, finK, fin]
theorem endF_nx (keep : Bool) (env : En) (st : Sto) : endF keep st.length (some (.nx env st)) = some (.ok .non st) := by
  cases keep <;> simp [endF, finK, fin]
/-- a ratio as data -/
def eR (q : Rat) : D := .tup [.int q.num, .int q.den]
theorem two_le : 2 ≤ sizeLine := by decide
theorem divInt_num {n d : Int} (hd : d ≠ 0) : (Rat.divInt n d).num = n.fdiv (if 0 < d then (n.gcd d : Int) else -(n.gcd d : Int)) := by
  rw [Rat.num_divInt, Int.gcd_comm d n]
  have h1 : ((n.gcd d : Nat) : Int) ∣ n := Int.gcd_dvd_left _ _
  split
  · rename_i h
    rw [Int.sign_eq_one_of_pos h, Int.fdiv_eq_ediv_of_dvd h1, Int.one_mul]
  · rename_i h
    have : d < 0 := by omega
    rw [Int.sign_eq_neg_one_of_neg this, Int.fdiv_eq_ediv_of_dvd (Int.neg_dvd.mpr h1), Int.ediv_neg, Int.neg_one_mul, Int.neg_ediv_of_dvd h1]
theorem divInt_den {n d : Int} (hd : d ≠ 0) : ((Rat.divInt n d).den : Int) = d.fdiv (if 0 < d then (n.gcd d : Int) else -(n.gcd d : Int)) := by
  rw [Rat.den_divInt, if_neg hd, Int.gcd_comm d n]
  have h1 : ((n.gcd d : Nat) : Int) ∣ d := Int.gcd_dvd_right _ _
  split
  · rename_i h
    rw [Int.fdiv_eq_ediv_of_dvd h1]
    have : (d.natAbs : Int) = d := by omega
    rw [Int.natCast_ediv, this]
  · rename_i h
    rw [Int.fdiv_eq_ediv_of_dvd (Int.neg_dvd.mpr h1), Int.ediv_neg]
    have : (d.natAbs : Int) = -d := by omega
    rw [Int.natCast_ediv, this, Int.neg_ediv_of_dvd h1]
theorem gcd_log {n d : Int} {k : Nat} (hd : d ≠ 0) (hs : d.natAbs.log2 < k) : (n.gcd d).log2 < k := by
  have hg : n.gcd d ≠ 0 := fun z => hd (Int.gcd_eq_zero_iff.mp z).2
  have h0 : d.natAbs ≠ 0 := by omega
  have hle : n.gcd d ≤ d.natAbs := Nat.le_of_dvd (by omega) (Nat.gcd_dvd_right _ _)
  exact (Nat.log2_lt hg).mpr (Nat.lt_of_le_of_lt hle ((Nat.log2_lt h0).mp hs))
theorem f_lowest_ok {n d : Int} (st : Sto) (hd : d ≠ 0) (hs : d.natAbs.log2 < 9000) : f_lowest [.int n, .int d] st = some (.ok (eR (Rat.divInt n d)) st) := by
  unfold eR
  rw [divInt_num hd, divInt_den hd]
  have hg : n.gcd d ≠ 0 := fun z => hd (Int.gcd_eq_zero_iff.mp z).2
  have hl := gcd_log (n := n) hd hs
  unfold Int.gcd at hg hl
  unfold f_lowest runF b_lowest Int.gcd
  by_cases h : 0 < d
  · simp [sSeq, sSet, dIf, dTruth, dBin, dVar, dC, dArgs, dCons, dNil, bindR_ok, bindS_ok, opCmp, ok1, isBl, h, fGcd, opFdiv, hl, sRet, fTup, two_le, endF_rt]
    simp [hg, hd, bindR_ok, bindS_ok, two_le, endF_rt]
  · simp [sSeq, sSet, dIf, dTruth, dBin, dUn, opNeg, dVar, dC, dArgs, dCons, dNil, bindR_ok, bindS_ok, opCmp, ok1, isBl, h, fGcd, opFdiv, hl, sRet, fTup, two_le, endF_rt]
    simp [hg, hd, bindR_ok, bindS_ok, two_le, endF_rt]
/-! ### while -/
section
variable {c : DenB} {db : DenS} {env : En} {st : Sto} {o : Out}
theorem m_whileN_succ : ∀ (n : Nat) (env : En) (st : Sto), whileN c db n env st = some o → whileN c db (n + 1) env st = some o
  | 0, _, _, h => by simp [whileN] at h
  | n + 1, env, st, h => by
    unfold whileN at h ⊢
    cases e : c env st with
    | none => rw [e] at h; simp [bindSB] at h
    | some r =>
      rw [e] at h
      cases r with
      | ex x s => simpa [bindSB] using h
      | ok k s =>
        simp only [bindSB] at h ⊢
        cases k with
        | false => simpa using h
        | true =>
          simp only [if_true] at h ⊢
          cases e2 : db env s with
          | none => rw [e2] at h; exact h
          | some r2 =>
            rw [e2] at h
            cases r2 with
            | nx env2 s2 => exact m_whileN_succ n env2 s2 h
            | ct env2 s2 => exact m_whileN_succ n env2 s2 h
            | bk env2 s2 => exact h
            | rt d s2 => exact h
            | ex x e s2 => exact h
theorem m_whileN_le {n m : Nat} (h : n ≤ m) (e : whileN c db n env st = some o) : whileN c db m env st = some o := by
  induction h with
  | refl => exact e
  | step _ ih => exact m_whileN_succ _ _ _ ih
theorem m_sWhile_of {n : Nat} (e : whileN c db n env st = some o) : sWhile c db env st = some o := by
  have hx : ∃ n o, whileN c db n env st = some o := ⟨n, o, e⟩
  unfold sWhile
  rw [dif_pos hx]
  obtain ⟨o', e'⟩ := Classical.choose_spec hx
  rw [e']
  have h1 := m_whileN_le (Nat.le_max_left n (Classical.choose hx)) e
  have h2 := m_whileN_le (Nat.le_max_right n (Classical.choose hx)) e'
  rw [h1] at h2
  exact h2.symm
theorem m_sWhile_get (e : sWhile c db env st = some o) : ∃ n, whileN c db n env st = some o := by
  unfold sWhile at e
  split at e
  · exact ⟨_, e⟩
  · cases e
theorem m_sWhile_end {st1 : Sto} (h : c env st = some (.ok false st1)) : sWhile c db env st = some (.nx env st1) :=
  m_sWhile_of (n := 1) (by simp [whileN, h, bindSB])
theorem m_sWhile_go {st1 st2 : Sto} {env2 : En} (h : c env st = some (.ok true st1)) (h2 : db env st1 = some (.nx env2 st2)) (h3 : sWhile c db env2 st2 = some o) : sWhile c db env st = some o := by
  obtain ⟨n, e⟩ := m_sWhile_get h3
  exact m_sWhile_of (n := n + 1) (by simp [whileN, h, bindSB, h2, e])
theorem m_sWhile_rt {st1 st2 : Sto} {d : D} (h : c env st = some (.ok true st1)) (h2 : db env st1 = some (.rt d st2)) : sWhile c db env st = some (.rt d st2) :=
  m_sWhile_of (n := 1) (by simp [whileN, h, bindSB, h2])
end
/-! ### the law's own lowest terms: it divides as Euclid did -/
theorem q_loop (n d : Int) (st : Sto) : ∀ (b a : Nat), ∃ z, sWhile (dTruth isBl (dBin opGt (dVar 3) (dC (.int 0)))) (sPar 2 3 (dCons (dVar 3) (dCons (dBin opMod (dArgs fInt (dCons (dVar 2) (dNil))) (dVar 3)) (dNil))))
    [some (.int n), some (.int d), some (.int a), some (.int b)] st = some (.nx [some (.int n), some (.int d), some (.int (Nat.gcd a b : Nat)), z] st) := by
  intro b
  induction b using Nat.strongRecOn with
  | ind b ih =>
    intro a
    by_cases h : b = 0
    · subst h
      exact ⟨_, by rw [Nat.gcd_zero_right]; exact m_sWhile_end (by simp [dTruth, dBin, dVar, dC, bindR_ok, opCmp, ok1, isBl])⟩
    · obtain ⟨z, hz⟩ := ih (a % b) (Nat.mod_lt _ (by omega)) b
      refine ⟨z, ?_⟩
      refine m_sWhile_go (st1 := st) (st2 := st) (env2 := [some (.int n), some (.int d), some (.int b), some (.int ((a % b : Nat) : Int))]) (by simp [dTruth, dBin, dVar, dC, bindR_ok, opCmp, ok1, isBl]; omega) ?_ ?_
      · simp [sPar, dCons, dVar, dBin, dArgs, fInt, ok1, bindR_ok, opMod, dNil, h]
        exact Int.fmod_eq_emod_of_nonneg _ (by omega)
      · rw [hz, Nat.gcd_comm b (a % b), ← Nat.gcd_rec, Nat.gcd_comm]
theorem f_q_ok {n d : Int} (st : Sto) (hd : d ≠ 0) (hs : d.natAbs.log2 < 9000) : f_l_law_q [.int n, .int d] st = some (.ok (eR (Rat.divInt n d)) st) := by
  unfold eR
  rw [divInt_num hd, divInt_den hd]
  have hg : n.gcd d ≠ 0 := fun z => hd (Int.gcd_eq_zero_iff.mp z).2
  have hl := gcd_log (n := n) hd hs
  have habs : ∀ i : Int, (if i < 0 then -i else i) = (i.natAbs : Int) := fun i => by split <;> omega
  obtain ⟨z, hz⟩ := q_loop n d st d.natAbs n.natAbs
  unfold Int.gcd at hg hl ⊢
  unfold f_l_law_q runF b_l_law_q
  simp only [List.length_cons, List.length_nil, Nat.zero_add, Nat.reduceAdd, if_true, List.map, List.replicate, Nat.reduceSub, List.cons_append, List.nil_append]
  simp only [sSeq, sPar, dCons, dArgs, dNil, dVar, fAbs, habs, List.getElem?_cons_zero, List.getElem?_cons_succ, bindR_ok, ok1, List.set, hz]
  by_cases h : 0 < d
  · simp [sRet, dIf, dTruth, dBin, dVar, dC, dArgs, dCons, dNil, bindR_ok, bindS_ok, opCmp, ok1, isBl, h, fGcd, opFdiv, hl, hg, fTup, two_le, endF_rt]
  · simp [sRet, dIf, dTruth, dBin, dUn, opNeg, dVar, dC, dArgs, dCons, dNil, bindR_ok, bindS_ok, opCmp, ok1, isBl, h, fGcd, opFdiv, hl, hg, fTup, two_le, endF_rt]
    have e : ∀ i : Int, (-i).fdiv (n.natAbs.gcd d.natAbs : Nat) = i.fdiv (-(n.natAbs.gcd d.natAbs : Nat)) := fun i => by
      rw [← Int.neg_fdiv_neg, Int.neg_neg]
    exact ⟨e n, e d⟩
/-! ### ratios of bounded size -/
def Bd (k : Nat) (q : Rat) : Prop := q.num.natAbs < 2 ^ k ∧ q.den < 2 ^ k
theorem Bd.mono {k l : Nat} {q : Rat} (h : Bd k q) (hl : k ≤ l) : Bd l q :=
  ⟨Nat.lt_of_lt_of_le h.1 (Nat.pow_le_pow_right (by decide) hl), Nat.lt_of_lt_of_le h.2 (Nat.pow_le_pow_right (by decide) hl)⟩
theorem lt_log {n k : Nat} (h : n < 2 ^ k) : n.log2 ≤ k := by
  by_cases h0 : n = 0
  · subst h0; simp
  · exact Nat.le_of_lt ((Nat.log2_lt h0).mpr h)
theorem bd_divInt {n d : Int} {k : Nat} (hd : d ≠ 0) (hn : n.natAbs < 2 ^ k) (h : d.natAbs < 2 ^ k) : Bd k (Rat.divInt n d) := by
  have hg : d.gcd n ≠ 0 := fun z => hd (Int.gcd_eq_zero_iff.mp z).1
  refine ⟨?_, ?_⟩
  · rw [Rat.num_divInt]
    have h1 : ((d.gcd n : Nat) : Int) ∣ d.sign * n := Int.dvd_mul_of_dvd_right (Int.gcd_dvd_right _ _)
    rw [Int.natAbs_ediv_of_dvd h1, Int.natAbs_mul]
    have : d.sign.natAbs = 1 := by rw [Int.natAbs_sign_of_ne_zero hd]
    rw [this, Nat.one_mul]
    exact Nat.lt_of_le_of_lt (Nat.div_le_self _ _) hn
  · rw [Rat.den_divInt, if_neg hd]
    exact Nat.lt_of_le_of_lt (Nat.div_le_self _ _) h
theorem add_divInt (x y : Rat) : x + y = Rat.divInt (x.num * y.den + y.num * x.den) (x.den * y.den) := by
  have h := Rat.divInt_add_divInt x.num y.num (d₁ := x.den) (d₂ := y.den) (by exact_mod_cast x.den_nz) (by exact_mod_cast y.den_nz)
  rwa [Rat.num_divInt_den, Rat.num_divInt_den] at h
theorem sub_divInt (x y : Rat) : x - y = Rat.divInt (x.num * y.den - y.num * x.den) (x.den * y.den) := by
  have h := Rat.divInt_sub_divInt x.num y.num (d₁ := x.den) (d₂ := y.den) (by exact_mod_cast x.den_nz) (by exact_mod_cast y.den_nz)
  rwa [Rat.num_divInt_den, Rat.num_divInt_den] at h
theorem mul_divInt (x y : Rat) : x * y = Rat.divInt (x.num * y.num) (x.den * y.den) := by
  have h := Rat.divInt_mul_divInt x.num y.num (d₁ := x.den) (d₂ := y.den)
  rwa [Rat.num_divInt_den, Rat.num_divInt_den] at h
theorem den_ne (x y : Rat) : (x.den * y.den : Int) ≠ 0 := Int.mul_ne_zero (by exact_mod_cast x.den_nz) (by exact_mod_cast y.den_nz)
theorem mul_lt2 {a b k l : Nat} (h : a < 2 ^ k) (h2 : b < 2 ^ l) : a * b < 2 ^ (k + l) := by
  rw [Nat.pow_add]
  rcases Nat.eq_zero_or_pos b with z | z
  · subst z; simp; exact Nat.mul_pos (Nat.pos_of_ne_zero (by intro z; simp [z] at h)) (by exact h2)
  · exact Nat.lt_of_lt_of_le ((Nat.mul_lt_mul_right z).mpr h) (Nat.mul_le_mul_left _ (Nat.le_of_lt h2))
section
variable {k l : Nat} {x y : Rat}
theorem bd_nums (hx : Bd k x) (hy : Bd l y) : (x.num * y.den + y.num * x.den).natAbs < 2 ^ (k + l + 1) ∧ (x.num * y.den - y.num * x.den).natAbs < 2 ^ (k + l + 1) ∧ (x.den * y.den : Int).natAbs < 2 ^ (k + l) ∧ (x.num * y.num).natAbs < 2 ^ (k + l) := by
  have h1 : (x.num * y.den).natAbs < 2 ^ (k + l) := by rw [Int.natAbs_mul]; exact mul_lt2 hx.1 hy.2
  have h2 : (y.num * x.den).natAbs < 2 ^ (k + l) := by rw [Int.natAbs_mul, Nat.mul_comm]; exact mul_lt2 hx.2 hy.1
  have h3 : (x.den * y.den : Int).natAbs < 2 ^ (k + l) := by rw [Int.natAbs_mul]; exact mul_lt2 hx.2 hy.2
  have h4 : (x.num * y.num).natAbs < 2 ^ (k + l) := by rw [Int.natAbs_mul]; exact mul_lt2 hx.1 hy.1
  have e : 2 ^ (k + l + 1) = 2 ^ (k + l) + 2 ^ (k + l) := by rw [Nat.pow_succ]; omega
  refine ⟨?_, ?_, h3, h4⟩ <;> omega
theorem Bd.add (hx : Bd k x) (hy : Bd l y) : Bd (k + l + 1) (x + y) := by
  have h := bd_nums hx hy
  rw [add_divInt]
  exact bd_divInt (den_ne x y) h.1 (Nat.lt_trans h.2.2.1 (Nat.pow_lt_pow_right (by decide) (by omega)))
theorem Bd.sub (hx : Bd k x) (hy : Bd l y) : Bd (k + l + 1) (x - y) := by
  have h := bd_nums hx hy
  rw [sub_divInt]
  exact bd_divInt (den_ne x y) h.2.1 (Nat.lt_trans h.2.2.1 (Nat.pow_lt_pow_right (by decide) (by omega)))
theorem Bd.mul (hx : Bd k x) (hy : Bd l y) : Bd (k + l) (x * y) := by
  have h := bd_nums hx hy
  rw [mul_divInt]
  exact bd_divInt (den_ne x y) h.2.2.2 h.2.2.1
theorem Bd.logs (hx : Bd k x) (hy : Bd l y) (hk : k + l < 9000) : x.num.natAbs.log2 + y.num.natAbs.log2 < 1000000 ∧ x.num.natAbs.log2 + (y.den : Int).natAbs.log2 < 1000000 ∧ y.num.natAbs.log2 + (x.den : Int).natAbs.log2 < 1000000 ∧ (x.den : Int).natAbs.log2 + (y.den : Int).natAbs.log2 < 1000000 ∧
    (x.den * y.den : Int).natAbs.log2 < 9000 := by
  have h1 := lt_log hx.1
  have h2 := lt_log hx.2
  have h3 := lt_log hy.1
  have h4 := lt_log hy.2
  have h5 := lt_log (bd_nums hx hy).2.2.1
  simp only [Int.natAbs_natCast]
  refine ⟨?_, ?_, ?_, ?_, ?_⟩ <;> omega
theorem at0 (a b : D) : atI [a, b] 0 = some a := rfl
theorem at1 (a b : D) : atI [a, b] 1 = some b := rfl
theorem ix0 (q : Rat) (st : Sto) : opIx (eR q) (.int 0) st = some (.ok (.int q.num) st) := rfl
theorem ix1 (q : Rat) (st : Sto) : opIx (eR q) (.int 1) st = some (.ok (.int q.den) st) := rfl
theorem f_plus_ok (st : Sto) (hx : Bd k x) (hy : Bd l y) (hk : k + l < 9000) : f_plus [eR x, eR y] st = some (.ok (eR (x + y)) st) := by
  obtain ⟨h1, h2, h3, h4, h5⟩ := hx.logs hy hk
  unfold f_plus runF b_plus
  simp only [Int.natAbs_natCast] at h1 h2 h3 h4
  simp [sRet, dArgs, dCons, dNil, dBin, dVar, dC, ix0, ix1, bindR_ok, bindS_ok, opMul, opAdd, ok1, h1, h2, h3, h4]
  rw [f_lowest_ok st (den_ne x y) h5, ← add_divInt]
  simp [bindS_ok, endF_rt]
theorem f_minus_ok (st : Sto) (hx : Bd k x) (hy : Bd l y) (hk : k + l < 9000) : f_minus [eR x, eR y] st = some (.ok (eR (x - y)) st) := by
  obtain ⟨h1, h2, h3, h4, h5⟩ := hx.logs hy hk
  unfold f_minus runF b_minus
  simp only [Int.natAbs_natCast] at h1 h2 h3 h4
  simp [sRet, dArgs, dCons, dNil, dBin, dVar, dC, ix0, ix1, bindR_ok, bindS_ok, opMul, opSub, ok1, h1, h2, h3, h4]
  rw [f_lowest_ok st (den_ne x y) h5, ← sub_divInt]
  simp [bindS_ok, endF_rt]
theorem f_times_ok (st : Sto) (hx : Bd k x) (hy : Bd l y) (hk : k + l < 9000) : f_times [eR x, eR y] st = some (.ok (eR (x * y)) st) := by
  obtain ⟨h1, h2, h3, h4, h5⟩ := hx.logs hy hk
  unfold f_times runF b_times
  simp only [Int.natAbs_natCast] at h1 h2 h3 h4
  simp [sRet, dArgs, dCons, dNil, dBin, dVar, dC, ix0, ix1, bindR_ok, bindS_ok, opMul, ok1, h1, h2, h3, h4]
  rw [f_lowest_ok st (den_ne x y) h5, ← mul_divInt]
  simp [bindS_ok, endF_rt]
theorem f_lplus_ok (st : Sto) (hx : Bd k x) (hy : Bd l y) (hk : k + l < 9000) : f_l_law_plus [eR x, eR y] st = some (.ok (eR (x + y)) st) := by
  obtain ⟨h1, h2, h3, h4, h5⟩ := hx.logs hy hk
  unfold f_l_law_plus runF b_l_law_plus
  simp only [Int.natAbs_natCast] at h1 h2 h3 h4
  simp [sRet, dArgs, dCons, dNil, dBin, dVar, dC, ix0, ix1, bindR_ok, bindS_ok, opMul, opAdd, ok1, h1, h2, h3, h4]
  rw [f_q_ok st (den_ne x y) h5, ← add_divInt]
  simp [bindS_ok, endF_rt]
theorem f_lminus_ok (st : Sto) (hx : Bd k x) (hy : Bd l y) (hk : k + l < 9000) : f_l_law_minus [eR x, eR y] st = some (.ok (eR (x - y)) st) := by
  obtain ⟨h1, h2, h3, h4, h5⟩ := hx.logs hy hk
  unfold f_l_law_minus runF b_l_law_minus
  simp only [Int.natAbs_natCast] at h1 h2 h3 h4
  simp [sRet, dArgs, dCons, dNil, dBin, dVar, dC, ix0, ix1, bindR_ok, bindS_ok, opMul, opSub, ok1, h1, h2, h3, h4]
  rw [f_q_ok st (den_ne x y) h5, ← sub_divInt]
  simp [bindS_ok, endF_rt]
theorem f_ltimes_ok (st : Sto) (hx : Bd k x) (hy : Bd l y) (hk : k + l < 9000) : f_l_law_times [eR x, eR y] st = some (.ok (eR (x * y)) st) := by
  obtain ⟨h1, h2, h3, h4, h5⟩ := hx.logs hy hk
  unfold f_l_law_times runF b_l_law_times
  simp only [Int.natAbs_natCast] at h1 h2 h3 h4
  simp [sRet, dArgs, dCons, dNil, dBin, dVar, dC, ix0, ix1, bindR_ok, bindS_ok, opMul, ok1, h1, h2, h3, h4]
  rw [f_q_ok st (den_ne x y) h5, ← mul_divInt]
  simp [bindS_ok, endF_rt]
theorem f_less_ok (st : Sto) (hx : Bd k x) (hy : Bd l y) (hk : k + l < 9000) : f_is_less [eR x, eR y] st = some (.ok (.bl (decide (x < y))) st) := by
  obtain ⟨h1, h2, h3, h4, h5⟩ := hx.logs hy hk
  unfold f_is_less runF b_is_less
  simp only [Int.natAbs_natCast] at h1 h2 h3 h4
  simp [sRet, dArgs, dCons, dNil, dBin, dVar, dC, ix0, ix1, bindR_ok, bindS_ok, opMul, opLt, ltD, ok1, h1, h2, h3, h4, endF_rt, Rat.lt_iff]
theorem f_lless_ok (st : Sto) (hx : Bd k x) (hy : Bd l y) (hk : k + l < 9000) : f_l_law_less [eR x, eR y] st = some (.ok (.bl (decide (x < y))) st) := by
  obtain ⟨h1, h2, h3, h4, h5⟩ := hx.logs hy hk
  unfold f_l_law_less runF b_l_law_less
  simp only [Int.natAbs_natCast] at h1 h2 h3 h4
  simp [sRet, dArgs, dCons, dNil, dBin, dVar, dC, ix0, ix1, bindR_ok, bindS_ok, opMul, opLt, ltD, ok1, h1, h2, h3, h4, endF_rt, Rat.lt_iff]
end
end Pd
end
section
set_option Elab.async false
set_option linter.all false
set_option maxRecDepth 100000
namespace Pd
open PySem PySem.Spec L2 LamX
open PyProof.Rows hiding St
/-! ### comprehensions that do not touch the store -/
theorem lcL_pure {α : Type} {dg : DenG} {dt : DenB} {de : Den} {env : En} {st : Sto} (e : α → D) (p : α → Bool) (g : α → D) : ∀ (xs : List α) (acc : List D),
    (∀ x ∈ xs, ∃ env2, dg (e x) env st = some (.ok env2 st) ∧ dt env2 st = some (.ok (p x) st) ∧ (p x = true → de env2 st = some (.ok (g x) st))) → acc.length + xs.length ≤ sizeLine →
    lcL dg dt de env (xs.map e) st acc = some (acc ++ (xs.filter p).map g, st)
  | [], acc, _, _ => by simp [lcL]
  | x :: xs, acc, h, hl => by
    obtain ⟨env2, h1, h2, h3⟩ := h x List.mem_cons_self
    have hr : ∀ y ∈ xs, ∃ env2, dg (e y) env st = some (.ok env2 st) ∧ dt env2 st = some (.ok (p y) st) ∧ (p y = true → de env2 st = some (.ok (g y) st)) := fun y hy => h y (List.mem_cons_of_mem _ hy)
    simp only [List.length_cons] at hl
    cases hp : p x with
    | false =>
      rw [hp] at h2
      simp only [List.map_cons, lcL, h1, h2, List.filter_cons, hp]
      exact lcL_pure e p g xs acc hr (by omega)
    | true =>
      rw [hp] at h2
      simp only [List.map_cons, lcL, h1, h2, List.filter_cons, hp, h3 hp, if_true]
      rw [if_pos (by omega), lcL_pure e p g xs (acc ++ [g x]) hr (by simp only [List.length_append, List.length_cons, List.length_nil]; omega)]
      simp
theorem lcL_all {α : Type} {dg : DenG} {de : Den} {env : En} {st : Sto} (e : α → D) (g : α → D) (xs : List α)
    (h : ∀ x ∈ xs, ∃ env2, dg (e x) env st = some (.ok env2 st) ∧ de env2 st = some (.ok (g x) st)) (hl : xs.length ≤ sizeLine) :
    lcL dg dYes de env (xs.map e) st [] = some (xs.map g, st) := by
  have := lcL_pure (dt := dYes) e (fun _ => true) g xs [] (fun x hx => by
    obtain ⟨env2, h1, h2⟩ := h x hx
    exact ⟨env2, h1, rfl, fun _ => h2⟩) (by simpa using hl)
  rw [this, List.filter_eq_self.mpr fun _ _ => rfl]
  rfl
/-! ### sums -/
def sumR (qs : List Rat) : Rat := qs.foldl (· + ·) 0
theorem eR_zero : eR 0 = .tup [.int 0, .int 1] := rfl
theorem eR_one : eR 1 = .tup [.int 1, .int 1] := rfl
theorem bd0 : Bd 1 0 := ⟨by decide, by decide⟩
theorem Bd.fold {k a : Nat} : ∀ {qs : List Rat} {x : Rat}, Bd a x → (∀ q ∈ qs, Bd k q) → Bd (a + qs.length * (k + 1)) (qs.foldl (· + ·) x)
  | [], _, h, _ => by simpa using h
  | q :: qs, x, h, hq => by
    have := Bd.fold (qs := qs) (h.add (hq q List.mem_cons_self)) fun y hy => hq y (List.mem_cons_of_mem _ hy)
    simp only [List.foldl_cons, List.length_cons]
    refine this.mono ?_
    rw [Nat.succ_mul]
    omega
theorem Bd.sum {k : Nat} {qs : List Rat} (h : ∀ q ∈ qs, Bd k q) : Bd (1 + qs.length * (k + 1)) (sumR qs) := Bd.fold bd0 h
section
variable {k : Nat} {qs : List Rat}
theorem total_loop {k : Nat} {A : Option D} {st : Sto} : ∀ (qs : List Rat) (a : Nat) (x : Rat) (z : Option D), Bd a x → (∀ q ∈ qs, Bd k q) → a + qs.length * (k + 1) < 9000 →
    ∃ z', forL (gNm 2) (sSet 1 (dArgs f_plus (dCons (dVar 1) (dCons (dVar 2) (dNil))))) (qs.map eR) [A, some (eR x), z] st = some (.nx [A, some (eR (qs.foldl (· + ·) x)), z'] st)
  | [], a, x, z, _, _, _ => ⟨z, rfl⟩
  | q :: qs, a, x, z, h, hq, hl => by
    simp only [List.length_cons, Nat.succ_mul] at hl
    obtain ⟨z', e⟩ := total_loop (A := A) (st := st) qs _ (x + q) (some (eR q)) (h.add (hq q List.mem_cons_self)) (fun y hy => hq y (List.mem_cons_of_mem _ hy)) (by omega)
    refine ⟨z', ?_⟩
    simp [forL, gNm, sSet, dArgs, dCons, dNil, dVar, bindR_ok, bindS_ok, f_plus_ok st h (hq q List.mem_cons_self) (by omega), e]
theorem sum_loop {k : Nat} {A : Option D} {st : Sto} : ∀ (qs : List Rat) (a : Nat) (x : Rat) (z : Option D), Bd a x → (∀ q ∈ qs, Bd k q) → a + qs.length * (k + 1) < 9000 →
    ∃ z', forL (gNm 2) (sSet 1 (dArgs f_l_law_plus (dCons (dVar 1) (dCons (dVar 2) (dNil))))) (qs.map eR) [A, some (eR x), z] st = some (.nx [A, some (eR (qs.foldl (· + ·) x)), z'] st)
  | [], a, x, z, _, _, _ => ⟨z, rfl⟩
  | q :: qs, a, x, z, h, hq, hl => by
    simp only [List.length_cons, Nat.succ_mul] at hl
    obtain ⟨z', e⟩ := sum_loop (A := A) (st := st) qs _ (x + q) (some (eR q)) (h.add (hq q List.mem_cons_self)) (fun y hy => hq y (List.mem_cons_of_mem _ hy)) (by omega)
    refine ⟨z', ?_⟩
    simp [forL, gNm, sSet, dArgs, dCons, dNil, dVar, bindR_ok, bindS_ok, f_lplus_ok st h (hq q List.mem_cons_self) (by omega), e]
theorem f_total_ok {A : D} (st : Sto) (hA : itemsA A = some (qs.map eR)) (h : ∀ q ∈ qs, Bd k q) (hl : 1 + qs.length * (k + 1) < 9000) : f_total [A] st = some (.ok (eR (sumR qs)) st) := by
  obtain ⟨z, e⟩ := total_loop (A := some A) (st := st) qs 1 0 none bd0 h hl
  unfold f_total runF b_total
  simp [sSeq, sSet, dC, bindS_ok, sFor, dIt, dVar, bindR_ok, hA, ← eR_zero]
  rw [e]
  simp [sRet, bindS_ok, endF_rt, sumR, dVar]
theorem f_lsum_ok {A : D} (st : Sto) (hA : itemsA A = some (qs.map eR)) (h : ∀ q ∈ qs, Bd k q) (hl : 1 + qs.length * (k + 1) < 9000) : f_l_law_sum [A] st = some (.ok (eR (sumR qs)) st) := by
  obtain ⟨z, e⟩ := sum_loop (A := some A) (st := st) qs 1 0 none bd0 h hl
  unfold f_l_law_sum runF b_l_law_sum
  simp [sSeq, sSet, dC, bindS_ok, sFor, dIt, dVar, bindR_ok, hA, dArgs, dCons, dNil, fTup, two_le, ← eR_zero]
  rw [e]
  simp [sRet, bindS_ok, endF_rt, sumR, dVar]
/-! ### the greatest and the least -/
def maxR (q : Rat) (qs : List Rat) : Rat := qs.foldl (fun m q => if m < q then q else m) q
def minR (q : Rat) (qs : List Rat) : Rat := qs.foldl (fun m q => if q < m then q else m) q
theorem max_loop {k : Nat} {A : Option D} {st : Sto} (hk : k + k < 9000) : ∀ (qs : List Rat) (x : Rat) (z : Option D), Bd k x → (∀ q ∈ qs, Bd k q) →
    ∃ z', forL (gNm 2) (sSet 1 (dIf (dTruth truD (dArgs f_is_less (dCons (dVar 1) (dCons (dVar 2) (dNil))))) (dVar 2) (dVar 1))) (qs.map eR) [A, some (eR x), z] st = some (.nx [A, some (eR (maxR x qs)), z'] st)
  | [], x, z, _, _ => ⟨z, rfl⟩
  | q :: qs, x, z, h, hq => by
    have hq1 := hq q List.mem_cons_self
    obtain ⟨z', e⟩ := max_loop (A := A) (st := st) hk qs (if x < q then q else x) (some (eR q)) (by split <;> assumption) (fun y hy => hq y (List.mem_cons_of_mem _ hy))
    refine ⟨z', ?_⟩
    simp [forL, gNm, sSet, dIf, dTruth, truD, dArgs, dCons, dNil, dVar, bindR_ok, bindS_ok, f_less_ok st h hq1 hk]
    have e1 : maxR x (q :: qs) = maxR (if x < q then q else x) qs := rfl
    rw [e1, ← e]
    by_cases hx : x < q <;> simp [hx, bindS_ok, gNm, sSet, dIf, dTruth, truD, dArgs, dCons, dNil, dVar]
theorem lmax_loop {k : Nat} {A : Option D} {st : Sto} (hk : k + k < 9000) : ∀ (qs : List Rat) (x : Rat) (z : Option D), Bd k x → (∀ q ∈ qs, Bd k q) →
    ∃ z', forL (gNm 2) (sSet 1 (dIf (dTruth truD (dArgs f_l_law_less (dCons (dVar 1) (dCons (dVar 2) (dNil))))) (dVar 2) (dVar 1))) (qs.map eR) [A, some (eR x), z] st = some (.nx [A, some (eR (maxR x qs)), z'] st)
  | [], x, z, _, _ => ⟨z, rfl⟩
  | q :: qs, x, z, h, hq => by
    have hq1 := hq q List.mem_cons_self
    obtain ⟨z', e⟩ := lmax_loop (A := A) (st := st) hk qs (if x < q then q else x) (some (eR q)) (by split <;> assumption) (fun y hy => hq y (List.mem_cons_of_mem _ hy))
    refine ⟨z', ?_⟩
    simp [forL, gNm, sSet, dIf, dTruth, truD, dArgs, dCons, dNil, dVar, bindR_ok, bindS_ok, f_lless_ok st h hq1 hk]
    have e1 : maxR x (q :: qs) = maxR (if x < q then q else x) qs := rfl
    rw [e1, ← e]
    by_cases hx : x < q <;> simp [hx, bindS_ok, gNm, sSet, dIf, dTruth, truD, dArgs, dCons, dNil, dVar]
theorem lmin_loop {k : Nat} {A : Option D} {st : Sto} (hk : k + k < 9000) : ∀ (qs : List Rat) (x : Rat) (z : Option D), Bd k x → (∀ q ∈ qs, Bd k q) →
    ∃ z', forL (gNm 2) (sSet 1 (dIf (dTruth truD (dArgs f_l_law_less (dCons (dVar 2) (dCons (dVar 1) (dNil))))) (dVar 2) (dVar 1))) (qs.map eR) [A, some (eR x), z] st = some (.nx [A, some (eR (minR x qs)), z'] st)
  | [], x, z, _, _ => ⟨z, rfl⟩
  | q :: qs, x, z, h, hq => by
    have hq1 := hq q List.mem_cons_self
    obtain ⟨z', e⟩ := lmin_loop (A := A) (st := st) hk qs (if q < x then q else x) (some (eR q)) (by split <;> assumption) (fun y hy => hq y (List.mem_cons_of_mem _ hy))
    refine ⟨z', ?_⟩
    simp [forL, gNm, sSet, dIf, dTruth, truD, dArgs, dCons, dNil, dVar, bindR_ok, bindS_ok, f_lless_ok st hq1 h hk]
    have e1 : minR x (q :: qs) = minR (if q < x then q else x) qs := rfl
    rw [e1, ← e]
    by_cases hx : q < x <;> simp [hx, bindS_ok, gNm, sSet, dIf, dTruth, truD, dArgs, dCons, dNil, dVar]
theorem maxR_cons (q : Rat) (qs : List Rat) : maxR q (q :: qs) = maxR q qs := by simp [maxR, Rat.lt_irrefl]
theorem minR_cons (q : Rat) (qs : List Rat) : minR q (q :: qs) = minR q qs := by simp [minR, Rat.lt_irrefl]
theorem f_greatest_ok (st : Sto) {q : Rat} (hk : k + k < 9000) (h : ∀ x ∈ q :: qs, Bd k x) : f_greatest_of [.lst ((q :: qs).map eR)] st = some (.ok (eR (maxR q qs)) st) := by
  obtain ⟨z, e⟩ := max_loop (A := some (.lst ((q :: qs).map eR))) (st := st) hk qs q none (h q List.mem_cons_self) fun y hy => h y (List.mem_cons_of_mem _ hy)
  have hc : cutD (eR q :: qs.map eR) (some 1) none = qs.map eR := by
    unfold cutD
    have e1 : HT.sIx (eR q :: qs.map eR).length 0 (some 1) = 1 := by
      have := HT.sIx_nat (eR q :: qs.map eR).length 0 1
      simp at this
      simp [this]
    rw [e1, HT.sIx_none]
    simp
    exact List.take_of_length_le (by simp)
  have ha : atI (eR q :: qs.map eR) 0 = some (eR q) := by simp [atI, ixN]
  unfold f_greatest_of runF b_greatest_of
  simp only [List.map_cons] at e ⊢
  simp [sSeq, sSet, dBin, dC, dVar, opIx, asL, ha, bindR_ok, bindS_ok, ok1, sFor, dIt, dSlice, dPart, dNoPart, opSl, hc, mkL, itemsA, itemsW]
  rw [e]
  simp [sRet, bindS_ok, endF_rt, dVar]
theorem f_most_ok (st : Sto) {q : Rat} (hk : k + k < 9000) (h : ∀ x ∈ q :: qs, Bd k x) : f_l_law_pp_most [.lst ((q :: qs).map eR)] st = some (.ok (eR (maxR q qs)) st) := by
  obtain ⟨z, e⟩ := lmax_loop (A := some (.lst ((q :: qs).map eR))) (st := st) hk (q :: qs) q none (h q List.mem_cons_self) h
  rw [maxR_cons] at e
  have ha : atI (eR q :: qs.map eR) 0 = some (eR q) := by simp [atI, ixN]
  unfold f_l_law_pp_most runF b_l_law_pp_most
  simp only [List.map_cons] at e ⊢
  simp [sSeq, sSet, dBin, dC, dVar, opIx, asL, ha, bindR_ok, bindS_ok, ok1, sFor, dIt, itemsA, itemsW]
  rw [e]
  simp [sRet, bindS_ok, endF_rt, dVar]
theorem f_least_ok (st : Sto) {q : Rat} (hk : k + k < 9000) (h : ∀ x ∈ q :: qs, Bd k x) : f_l_law_pp_least [.lst ((q :: qs).map eR)] st = some (.ok (eR (minR q qs)) st) := by
  obtain ⟨z, e⟩ := lmin_loop (A := some (.lst ((q :: qs).map eR))) (st := st) hk (q :: qs) q none (h q List.mem_cons_self) h
  rw [minR_cons] at e
  have ha : atI (eR q :: qs.map eR) 0 = some (eR q) := by simp [atI, ixN]
  unfold f_l_law_pp_least runF b_l_law_pp_least
  simp only [List.map_cons] at e ⊢
  simp [sSeq, sSet, dBin, dC, dVar, opIx, asL, ha, bindR_ok, bindS_ok, ok1, sFor, dIt, itemsA, itemsW]
  rw [e]
  simp [sRet, bindS_ok, endF_rt, dVar]
end
end Pd
end
section
set_option Elab.async false
set_option linter.all false
set_option maxRecDepth 100000
namespace Pd
open PySem PySem.Spec L2 LamX
open PyProof.Rows hiding St
open PySem.W (Datum DatumOrd)
/-! ### data with a Lean type -/
class Enc (α : Type) [DecidableEq α] [DatumOrd α] where
  enc : α → D
  ok : α → Prop
  py : ∀ a, D.py (enc a) = some (Datum.toD a)
  lay : ∀ a, ok a → (Datum.toD a).canLay0 = true
open Enc (enc)
instance : Enc Str where
  enc := .str
  ok x := PyData.strOk x = true
  py _ := by simp only [D.py]; rfl
  lay _ h := h
instance : Enc Int where
  enc := .int
  ok _ := True
  py _ := by simp only [D.py]; rfl
  lay _ _ := rfl
section
variable {α β : Type} [DecidableEq α] [DatumOrd α] [Enc α] [DecidableEq β] [DatumOrd β] [Enc β]
instance : Enc (α × β) where
  enc p := .tup [enc p.1, enc p.2]
  ok p := Enc.ok p.1 ∧ Enc.ok p.2
  py p := by simp only [D.py, D.pys, Enc.py]; rfl
  lay p h := by
    show PyData.canLay0 (.tuple [_, _]) = true
    simp only [PyData.canLay0, PyData.canLayAll0, Enc.lay _ h.1, Enc.lay _ h.2, Bool.and_self]
theorem pys_enc : ∀ xs : List α, D.pys (xs.map enc) = some (xs.map Datum.toD)
  | [] => by simp [D.pys]
  | x :: xs => by simp [D.pys, Enc.py, pys_enc xs]
theorem layAll_map : ∀ xs : List α, (∀ x ∈ xs, Enc.ok x) → PyData.canLayAll0 (xs.map Datum.toD) = true
  | [], _ => by simp [PyData.canLayAll0]
  | x :: xs, h => by
    simp only [List.map_cons, PyData.canLayAll0, Enc.lay x (h x List.mem_cons_self), layAll_map xs fun y hy => h y (List.mem_cons_of_mem _ hy), Bool.and_self]
theorem shaped_one {x : α} (h : Enc.ok x) (hd : Datum.depth α ≤ 64 := by decide) : SeqAt.shaped (Datum.toD x) = true := by
  simp only [SeqAt.shaped, Enc.lay x h, Bool.true_and, decide_eq_true_eq]
  exact Nat.le_trans (Datum.depth_le x) hd
theorem shaped_tuple {xs : List α} (h : ∀ x ∈ xs, Enc.ok x) (hd : Datum.depth α + 1 ≤ 64 := by decide) : SeqAt.shaped (.tuple (xs.map Datum.toD)) = true := by
  simp only [SeqAt.shaped, PyData.canLay0, layAll_map xs h, Bool.true_and, PyData.depth]
  exact decide_eq_true (Nat.le_trans (Nat.succ_le_succ (PySem.W.depthAll_map xs)) hd)
theorem shaped_list {xs : List α} (h : ∀ x ∈ xs, Enc.ok x) (hd : Datum.depth α + 1 ≤ 64 := by decide) : SeqAt.shaped (.list (xs.map Datum.toD)) = true := by
  simp only [SeqAt.shaped, PyData.canLay0, layAll_map xs h, Bool.true_and, PyData.depth]
  exact decide_eq_true (Nat.le_trans (Nat.succ_le_succ (PySem.W.depthAll_map xs)) hd)
/-- a list as it stands in a value or in a cell -/
theorem inD_tup {st : Sto} {x : α} {xs : List α} (hx : Enc.ok x) (h : ∀ x ∈ xs, Enc.ok x) (hd : Datum.depth α + 1 ≤ 64 := by decide) : inD st (enc x) (.tup (xs.map enc)) = some (decide (x ∈ xs)) := by
  unfold inD
  simp only [Enc.py, pys_enc, shaped_one hx (Nat.le_trans (Nat.le_succ _) hd), shaped_tuple h hd, Bool.and_self, if_true, PySem.W.any_datum]
theorem inD_lst {st : Sto} {x : α} {xs : List α} {l : D} (hl : asM st l = some (xs.map enc)) (hx : Enc.ok x) (h : ∀ x ∈ xs, Enc.ok x) (hd : Datum.depth α + 1 ≤ 64 := by decide) : inD st (enc x) l = some (decide (x ∈ xs)) := by
  unfold inD
  split
  · simp [asM] at hl
  · simp [asM] at hl
  · rename_i hl1 hl2
    simp only [hl, Enc.py, pys_enc, shaped_one hx (Nat.le_trans (Nat.le_succ _) hd), shaped_list h hd, Bool.and_self, if_true, PySem.W.any_datum]
theorem pyOf_lst {st : Sto} {xs : List α} {l : D} (hl : asM st l = some (xs.map enc)) : pyOf st l = some (.list (xs.map Datum.toD)) := by
  cases l <;> simp [asM] at hl
  · subst hl
    simp only [pyOf, D.py, pys_enc, Option.map_some]
  · rename_i n
    simp only [pyOf]
    revert hl
    cases e : st[n]? with
    | none => intro hl; cases hl
    | some o => cases o with
      | lst ds => intro hl; simp at hl; subst hl; simp only [pys_enc, Option.map_some]
      | dct ks vs => intro hl; simp at hl
theorem eqD_lst {st : Sto} {xs ys : List α} {l m : D} (hl : asM st l = some (xs.map enc)) (hm : asM st m = some (ys.map enc)) (h : ∀ x ∈ xs, Enc.ok x) (h2 : ∀ x ∈ ys, Enc.ok x) (hd : Datum.depth α + 1 ≤ 64 := by decide) :
    eqD st l m = some (decide (xs = ys)) := by
  have e1 := pyOf_lst hl
  have e2 := pyOf_lst hm
  have e : eqD st l m = match pyOf st l, pyOf st m with | some p, some q => if SeqAt.shaped p && SeqAt.shaped q then some (PyData.eqv p q) else none | _, _ => none := by
    cases l <;> simp [asM] at hl <;> cases m <;> simp [asM] at hm <;> rfl
  rw [e, e1, e2]
  simp only [shaped_list h hd, shaped_list h2 hd, Bool.and_self, if_true, PyData.eqv, PySem.W.eqvAll_map]
theorem eqD_tup {st : Sto} {xs ys : List α} (h : ∀ x ∈ xs, Enc.ok x) (h2 : ∀ x ∈ ys, Enc.ok x) (hd : Datum.depth α + 1 ≤ 64 := by decide) :
    eqD st (.tup (xs.map enc)) (.tup (ys.map enc)) = some (decide (xs = ys)) := by
  unfold eqD
  simp only [pyOf, D.py, pys_enc, Option.map_some, shaped_tuple h hd, shaped_tuple h2 hd, Bool.and_self, if_true, PyData.eqv, PySem.W.eqvAll_map]
theorem dpy_getD (x : α) : (D.py (enc x)).getD .none = Datum.toD x := by rw [Enc.py]; rfl
theorem leP_enc (x y : α) : leP (enc x) (enc y) = !DatumOrd.lt y x := by unfold leP; rw [dpy_getD, dpy_getD, DatumOrd.lt_eq]
def sortA (xs : List α) : List α := xs.mergeSort fun x y => !DatumOrd.lt y x
theorem sortD_enc (xs : List α) : sortD (xs.map enc) = (sortA xs).map enc := by
  unfold sortD sortA
  rw [List.map_mergeSort]
  intro a _ b _
  rw [leP_enc]
end
end Pd
end
section
set_option Elab.async false
set_option linter.all false
set_option maxRecDepth 100000
namespace Pd
open PySem PySem.Spec L2 LamX
open PyProof.Rows hiding St
open PySem.W (Datum DatumOrd)
open Enc (enc)
/-! ### kinds of values -/
theorem f_is_whole_ok (i : Int) (st : Sto) : f_is_whole [.int i] st = some (.ok (.bl true) st) := by
  unfold f_is_whole runF b_is_whole
  simp [sRet, dAndV, dNotV, dIsi, dVar, kindD, K7.sub, bindR_ok, bindS_ok, endF_rt]
theorem f_is_ratio_ok (q : Rat) (st : Sto) : f_is_ratio [eR q] st = some (.ok (.bl true) st) := by
  have hd : (0 : Int) < q.den := by have := q.den_nz; omega
  have hg : q.num.natAbs.gcd q.den = 1 := q.reduced
  have e : lcL (gNm 1) dYes (dArgs f_is_whole (dCons (dVar 1) dNil)) (wipeE [some (eR q), none] [1]) [.int q.num, .int q.den] st [] = some ([.bl true, .bl true], st) :=
    lcL_all (e := D.int) (g := fun _ => .bl true) [q.num, (q.den : Int)] (fun x hx => ⟨[some (eR q), some (.int x)], rfl, by simp [dArgs, dCons, dNil, dVar, bindR_ok, f_is_whole_ok]⟩) (show 2 ≤ sizeLine from two_le)
  unfold f_is_ratio runF b_is_ratio
  simp [sSeq, sIf, dOr, dNot, dTruth, dIsi, dVar, dBin, dC, dArgs, dCons, dNil, eR, kindD, K7.sub, bindR_ok, bindS_ok, bindSB_ok, truD, isBl, fLen, asS, opNe, eqD, ok1, dLc, dIt, itemsA, itemsW]
  unfold eR at e
  rw [e]
  simp [mkL, bindR_ok, bindS_ok, bindSB_ok, fAll, asL, bls, ok1, truD, sSkip, sRet, dAndV, opCmp, opIx, hd, dBin, dVar, dC, dArgs, dCons, dNil, atI, ixN, fGcd, hg, opEq, eqD, endF_rt]
  have hd2 : 0 < q.den := by omega
  simp [hd2, bindS_ok, endF_rt]
/-! ### holders -/
structure Hs where
  rows : List (Str × Rat × Rat)
  passes : List (Str × Str)
def eRow (r : Str × Rat × Rat) : D := .tup [.str r.1, eR r.2.1, eR r.2.2]
def eH (h : Hs) : D := .tup [.str "holders", .tup (h.rows.map eRow), .tup (h.passes.map enc)]
def Hs.names (h : Hs) : List Str := h.rows.map (·.1)
def Hs.can (h : Hs) (a b : Str) : Bool := decide (a = b) || decide ((a, b) ∈ h.passes)
theorem eH1 (h : Hs) (st : Sto) : opIx (eH h) (.int 1) st = some (.ok (.tup (h.rows.map eRow)) st) := rfl
theorem eH2 (h : Hs) (st : Sto) : opIx (eH h) (.int 2) st = some (.ok (.tup (h.passes.map enc)) st) := rfl
theorem eRow0 (r : Str × Rat × Rat) (st : Sto) : opIx (eRow r) (.int 0) st = some (.ok (.str r.1) st) := rfl
theorem eRow1 (r : Str × Rat × Rat) (st : Sto) : opIx (eRow r) (.int 1) st = some (.ok (eR r.2.1) st) := rfl
theorem eRow2 (r : Str × Rat × Rat) (st : Sto) : opIx (eRow r) (.int 2) st = some (.ok (eR r.2.2) st) := rfl
theorem f_words_of_ok (h : Hs) (st : Sto) (hl : h.rows.length ≤ 6) : f_words_of [eH h] st = some (.ok (.lst (h.names.map enc)) st) := by
  have e : lcL (gNm 1) dYes (dBin opIx (dVar 1) (dC (.int 0))) (wipeE [some (eH h), none] [1]) (h.rows.map eRow) st [] = some (h.rows.map fun r => .str r.1, st) :=
    lcL_all (e := eRow) (g := fun r => .str r.1) h.rows (fun x hx => ⟨[some (eH h), some (eRow x)], rfl, by simp [dBin, dC, dVar, bindR_ok, eRow0]⟩) (Nat.le_trans hl (by decide))
  unfold f_words_of runF b_words_of
  simp [sRet, dLc, dIt, dBin, dVar, dC, bindR_ok, eH1, itemsA, itemsW, e, mkL, bindS_ok, endF_rt, Hs.names]
  exact fun _ _ _ _ => rfl
theorem f_lwords_ok (h : Hs) (st : Sto) (hl : h.rows.length ≤ 6) : f_l_law_pp_words [eH h] st = some (.ok (.lst (h.names.map enc)) st) := by
  have e : lcL (gNm 1) dYes (dBin opIx (dVar 1) (dC (.int 0))) (wipeE [some (eH h), none] [1]) (h.rows.map eRow) st [] = some (h.rows.map fun r => .str r.1, st) :=
    lcL_all (e := eRow) (g := fun r => .str r.1) h.rows (fun x hx => ⟨[some (eH h), some (eRow x)], rfl, by simp [dBin, dC, dVar, bindR_ok, eRow0]⟩) (Nat.le_trans hl (by decide))
  unfold f_l_law_pp_words runF b_l_law_pp_words
  simp [sRet, dLc, dIt, dBin, dVar, dC, bindR_ok, eH1, itemsA, itemsW, e, mkL, bindS_ok, endF_rt, Hs.names]
  exact fun _ _ _ _ => rfl
theorem f_can_ok (h : Hs) (st : Sto) {a b : Str} (ha : PyData.strOk a = true) (hb : PyData.strOk b = true) (hp : ∀ p ∈ h.passes, Enc.ok p) : f_can_show [eH h, .str a, .str b] st = some (.ok (.bl (h.can a b)) st) := by
  have e : inD st (.tup [.str a, .str b]) (.tup (h.passes.map enc)) = some (decide ((a, b) ∈ h.passes)) := (inD_tup (x := (a, b)) (show PyData.strOk a = true ∧ PyData.strOk b = true from ⟨ha, hb⟩) hp).trans (congrArg some (decide_eq_decide.mpr Iff.rfl))
  unfold f_can_show runF b_can_show
  by_cases hab : a = b
  · simp [sRet, dOrV, dBin, dVar, opEq, eqD, hab, ok1, bindR_ok, bindS_ok, endF_rt, Hs.can]
  · simp [sRet, dOrV, dBin, dVar, opEq, eqD, hab, ok1, bindR_ok, bindS_ok, endF_rt, Hs.can, dArgs, dCons, dNil, fTup, two_le, dC, eH2, opIn, e]
theorem f_lcan_ok (h : Hs) (st : Sto) {a b : Str} (ha : PyData.strOk a = true) (hb : PyData.strOk b = true) (hp : ∀ p ∈ h.passes, Enc.ok p) : f_l_law_pp_can [eH h, .str a, .str b] st = some (.ok (.bl (h.can a b)) st) := by
  have e : inD st (.tup [.str a, .str b]) (.tup (h.passes.map enc)) = some (decide ((a, b) ∈ h.passes)) := (inD_tup (x := (a, b)) (show PyData.strOk a = true ∧ PyData.strOk b = true from ⟨ha, hb⟩) hp).trans (congrArg some (decide_eq_decide.mpr Iff.rfl))
  unfold f_l_law_pp_can runF b_l_law_pp_can
  by_cases hab : a = b
  · simp [sRet, dOrV, dBin, dVar, opEq, eqD, hab, ok1, bindR_ok, bindS_ok, endF_rt, Hs.can]
  · simp [sRet, dOrV, dBin, dVar, opEq, eqD, hab, ok1, bindR_ok, bindS_ok, endF_rt, Hs.can, dArgs, dCons, dNil, fTup, two_le, dC, eH2, opIn, e]
/-! ### outcomes -/
def headMax (qs : List Rat) : Rat := match qs with | [] => 0 | q :: qs => maxR q qs
def headMin (qs : List Rat) : Rat := match qs with | [] => 0 | q :: qs => minR q qs
def Hs.top (h : Hs) (told : List Rat) (w : Str) : Rat := headMax (((told.zip h.names).filter fun p => h.can w p.2).map (·.1))
/-- what the walks over holders lean on -/
structure Hs.Fit (h : Hs) : Prop where
  few : h.rows.length ≤ 6
  ws : ∀ w ∈ h.names, PyData.strOk w = true
  ps : ∀ p ∈ h.passes, Enc.ok p
theorem zipD_map {α β : Type} (f : α → D) (g : β → D) : ∀ (xs : List α) (ys : List β), zipD (xs.map f) (ys.map g) = (xs.zip ys).map fun p => .tup [f p.1, g p.2]
  | [], ys => by simp [zipD]
  | x :: xs, [] => by simp [zipD]
  | x :: xs, y :: ys => by simp [zipD, zipD_map f g xs ys]
theorem Hs.Fit.names_len {h : Hs} (F : h.Fit) : h.names.length ≤ 6 := by unfold Hs.names; rw [List.length_map]; exact F.few
theorem top_ne {h : Hs} {told : List Rat} {w : Str} (hw : w ∈ h.names) (hl : told.length = h.names.length) : ∃ q qs, ((told.zip h.names).filter fun p => h.can w p.2).map (·.1) = q :: qs := by
  obtain ⟨i, hi, e⟩ := List.getElem_of_mem hw
  have hm : (told[i]'(by omega), w) ∈ (told.zip h.names).filter fun p => h.can w p.2 := by
    refine List.mem_filter.mpr ⟨?_, by simp [Hs.can]⟩
    rw [← e]
    exact List.mem_iff_getElem.mpr ⟨i, by simp; omega, by simp⟩
  cases e2 : ((told.zip h.names).filter fun p => h.can w p.2).map (·.1) with
  | nil =>
    have := List.map_eq_nil_iff.mp e2
    rw [this] at hm
    cases hm
  | cons q qs => exact ⟨q, qs, rfl⟩
theorem top_mem {h : Hs} {told : List Rat} {w : Str} {q : Rat} (hq : q ∈ ((told.zip h.names).filter fun p => h.can w p.2).map (·.1)) : q ∈ told := by
  obtain ⟨p, hp, rfl⟩ := List.mem_map.mp hq
  exact (List.of_mem_zip (List.mem_filter.mp hp).1).1
theorem top_lc {h : Hs} {told : List Rat} {w : Str} {st : Sto} {env : En} (F : h.Fit) (hw : PyData.strOk w = true) (h0 : env[0]? = some (some (eH h))) (h2 : env[2]? = some (some (.str w))) (hl : 6 ≤ env.length) :
    lcL (gUnp 2 (gsCons (gNm 4) (gsCons (gNm 5) gsNil))) (dTruth truD (dArgs f_can_show (dCons (dVar 0) (dCons (dVar 2) (dCons (dVar 5) dNil))))) (dVar 4) env (zipD (told.map eR) (h.names.map enc)) st [] =
      some ((((told.zip h.names).filter fun p => h.can w p.2).map (·.1)).map eR, st) := by
  rw [zipD_map]
  have := lcL_pure (dg := gUnp 2 (gsCons (gNm 4) (gsCons (gNm 5) gsNil))) (dt := dTruth truD (dArgs f_can_show (dCons (dVar 0) (dCons (dVar 2) (dCons (dVar 5) dNil))))) (de := dVar 4) (env := env) (st := st)
    (fun p : Rat × Str => D.tup [eR p.1, enc p.2]) (fun p => h.can w p.2) (fun p => eR p.1) (told.zip h.names) [] (fun p hp => by
      refine ⟨(env.set 4 (some (eR p.1))).set 5 (some (enc p.2)), ?_, ?_, ?_⟩
      · simp [gUnp, gsCons, gNm, gsNil, bindR_ok]
      · have e := f_can_ok h st hw (F.ws _ (List.of_mem_zip hp).2) F.ps
        have e5 : ((env.set 4 (some (eR p.1))).set 5 (some (enc p.2)))[5]? = some (some (enc p.2)) := by rw [List.getElem?_set_self]; simp; omega
        have e0 : ((env.set 4 (some (eR p.1))).set 5 (some (enc p.2)))[0]? = some (some (eH h)) := by rw [List.getElem?_set_ne (by decide), List.getElem?_set_ne (by decide)]; exact h0
        have e2 : ((env.set 4 (some (eR p.1))).set 5 (some (enc p.2)))[2]? = some (some (.str w)) := by rw [List.getElem?_set_ne (by decide), List.getElem?_set_ne (by decide)]; exact h2
        simp only [dTruth, dArgs, dCons, dNil, dVar, e0, e2, e5, bindR_ok]
        rw [show (enc p.2 : D) = .str p.2 from rfl, e]
        simp [bindR_ok, truD]
      · intro _
        have e4 : ((env.set 4 (some (eR p.1))).set 5 (some (enc p.2)))[4]? = some (some (eR p.1)) := by rw [List.getElem?_set_ne (by decide), List.getElem?_set_self]; omega
        simp only [dVar, e4]) (by simp; have := F.names_len; have h6 : 6 ≤ sizeLine := by decide
                                  omega)
  rw [this, List.nil_append, List.map_map]
  rfl
theorem f_top_ok {h : Hs} {told : List Rat} {w : Str} {k : Nat} (st : Sto) (F : h.Fit) (hw : w ∈ h.names) (hl : told.length = h.names.length) (hk : k + k < 9000) (hb : ∀ q ∈ told, Bd k q) :
    f_top_for [eH h, .tup (told.map eR), .str w] st = some (.ok (eR (h.top told w)) st) := by
  obtain ⟨q, qs, e⟩ := top_ne hw hl
  have e1 := top_lc (told := told) (st := st) (env := wipeE [some (eH h), some (.tup (told.map eR)), some (.str w), some (.lst (h.names.map enc)), none, none] [4, 5]) F (F.ws w hw) rfl rfl (Nat.le_refl 6)
  rw [e] at e1
  have e2 := f_greatest_ok (qs := qs) (q := q) st hk fun x hx => hb x (top_mem (by rw [e]; exact hx))
  unfold f_top_for runF b_top_for Hs.top
  rw [e]
  simp [sSeq, sSet, dArgs, dCons, dNil, dVar, bindR_ok, bindS_ok, f_words_of_ok h st F.few, sRet, dLc, dZip, itemsV, e1, mkL]
  rw [← List.map_cons, e2]
  simp [bindS_ok, endF_rt, headMax]
end Pd
end
section
set_option Elab.async false
set_option linter.all false
set_option maxRecDepth 100000
namespace Pd
open PySem PySem.Spec L2 LamX
open PyProof.Rows hiding St
open PySem.W (Datum DatumOrd)
open Enc (enc)
theorem six_le : 6 ≤ sizeLine := by decide
theorem f_are_ratios_ok {h : Hs} {qs : List Rat} (st : Sto) (F : h.Fit) (hl : qs.length = h.names.length) : f_are_ratios [eH h, .tup (qs.map eR)] st = some (.ok (.bl true) st) := by
  have hn : h.rows.length = h.names.length := by simp [Hs.names]
  have hn6 := F.names_len
  have e : lcL (gNm 2) dYes (dArgs f_is_ratio (dCons (dVar 2) dNil)) (wipeE [some (eH h), some (.tup (qs.map eR)), none] [2]) (qs.map eR) st [] = some (qs.map fun _ => .bl true, st) :=
    lcL_all (e := eR) (g := fun _ => .bl true) qs (fun x hx => ⟨[some (eH h), some (.tup (qs.map eR)), some (eR x)], rfl, by simp [dArgs, dCons, dNil, dVar, bindR_ok, f_is_ratio_ok]⟩) (by have := six_le; omega)
  have eb : ∀ qs : List Rat, bls (qs.map fun _ => D.bl true) = some (qs.map fun _ => true) := by
    intro qs
    induction qs with
    | nil => rfl
    | cons q qs ih => simp [bls, ih]
  unfold f_are_ratios runF b_are_ratios
  simp [sRet, dAndV, dIsi, dVar, kindD, K7.sub, bindR_ok, bindS_ok, dBin, dArgs, dCons, dNil, fLen, asS, ok1, dC, eH1, opEq, eqD, hl, hn, dLc, dIt, itemsA, itemsW]
  rw [e]
  simp [mkL, bindR_ok, bindS_ok, fAll, asL, eb, ok1, endF_rt]
def Hs.out (h : Hs) (told : List Rat) : List Rat := h.names.map (h.top told)
theorem f_outcome_ok {h : Hs} {told : List Rat} {k : Nat} (st : Sto) (F : h.Fit) (hh : f_is_holders [eH h] st = some (.ok (.bl true) st)) (hl : told.length = h.names.length) (hk : k + k < 9000) (hb : ∀ q ∈ told, Bd k q) :
    f_outcome [eH h, .tup (told.map eR)] st = some (.ok (.tup ((h.out told).map eR)) st) := by
  have e : lcL (gNm 2) dYes (dArgs f_top_for (dCons (dVar 0) (dCons (dVar 1) (dCons (dVar 2) dNil)))) (wipeE [some (eH h), some (.tup (told.map eR)), none] [2]) (h.names.map enc) st [] = some (h.names.map fun w => eR (h.top told w), st) :=
    lcL_all (e := enc) (g := fun w => eR (h.top told w)) h.names (fun x hx => ⟨[some (eH h), some (.tup (told.map eR)), some (enc x)], rfl, by
      simp [dArgs, dCons, dNil, dVar, bindR_ok]
      exact f_top_ok st F hx hl hk hb⟩) (Nat.le_trans F.names_len six_le)
  have en : f_need_holders [eH h] st = some (.ok .non st) := by
    unfold f_need_holders runF b_need_holders
    simp [sIf, dNot, dTruth, dArgs, dCons, dNil, dVar, bindR_ok, hh, truD, bindSB_ok, sSkip, endF_nx]
  unfold f_outcome runF b_outcome
  simp [sSeq, sExpr, dArgs, dCons, dNil, dVar, bindR_ok, bindS_ok, en, sIf, dNot, dTruth, f_are_ratios_ok st F hl, truD, bindSB_ok, sSkip, sRet, dLc, dIt, f_words_of_ok h st F.few, itemsA, itemsW]
  rw [e]
  simp [mkL, bindR_ok, bindS_ok, fTuple, asL, ok1, endF_rt, Hs.out, Function.comp_def]
/-! the law's own -/
theorem ltop_lc {h : Hs} {told : List Rat} {w : Str} {st : Sto} {env : En} (F : h.Fit) (hw : PyData.strOk w = true) (h0 : env[0]? = some (some (eH h))) (h2 : env[5]? = some (some (.str w))) (hl : 6 ≤ env.length) :
    lcL (gUnp 2 (gsCons (gNm 3) (gsCons (gNm 4) gsNil))) (dTruth truD (dArgs f_l_law_pp_can (dCons (dVar 0) (dCons (dVar 5) (dCons (dVar 4) dNil))))) (dVar 3) env (zipD (told.map eR) (h.names.map enc)) st [] =
      some ((((told.zip h.names).filter fun p => h.can w p.2).map (·.1)).map eR, st) := by
  rw [zipD_map]
  have := lcL_pure (dg := gUnp 2 (gsCons (gNm 3) (gsCons (gNm 4) gsNil))) (dt := dTruth truD (dArgs f_l_law_pp_can (dCons (dVar 0) (dCons (dVar 5) (dCons (dVar 4) dNil))))) (de := dVar 3) (env := env) (st := st)
    (fun p : Rat × Str => D.tup [eR p.1, enc p.2]) (fun p => h.can w p.2) (fun p => eR p.1) (told.zip h.names) [] (fun p hp => by
      refine ⟨(env.set 3 (some (eR p.1))).set 4 (some (enc p.2)), ?_, ?_, ?_⟩
      · simp [gUnp, gsCons, gNm, gsNil, bindR_ok]
      · have e := f_lcan_ok h st hw (F.ws _ (List.of_mem_zip hp).2) F.ps
        have e5 : ((env.set 3 (some (eR p.1))).set 4 (some (enc p.2)))[4]? = some (some (enc p.2)) := by rw [List.getElem?_set_self]; simp; omega
        have e0 : ((env.set 3 (some (eR p.1))).set 4 (some (enc p.2)))[0]? = some (some (eH h)) := by rw [List.getElem?_set_ne (by decide), List.getElem?_set_ne (by decide)]; exact h0
        have e2 : ((env.set 3 (some (eR p.1))).set 4 (some (enc p.2)))[5]? = some (some (.str w)) := by rw [List.getElem?_set_ne (by decide), List.getElem?_set_ne (by decide)]; exact h2
        simp only [dTruth, dArgs, dCons, dNil, dVar, e0, e2, e5, bindR_ok]
        rw [show (enc p.2 : D) = .str p.2 from rfl, e]
        simp [bindR_ok, truD]
      · intro _
        have e4 : ((env.set 3 (some (eR p.1))).set 4 (some (enc p.2)))[3]? = some (some (eR p.1)) := by rw [List.getElem?_set_ne (by decide), List.getElem?_set_self]; omega
        simp only [dVar, e4]) (by simp; have := F.names_len; have h6 : 6 ≤ sizeLine := by decide
                                  omega)
  rw [this, List.nil_append, List.map_map]
  rfl
theorem f_lout_ok {h : Hs} {told : List Rat} {k : Nat} (st : Sto) (F : h.Fit) (hl : told.length = h.names.length) (hk : k + k < 9000) (hb : ∀ q ∈ told, Bd k q) :
    f_l_law_pp_outcome [eH h, .tup (told.map eR)] st = some (.ok (.tup ((h.out told).map eR)) st) := by
  have e : lcL (gNm 5) dYes (dArgs f_l_law_pp_most (dCons (dLc false [3, 4] (dZip (dCons (dVar 1) (dCons (dVar 2) (dNil)))) (gUnp 2 (gsCons (gNm 3) (gsCons (gNm 4) (gsNil)))) (dTruth truD (dArgs f_l_law_pp_can (dCons (dVar 0) (dCons (dVar 5) (dCons (dVar 4) (dNil)))))) (dVar 3)) (dNil)))
      (wipeE [some (eH h), some (.tup (told.map eR)), some (.lst (h.names.map enc)), none, none, none] [5]) (h.names.map enc) st [] = some (h.names.map fun w => eR (h.top told w), st) :=
    lcL_all (e := enc) (g := fun w => eR (h.top told w)) h.names (fun x hx => ⟨[some (eH h), some (.tup (told.map eR)), some (.lst (h.names.map enc)), none, none, some (enc x)], rfl, by
      obtain ⟨q, qs, e⟩ := top_ne hx hl
      have e1 := ltop_lc (told := told) (st := st) (env := wipeE [some (eH h), some (.tup (told.map eR)), some (.lst (h.names.map enc)), none, none, some (enc x)] [3, 4]) F (F.ws x hx) rfl rfl (Nat.le_refl 6)
      rw [e] at e1
      have e2 := f_most_ok (qs := qs) (q := q) st hk fun x hx => hb x (top_mem (by rw [e]; exact hx))
      unfold Hs.top
      rw [e]
      simp [dArgs, dCons, dNil, dVar, bindR_ok, dLc, dZip, itemsV, e1, mkL]
      rw [← List.map_cons, e2]
      rfl⟩) (Nat.le_trans F.names_len six_le)
  unfold f_l_law_pp_outcome runF b_l_law_pp_outcome
  simp [sSeq, sSet, bindS_ok, f_lwords_ok h st F.few, sRet, dArgs, dCons, dNil, dVar, bindR_ok, dLc, dIt, itemsA, itemsW]
  rw [e]
  simp [mkL, bindR_ok, bindS_ok, fTuple, asL, ok1, endF_rt, Hs.out, Function.comp_def]
def Hs.gaps (h : Hs) (told : List Rat) : List Rat := (told.zip h.rows).map fun p => p.1 - p.2.2.2
def Hs.terms (h : Hs) (told : List Rat) : List Rat := ((h.gaps told).zip h.rows).map fun p => p.2.2.1 * (p.1 * p.1)
def Hs.loss (h : Hs) (told : List Rat) : Rat := sumR (h.terms told)
theorem f_need_ok {h : Hs} (st : Sto) (hh : f_is_holders [eH h] st = some (.ok (.bl true) st)) : f_need_holders [eH h] st = some (.ok .non st) := by
  unfold f_need_holders runF b_need_holders
  simp [sIf, dNot, dTruth, dArgs, dCons, dNil, dVar, bindR_ok, hh, truD, bindSB_ok, sSkip, endF_nx]
theorem f_loss_of_ok {h : Hs} {told : List Rat} {k : Nat} (st : Sto) (F : h.Fit) (hl : told.length = h.names.length) (hk : k ≤ 200) (hb : ∀ q ∈ told, Bd k q) (hr : ∀ r ∈ h.rows, Bd k r.2.1 ∧ Bd k r.2.2) :
    f_loss_of [eH h, .tup (told.map eR)] st = some (.ok (eR (h.loss told)) st) := by
  have hn : h.rows.length = h.names.length := by simp [Hs.names]
  have hn6 := F.names_len
  have e1 : lcL (gUnp 2 (gsCons (gNm 3) (gsCons (gNm 4) gsNil))) dYes (dArgs f_minus (dCons (dVar 3) (dCons (dBin opIx (dVar 4) (dC (.int 2))) (dNil)))) (wipeE [some (eH h), some (.tup (told.map eR)), none, none, none, none] [3, 4]) (zipD (told.map eR) (h.rows.map eRow)) st [] = some ((h.gaps told).map eR, st) := by
    rw [zipD_map]
    have := lcL_all (dg := gUnp 2 (gsCons (gNm 3) (gsCons (gNm 4) gsNil))) (de := dArgs f_minus (dCons (dVar 3) (dCons (dBin opIx (dVar 4) (dC (.int 2))) (dNil)))) (env := wipeE [some (eH h), some (.tup (told.map eR)), none, none, none, none] [3, 4]) (st := st)
      (fun p : Rat × Str × Rat × Rat => D.tup [eR p.1, eRow p.2]) (fun p => eR (p.1 - p.2.2.2)) (told.zip h.rows) (fun p hp => by
        refine ⟨[some (eH h), some (.tup (told.map eR)), none, some (eR p.1), some (eRow p.2), none], by simp [gUnp, gsCons, gNm, gsNil, bindR_ok, wipeE], ?_⟩
        have := f_minus_ok st (hb _ (List.of_mem_zip hp).1) (hr _ (List.of_mem_zip hp).2).2 (by omega)
        simp [dArgs, dCons, dNil, dVar, dBin, dC, bindR_ok, eRow2, this]) (by simp; have := six_le; omega)
    rw [this]
    simp [Hs.gaps, Function.comp_def]
  have hg : ∀ g ∈ h.gaps told, Bd (k + k + 1) g := fun g hg => by
    obtain ⟨p, hp, rfl⟩ := List.mem_map.mp hg
    exact (hb _ (List.of_mem_zip hp).1).sub (hr _ (List.of_mem_zip hp).2).2
  have hgl : (h.gaps told).length = h.names.length := by simp [Hs.gaps, hl, hn]
  have e2 : lcL (gUnp 2 (gsCons (gNm 5) (gsCons (gNm 4) gsNil))) dYes (dArgs f_times (dCons (dBin opIx (dVar 4) (dC (.int 1))) (dCons (dArgs f_times (dCons (dVar 5) (dCons (dVar 5) (dNil)))) (dNil)))) (wipeE [some (eH h), some (.tup (told.map eR)), some (.lst ((h.gaps told).map eR)), none, none, none] [5, 4]) (zipD ((h.gaps told).map eR) (h.rows.map eRow)) st [] = some ((h.terms told).map eR, st) := by
    rw [zipD_map]
    have := lcL_all (dg := gUnp 2 (gsCons (gNm 5) (gsCons (gNm 4) gsNil))) (de := dArgs f_times (dCons (dBin opIx (dVar 4) (dC (.int 1))) (dCons (dArgs f_times (dCons (dVar 5) (dCons (dVar 5) (dNil)))) (dNil)))) (env := wipeE [some (eH h), some (.tup (told.map eR)), some (.lst ((h.gaps told).map eR)), none, none, none] [5, 4]) (st := st)
      (fun p : Rat × Str × Rat × Rat => D.tup [eR p.1, eRow p.2]) (fun p => eR (p.2.2.1 * (p.1 * p.1))) ((h.gaps told).zip h.rows) (fun p hp => by
        refine ⟨[some (eH h), some (.tup (told.map eR)), some (.lst ((h.gaps told).map eR)), none, some (eRow p.2), some (eR p.1)], by simp [gUnp, gsCons, gNm, gsNil, bindR_ok, wipeE], ?_⟩
        have h1 := hg _ (List.of_mem_zip hp).1
        have a := f_times_ok st h1 h1 (by omega)
        have b := f_times_ok st (hr _ (List.of_mem_zip hp).2).1 (h1.mul h1) (by omega)
        simp [dArgs, dCons, dNil, dVar, dBin, dC, bindR_ok, eRow1, a, b]) (by simp; have := six_le; omega)
    rw [this]
    simp [Hs.terms, Function.comp_def]
  have ht : ∀ g ∈ h.terms told, Bd (k + ((k + k + 1) + (k + k + 1))) g := fun g hg' => by
    obtain ⟨p, hp, rfl⟩ := List.mem_map.mp hg'
    have h1 := hg _ (List.of_mem_zip hp).1
    exact (hr _ (List.of_mem_zip hp).2).1.mul (h1.mul h1)
  have htl : (h.terms told).length ≤ 6 := by simp [Hs.terms]; omega
  have e3 := f_total_ok (A := .lst ((h.terms told).map eR)) st (by rfl) ht (by
    have := Nat.mul_le_mul htl (show k + ((k + k + 1) + (k + k + 1)) + 1 ≤ 1003 by omega)
    omega)
  unfold f_loss_of runF b_loss_of
  simp [sSeq, sSet, dLc, dZip, dArgs, dCons, dNil, dVar, dBin, dC, bindR_ok, bindS_ok, eH1, itemsV]
  rw [e1]
  simp [mkL, bindS_ok, sRet, dLc, dZip, dArgs, dCons, dNil, dVar, dBin, dC, bindR_ok, eH1, itemsV]
  rw [e2]
  simp [mkL, bindR_ok, bindS_ok, e3, endF_rt, Hs.loss]
theorem f_lloss_ok {h : Hs} {told : List Rat} {k : Nat} (st : Sto) (F : h.Fit) (hl : told.length = h.names.length) (hk : k ≤ 200) (hb : ∀ q ∈ told, Bd k q) (hr : ∀ r ∈ h.rows, Bd k r.2.1 ∧ Bd k r.2.2) :
    f_l_law_pp_loss [eH h, .tup (told.map eR)] st = some (.ok (eR (h.loss told)) st) := by
  have hn : h.rows.length = h.names.length := by simp [Hs.names]
  have hn6 := F.names_len
  have e1 : lcL (gUnp 2 (gsCons (gNm 3) (gsCons (gNm 4) gsNil))) dYes (dArgs f_l_law_minus (dCons (dVar 3) (dCons (dBin opIx (dVar 4) (dC (.int 2))) (dNil)))) (wipeE [some (eH h), some (.tup (told.map eR)), none, none, none, none] [3, 4]) (zipD (told.map eR) (h.rows.map eRow)) st [] = some ((h.gaps told).map eR, st) := by
    rw [zipD_map]
    have := lcL_all (dg := gUnp 2 (gsCons (gNm 3) (gsCons (gNm 4) gsNil))) (de := dArgs f_l_law_minus (dCons (dVar 3) (dCons (dBin opIx (dVar 4) (dC (.int 2))) (dNil)))) (env := wipeE [some (eH h), some (.tup (told.map eR)), none, none, none, none] [3, 4]) (st := st)
      (fun p : Rat × Str × Rat × Rat => D.tup [eR p.1, eRow p.2]) (fun p => eR (p.1 - p.2.2.2)) (told.zip h.rows) (fun p hp => by
        refine ⟨[some (eH h), some (.tup (told.map eR)), none, some (eR p.1), some (eRow p.2), none], by simp [gUnp, gsCons, gNm, gsNil, bindR_ok, wipeE], ?_⟩
        have := f_lminus_ok st (hb _ (List.of_mem_zip hp).1) (hr _ (List.of_mem_zip hp).2).2 (by omega)
        simp [dArgs, dCons, dNil, dVar, dBin, dC, bindR_ok, eRow2, this]) (by simp; have := six_le; omega)
    rw [this]
    simp [Hs.gaps, Function.comp_def]
  have hg : ∀ g ∈ h.gaps told, Bd (k + k + 1) g := fun g hg => by
    obtain ⟨p, hp, rfl⟩ := List.mem_map.mp hg
    exact (hb _ (List.of_mem_zip hp).1).sub (hr _ (List.of_mem_zip hp).2).2
  have hgl : (h.gaps told).length = h.names.length := by simp [Hs.gaps, hl, hn]
  have e2 : lcL (gUnp 2 (gsCons (gNm 5) (gsCons (gNm 4) gsNil))) dYes (dArgs f_l_law_times (dCons (dBin opIx (dVar 4) (dC (.int 1))) (dCons (dArgs f_l_law_times (dCons (dVar 5) (dCons (dVar 5) (dNil)))) (dNil)))) (wipeE [some (eH h), some (.tup (told.map eR)), some (.lst ((h.gaps told).map eR)), none, none, none] [5, 4]) (zipD ((h.gaps told).map eR) (h.rows.map eRow)) st [] = some ((h.terms told).map eR, st) := by
    rw [zipD_map]
    have := lcL_all (dg := gUnp 2 (gsCons (gNm 5) (gsCons (gNm 4) gsNil))) (de := dArgs f_l_law_times (dCons (dBin opIx (dVar 4) (dC (.int 1))) (dCons (dArgs f_l_law_times (dCons (dVar 5) (dCons (dVar 5) (dNil)))) (dNil)))) (env := wipeE [some (eH h), some (.tup (told.map eR)), some (.lst ((h.gaps told).map eR)), none, none, none] [5, 4]) (st := st)
      (fun p : Rat × Str × Rat × Rat => D.tup [eR p.1, eRow p.2]) (fun p => eR (p.2.2.1 * (p.1 * p.1))) ((h.gaps told).zip h.rows) (fun p hp => by
        refine ⟨[some (eH h), some (.tup (told.map eR)), some (.lst ((h.gaps told).map eR)), none, some (eRow p.2), some (eR p.1)], by simp [gUnp, gsCons, gNm, gsNil, bindR_ok, wipeE], ?_⟩
        have h1 := hg _ (List.of_mem_zip hp).1
        have a := f_ltimes_ok st h1 h1 (by omega)
        have b := f_ltimes_ok st (hr _ (List.of_mem_zip hp).2).1 (h1.mul h1) (by omega)
        simp [dArgs, dCons, dNil, dVar, dBin, dC, bindR_ok, eRow1, a, b]) (by simp; have := six_le; omega)
    rw [this]
    simp [Hs.terms, Function.comp_def]
  have ht : ∀ g ∈ h.terms told, Bd (k + ((k + k + 1) + (k + k + 1))) g := fun g hg' => by
    obtain ⟨p, hp, rfl⟩ := List.mem_map.mp hg'
    have h1 := hg _ (List.of_mem_zip hp).1
    exact (hr _ (List.of_mem_zip hp).2).1.mul (h1.mul h1)
  have htl : (h.terms told).length ≤ 6 := by simp [Hs.terms]; omega
  have e3 := f_lsum_ok (A := .lst ((h.terms told).map eR)) st (by rfl) ht (by
    have := Nat.mul_le_mul htl (show k + ((k + k + 1) + (k + k + 1)) + 1 ≤ 1003 by omega)
    omega)
  unfold f_l_law_pp_loss runF b_l_law_pp_loss
  simp [sSeq, sSet, dLc, dZip, dArgs, dCons, dNil, dVar, dBin, dC, bindR_ok, bindS_ok, eH1, itemsV]
  rw [e1]
  simp [mkL, bindS_ok, sRet, dLc, dZip, dArgs, dCons, dNil, dVar, dBin, dC, bindR_ok, eH1, itemsV]
  rw [e2]
  simp [mkL, bindR_ok, bindS_ok, e3, endF_rt, Hs.loss]
theorem f_loss_ok {h : Hs} {told : List Rat} {k : Nat} (st : Sto) (F : h.Fit) (hh : f_is_holders [eH h] st = some (.ok (.bl true) st)) (hl : told.length = h.names.length) (hk : k ≤ 200) (hb : ∀ q ∈ told, Bd k q) (hr : ∀ r ∈ h.rows, Bd k r.2.1 ∧ Bd k r.2.2) :
    f_loss [eH h, .tup (told.map eR)] st = some (.ok (eR (h.loss told)) st) := by
  unfold f_loss runF b_loss
  simp [sSeq, sExpr, dArgs, dCons, dNil, dVar, bindR_ok, bindS_ok, f_need_ok st hh, sIf, dNot, dTruth, f_are_ratios_ok st F hl, truD, bindSB_ok, sSkip, sRet, f_loss_of_ok st F hl hk hb hr, endF_rt]
end Pd
end
section
set_option Elab.async false
set_option linter.all false
set_option maxRecDepth 100000
namespace Pd
open PySem PySem.Spec L2 LamX
open PyProof.Rows hiding St
open PySem.W (Datum DatumOrd)
open Enc (enc)
def ltrs : Str := "abcdefghijklmnopqrstuvwxyz"
structure WordOk (w : Str) : Prop where
  l1 : 1 ≤ w.length
  l8 : w.length ≤ 8
  lt : ∀ c ∈ w.cps.toList, c ∈ ltrs.cps.toList
theorem ltrs_lt : ∀ c ∈ ltrs.cps.toList, c < 0x110000 := by decide +kernel
theorem WordOk.ok {w : Str} (h : WordOk w) : PyData.strOk w = true := by
  unfold PyData.strOk
  rw [Array.all_eq_true']
  intro c hc
  exact decide_eq_true (ltrs_lt c (h.lt c (Array.mem_toList_iff.mpr hc)))
theorem eight_le : 8 ≤ sizeLine := by decide
theorem bls_true {α : Type} (xs : List α) : bls (xs.map fun _ => D.bl true) = some (xs.map fun _ => true) := by
  induction xs with
  | nil => rfl
  | cons q qs ih => simp [bls, ih]
theorem f_is_word_ok {w : Str} (h : WordOk w) (st : Sto) : f_is_word [.str w] st = some (.ok (.bl true) st) := by
  have hs : w.cps.toList.length = w.length := by simp [Str.length]
  have e : lcL (gNm 1) dYes (dBin opIn (dVar 1) (dC (.str "abcdefghijklmnopqrstuvwxyz"))) (wipeE [some (.str w), none] [1]) (sgn w) st [] = some (w.cps.toList.map fun _ => .bl true, st) := by
    unfold sgn
    refine lcL_all (e := fun c => D.str ⟨#[c]⟩) (g := fun _ => .bl true) w.cps.toList (fun c hc => ⟨[some (.str w), some (.str ⟨#[c]⟩)], rfl, ?_⟩) (by rw [hs]; have := h.l8; have := eight_le; omega)
    have := h.lt c hc
    unfold ltrs at this
    have this2 := Array.mem_toList_iff.mp this
    simp [dBin, dVar, dC, bindR_ok, opIn, inD, ok1, this2]
  have h1 := h.l1
  have h8 := h.l8
  have hl : w.length ≤ sizeLine := Nat.le_trans h8 eight_le
  unfold f_is_word runF b_is_word
  simp [sRet, dAndV, dIsi, dVar, kindD, K7.sub, bindR_ok, bindS_ok, dChain, dC, dArgs, dCons, dNil, fLen, hl, ok1, opCmp, dLc, dIt, itemsA]
  have h1' : (1 : Int) ≤ (w.length : Int) := by omega
  have h8' : (w.length : Int) ≤ 8 := by omega
  simp [h1', h8', bindR_ok, bindS_ok]
  rw [e]
  simp [mkL, bindR_ok, bindS_ok, fAll, asL, bls_true, ok1, endF_rt]
theorem f_is_chance_ok {q : Rat} (h0 : 0 ≤ q) (h1 : q ≤ 1) (st : Sto) : f_is_chance [eR q] st = some (.ok (.bl true) st) := by
  have a : 0 ≤ q.num := Rat.num_nonneg.mpr h0
  have b : q.num ≤ q.den := by
    have := (Rat.le_iff _ _).mp h1
    simpa using this
  unfold f_is_chance runF b_is_chance
  simp [sRet, dAndV, dArgs, dCons, dNil, dVar, bindR_ok, bindS_ok, f_is_ratio_ok, dChain, dC, dBin, ix0, ix1, opCmp, ok1, a]
  simp [bindR_ok, b, bindS_ok, endF_rt]
structure RowOk (r : Str × Rat × Rat) : Prop where
  w : WordOk r.1
  c0 : 0 < r.2.1
  c1 : r.2.1 ≤ 1
theorem f_is_holder_ok {r : Str × Rat × Rat} (h : RowOk r) (st : Sto) : f_is_holder [eRow r] st = some (.ok (.bl true) st) := by
  have a : 0 < r.2.1.num := by
    have := (Rat.lt_iff _ _).mp h.c0
    simpa using this
  have e3 : fLen [eRow r] st = some (.ok (.int 3) st) := rfl
  have ek : kindD st (eRow r) = some .tup := rfl
  unfold f_is_holder runF b_is_holder
  simp [sSeq, sIf, dOr, dNot, dTruth, dIsi, dVar, ek, K7.sub, bindR_ok, bindSB_ok, bindS_ok, truD, isBl, dBin, dArgs, dCons, dNil, e3, dC, opNe, eqD, ok1, eRow0, eRow1, eRow2, f_is_word_ok h.w, sSkip, sRet, dAndV, f_is_chance_ok (Rat.le_of_lt h.c0) h.c1, ix0, opCmp, a, f_is_ratio_ok]
  simp [bindR_ok, bindS_ok, endF_rt]
theorem cutD_tail (xs : List D) : cutD xs (some 1) none = xs.tail := by
  cases xs with
  | nil => rfl
  | cons x xs =>
    unfold cutD
    have e1 : HT.sIx (x :: xs).length 0 (some 1) = 1 := by
      have := HT.sIx_nat (x :: xs).length 0 1
      simp at this
      simp [this]
    rw [e1, HT.sIx_none]
    simp
theorem eqD_eR (st : Sto) (a b : Rat) : eqD st (eR a) (eR b) = some (decide (a = b)) := by
  have := eqD_tup (st := st) (xs := [a.num, (a.den : Int)]) (ys := [b.num, (b.den : Int)]) (fun _ _ => trivial) (fun _ _ => trivial)
  refine Eq.trans (show _ = _ from this) (congrArg some (decide_eq_decide.mpr ?_))
  constructor
  · intro h
    simp at h
    exact Rat.ext h.1 (by exact_mod_cast h.2)
  · intro h
    rw [h]
structure RowsOk (rows : List (Str × Rat × Rat)) (k : Nat) : Prop where
  n2 : 2 ≤ rows.length
  n6 : rows.length ≤ 6
  row : ∀ r ∈ rows, RowOk r
  bd : ∀ r ∈ rows, Bd k r.2.1
  kb : k ≤ 200
  one : sumR (rows.map (·.2.1)) = 1
  srt : ∀ p ∈ rows.zip rows.tail, p.1.1.cps.toList < p.2.1.cps.toList
theorem f_are_rows_ok {rows : List (Str × Rat × Rat)} {k : Nat} (h : RowsOk rows k) (st : Sto) : f_are_rows [.tup (rows.map eRow)] st = some (.ok (.bl true) st) := by
  have hn2 := h.n2
  have hn6 := h.n6
  have hs : rows.length ≤ sizeLine := Nat.le_trans h.n6 six_le
  have e1 : lcL (gNm 1) dYes (dArgs f_is_holder (dCons (dVar 1) (dNil))) (wipeE [some (.tup (rows.map eRow)), none, none, none] [1]) (rows.map eRow) st [] = some (rows.map fun _ => .bl true, st) :=
    lcL_all (e := eRow) (g := fun _ => .bl true) rows (fun r hr => ⟨[some (.tup (rows.map eRow)), some (eRow r), none, none], rfl, by simp [dArgs, dCons, dNil, dVar, bindR_ok, f_is_holder_ok (h.row r hr)]⟩) hs
  have e2 : lcL (gNm 1) dYes (dBin opIx (dVar 1) (dC (.int 1))) (wipeE [some (.tup (rows.map eRow)), none, none, none] [1]) (rows.map eRow) st [] = some ((rows.map (·.2.1)).map eR, st) := by
    have := lcL_all (dg := gNm 1) (de := dBin opIx (dVar 1) (dC (.int 1))) (st := st) (env := wipeE [some (.tup (rows.map eRow)), none, none, none] [1]) (e := eRow) (g := fun r => eR r.2.1) rows (fun r hr => ⟨[some (.tup (rows.map eRow)), some (eRow r), none, none], rfl, by simp [dBin, dVar, dC, bindR_ok, eRow1]⟩) hs
    rw [this]
    simp [Function.comp_def]
  have hs1 : ∀ q ∈ rows.map (·.2.1), Bd k q := fun q hq => by
    obtain ⟨r, hr, rfl⟩ := List.mem_map.mp hq
    exact h.bd r hr
  have e3 := f_total_ok (A := .lst ((rows.map (·.2.1)).map eR)) st rfl hs1 (by
    have := Nat.mul_le_mul (show (rows.map (·.2.1)).length ≤ 6 by simpa using hn6) (show k + 1 ≤ 201 from Nat.succ_le_succ h.kb)
    omega)
  rw [h.one] at e3
  have e4 : lcL (gUnp 2 (gsCons (gNm 2) (gsCons (gNm 3) gsNil))) dYes (dBin opLt (dBin opIx (dVar 2) (dC (.int 0))) (dBin opIx (dVar 3) (dC (.int 0)))) (wipeE [some (.tup (rows.map eRow)), none, none, none] [2, 3]) (zipD (rows.map eRow) (rows.tail.map eRow)) st [] = some ((rows.zip rows.tail).map fun _ => .bl true, st) := by
    rw [zipD_map]
    exact lcL_all (e := fun p : (Str × Rat × Rat) × (Str × Rat × Rat) => D.tup [eRow p.1, eRow p.2]) (g := fun _ => .bl true) (rows.zip rows.tail) (fun p hp => ⟨[some (.tup (rows.map eRow)), none, some (eRow p.1), some (eRow p.2)], by simp [gUnp, gsCons, gNm, gsNil, bindR_ok, wipeE], by
      have z := h.srt p hp
      simp only [dBin, dVar, dC, bindR_ok, eRow0, opLt, ltD, ok1, z, decide_true, List.getElem?_cons_zero, List.getElem?_cons_succ]⟩) (by simp; omega)
  have n2' : (2 : Int) ≤ (rows.length : Int) := by omega
  have n6' : (rows.length : Int) ≤ 6 := by omega
  have e5 : (D.tup [.int 1, .int 1]) = eR 1 := rfl
  unfold f_are_rows runF b_are_rows
  simp [sSeq, sIf, dOr, dNot, dTruth, dIsi, dVar, kindD, K7.sub, bindR_ok, bindSB_ok, truD, isBl, dChain, dC, dArgs, dCons, dNil, fLen, asS, ok1, opCmp, n2']
  have n6'' : ¬ ((6 : Int) < (rows.length : Int)) := by omega
  simp [bindR_ok, n6', n6'', bindSB_ok, sSkip, dLc, dIt, dVar, itemsA, itemsW]
  rw [e1]
  simp [mkL, bindR_ok, bindSB_ok, fAll, asL, bls_true, ok1, truD, dBin, dArgs, dCons, dLc, dIt, dVar, itemsA, itemsW]
  rw [e2]
  simp only [mkL, dNil, bindR_ok, e3, e5, dC, opNe, eqD_eR, ok1, Bool.false_eq_true, if_false]
  simp [ok1, bindR_ok, bindSB_ok, sRet, dArgs, dCons, dNil, dLc, dZip, dSlice, dPart, dNoPart, dVar, dC, opSl, cutD_tail, itemsV, ← List.map_tail]
  rw [e4]
  simp [mkL, bindR_ok, bindS_ok, fAll, asL, bls_true, ok1, endF_rt]
end Pd
end
section
set_option Elab.async false
set_option linter.all false
set_option maxRecDepth 100000
namespace Pd
open PySem PySem.Spec L2 LamX
open PyProof.Rows hiding St
open PySem.W (Datum DatumOrd)
open Enc (enc)
/-- a for-loop that leaves the store alone and goes through -/
theorem forL_inv {α : Type} {dg : DenG} {db : DenS} {st : Sto} (e : α → D) (I : En → Prop) : ∀ (xs : List α), (∀ x ∈ xs, ∀ env, I env → ∃ env1 env2, dg (e x) env st = some (.ok env1 st) ∧ db env1 st = some (.nx env2 st) ∧ I env2) →
    ∀ env, I env → ∃ env', forL dg db (xs.map e) env st = some (.nx env' st) ∧ I env'
  | [], _, env, h => ⟨env, rfl, h⟩
  | x :: xs, h, env, hI => by
    obtain ⟨env1, env2, h1, h2, h3⟩ := h x List.mem_cons_self env hI
    obtain ⟨env', h4, h5⟩ := forL_inv e I xs (fun y hy => h y (List.mem_cons_of_mem _ hy)) env2 h3
    refine ⟨env', ?_, h5⟩
    simp only [List.map_cons, forL, h1, h2, h4]
structure PassOk (names : List Str) (passes : List (Str × Str)) : Prop where
  few : passes.length ≤ sizeLine
  fewN : names.length ≤ 6
  okN : ∀ w ∈ names, PyData.strOk w = true
  ne : ∀ p ∈ passes, p.1 ≠ p.2
  inn : ∀ p ∈ passes, p.1 ∈ names ∧ p.2 ∈ names
  srt : ∀ q ∈ passes.zip passes.tail, DatumOrd.lt q.1 q.2 = true
  clo : ∀ p ∈ passes, ∀ t ∈ names, (p.2, t) ∈ passes → t ≠ p.1 → (p.1, t) ∈ passes
theorem PassOk.ok {names : List Str} {passes : List (Str × Str)} (h : PassOk names passes) : ∀ p ∈ passes, Enc.ok p := fun p hp => ⟨h.okN _ (h.inn p hp).1, h.okN _ (h.inn p hp).2⟩
theorem inD_pair {st : Sto} {a b : Str} {ps : List (Str × Str)} (ha : PyData.strOk a = true) (hb : PyData.strOk b = true) (hp : ∀ p ∈ ps, Enc.ok p) : inD st (.tup [.str a, .str b]) (.tup (ps.map enc)) = some (decide ((a, b) ∈ ps)) :=
  (inD_tup (x := (a, b)) (show PyData.strOk a = true ∧ PyData.strOk b = true from ⟨ha, hb⟩) hp).trans (congrArg some (decide_eq_decide.mpr Iff.rfl))
theorem ltD_pair {st : Sto} {p q : Str × Str} (hp : Enc.ok p) (hq : Enc.ok q) (h : DatumOrd.lt p q = true) : ltD st (enc p) (enc q) = some true := by
  have e : ltD st (enc p) (enc q) = match pyOf st (enc p), pyOf st (enc q) with | some p, some q => if PySem.W.alike p q && SeqAt.shaped p && !(PyData.eqv p .none) then some (PySem.W.dataLt p q) else none | _, _ => none := rfl
  have e1 : ∀ r : Str × Str, pyOf st (enc r) = some (Datum.toD r) := fun r => Enc.py r
  rw [e, e1, e1]
  have hn : PyData.eqv (Datum.toD p) .none = false := by show PyData.eqv (.tuple _) .none = false; simp only [PyData.eqv]
  simp only [DatumOrd.alike, shaped_one hp, hn, DatumOrd.lt_eq, h, Bool.and_self, Bool.not_false, if_true]
theorem f_are_passes_ok {names : List Str} {passes : List (Str × Str)} (h : PassOk names passes) (st : Sto) : f_are_passes [.lst (names.map enc), .tup (passes.map enc)] st = some (.ok (.bl true) st) := by
  let I : En → Prop := fun env => ∃ a b c d e, env = [some (.lst (names.map enc)), some (.tup (passes.map enc)), a, b, c, d, e]
  have l1 := forL_inv (dg := gNm 2) (st := st) (db := sSeq (sIf (dOr (dNot (dTruth truD (dIsi .tup (dVar 2)))) (dOr (dTruth isBl (dBin opNe (dArgs fLen (dCons (dVar 2) (dNil))) (dC (.int 2)))) (dNot (dTruth truD (dArgs fAll (dCons (dLc false [3] (dIt (dVar 2)) (gNm 3) dYes (dIsi .str (dVar 3))) (dNil))))))) (sRet (dC (.bl false))) (sSkip)) (sIf (dOr (dTruth isBl (dBin opEq (dBin opIx (dVar 2) (dC (.int 0))) (dBin opIx (dVar 2) (dC (.int 1))))) (dNot (dTruth truD (dArgs fAll (dCons (dLc false [3] (dIt (dVar 2)) (gNm 3) dYes (dBin opIn (dVar 3) (dVar 0))) (dNil)))))) (sRet (dC (.bl false))) (sSkip)))
    (enc : Str × Str → D) I passes (fun p hp env hI => by
      obtain ⟨a, b, c, d, e, rfl⟩ := hI
      obtain ⟨x, y⟩ := p
      refine ⟨_, [some (.lst (names.map enc)), some (.tup (passes.map enc)), some (.tup [.str x, .str y]), b, c, d, e], rfl, ?_, _, _, _, _, _, rfl⟩
      have i1 : inD st (.str x) (.lst (names.map enc)) = some true := by
        have := inD_lst (st := st) (l := .lst (names.map enc)) rfl (show Enc.ok x from h.okN _ (h.inn _ hp).1) h.okN
        rw [decide_eq_true (h.inn _ hp).1] at this
        exact this
      have i2 : inD st (.str y) (.lst (names.map enc)) = some true := by
        have := inD_lst (st := st) (l := .lst (names.map enc)) rfl (show Enc.ok y from h.okN _ (h.inn _ hp).2) h.okN
        rw [decide_eq_true (h.inn _ hp).2] at this
        exact this
      have hne : x ≠ y := h.ne _ hp
      have hs2 : (0 : Nat) < sizeLine ∧ 1 < sizeLine := by decide
      rw [show (enc (x, y) : D) = .tup [.str x, .str y] from rfl]
      simp [gNm, sSeq, sIf, dOr, dNot, dTruth, dIsi, dVar, K7.sub, bindR_ok, bindSB_ok, truD, isBl, dBin, dArgs, dCons, dNil, fLen, asS, dC, opNe, eqD, ok1, dLc, dIt, itemsA, itemsW, wipeE, lcL, dYes, kindD, hs2, mkL, fAll, asL, bls, sSkip, opIx, atI, ixN, opEq, hne, opIn, i1, i2])
  have l3 := forL_inv (dg := gUnp 2 (gsCons (gNm 4) (gsCons (gNm 5) gsNil))) (st := st) (db := sFor (dIt (dVar 0)) (gNm 6) (sIf (dAnd (dTruth isBl (dBin opIn (dArgs fTup (dCons (dVar 5) (dCons (dVar 6) (dNil)))) (dVar 1))) (dAnd (dTruth isBl (dBin opNe (dVar 6) (dVar 4))) (dTruth isBl (dBin opNotIn (dArgs fTup (dCons (dVar 4) (dCons (dVar 6) (dNil)))) (dVar 1))))) (sRet (dC (.bl false))) (sSkip)))
    (enc : Str × Str → D) I passes (fun p hp env hI => by
      obtain ⟨a, b, c, d, e, rfl⟩ := hI
      obtain ⟨x, y⟩ := p
      have hx := h.inn _ hp
      obtain ⟨env', h1, a', h2⟩ := forL_inv (dg := gNm 6) (st := st) (db := sIf (dAnd (dTruth isBl (dBin opIn (dArgs fTup (dCons (dVar 5) (dCons (dVar 6) (dNil)))) (dVar 1))) (dAnd (dTruth isBl (dBin opNe (dVar 6) (dVar 4))) (dTruth isBl (dBin opNotIn (dArgs fTup (dCons (dVar 4) (dCons (dVar 6) (dNil)))) (dVar 1))))) (sRet (dC (.bl false))) (sSkip))
        (enc : Str → D) (fun env => ∃ z, env = [some (.lst (names.map enc)), some (.tup (passes.map enc)), a, b, some (.str x), some (.str y), z]) names (fun t ht env hI => by
          obtain ⟨z, rfl⟩ := hI
          refine ⟨_, [some (.lst (names.map enc)), some (.tup (passes.map enc)), a, b, some (.str x), some (.str y), some (.str t)], rfl, ?_, _, rfl⟩
          have j1 := inD_pair (st := st) (ps := passes) (h.okN _ hx.2) (h.okN _ ht) h.ok
          have j2 := inD_pair (st := st) (ps := passes) (h.okN _ hx.1) (h.okN _ ht) h.ok
          have cl := h.clo _ hp t ht
          rw [show (enc t : D) = .str t from rfl]
          by_cases c1 : (y, t) ∈ passes
          · by_cases c2 : t = x
            · subst c2
              simp [gNm, sIf, dAnd, dTruth, isBl, dBin, dArgs, dCons, dNil, dVar, fTup, two_le, bindR_ok, bindSB_ok, opIn, j1, c1, ok1, opNe, eqD, sSkip]
            · have c3 := cl c1 c2
              simp [gNm, sIf, dAnd, dTruth, isBl, dBin, dArgs, dCons, dNil, dVar, fTup, two_le, bindR_ok, bindSB_ok, opIn, opNotIn, j1, j2, c1, c3, ok1, opNe, eqD, c2, sSkip]
          · simp [gNm, sIf, dAnd, dTruth, isBl, dBin, dArgs, dCons, dNil, dVar, fTup, two_le, bindR_ok, bindSB_ok, opIn, j1, c1, ok1, sSkip])
        [some (.lst (names.map enc)), some (.tup (passes.map enc)), a, b, some (.str x), some (.str y), e] ⟨e, rfl⟩
      subst h2
      refine ⟨[some (.lst (names.map enc)), some (.tup (passes.map enc)), a, b, some (.str x), some (.str y), e], [some (.lst (names.map enc)), some (.tup (passes.map enc)), a, b, some (.str x), some (.str y), a'], rfl, ?_, a, b, some (.str x), some (.str y), a', rfl⟩
      simp only [sFor, dIt, dVar, List.getElem?_cons_zero, bindR_ok, itemsA, itemsW]
      exact h1)
  have l2 : ∀ a b c d e, lcL (gUnp 2 (gsCons (gNm 4) (gsCons (gNm 5) gsNil))) dYes (dBin opLt (dVar 4) (dVar 5)) (wipeE [some (.lst (names.map enc)), some (.tup (passes.map enc)), a, b, c, d, e] [4, 5]) (zipD (passes.map enc) (passes.tail.map enc)) st [] = some ((passes.zip passes.tail).map fun _ => .bl true, st) := fun a b c d e => by
    rw [zipD_map]
    refine lcL_all (e := fun p : (Str × Str) × (Str × Str) => D.tup [enc p.1, enc p.2]) (g := fun _ => .bl true) (passes.zip passes.tail) (fun p hp => ⟨[some (.lst (names.map enc)), some (.tup (passes.map enc)), a, b, some (enc p.1), some (enc p.2), e], by simp [gUnp, gsCons, gNm, gsNil, bindR_ok, wipeE], ?_⟩) (by simp; have := h.few; omega)
    have z := ltD_pair (st := st) (h.ok _ (List.of_mem_zip hp).1) (h.ok _ (List.mem_of_mem_tail (List.of_mem_zip hp).2)) (h.srt p hp)
    simp [dBin, dVar, bindR_ok, opLt, z, ok1]
  obtain ⟨env1, r1, a1, b1, c1, d1, e1, rfl⟩ := l1 [some (.lst (names.map enc)), some (.tup (passes.map enc)), none, none, none, none, none] ⟨_, _, _, _, _, rfl⟩
  obtain ⟨env2, r2, a2, b2, c2, d2, e2, rfl⟩ := l3 [some (.lst (names.map enc)), some (.tup (passes.map enc)), a1, b1, c1, d1, e1] ⟨_, _, _, _, _, rfl⟩
  unfold f_are_passes runF b_are_passes
  simp [sSeq, sIf, dNot, dTruth, dIsi, dVar, kindD, K7.sub, bindR_ok, bindSB_ok, truD, sSkip]
  have f1 : ∀ (dg : DenG) (db : DenS) (env : En), env[1]? = some (some (.tup (passes.map enc))) → sFor (dIt (dVar 1)) dg db env st = forL dg db (passes.map enc) env st := fun dg db env he => by
    simp only [sFor, dIt, dVar, he, bindR_ok, itemsA, itemsW]
  rw [f1 _ _ _ rfl, r1]
  simp only []
  have l2' := l2 a1 b1 c1 d1 e1
  simp [dC, dArgs, dCons, dNil, dLc, dZip, dSlice, dPart, dNoPart, dVar, bindR_ok, opSl, ok1, cutD_tail, itemsV, ← List.map_tail]
  rw [l2']
  simp [mkL, bindR_ok, bindSB_ok, fAll, asL, bls_true, ok1, truD]
  rw [f1 _ _ _ rfl, r2]
  simp [sRet, dC, bindS_ok, endF_rt]
/-! ### sound holders -/
structure Hs.Ok (h : Hs) (k : Nat) : Prop where
  rows : RowsOk h.rows k
  pas : PassOk h.names h.passes
  wb : ∀ r ∈ h.rows, Bd k r.2.2
theorem Hs.Ok.fit {h : Hs} {k : Nat} (o : h.Ok k) : h.Fit := ⟨o.rows.n6, o.pas.okN, o.pas.ok⟩
theorem Hs.Ok.bds {h : Hs} {k : Nat} (o : h.Ok k) : ∀ r ∈ h.rows, Bd k r.2.1 ∧ Bd k r.2.2 := fun r hr => ⟨o.rows.bd r hr, o.wb r hr⟩
theorem f_is_holders_ok {h : Hs} {k : Nat} (o : h.Ok k) (st : Sto) : f_is_holders [eH h] st = some (.ok (.bl true) st) := by
  have e : lcL (gNm 1) dYes (dBin opIx (dVar 1) (dC (.int 0))) (wipeE [some (eH h), none] [1]) (h.rows.map eRow) st [] = some (h.names.map enc, st) := by
    have := lcL_all (dg := gNm 1) (de := dBin opIx (dVar 1) (dC (.int 0))) (st := st) (env := wipeE [some (eH h), none] [1]) (e := eRow) (g := fun r => (.str r.1 : D)) h.rows (fun x hx => ⟨[some (eH h), some (eRow x)], rfl, by simp [dBin, dC, dVar, bindR_ok, eRow0]⟩) (Nat.le_trans o.rows.n6 six_le)
    rw [this]
    simp [Hs.names, Function.comp_def]
    exact fun _ _ _ _ => rfl
  have k1 : kindD st (eH h) = some .tup := rfl
  have k2 : fLen [eH h] st = some (.ok (.int 3) st) := rfl
  have k3 : opIx (eH h) (.int 0) st = some (.ok (.str "holders") st) := rfl
  have k4 : ∀ x, kindD st (.str x) = some .str := fun _ => rfl
  unfold f_is_holders runF b_is_holders
  simp [sSeq, sIf, dOr, dNot, dTruth, dIsi, dVar, k1, K7.sub, bindR_ok, bindSB_ok, truD, isBl, dBin, dArgs, dCons, dNil, k2, k3, k4, dC, opNe, eqD, ok1, sSkip, sRet, dAndV, eH1, eH2, f_are_rows_ok o.rows]
  simp [bindR_ok, bindS_ok, dArgs, dCons, dNil, dLc, dIt, dBin, dVar, dC, eH1, eH2, itemsA, itemsW]
  rw [e]
  simp [mkL, bindR_ok, bindS_ok, f_are_passes_ok o.pas, endF_rt]
end Pd
end
section
set_option Elab.async false
set_option linter.all false
set_option maxRecDepth 100000
namespace Pd
open PySem PySem.Spec L2 LamX
open PyProof.Rows hiding St
/-! ### the draws -/
structure DS where
  great : List Nat
  cells : List Nat
  rest : Nat
  turn : Nat
def natD (n : Nat) : D := .int (n : Int)
def keysD : List Key := [.inr "great", .inr "cells", .inr "rest", .inr "turn"]
def DS.sto (s : DS) : Sto := [.lst (s.great.map natD), .dct keysD [.ref 0, .lst (s.cells.map natD), natD s.rest, natD s.turn]]
def blendP (p : Nat) (cells : List Nat) (t : Nat) : Nat := cells.foldl (fun b c => (b * 69621 + c + t) % p) (48271 * t + p / 53)
def powP (p : Nat) (cells : List Nat) (t : Nat) : Nat := blendP p cells t ^ 5 % p
def blend (cells : List Nat) (t : Nat) : Nat := (powP 2147483579 cells t * 2147483647 + powP 2147483629 cells t) * 2147483647 + powP 2147483563 cells t
def DS.fetch (s : DS) : Nat × DS := if s.rest = 0 then (match s.great with | g :: gs => (g, { s with great := gs, rest := g }) | [] => (blend s.cells (s.turn + 1), { s with turn := s.turn + 1, rest := blend s.cells (s.turn + 1) })) else (s.rest, s)
def DS.draw (s : DS) (room : Nat) : Nat × DS := (s.fetch.1 % room, { s.fetch.2 with rest := s.fetch.1 / room })
theorem look_rest (a b c d : D) : look keysD [a, b, c, d] (.inr "rest") = some c := rfl
theorem look_turn (a b c d : D) : look keysD [a, b, c, d] (.inr "turn") = some d := rfl
theorem look_great (a b c d : D) : look keysD [a, b, c, d] (.inr "great") = some a := rfl
theorem look_cells (a b c d : D) : look keysD [a, b, c, d] (.inr "cells") = some b := rfl
theorem put_rest (a b c d e : D) : putD keysD [a, b, c, d] (.inr "rest") e = (keysD, [a, b, e, d]) := rfl
theorem put_turn (a b c d e : D) : putD keysD [a, b, c, d] (.inr "turn") e = (keysD, [a, b, c, e]) := rfl
theorem keysD_ok : keysD.Nodup ∧ keysD.length < sizeLine := by decide +kernel
theorem add_ii (c : Bool) (i j : Int) (st : Sto) : opAdd c (.int i) (.int j) st = some (.ok (.int (i + j)) st) := rfl
theorem sub_ii (i j : Int) (st : Sto) : opSub (.int i) (.int j) st = some (.ok (.int (i - j)) st) := rfl
theorem mul_ii {c : Bool} {i j : Int} {st : Sto} (h : i.natAbs.log2 + j.natAbs.log2 < 1000000) : opMul c (.int i) (.int j) st = some (.ok (.int (i * j)) st) := if_pos h
theorem mod_ii {i j : Int} {st : Sto} (h : j ≠ 0) : opMod (.int i) (.int j) st = some (.ok (.int (i.fmod j)) st) := if_pos h
theorem fdiv_ii {i j : Int} {st : Sto} (h : j ≠ 0) (h2 : j.natAbs.log2 < 9000) : opFdiv (.int i) (.int j) st = some (.ok (.int (i.fdiv j)) st) := if_pos ⟨h, h2⟩
theorem int_i (i : Int) (st : Sto) : fInt [.int i] st = some (.ok (.int i) st) := rfl
theorem fmod_nat (a b : Nat) : ((a : Int).fmod (b : Int)) = ((a % b : Nat) : Int) := by rw [Int.fmod_eq_emod_of_nonneg _ (by omega)]; simp
theorem fdiv_nat (a b : Nat) : ((a : Int).fdiv (b : Int)) = ((a / b : Nat) : Int) := by rw [Int.fdiv_eq_ediv_of_nonneg _ (by omega)]; simp
section
variable {s : DS} {ext : Sto}
theorem ds_rest : opIx (.ref 1) (.str "rest") (s.sto ++ ext) = some (.ok (.int s.rest) (s.sto ++ ext)) := by
  simp [DS.sto, opIx, asL, asD, keyD, look_rest, ok1, natD]
theorem ds_turn : opIx (.ref 1) (.str "turn") (s.sto ++ ext) = some (.ok (.int s.turn) (s.sto ++ ext)) := by
  simp [DS.sto, opIx, asL, asD, keyD, look_turn, ok1, natD]
theorem ds_great : opIx (.ref 1) (.str "great") (s.sto ++ ext) = some (.ok (.ref 0) (s.sto ++ ext)) := by
  simp [DS.sto, opIx, asL, asD, keyD, look_great, ok1, natD]
theorem ds_cells : opIx (.ref 1) (.str "cells") (s.sto ++ ext) = some (.ok (.lst (s.cells.map natD)) (s.sto ++ ext)) := by
  simp [DS.sto, opIx, asL, asD, keyD, look_cells, ok1, natD]
theorem ds_setRest (n : Nat) : setOb (.ref 1) (.str "rest") (.int n) (s.sto ++ ext) = some (({ s with rest := n } : DS).sto ++ ext) := by
  simp [DS.sto, setOb, keyD, put_rest, keysD_ok, natD]
  simp [keysD]
theorem ds_setTurn (n : Nat) : setOb (.ref 1) (.str "turn") (.int n) (s.sto ++ ext) = some (({ s with turn := n } : DS).sto ++ ext) := by
  simp [DS.sto, setOb, keyD, put_turn, keysD_ok, natD]
  simp [keysD]
theorem blend_loop {st : Sto} (S : D) (t p : Nat) (f : D) (hp : 0 < p) (hp2 : p < 2 ^ 32) : ∀ (cells : List Nat) (b : Nat) (z : Option D), b < 2 ^ 64 →
    ∃ z', forL (gNm 5) (sSet 4 (dBin opMod (dArgs fInt (dCons (dBin (opAdd false) (dBin (opAdd false) (dBin (opMul false) (dVar 4) (dC (.int 69621))) (dVar 5)) (dVar 1)) (dNil))) (dVar 3))) (cells.map natD)
      [some S, some (.int t), some f, some (.int p), some (.int b), z] st = some (.nx [some S, some (.int t), some f, some (.int p), some (.int ((cells.foldl (fun b c => (b * 69621 + c + t) % p) b : Nat) : Int)), z'] st)
  | [], b, z, _ => ⟨z, rfl⟩
  | c :: cells, b, z, hb => by
    have hm : (b * 69621 + c + t) % p < 2 ^ 64 := Nat.lt_trans (Nat.mod_lt _ hp) (Nat.lt_trans hp2 (by decide))
    obtain ⟨z', e⟩ := blend_loop (st := st) S t p f hp hp2 cells ((b * 69621 + c + t) % p) (some (natD c)) hm
    refine ⟨z', ?_⟩
    have hl : b.log2 ≤ 64 := lt_log hb
    have h69 : (Int.natAbs 69621).log2 = 16 := by decide +kernel
    have hl2 : (b : Int).natAbs.log2 + (Int.natAbs 69621).log2 < 1000000 := by rw [h69, Int.natAbs_natCast]; omega
    have hp0 : (p : Int) ≠ 0 := by omega
    have he : ((b : Int) * 69621 + (c : Int) + (t : Int)) = ((b * 69621 + c + t : Nat) : Int) := by simp
    simp only [List.map_cons, forL, gNm, List.set, sSet, dBin, dArgs, dCons, dNil, dVar, dC, List.getElem?_cons_zero, List.getElem?_cons_succ, bindR_ok, natD, mul_ii hl2, add_ii, int_i, mod_ii hp0, he, fmod_nat, bindS_ok]
    simp only [natD] at e
    exact e
def turnB : DenS := sSeq (sSet 4 (dBin (opAdd false) (dBin (opMul false) (dC (.int 48271)) (dVar 1)) (dBin opFdiv (dVar 3) (dC (.int 53))))) (sSeq (sFor (dIt (dBin opIx (dVar 0) (dC (.str "cells")))) (gNm 5) (sSet 4 (dBin opMod (dArgs fInt (dCons (dBin (opAdd false) (dBin (opAdd false) (dBin (opMul false) (dVar 4) (dC (.int 69621))) (dVar 5)) (dVar 1)) (dNil))) (dVar 3)))) (sSet 2 (dBin (opAdd false) (dBin (opMul false) (dVar 2) (dC (.int 2147483647))) (dBin opMod (dArgs fInt (dCons (dBin opPow (dVar 4) (dC (.int 5))) (dNil))) (dVar 3)))))
theorem blendP_lt (p : Nat) (cells : List Nat) (t : Nat) (hp : 0 < p) (hp2 : p < 2 ^ 32) (ht : t < 2 ^ 40) : blendP p cells t < 2 ^ 64 := by
  unfold blendP
  have h0 : 48271 * t + p / 53 < 2 ^ 64 := by
    have : p / 53 ≤ p := Nat.div_le_self _ _
    omega
  generalize 48271 * t + p / 53 = b at h0
  induction cells generalizing b with
  | nil => exact h0
  | cons c cs ih => exact ih _ (Nat.lt_trans (Nat.mod_lt _ hp) (Nat.lt_trans hp2 (by decide)))
theorem turn_one (t p f : Nat) (b z : Option D) (hp : 0 < p) (hp2 : p < 2 ^ 32) (ht : t < 2 ^ 40) (hf : f < 2 ^ 100) :
    ∃ b' z', turnB [some (.ref 1), some (.int t), some (.int f), some (.int p), b, z] (s.sto ++ ext) = some (.nx [some (.ref 1), some (.int t), some (.int ((f * 2147483647 + powP p s.cells t : Nat) : Int)), some (.int p), b', z'] (s.sto ++ ext)) := by
  have h0 : 48271 * t + p / 53 < 2 ^ 64 := by
    have : p / 53 ≤ p := Nat.div_le_self _ _
    omega
  obtain ⟨z', e⟩ := blend_loop (st := s.sto ++ ext) (.ref 1) t p (.int f) hp hp2 s.cells (48271 * t + p / 53) z h0
  have hlt := blendP_lt p s.cells t hp hp2 ht
  refine ⟨some (.int ((blendP p s.cells t : Nat) : Int)), z', ?_⟩
  have hl1 : (Int.natAbs 48271).log2 + (t : Int).natAbs.log2 < 1000000 := by
    have : (Int.natAbs 48271).log2 = 15 := by decide +kernel
    have := lt_log ht
    rw [Int.natAbs_natCast]
    omega
  have hl2 : (f : Int).natAbs.log2 + (Int.natAbs 2147483647).log2 < 1000000 := by
    have : (Int.natAbs 2147483647).log2 = 30 := by decide +kernel
    have := lt_log hf
    rw [Int.natAbs_natCast]
    omega
  have hp0 : (p : Int) ≠ 0 := by omega
  have h53 : (p : Int).fdiv 53 = ((p / 53 : Nat) : Int) := fdiv_nat p 53
  have he : 48271 * (t : Int) + ((p / 53 : Nat) : Int) = ((48271 * t + p / 53 : Nat) : Int) := by simp
  have hpw : opPow (.int ((blendP p s.cells t : Nat) : Int)) (.int 5) (s.sto ++ ext) = some (.ok (.int ((blendP p s.cells t ^ 5 : Nat) : Int)) (s.sto ++ ext)) := by
    unfold opPow
    simp [hlt, ok1]
  have hfd : opFdiv (.int p) (.int 53) (s.sto ++ ext) = some (.ok (.int ((p / 53 : Nat) : Int)) (s.sto ++ ext)) := by rw [fdiv_ii (by decide) (by decide +kernel), h53]
  unfold turnB
  simp only [sSeq, sSet, dBin, dC, dVar, List.getElem?_cons_zero, List.getElem?_cons_succ, bindR_ok, mul_ii hl1, hfd, add_ii, he, bindS_ok, List.set]
  simp only [sFor, dIt, dBin, dVar, dC, List.getElem?_cons_zero, bindR_ok, ds_cells, itemsA, itemsW]
  rw [e]
  simp only [dVar, dC, dBin, dArgs, dCons, dNil, List.getElem?_cons_zero, List.getElem?_cons_succ, bindR_ok]
  rw [show (s.cells.foldl (fun b c => (b * 69621 + c + t) % p) (48271 * t + p / 53)) = blendP p s.cells t from rfl]
  simp only [mul_ii hl2, bindR_ok, hpw, int_i, mod_ii hp0, fmod_nat, add_ii, bindS_ok, powP]
  simp
theorem fl1 {a : Nat} (h : a < 2147483579) : 0 * 2147483647 + a < 2 ^ 100 := Nat.lt_trans (show 0 * 2147483647 + a < 2 ^ 32 by omega) (Nat.pow_lt_pow_right (by omega) (by omega))
theorem fl2 {a b : Nat} (h : a < 2147483579) (h2 : b < 2147483629) : (0 * 2147483647 + a) * 2147483647 + b < 2 ^ 100 := Nat.lt_trans (show (0 * 2147483647 + a) * 2147483647 + b < 2 ^ 64 by omega) (Nat.pow_lt_pow_right (by omega) (by omega))
theorem three_le : 3 ≤ sizeLine := by decide
theorem powP_lt (p : Nat) (cells : List Nat) (t : Nat) (hp : 0 < p) : powP p cells t < p := Nat.mod_lt _ hp
theorem f_blended_ok (ht : s.turn < 2 ^ 39) : f_l_law_blended [.ref 1] (s.sto ++ ext) = some (.ok (.int ((blend s.cells (s.turn + 1) : Nat) : Int)) (({ s with turn := s.turn + 1 } : DS).sto ++ ext)) := by
  have e0 : ((s.turn : Int) + 1) = ((s.turn + 1 : Nat) : Int) := by simp
  have ht1 : s.turn + 1 < 2 ^ 40 := by omega
  have hlen : (({ s with turn := s.turn + 1 } : DS).sto ++ ext).length = (s.sto ++ ext).length := by simp [DS.sto]
  have q1 := powP_lt 2147483579 s.cells (s.turn + 1) (by decide)
  have q2 := powP_lt 2147483629 s.cells (s.turn + 1) (by decide)
  obtain ⟨b1, z1, e1⟩ := turn_one (s := { s with turn := s.turn + 1 }) (ext := ext) (s.turn + 1) 2147483579 0 none none (by decide) (by decide) ht1 (Nat.two_pow_pos 100)
  obtain ⟨b2, z2, e2⟩ := turn_one (s := { s with turn := s.turn + 1 }) (ext := ext) (s.turn + 1) 2147483629 (0 * 2147483647 + powP 2147483579 s.cells (s.turn + 1)) b1 z1 (by decide) (by decide) ht1 (fl1 q1)
  obtain ⟨b3, z3, e3⟩ := turn_one (s := { s with turn := s.turn + 1 }) (ext := ext) (s.turn + 1) 2147483563 ((0 * 2147483647 + powP 2147483579 s.cells (s.turn + 1)) * 2147483647 + powP 2147483629 s.cells (s.turn + 1)) b2 z2 (by decide) (by decide) ht1 (fl2 q1 q2)
  have hz : (.int ((0 : Nat) : Int) : D) = .int 0 := rfl
  unfold f_l_law_blended runF b_l_law_blended
  rw [show (sSeq (sSet 4 (dBin (opAdd false) (dBin (opMul false) (dC (.int 48271)) (dVar 1)) (dBin opFdiv (dVar 3) (dC (.int 53))))) (sSeq (sFor (dIt (dBin opIx (dVar 0) (dC (.str "cells")))) (gNm 5) (sSet 4 (dBin opMod (dArgs fInt (dCons (dBin (opAdd false) (dBin (opAdd false) (dBin (opMul false) (dVar 4) (dC (.int 69621))) (dVar 5)) (dVar 1)) (dNil))) (dVar 3)))) (sSet 2 (dBin (opAdd false) (dBin (opMul false) (dVar 2) (dC (.int 2147483647))) (dBin opMod (dArgs fInt (dCons (dBin opPow (dVar 4) (dC (.int 5))) (dNil))) (dVar 3)))))) = turnB from rfl]
  simp only [List.length_cons, List.length_nil, Nat.zero_add, if_true, List.map, List.replicate, Nat.reduceSub, List.cons_append, List.nil_append]
  simp only [sSeq, sPar, dCons, dBin, dC, dVar, dNil, List.getElem?_cons_zero, List.getElem?_cons_succ, bindR_ok, ds_turn, add_ii, e0, List.set]
  simp only [sAsg, gSb, dVar, dC, List.getElem?_cons_zero, List.getElem?_cons_succ, bindS_ok, ds_setTurn]
  simp only [sFor, dIt, dArgs, dCons, dNil, dC, bindR_ok, fLst, List.length_cons, List.length_nil, Nat.reduceAdd, three_le, if_true, mkL, Bool.false_eq_true, if_false, itemsA, itemsW]
  simp only [forL, gNm, List.set]
  have e1' := e1
  simp only [hz] at e1'
  rw [show ((2147483579 : Nat) : Int) = 2147483579 by simp] at e1'
  rw [e1']
  simp only [forL, gNm, List.set]
  rw [show ((2147483629 : Nat) : Int) = 2147483629 by simp] at e2
  rw [e2]
  simp only [forL, gNm, List.set]
  rw [show ((2147483563 : Nat) : Int) = 2147483563 by simp] at e3
  rw [e3]
  simp only [forL, sRet, dVar, List.getElem?_cons_zero, List.getElem?_cons_succ, bindS_ok]
  rw [← hlen, endF_rt]
  simp [blend]
theorem natD_enc (ns : List Nat) : ns.map natD = (ns.map fun n : Nat => (n : Int)).map (Enc.enc : Int → D) := by
  rw [List.map_map]
  rfl
theorem ne_great : opNe (.ref 0) (.lst []) (s.sto ++ ext) = some (.ok (.bl (!decide (s.great = []))) (s.sto ++ ext)) := by
  have := eqD_lst (α := Int) (st := s.sto ++ ext) (l := .ref 0) (m := .lst []) (xs := s.great.map fun n : Nat => (n : Int)) (ys := []) (by rw [← natD_enc]; simp [DS.sto, asM]) rfl (fun _ _ => trivial) (fun _ _ => trivial)
  unfold opNe
  rw [this]
  simp [ok1]
theorem pop_great {g : Nat} {gs : List Nat} (h : s.great = g :: gs) : mPopAt (.ref 0) [.int 0] (s.sto ++ ext) = some (.ok (.int g) (({ s with great := gs } : DS).sto ++ ext)) := by
  simp [mPopAt, cellL, DS.sto, h, natD]
theorem isL_great : isL (.ref 0) (s.sto ++ ext) = true := by simp [isL, asM, DS.sto]
theorem f_draw_ok {room : Nat} (hr : 0 < room) (hr2 : room < 2 ^ 1000) (ht : s.turn < 2 ^ 39) : f_l_law_draw [.ref 1, .int room] (s.sto ++ ext) = some (.ok (.int ((s.draw room).1 : Nat)) ((s.draw room).2.sto ++ ext)) := by
  have hr0 : (room : Int) ≠ 0 := by omega
  have hrl : (room : Int).natAbs.log2 < 9000 := by
    have := lt_log hr2
    rw [Int.natAbs_natCast]
    omega
  have tail : ∀ (u : DS) (env2 : Option D), sSeq (sSet 2 (dBin opMod (dArgs fInt (dCons (dBin opIx (dVar 0) (dC (.str "rest"))) (dNil))) (dVar 1))) (sSeq (sAsg (dBin opFdiv (dBin opIx (dVar 0) (dC (.str "rest"))) (dVar 1)) (gSb setOb (dVar 0) (dC (.str "rest")))) (sRet (dVar 2)))
      [some (.ref 1), some (.int room), env2] (u.sto ++ ext) = some (.rt (.int ((u.rest % room : Nat) : Int)) (({ u with rest := u.rest / room } : DS).sto ++ ext)) := fun u env2 => by
    simp only [sSeq, sSet, dBin, dArgs, dCons, dNil, dVar, dC, List.getElem?_cons_zero, List.getElem?_cons_succ, bindR_ok, ds_rest, int_i, mod_ii hr0, fmod_nat, bindS_ok, List.set, sAsg, fdiv_ii hr0 hrl, fdiv_nat, gSb, ds_setRest, sRet]
  have hlen : ∀ u : DS, (u.sto ++ ext).length = (s.sto ++ ext).length := fun u => by simp [DS.sto]
  unfold f_l_law_draw runF b_l_law_draw
  simp only [List.length_cons, List.length_nil, Nat.zero_add, Nat.reduceAdd, if_true, List.map, List.replicate, Nat.reduceSub, List.cons_append, List.nil_append]
  rw [sSeq]
  unfold DS.draw DS.fetch
  by_cases h0 : s.rest = 0
  · have e0 : ((s.rest : Nat) : Int) = 0 := by omega
    rw [if_pos h0]
    cases hg : s.great with
    | nil =>
      simp only [sIf, dTruth, dBin, dVar, dC, List.getElem?_cons_zero, bindR_ok, ds_rest, opEq, eqD, e0, decide_true, ok1, isBl, bindSB_ok, if_true, sAsg, dIf, ds_great, dArgs, dNil, fLst, List.length_nil, Nat.zero_le, mkL, Bool.false_eq_true, if_false, ne_great, hg, Bool.not_true, dCons, f_blended_ok ht, bindS_ok, gSb, ds_setRest, tail]
      rw [← hlen { s with great := [], rest := blend s.cells (s.turn + 1) / room, turn := s.turn + 1 }, endF_rt]
    | cons g gs =>
      simp only [sIf, dTruth, dBin, dVar, dC, List.getElem?_cons_zero, bindR_ok, ds_rest, opEq, eqD, e0, decide_true, ok1, isBl, bindSB_ok, if_true, sAsg, dIf, ds_great, dArgs, dNil, fLst, List.length_nil, Nat.zero_le, mkL, Bool.false_eq_true, if_false, ne_great, hg, dCons, dMethL, isL_great, pop_great hg, bindS_ok, gSb, ds_setRest, tail, reduceCtorEq, decide_false, Bool.not_false]
      rw [← hlen { s with rest := g / room, great := gs }, endF_rt]
  · have h0' : ¬ ((s.rest : Int) = 0) := by omega
    simp only [sIf, dTruth, dBin, dVar, dC, List.getElem?_cons_zero, bindR_ok, ds_rest, opEq, eqD, h0', decide_false, ok1, isBl, bindSB_ok, Bool.false_eq_true, if_false, sSkip, tail, h0]
    rw [← hlen { s with rest := s.rest / room }, endF_rt]
theorem draw_lt (room : Nat) (hr : 0 < room) : (s.draw room).1 < room := Nat.mod_lt _ hr
theorem atI_nat {α : Type} (xs : List α) (i : Nat) (h : i < xs.length) : atI xs (i : Int) = some xs[i] := by
  have : ((i : Int) < (xs.length : Int)) := by omega
  simp [atI, ixN, this, h]
theorem f_pick_ok {ds : List D} (hn : 0 < ds.length) (hl : ds.length ≤ 1000) (ht : s.turn < 2 ^ 39) :
    f_l_law_pick [.ref 1, .lst ds] (s.sto ++ ext) = some (.ok (ds[(s.draw ds.length).1]'(draw_lt _ hn)) ((s.draw ds.length).2.sto ++ ext)) := by
  have hb : ds.length < 2 ^ 1000 := Nat.lt_of_le_of_lt hl (Nat.lt_trans (show 1000 < 2 ^ 10 by decide) (Nat.pow_lt_pow_right (by omega) (by omega)))
  have e := f_draw_ok (s := s) (ext := ext) hn hb ht
  have ha := atI_nat ds _ (draw_lt (s := s) _ hn)
  have hlen : (((s.draw ds.length).2.sto) ++ ext).length = (s.sto ++ ext).length := by simp [DS.sto]
  unfold f_l_law_pick runF b_l_law_pick
  simp only [List.length_cons, List.length_nil, Nat.zero_add, Nat.reduceAdd, if_true, List.map, List.replicate, Nat.reduceSub, List.cons_append, List.nil_append]
  simp only [sRet, dBin, dArgs, dCons, dNil, dVar, List.getElem?_cons_zero, List.getElem?_cons_succ, bindR_ok, fLen, asS, asL, ok1, e, opIx, ha, bindS_ok]
  rw [← hlen, endF_rt]
end
end Pd
end
section
set_option Elab.async false
set_option linter.all false
set_option maxRecDepth 100000
namespace Pd
open PySem PySem.Spec L2 LamX
open PyProof.Rows hiding St
/-! ### drawing on: how far the counter may go -/
structure Step (b : Nat) (s u : DS) : Prop where
  cells : u.cells = s.cells
  up : u.turn ≤ s.turn + b
theorem Step.refl {s : DS} : Step 0 s s := ⟨rfl, Nat.le_refl _⟩
theorem Step.trans {a b : Nat} {s u v : DS} (h : Step a s u) (h2 : Step b u v) : Step (a + b) s v := ⟨h2.cells.trans h.cells, by have := h.up; have := h2.up; omega⟩
theorem Step.mono {a b : Nat} {s u : DS} (h : Step a s u) (l : a ≤ b) : Step b s u := ⟨h.cells, by have := h.up; omega⟩
theorem draw_step (s : DS) (room : Nat) : Step 1 s (s.draw room).2 := by
  unfold DS.draw DS.fetch
  refine ⟨?_, ?_⟩
  · dsimp only
    split
    · split <;> rfl
    · rfl
  · dsimp only
    split
    · split
      · simp
      · simp
    · simp
section
variable {s : DS} {ext : Sto}
/-- a draw as the rest of a proof wants it -/
theorem draw_ok (room : Nat) (hr : 0 < room) (hr2 : room < 2 ^ 200) (ht : s.turn < 2 ^ 39) : ∃ (n : Nat) (u : DS), f_l_law_draw [.ref 1, .int room] (s.sto ++ ext) = some (.ok (.int n) (u.sto ++ ext)) ∧ n < room ∧ Step 1 s u :=
  ⟨_, _, f_draw_ok hr (Nat.lt_trans hr2 (Nat.pow_lt_pow_right (by omega) (by omega))) ht, draw_lt _ hr, draw_step _ _⟩
theorem pick_ok {ds : List D} (hn : 0 < ds.length) (hl : ds.length ≤ 1000) (ht : s.turn < 2 ^ 39) : ∃ (d : D) (u : DS), f_l_law_pick [.ref 1, .lst ds] (s.sto ++ ext) = some (.ok d (u.sto ++ ext)) ∧ d ∈ ds ∧ Step 1 s u :=
  ⟨_, _, f_pick_ok hn hl ht, List.getElem_mem _, draw_step _ _⟩
theorem four_le : 4 ≤ sizeLine := by decide
theorem number_ok (size : Nat) (hs0 : 0 < size) (hs : size < 2 ^ 20) (ht : s.turn + 4 < 2 ^ 39) : ∃ (q : Rat) (u : DS), f_l_law_number [.ref 1, .int size] (s.sto ++ ext) = some (.ok (eR q) (u.sto ++ ext)) ∧ Bd 21 q ∧ Step 4 s u := by
  have p20 : (2 : Nat) ^ 20 < 2 ^ 200 := Nat.pow_lt_pow_right (by omega) (by omega)
  obtain ⟨n, s1, e1, l1, t1⟩ := draw_ok (s := s) (ext := ext) (size + 1) (by omega) (by omega) (by omega)
  have := t1.up
  obtain ⟨d2, s2, e2, m2, t2⟩ := pick_ok (s := s1) (ext := ext) (ds := [.int 1, .int 1, .int 3, .int (size : Int)]) (by simp) (by simp) (by omega)
  have := t2.up
  obtain ⟨r, hr, hr0, hr2⟩ : ∃ r : Nat, d2 = .int r ∧ 0 < r ∧ r < 2 ^ 20 := by
    simp at m2
    rcases m2 with rfl | rfl | rfl
    · exact ⟨1, rfl, by omega, by omega⟩
    · exact ⟨3, rfl, by omega, by omega⟩
    · exact ⟨size, rfl, hs0, hs⟩
  subst hr
  obtain ⟨d, s3, e3, l3, t3⟩ := draw_ok (s := s2) (ext := ext) r hr0 (by omega) (by omega)
  have := t3.up
  obtain ⟨g, s4, e4, l4, t4⟩ := draw_ok (s := s3) (ext := ext) 2 (by omega) (by omega) (by omega)
  have hd : ((1 : Int) + (d : Int)) ≠ 0 := by omega
  have hdl : ((1 : Int) + (d : Int)).natAbs < 2 ^ 21 := by omega
  have hdl2 : ((1 : Int) + (d : Int)).natAbs.log2 < 9000 := by have := lt_log hdl; omega
  have hlen : (s4.sto ++ ext).length = (s.sto ++ ext).length := by simp [DS.sto]
  refine ⟨Rat.divInt (if g = 0 then (n : Int) else 0 - (n : Int)) (1 + d), s4, ?_, bd_divInt hd (by split <;> omega) hdl, ((t1.trans t2).trans t3).trans t4⟩
  have e1' : f_l_law_draw [.ref 1, .int ((size : Int) + 1)] (s.sto ++ ext) = some (.ok (.int n) (s1.sto ++ ext)) := by rw [show ((size : Int) + 1) = ((size + 1 : Nat) : Int) by simp]; exact e1
  have e4' : f_l_law_draw [.ref 1, .int 2] (s3.sto ++ ext) = some (.ok (.int g) (s4.sto ++ ext)) := e4
  unfold f_l_law_number runF b_l_law_number
  simp only [List.length_cons, List.length_nil, Nat.zero_add, Nat.reduceAdd, if_true, List.map, List.replicate, Nat.reduceSub, List.cons_append, List.nil_append]
  simp only [sSeq, sPar, dCons, dNil, dArgs, dBin, dVar, dC, List.getElem?_cons_zero, List.getElem?_cons_succ, bindR_ok, add_ii, e1', fLst, List.length_cons, List.length_nil, Nat.zero_add, Nat.reduceAdd, four_le, if_true, mkL, Bool.false_eq_true, if_false, e2, e3, List.set]
  simp only [sRet, dArgs, dCons, dNil, dIf, dTruth, dBin, dVar, dC, List.getElem?_cons_zero, List.getElem?_cons_succ, bindR_ok, e4', opEq, eqD, ok1, isBl, sub_ii]
  by_cases hg : g = 0
  · subst hg
    simp only [Int.natCast_zero, decide_true, if_true, bindR_ok, f_q_ok _ hd hdl2, bindS_ok]
    rw [← hlen, endF_rt]
  · have hg' : ¬ ((g : Int) = 0) := by omega
    simp only [hg', decide_false, Bool.false_eq_true, if_false, bindR_ok, f_q_ok _ hd hdl2, bindS_ok, hg]
    rw [← hlen, endF_rt]
end
end Pd
end
section
set_option Elab.async false
set_option linter.all false
set_option maxRecDepth 100000
namespace Pd
open PySem PySem.Spec L2 LamX
open PyProof.Rows hiding St
open PySem.W (Datum DatumOrd)
open Enc (enc)
/-! ### a shuffled list -/
def ClE (ext : Sto) : Prop := ∀ o ∈ ext, Ob.cl (2 + ext.length) o = true
theorem cls_nat (n : Nat) (xs : List Nat) : D.cls n (xs.map natD) = true := by
  induction xs with
  | nil => simp [D.cls]
  | cons x xs ih => simp [D.cls, D.cl, natD, ih]
theorem cl_sto {s : DS} {ext : Sto} (h : ClE ext) : (s.sto ++ ext).all (Ob.cl (s.sto ++ ext).length) = true := by
  have hl : (s.sto ++ ext).length = 2 + ext.length := by simp [DS.sto]; omega
  rw [hl, List.all_append, Bool.and_eq_true]
  refine ⟨?_, List.all_eq_true.mpr h⟩
  have h0 : 0 < 2 + ext.length := by omega
  simp [DS.sto, Ob.cl, cls_nat, D.cls, D.cl, natD]
  omega
/-- a def's end with more cells -/
theorem fin_cut {st more : Sto} {d d' : D} (hm : more ≠ []) (hc : st.all (Ob.cl st.length) = true) (hf : fz (st ++ more) st.length d = some d') : fin st.length d (st ++ more) = some (.ok d' st) := by
  have hne : ¬ ((st ++ more).length = st.length) := by
    rw [List.length_append]
    have := List.length_pos_iff.mpr hm
    omega
  have ht : (st ++ more).take st.length = st := by simp
  unfold fin
  rw [if_neg hne, hf]
  unfold cutSt
  rw [if_neg hne, ht, if_pos hc]
theorem erase_map {α β : Type} (f : α → β) : ∀ (xs : List α) (i : Nat), (xs.map f).eraseIdx i = (xs.eraseIdx i).map f
  | [], _ => rfl
  | x :: xs, 0 => rfl
  | x :: xs, i + 1 => by simp [List.eraseIdx_cons_succ, erase_map f xs i]
theorem perm_erase {α : Type} : ∀ (xs : List α) (i : Nat) (h : i < xs.length), (xs[i] :: xs.eraseIdx i).Perm xs
  | x :: xs, 0, _ => List.Perm.refl _
  | x :: xs, i + 1, h => by
    simp only [List.getElem_cons_succ, List.eraseIdx_cons_succ]
    exact (List.Perm.swap _ _ _).trans (List.Perm.cons _ (perm_erase xs i (by simpa using h)))
section
variable {α : Type} [DecidableEq α] [DatumOrd α] [Enc α] {ext : Sto}
def shufC : DenB := dTruth isBl (dBin opNe (dVar 2) (dArgs (fLst false) (dNil)))
noncomputable def shufB : DenS := sExpr (dMethL mAppend (dVar 3) (dCons (dMethL mPopAt (dVar 2) (dCons (dArgs f_l_law_draw (dCons (dVar 0) (dCons (dArgs fLen (dCons (dVar 2) (dNil))) (dNil)))) (dNil))) (dNil)))
theorem get_L (s : DS) (a b : Ob) : (s.sto ++ (ext ++ [a, b]))[2 + ext.length]? = some a := by
  rw [List.getElem?_append_right (by simp [DS.sto])]
  rw [List.getElem?_append_right (by simp [DS.sto])]
  simp [DS.sto]
theorem get_F (s : DS) (a b : Ob) : (s.sto ++ (ext ++ [a, b]))[3 + ext.length]? = some b := by
  rw [List.getElem?_append_right (by simp [DS.sto]; omega)]
  rw [List.getElem?_append_right (by simp [DS.sto]; omega)]
  simp [DS.sto]
  rw [show 3 + ext.length - 2 - ext.length = 1 by omega]
  rfl
theorem set_L (s : DS) (a b c : Ob) : (s.sto ++ (ext ++ [a, b])).set (2 + ext.length) c = s.sto ++ (ext ++ [c, b]) := by
  rw [List.set_append_right _ _ (by simp [DS.sto]), List.set_append_right _ _ (by simp [DS.sto])]
  simp [DS.sto]
theorem set_F (s : DS) (a b c : Ob) : (s.sto ++ (ext ++ [a, b])).set (3 + ext.length) c = s.sto ++ (ext ++ [a, c]) := by
  rw [List.set_append_right _ _ (by simp [DS.sto]; omega), List.set_append_right _ _ (by simp [DS.sto]; omega)]
  simp [DS.sto]
  rw [show 3 + ext.length - 2 - ext.length = 1 by omega]
  rfl
theorem ne_left (hd : Datum.depth α + 1 ≤ 64) (s : DS) (left : List α) (o : Ob) (hok : ∀ x ∈ left, Enc.ok x) : opNe (.ref (2 + ext.length)) (.lst []) (s.sto ++ (ext ++ [.lst (left.map enc), o])) = some (.ok (.bl (!decide (left = []))) (s.sto ++ (ext ++ [.lst (left.map enc), o]))) := by
  have := eqD_lst (α := α) (st := s.sto ++ (ext ++ [.lst (left.map enc), o])) (l := .ref (2 + ext.length)) (m := .lst []) (xs := left) (ys := []) (by simp only [asM, get_L]) rfl hok (fun _ h => (nomatch h)) hd
  unfold opNe
  rw [this]
  rfl
theorem shuf_loop (E1 : Option D) (hd : Datum.depth α + 1 ≤ 64) : ∀ (n : Nat) (left found : List α) (s : DS), left.length = n → found.length + left.length ≤ 1000 → (∀ x ∈ left, Enc.ok x) → s.turn + left.length < 2 ^ 39 →
    ∃ (ys : List α) (u : DS), sWhile shufC shufB [some (.ref 1), E1, some (.ref (2 + ext.length)), some (.ref (3 + ext.length))] (s.sto ++ (ext ++ [.lst (left.map enc), .lst (found.map enc)])) =
      some (.nx [some (.ref 1), E1, some (.ref (2 + ext.length)), some (.ref (3 + ext.length))] (u.sto ++ (ext ++ [.lst [], .lst ((found ++ ys).map enc)]))) ∧ ys.Perm left ∧ Step left.length s u
  | 0, left, found, s, hl, _, _, _ => by
    have : left = [] := List.eq_nil_of_length_eq_zero hl
    subst this
    refine ⟨[], s, ?_, List.Perm.refl _, Step.refl⟩
    rw [List.append_nil]
    have h := ne_left (ext := ext) hd s ([] : List α) (.lst (found.map enc)) (fun _ h => (nomatch h))
    refine m_sWhile_end ?_
    unfold shufC
    simp only [dTruth, dBin, dArgs, dNil, dVar, fLst, List.length_nil, Nat.zero_le, if_true, mkL, Bool.false_eq_true, if_false, List.getElem?_cons_zero, List.getElem?_cons_succ, bindR_ok, List.map_nil] at h ⊢
    simp only [h, bindR_ok, isBl, decide_true, Bool.not_true]
  | n + 1, left, found, s, hl, hb, hok, ht => by
    have hne : left ≠ [] := fun z => by rw [z] at hl; cases hl
    have h := ne_left (ext := ext) hd s left (.lst (found.map enc)) hok
    obtain ⟨i, u, e, hi, hu⟩ := draw_ok (s := s) (ext := ext ++ [.lst (left.map enc), .lst (found.map enc)]) left.length (by omega) (by have : (1000 : Nat) < 2 ^ 200 := Nat.lt_trans (show 1000 < 2 ^ 10 by decide) (Nat.pow_lt_pow_right (by omega) (by omega)); omega) (by omega)
    have hup := hu.up
    have hlen2 : (left.eraseIdx i).length = n := by rw [List.length_eraseIdx_of_lt hi]; omega
    obtain ⟨ys, v, e2, hp, hs⟩ := shuf_loop E1 hd n (left.eraseIdx i) (found ++ [left[i]]) u hlen2 (by simp only [List.length_append, List.length_cons, List.length_nil]; omega) (fun x hx => hok x (List.mem_of_mem_eraseIdx hx)) (by omega)
    refine ⟨left[i] :: ys, v, ?_, ?_, (hu.trans hs).mono (by omega)⟩
    · refine m_sWhile_go (st1 := s.sto ++ (ext ++ [.lst (left.map enc), .lst (found.map enc)])) (st2 := u.sto ++ (ext ++ [.lst ((left.eraseIdx i).map enc), .lst ((found ++ [left[i]]).map enc)])) (env2 := [some (.ref 1), E1, some (.ref (2 + ext.length)), some (.ref (3 + ext.length))]) ?_ ?_ ?_
      · unfold shufC
        simp only [dTruth, dBin, dArgs, dNil, dVar, fLst, List.length_nil, Nat.zero_le, if_true, mkL, Bool.false_eq_true, if_false, List.getElem?_cons_zero, List.getElem?_cons_succ, bindR_ok, h, isBl, hne, decide_false, Bool.not_false]
      · unfold shufB
        have a1 : asS (s.sto ++ (ext ++ [.lst (left.map enc), .lst (found.map enc)])) (.ref (2 + ext.length)) = some (left.map enc) := by simp only [asS, asL, get_L]
        have a2 : isL (.ref (3 + ext.length)) (s.sto ++ (ext ++ [.lst (left.map enc), .lst (found.map enc)])) = true := by simp only [isL, asM, get_F, Option.isSome_some]
        have a3 : isL (.ref (2 + ext.length)) (s.sto ++ (ext ++ [.lst (left.map enc), .lst (found.map enc)])) = true := by simp only [isL, asM, get_L, Option.isSome_some]
        have a4 : fLen [.ref (2 + ext.length)] (s.sto ++ (ext ++ [.lst (left.map enc), .lst (found.map enc)])) = some (.ok (.int (left.length : Nat)) (s.sto ++ (ext ++ [.lst (left.map enc), .lst (found.map enc)]))) := by simp only [fLen, a1, ok1, List.length_map]
        have a5 : mPopAt (.ref (2 + ext.length)) [.int i] (u.sto ++ (ext ++ [.lst (left.map enc), .lst (found.map enc)])) = some (.ok (enc left[i]) (u.sto ++ (ext ++ [.lst ((left.eraseIdx i).map enc), .lst (found.map enc)]))) := by
          have hi2 : (0 : Int) ≤ (i : Int) ∧ (i : Int) < 1000000 := by omega
          simp only [mPopAt, cellL, get_L, hi2, and_self, if_true, Int.toNat_natCast, List.getElem?_map, List.getElem?_eq_getElem hi, Option.map_some, set_L, erase_map]
        have a6 : mAppend (.ref (3 + ext.length)) [enc left[i]] (u.sto ++ (ext ++ [.lst ((left.eraseIdx i).map enc), .lst (found.map enc)])) = some (.ok .non (u.sto ++ (ext ++ [.lst ((left.eraseIdx i).map enc), .lst ((found ++ [left[i]]).map enc)]))) := by
          have : found.length < sizeLine := Nat.lt_of_lt_of_le (show found.length < 1001 by omega) (by decide)
          simp only [mAppend, cellL, get_F, List.length_map, this, if_true, set_F, List.map_append, List.map_cons, List.map_nil]
        simp only [sExpr, dMethL, dCons, dNil, dArgs, dVar, List.getElem?_cons_zero, List.getElem?_cons_succ, bindR_ok, a2, a3, if_true, a4, e, a5, a6, bindS_ok]
      · rw [e2, List.append_assoc]
        rfl
    · exact (List.Perm.cons _ hp).trans (perm_erase left i hi)
theorem shuffled_ok (hd : Datum.depth α + 1 ≤ 64) {xs : List α} {s : DS} (hok : ∀ x ∈ xs, Enc.ok x) (hl : xs.length ≤ 1000) (ht : s.turn + xs.length < 2 ^ 39) (hc : ClE ext) (hx : ∀ x ∈ xs, D.cl (2 + ext.length) (enc x) = true) :
    ∃ (ys : List α) (u : DS), f_l_law_shuffled [.ref 1, .lst (xs.map enc)] (s.sto ++ ext) = some (.ok (.lst (ys.map enc)) (u.sto ++ ext)) ∧ ys.Perm xs ∧ Step xs.length s u := by
  obtain ⟨ys, u, e, hp, hs⟩ := shuf_loop (ext := ext) (some (.lst (xs.map enc))) hd xs.length xs [] s rfl (by simpa using hl) hok ht
  refine ⟨ys, u, ?_, hp, hs⟩
  have hlen : ∀ v : DS, (v.sto ++ ext).length = 2 + ext.length := fun v => by simp [DS.sto]; omega
  have a1 : s.sto ++ ext ++ [Ob.lst (xs.map enc)] ++ [Ob.lst []] = s.sto ++ (ext ++ [.lst (xs.map enc), .lst (([] : List α).map enc)]) := by simp
  have a2 : (s.sto ++ ext ++ [Ob.lst (xs.map enc)]).length = 3 + ext.length := by rw [List.length_append, hlen]; simp; omega
  have cys : D.cls (2 + ext.length) (ys.map enc) = true := by
    have : ∀ x ∈ ys, D.cl (2 + ext.length) (enc x) = true := fun x hx' => hx x (hp.mem_iff.mp hx')
    clear e hp hs
    induction ys with
    | nil => simp [D.cls]
    | cons y ys ih => simp [D.cls, this y List.mem_cons_self, ih fun x hx' => this x (List.mem_cons_of_mem _ hx')]
  unfold f_l_law_shuffled runF b_l_law_shuffled
  simp only [List.length_cons, List.length_nil, Nat.zero_add, Nat.reduceAdd, if_true, List.map, List.replicate, Nat.reduceSub, List.cons_append, List.nil_append]
  simp only [sSeq, sPar, dCons, dNil, dArgs, dVar, List.getElem?_cons_zero, List.getElem?_cons_succ, bindR_ok, fList, asS, asL, mkL, if_true, fLst, List.length_nil, Nat.zero_le, List.set, a1, a2, hlen]
  rw [show (sWhile (dTruth isBl (dBin opNe (dVar 2) (dArgs (fLst false) dNil))) (sExpr (dMethL mAppend (dVar 3) (dCons (dMethL mPopAt (dVar 2) (dCons (dArgs f_l_law_draw (dCons (dVar 0) (dCons (dArgs fLen (dCons (dVar 2) (dNil))) (dNil)))) (dNil))) (dNil))))) = sWhile shufC shufB from rfl, e]
  simp only [sRet, dVar, List.getElem?_cons_zero, List.getElem?_cons_succ, bindS_ok, endF, finK, Bool.false_eq_true, if_false]
  rw [← List.append_assoc, ← hlen u]
  refine fin_cut (by simp) (cl_sto hc) ?_
  have hg := get_F (ext := ext) u (.lst []) (.lst (([] ++ ys).map enc))
  rw [← List.append_assoc] at hg
  rw [List.nil_append] at hg
  have hm : ¬ (3 + ext.length < 2 + ext.length) := by omega
  simp only [fz, D.cl, hlen, hm, decide_false, Bool.false_eq_true, if_false, hg, List.nil_append, cys, if_true]
end
end Pd
end
section
set_option Elab.async false
set_option linter.all false
namespace Pd
/-! ### a prime, and the fifth power of residues -/
def Prm (p : Nat) : Prop := 2 ≤ p ∧ ∀ m, m ∣ p → m = 1 ∨ m = p
def noDiv (p : Nat) : Nat → Nat → Bool
  | 0, a => !(Nat.beq (p % a) 0)
  | k + 1, a => noDiv p k a && noDiv p k (a + 2 ^ k)
theorem noDiv_ok (p : Nat) : ∀ (k a : Nat), noDiv p k a = true → ∀ m, a ≤ m → m < a + 2 ^ k → p % m ≠ 0
  | 0, a, h, m, h1, h2 => by
    have : m = a := by simp at h2; omega
    subst this
    intro z
    simp [noDiv, z] at h
  | k + 1, a, h, m, h1, h2 => by
    simp only [noDiv, Bool.and_eq_true] at h
    rw [Nat.pow_succ] at h2
    by_cases hm : m < a + 2 ^ k
    · exact noDiv_ok p k a h.1 m h1 hm
    · exact noDiv_ok p k (a + 2 ^ k) h.2 m (by omega) (by omega)
theorem prm_of {p k : Nat} (hp : 2 ≤ p) (h : noDiv p k 2 = true) (hk : p < (2 ^ k + 2) * (2 ^ k + 2)) : Prm p := by
  refine ⟨hp, fun m ⟨n, e⟩ => ?_⟩
  have key : ∀ m n, p = m * n → m ≠ 1 → n ≠ 1 → m ≤ n → False := fun m n e h1 h2 hle => by
    have hm0 : m ≠ 0 := by intro z; subst z; simp at e; omega
    have : p % m = 0 := by rw [e]; exact Nat.mul_mod_right m n
    have hlt : m < 2 ^ k + 2 := by
      apply Nat.lt_of_not_le
      intro hge
      have := Nat.mul_le_mul hge (Nat.le_trans hge hle)
      omega
    exact noDiv_ok p k 2 h m (by omega) (by omega) this
  by_cases h1 : m = 1
  · exact .inl h1
  · by_cases h2 : n = 1
    · subst h2; right; omega
    · rcases Nat.le_total m n with hl | hl
      · exact (key m n e h1 h2 hl).elim
      · exact (key n m (by rw [e, Nat.mul_comm]) h2 h1 hl).elim
theorem prm_cop {p a : Nat} (h : Prm p) (ha : a % p ≠ 0) : Nat.gcd p a = 1 := by
  rcases h.2 _ (Nat.gcd_dvd_left p a) with z | z
  · exact z
  · exact absurd (Nat.mod_eq_zero_of_dvd (z ▸ Nat.gcd_dvd_right p a)) ha
theorem cancel {p a x y : Nat} (h : Prm p) (ha : a % p ≠ 0) (e : (a * x) % p = (a * y) % p) : x % p = y % p := by
  have key : ∀ x y : Nat, x ≤ y → (a * x) % p = (a * y) % p → x % p = y % p := fun x y hle e => by
    have h1 : (a * y - a * x) % p = 0 := Nat.sub_mod_eq_zero_of_mod_eq e.symm
    rw [← Nat.mul_sub] at h1
    have h2 : p ∣ y - x := Nat.Coprime.dvd_of_dvd_mul_left (prm_cop h ha) (Nat.dvd_of_mod_eq_zero h1)
    obtain ⟨c, hc⟩ := h2
    have : y = x + p * c := by omega
    rw [this, Nat.add_mul_mod_self_left]
  rcases Nat.le_total x y with hl | hl
  · exact key x y hl e
  · exact (key y x hl e.symm).symm
def prod (l : List Nat) : Nat := l.foldr (· * ·) 1
theorem prod_perm {l m : List Nat} (h : l.Perm m) : prod l = prod m := by
  induction h with
  | nil => rfl
  | cons x _ ih => simp only [prod, List.foldr_cons] at ih ⊢; rw [ih]
  | swap x y l => simp only [prod, List.foldr_cons]; rw [Nat.mul_left_comm]
  | trans _ _ h1 h2 => exact h1.trans h2
theorem prod_map (p a : Nat) : ∀ l : List Nat, prod (l.map fun x => a * x % p) % p = (a ^ l.length * prod l) % p
  | [] => by simp [prod]
  | x :: l => by
    have ih := prod_map p a l
    simp only [prod, List.map_cons, List.foldr_cons, List.length_cons] at ih ⊢
    rw [Nat.mul_mod, ih, Nat.mod_mod, ← Nat.mul_mod, Nat.pow_succ]
    congr 1
    simp only [Nat.mul_comm, Nat.mul_left_comm, Nat.mul_assoc]
theorem prod_ne {p : Nat} (h : Prm p) : ∀ l : List Nat, (∀ x ∈ l, x % p ≠ 0) → prod l % p ≠ 0
  | [], _ => by
    have := h.1
    simp only [prod, List.foldr_nil]
    rw [Nat.mod_eq_of_lt (by omega)]
    omega
  | x :: l, hx => by
    have ih := prod_ne h l fun y hy => hx y (List.mem_cons_of_mem _ hy)
    intro z
    simp only [prod, List.foldr_cons] at z ih
    have z' : (x * List.foldr (· * ·) 1 l) % p = (x * 0) % p := by rw [z]; simp
    have := cancel h (hx x List.mem_cons_self) z'
    rw [Nat.zero_mod] at this
    exact ih this
theorem nodup_map_of {α β : Type} (f : α → β) : ∀ l : List α, l.Nodup → (∀ x ∈ l, ∀ y ∈ l, f x = f y → x = y) → (l.map f).Nodup
  | [], _, _ => List.nodup_nil
  | x :: l, hn, h => by
    rw [List.nodup_cons] at hn
    rw [List.map_cons, List.nodup_cons]
    refine ⟨fun m => ?_, nodup_map_of f l hn.2 fun a ha b hb => h a (List.mem_cons_of_mem _ ha) b (List.mem_cons_of_mem _ hb)⟩
    obtain ⟨y, hy, e⟩ := List.mem_map.mp m
    have := h y (List.mem_cons_of_mem _ hy) x List.mem_cons_self e
    exact hn.1 (this ▸ hy)
theorem perm_of {l m : List Nat} (hl : l.Nodup) (hs : l ⊆ m) (he : m.length ≤ l.length) : l.Perm m := by
  induction l generalizing m with
  | nil =>
    have : m = [] := List.eq_nil_of_length_eq_zero (by simpa using he)
    subst this
    exact List.Perm.refl _
  | cons x l ih =>
    rw [List.nodup_cons] at hl
    have hx : x ∈ m := hs List.mem_cons_self
    have hm : m.Perm (x :: m.erase x) := List.perm_cons_erase hx
    refine List.Perm.trans (List.Perm.cons x (ih hl.2 (fun y hy => ?_) ?_)) hm.symm
    · have hy' : y ∈ x :: m.erase x := hm.mem_iff.mp (hs (List.mem_cons_of_mem _ hy))
      rcases List.mem_cons.mp hy' with z | z
      · exact absurd (z ▸ hy) hl.1
      · exact z
    · have := hm.length_eq
      simp only [List.length_cons] at this he
      omega
theorem fermat {p a : Nat} (h : Prm p) (ha : a % p ≠ 0) : a ^ (p - 1) % p = 1 := by
  have hp := h.1
  have hL : ∀ x ∈ List.range' 1 (p - 1), x % p ≠ 0 := fun x hx => by
    rw [List.mem_range'_1] at hx
    rw [Nat.mod_eq_of_lt (by omega)]
    omega
  have hper : ((List.range' 1 (p - 1)).map fun x => a * x % p).Perm (List.range' 1 (p - 1)) := by
    refine perm_of (nodup_map_of _ _ List.nodup_range' fun x hx y hy e => ?_) (fun y hy => ?_) (by simp)
    · have := cancel h ha e
      rw [List.mem_range'_1] at hx hy
      rw [Nat.mod_eq_of_lt (by omega), Nat.mod_eq_of_lt (by omega)] at this
      exact this
    · obtain ⟨x, hx, rfl⟩ := List.mem_map.mp hy
      rw [List.mem_range'_1]
      have h1 : a * x % p < p := Nat.mod_lt _ (by omega)
      have h2 : a * x % p ≠ 0 := fun z => by
        have z' : (a * x) % p = (a * 0) % p := by rw [z]; simp
        have := cancel h ha z'
        rw [Nat.zero_mod] at this
        exact hL x hx this
      omega
  have e := prod_map p a (List.range' 1 (p - 1))
  rw [prod_perm hper, List.length_range'] at e
  have e2 : (prod (List.range' 1 (p - 1)) * a ^ (p - 1)) % p = (prod (List.range' 1 (p - 1)) * 1) % p := by
    rw [Nat.mul_one, Nat.mul_comm, ← e]
  have := cancel h (prod_ne h _ hL) e2
  rw [this, Nat.mod_eq_of_lt (by omega)]
theorem five {p d k x y : Nat} (h : Prm p) (hd : 5 * d = k * (p - 1) + 1) (e : x ^ 5 % p = y ^ 5 % p) : x % p = y % p := by
  have hp := h.1
  have key : ∀ x : Nat, x ^ (5 * d) % p = x % p := fun x => by
    by_cases hx : x % p = 0
    · rw [Nat.pow_mod, hx, Nat.zero_pow (by omega), Nat.zero_mod]
    · rw [hd, Nat.pow_succ, Nat.mul_comm k, Nat.pow_mul, Nat.mul_mod, Nat.pow_mod, fermat h hx, Nat.one_pow, Nat.mod_eq_of_lt (show 1 < p by omega), Nat.one_mul, Nat.mod_mod]
  rw [← key x, ← key y, Nat.pow_mul, Nat.pow_mul, Nat.pow_mod, e, ← Nat.pow_mod]
theorem p1_prm : Prm 2147483579 := prm_of (k := 16) (by decide) (by decide +kernel) (by decide)
theorem five_p1 {x y : Nat} (e : x ^ 5 % 2147483579 = y ^ 5 % 2147483579) : x % 2147483579 = y % 2147483579 :=
  five (d := 1288490147) (k := 3) p1_prm (by decide) e
end Pd
end
section
set_option Elab.async false
set_option linter.all false
namespace Pd
/-! ### how many blocks of draws can be eaten by words of a short list -/
inductive Eat (S : List (List Nat)) : List Nat → Nat → Prop
  | lend {p x c} : x % 26 = c → x / 26 = 0 → Eat S (c :: p) x
  | lgo {p x c} : x % 26 = c → x / 26 ≠ 0 → Eat S p (x / 26) → Eat S (c :: p) x
  | wend {x} (w) : w ∈ S → w.length = x % 8 + 1 → x / 8 = 0 → Eat S [] x
  | wgo {x} (w) : w ∈ S → w.length = x % 8 + 1 → x / 8 ≠ 0 → Eat S w (x / 8) → Eat S [] x
def val : List Nat → Nat
  | [] => 0
  | c :: p => c + 26 * val p
theorem eat_letters {S : List (List Nat)} : ∀ (p : List Nat) (y : Nat), Eat S p y → p ≠ [] → (∃ j, j ≤ p.length ∧ y = val (p.take j)) ∨ (∃ x, x ≠ 0 ∧ y = val p + 26 ^ p.length * x ∧ Eat S [] x)
  | [], _, _, h => absurd rfl h
  | c :: q, y, h, _ => by
    cases h with
    | lend e1 e2 => exact .inl ⟨1, by simp, by simp [val]; omega⟩
    | lgo e1 e2 e3 =>
      by_cases hq : q = []
      · subst hq
        exact .inr ⟨y / 26, e2, by simp [val]; omega, e3⟩
      · rcases eat_letters q (y / 26) e3 hq with ⟨j, hj, e⟩ | ⟨x, hx, e, ex⟩
        · exact .inl ⟨j + 1, by simp; omega, by simp [val]; omega⟩
        · refine .inr ⟨x, hx, ?_, ex⟩
          simp only [val, List.length_cons, Nat.pow_succ]
          have h1 : 26 ^ q.length * 26 * x = 26 * (26 ^ q.length * x) := by simp only [Nat.mul_comm, Nat.mul_left_comm]
          rw [h1]
          omega
theorem eat_word {S : List (List Nat)} {x : Nat} (h : Eat S [] x) : ∃ w, w ∈ S ∧ w ≠ [] ∧ ((∃ j, j ≤ w.length ∧ x = (w.length - 1) + 8 * val (w.take j)) ∨ (∃ y, y ≠ 0 ∧ x = (w.length - 1) + 8 * (val w + 26 ^ w.length * y) ∧ Eat S [] y)) := by
  cases h with
  | wend w m e1 e2 =>
    refine ⟨w, m, (by intro z; subst z; simp at e1), .inl ⟨0, by simp, ?_⟩⟩
    simp [val]
    omega
  | wgo w m e1 e2 e3 =>
    have hw : w ≠ [] := by intro z; subst z; simp at e1
    refine ⟨w, m, hw, ?_⟩
    rcases eat_letters w (x / 8) e3 hw with ⟨j, hj, e⟩ | ⟨y, hy, e, ey⟩
    · exact .inl ⟨j, hj, by omega⟩
    · exact .inr ⟨y, hy, by omega, ey⟩
def hC : Nat → Nat → Nat
  | 0, _ => 0
  | n + 1, k => 45 + (if k < 5 then 0 else 2 * hC n (k - 5)) + (if k < 8 then 0 else 3 * hC n (k - 8))
theorem hC_mono : ∀ (n : Nat) {k l : Nat}, k ≤ l → hC n k ≤ hC n l
  | 0, _, _, _ => Nat.le_refl _
  | n + 1, k, l, h => by
    have h1 := hC_mono n (k := k - 5) (l := l - 5) (by omega)
    have h2 := hC_mono n (k := k - 8) (l := l - 8) (by omega)
    unfold hC
    split <;> split <;> split <;> split <;> omega
/-- what is known of the words -/
structure Few (S : List (List Nat)) : Prop where
  five : S.length ≤ 5
  long : ∀ w ∈ S, w.length ≤ 8
  ones : (S.filter fun w => w.length == 1).length ≤ 2
theorem flat_len {α β : Type} (f : α → List β) (b : Nat) : ∀ l : List α, (∀ x ∈ l, (f x).length ≤ b) → (l.flatMap f).length ≤ l.length * b
  | [], _ => by simp
  | x :: l, h => by
    have := flat_len f b l fun y hy => h y (List.mem_cons_of_mem _ hy)
    have h1 := h x List.mem_cons_self
    rw [List.flatMap_cons, List.length_append, List.length_cons, Nat.succ_mul]
    omega
theorem flat_two {α β : Type} (f : α → List β) (p : α → Bool) (a b : Nat) : ∀ l : List α, (∀ x ∈ l, (f x).length ≤ if p x then a else b) → (l.flatMap f).length ≤ (l.filter p).length * a + (l.length - (l.filter p).length) * b
  | [], _ => by simp
  | x :: l, h => by
    have := flat_two f p a b l fun y hy => h y (List.mem_cons_of_mem _ hy)
    have h1 := h x List.mem_cons_self
    have h2 := List.length_filter_le p l
    rw [List.flatMap_cons, List.length_append, List.length_cons, List.filter_cons]
    cases hp : p x with
    | true =>
      rw [hp] at h1
      simp only [if_true, List.length_cons] at h1 ⊢
      rw [show l.length + 1 - ((l.filter p).length + 1) = l.length - (l.filter p).length by omega, Nat.succ_mul]
      omega
    | false =>
      rw [hp] at h1
      simp only [Bool.false_eq_true, if_false] at h1 ⊢
      rw [show l.length + 1 - (l.filter p).length = (l.length - (l.filter p).length) + 1 by omega, Nat.succ_mul]
      omega
theorem two_three {c n a b : Nat} (hc : c ≤ 2) (hn : n ≤ 5) (hb : b ≤ a) : c * a + (n - c) * b ≤ 2 * a + 3 * b := by
  have h1 : (n - c) * b ≤ (5 - c) * b := Nat.mul_le_mul_right _ (by omega)
  have : c = 0 ∨ c = 1 ∨ c = 2 := by omega
  rcases this with rfl | rfl | rfl <;> omega
theorem sq_le {a b : Nat} (h : a ≤ b) : a * a ≤ b * b := Nat.mul_le_mul h h
/-- a factor less in the square -/
theorem sq_cut {x y c e k : Nat} (hx : x * x < 8 ^ k) (hc : c * y ≤ x) (he : 8 ^ e ≤ c * c) (hy : y ≠ 0) : e ≤ k ∧ y * y < 8 ^ (k - e) := by
  have h1 : 8 ^ e * (y * y) < 8 ^ k := by
    refine Nat.lt_of_le_of_lt ?_ hx
    refine Nat.le_trans (Nat.mul_le_mul_right (y * y) he) ?_
    have := sq_le hc
    rw [Nat.mul_mul_mul_comm] at this
    exact this
  have hle : e ≤ k := by
    apply Nat.le_of_not_lt
    intro hlt
    have h2 : 8 ^ k ≤ 8 ^ e := Nat.pow_le_pow_right (by decide) (by omega)
    have h3 : 1 ≤ y * y := Nat.mul_pos (by omega) (by omega)
    have h4 := Nat.mul_le_mul_left (8 ^ e) h3
    omega
  refine ⟨hle, ?_⟩
  have h2 : 8 ^ k = 8 ^ e * 8 ^ (k - e) := by rw [← Nat.pow_add]; congr 1; omega
  rw [h2] at h1
  exact Nat.lt_of_mul_lt_mul_left h1
theorem pow26 : ∀ i : Nat, 8 ^ (3 * i) ≤ 26 ^ i * 26 ^ i
  | 0 => by decide
  | i + 1 => by
    have := pow26 i
    rw [Nat.mul_succ, Nat.pow_add, show 26 ^ (i + 1) = 26 ^ i * 26 from Nat.pow_succ ..,  Nat.mul_mul_mul_comm]
    exact Nat.mul_le_mul this (by decide)
theorem pow26_2 {i : Nat} (h : 2 ≤ i) : 676 ≤ 26 ^ i := by
  have : 26 ^ 2 ≤ 26 ^ i := Nat.pow_le_pow_right (by decide) h
  exact this
theorem eat_count {S : List (List Nat)} (F : Few S) : ∀ (n k : Nat), k < 5 * n → ∃ L : List Nat, L.length ≤ hC n k ∧ ∀ x, x * x < 8 ^ k → Eat S [] x → x ∈ L
  | 0, k, h => by omega
  | n + 1, k, h => by
    obtain ⟨L5, l5, m5⟩ : ∃ L : List Nat, L.length ≤ (if k < 5 then 0 else hC n (k - 5)) ∧ ∀ x, 5 ≤ k → x * x < 8 ^ (k - 5) → Eat S [] x → x ∈ L := by
      by_cases hk : k < 5
      · exact ⟨[], by simp, fun _ z => by omega⟩
      · obtain ⟨L, l, m⟩ := eat_count F n (k - 5) (by omega)
        exact ⟨L, by rw [if_neg hk]; exact l, fun x _ => m x⟩
    obtain ⟨L8, l8, m8⟩ : ∃ L : List Nat, L.length ≤ (if k < 8 then 0 else hC n (k - 8)) ∧ ∀ x, 8 ≤ k → x * x < 8 ^ (k - 8) → Eat S [] x → x ∈ L := by
      by_cases hk : k < 8
      · exact ⟨[], by simp, fun _ z => by omega⟩
      · obtain ⟨L, l, m⟩ := eat_count F n (k - 8) (by omega)
        exact ⟨L, by rw [if_neg hk]; exact l, fun x _ => m x⟩
    refine ⟨(S.flatMap fun w => (List.range (w.length + 1)).map fun j => (w.length - 1) + 8 * val (w.take j)) ++ S.flatMap fun w => (if w.length == 1 then L5 else L8).map fun y => (w.length - 1) + 8 * (val w + 26 ^ w.length * y), ?_, fun x hx he => ?_⟩
    · have a1 := flat_len (fun w : List Nat => (List.range (w.length + 1)).map fun j => (w.length - 1) + 8 * val (w.take j)) 9 S fun w hw => by
        have := F.long w hw
        simp only [List.length_map, List.length_range]
        omega
      have a2 := flat_two (fun w : List Nat => (if w.length == 1 then L5 else L8).map fun y => (w.length - 1) + 8 * (val w + 26 ^ w.length * y)) (fun w => w.length == 1) (if k < 5 then 0 else hC n (k - 5)) (if k < 8 then 0 else hC n (k - 8)) S fun w hw => by
        rw [List.length_map]
        split <;> assumption
      have hm := hC_mono n (k := k - 8) (l := k - 5) (by omega)
      have a3 := two_three F.ones F.five (a := if k < 5 then 0 else hC n (k - 5)) (b := if k < 8 then 0 else hC n (k - 8)) (by split <;> split <;> omega)
      have a4 : S.length * 9 ≤ 45 := by have := F.five; omega
      rw [List.length_append]
      have e1 : hC (n + 1) k = 45 + (2 * (if k < 5 then 0 else hC n (k - 5))) + (3 * (if k < 8 then 0 else hC n (k - 8))) := by
        simp only [hC]
        split <;> split <;> omega
      rw [e1]
      omega
    · obtain ⟨w, hw, hne, hh⟩ := eat_word he
      have hl : 0 < w.length := List.length_pos_iff.mpr hne
      rw [List.mem_append]
      rcases hh with ⟨j, hj, e⟩ | ⟨y, hy, e, ey⟩
      · left
        rw [List.mem_flatMap]
        exact ⟨w, hw, List.mem_map.mpr ⟨j, by rw [List.mem_range]; omega, e.symm⟩⟩
      · right
        rw [List.mem_flatMap]
        refine ⟨w, hw, List.mem_map.mpr ⟨y, ?_, e.symm⟩⟩
        by_cases h1 : w.length = 1
        · rw [if_pos (by simp [h1])]
          have hc : 208 * y ≤ x := by rw [h1] at e; omega
          have := sq_cut (e := 5) hx hc (by decide) hy
          exact m5 y this.1 this.2 ey
        · rw [if_neg (by simp [h1])]
          have h2 := pow26_2 (i := w.length) (by omega)
          have h3 := Nat.mul_le_mul_right y h2
          have hc : 5408 * y ≤ x := by omega
          have := sq_cut (e := 8) hx hc (by decide) hy
          exact m8 y this.1 this.2 ey
/-- from any place in a word -/
def Sfx (S : List (List Nat)) (p : List Nat) : Prop := p = [] ∨ ∃ w, w ∈ S ∧ ∃ i, p = w.drop i
def hT : Nat := hC 13 62 + 5 * ((List.range 8).map fun i => 9 + hC 13 (62 - 3 * (i + 1))).sum
theorem hT_lt : hT < 2147483570 := by decide +kernel
theorem flat_sum {β : Type} (f : Nat → List β) (g : Nat → Nat) : ∀ l : List Nat, (∀ x ∈ l, (f x).length ≤ g x) → (l.flatMap f).length ≤ (l.map g).sum
  | [], _ => by simp
  | x :: l, h => by
    have := flat_sum f g l fun y hy => h y (List.mem_cons_of_mem _ hy)
    have h1 := h x List.mem_cons_self
    rw [List.flatMap_cons, List.length_append, List.map_cons, List.sum_cons]
    omega
theorem eat_all {S : List (List Nat)} (F : Few S) : ∃ L : List Nat, L.length ≤ hT ∧ ∀ p x, Sfx S p → x * x < 8 ^ 62 → Eat S p x → x ∈ L := by
  obtain ⟨L0, l0, m0⟩ := eat_count F 13 62 (by decide)
  have hex : ∀ i : Nat, ∃ L : List Nat, L.length ≤ hC 13 (62 - 3 * (i + 1)) ∧ ∀ x, x * x < 8 ^ (62 - 3 * (i + 1)) → Eat S [] x → x ∈ L := fun i => eat_count F 13 _ (by omega)
  let Ls : Nat → List Nat := fun i => Classical.choose (hex i)
  have ls : ∀ i, (Ls i).length ≤ hC 13 (62 - 3 * (i + 1)) := fun i => (Classical.choose_spec (hex i)).1
  have ms : ∀ i x, x * x < 8 ^ (62 - 3 * (i + 1)) → Eat S [] x → x ∈ Ls i := fun i => (Classical.choose_spec (hex i)).2
  -- the places in a word w: its last i + 1 letters
  let P : List Nat → Nat → List Nat := fun w i => w.drop (w.length - (i + 1))
  let G : List Nat → Nat → List Nat := fun w i => ((List.range 9).map fun j => val ((P w i).take j)) ++ (Ls i).map fun y => val (P w i) + 26 ^ (P w i).length * y
  refine ⟨L0 ++ S.flatMap fun w => (List.range 8).flatMap (G w), ?_, fun p x hp hx he => ?_⟩
  · have a1 := flat_len (fun w => (List.range 8).flatMap (G w)) ((List.range 8).map fun i => 9 + hC 13 (62 - 3 * (i + 1))).sum S fun w _ => flat_sum (G w) _ _ fun i _ => by
      have := ls i
      simp only [G, List.length_append, List.length_map, List.length_range]
      omega
    have a2 := Nat.mul_le_mul_right ((List.range 8).map fun i => 9 + hC 13 (62 - 3 * (i + 1))).sum F.five
    rw [List.length_append]
    unfold hT
    omega
  · rw [List.mem_append]
    by_cases h0 : p = []
    · subst h0
      exact .inl (m0 x hx he)
    · right
      rcases hp with z | ⟨w, hw, i, rfl⟩
      · exact absurd z h0
      have hi : i < w.length := by
        apply Nat.lt_of_not_le
        intro z
        exact h0 (List.drop_eq_nil_of_le z)
      have h8 := F.long w hw
      rw [List.mem_flatMap]
      refine ⟨w, hw, ?_⟩
      rw [List.mem_flatMap]
      refine ⟨w.length - i - 1, by rw [List.mem_range]; omega, ?_⟩
      have eP : P w (w.length - i - 1) = w.drop i := by
        show w.drop (w.length - (w.length - i - 1 + 1)) = w.drop i
        congr 1
        omega
      have lP : (w.drop i).length = w.length - i - 1 + 1 := by rw [List.length_drop]; omega
      simp only [G, eP, List.mem_append, List.mem_map]
      rcases eat_letters _ x he h0 with ⟨j, hj, e⟩ | ⟨y, hy, e, ey⟩
      · exact .inl ⟨j, by rw [List.mem_range]; omega, e.symm⟩
      · refine .inr ⟨y, ?_, e.symm⟩
        have hc : 26 ^ (w.drop i).length * y ≤ x := by omega
        have := sq_cut hx hc (pow26 _) hy
        rw [lP] at this
        exact ms _ y this.2 ey
theorem len_sub {l m : List Nat} (hl : l.Nodup) (hs : l ⊆ m) : l.length ≤ m.length := by
  induction l generalizing m with
  | nil => simp
  | cons x l ih =>
    rw [List.nodup_cons] at hl
    have hx : x ∈ m := hs List.mem_cons_self
    have hm : m.Perm (x :: m.erase x) := List.perm_cons_erase hx
    have := ih (m := m.erase x) hl.2 fun y hy => by
      have hy' : y ∈ x :: m.erase x := hm.mem_iff.mp (hs (List.mem_cons_of_mem _ hy))
      rcases List.mem_cons.mp hy' with z | z
      · exact absurd (z ▸ hy) hl.1
      · exact z
    have h2 := hm.length_eq
    simp only [List.length_cons] at h2 ⊢
    omega
end Pd
end
section
set_option Elab.async false
set_option linter.all false
set_option maxRecDepth 100000
namespace Pd
/-! ### blocks of draws are unlike for a prime's many turns -/
def p1 : Nat := 2147483579
def cf : Nat → Nat → Nat
  | 0, a => a
  | n + 1, a => cf n ((a * 69621 + 1) % p1)
theorem cf_ne : ∀ n, n < 64 → cf n 48271 % p1 ≠ 0 := by
  have h : (List.range 64).all (fun n => !(Nat.beq (cf n 48271 % p1) 0)) = true := by decide +kernel
  intro n hn z
  have := List.all_eq_true.mp h n (List.mem_range.mpr hn)
  rw [z] at this
  simp at this
theorem mod_lin (q p b a t e c : Nat) (h : b % p = (a * t + e) % p) : (b * q + c + t) % p % p = ((a * q + 1) % p * t + (e * q + c)) % p := by
  have h1 : (b * q + c + t) % p = ((a * t + e) * q + c + t) % p := by
    have z : (b * q) % p = ((a * t + e) * q) % p := by rw [Nat.mul_mod, h, ← Nat.mul_mod]
    rw [Nat.add_assoc, Nat.add_mod, z, ← Nat.add_mod, ← Nat.add_assoc]
  have h2 : (a * t + e) * q + c + t = (a * q + 1) * t + (e * q + c) := by
    have z1 : (a * t + e) * q = a * t * q + e * q := Nat.add_mul _ _ _
    have z2 : (a * q + 1) * t = a * q * t + t := by rw [Nat.add_mul, Nat.one_mul]
    have z3 : a * t * q = a * q * t := by rw [Nat.mul_assoc, Nat.mul_comm t, Nat.mul_assoc]
    omega
  have h3 : ((a * q + 1) % p * t) % p = ((a * q + 1) * t) % p := by rw [Nat.mul_mod, Nat.mod_mod, ← Nat.mul_mod]
  rw [Nat.mod_mod, h1, h2, Nat.add_mod, ← h3, ← Nat.add_mod]
theorem aff : ∀ (cells : List Nat) (a e : Nat) (b : Nat → Nat), (∀ t, b t % p1 = (a * t + e) % p1) → ∃ e', ∀ t, (cells.foldl (fun b c => (b * 69621 + c + t) % p1) (b t)) % p1 = (cf cells.length a * t + e') % p1
  | [], a, e, b, h => ⟨e, h⟩
  | c :: cells, a, e, b, h => aff cells ((a * 69621 + 1) % p1) (e * 69621 + c) (fun t => (b t * 69621 + c + t) % p1) fun t => mod_lin 69621 p1 (b t) a t e c (h t)
theorem add_cancel {p x y e : Nat} (h : (x + e) % p = (y + e) % p) : x % p = y % p := by
  have key : ∀ x y : Nat, x ≤ y → (x + e) % p = (y + e) % p → x % p = y % p := fun x y hle h => by
    have h1 : (y + e - (x + e)) % p = 0 := Nat.sub_mod_eq_zero_of_mod_eq h.symm
    obtain ⟨c, hc⟩ := Nat.dvd_of_mod_eq_zero h1
    have : y = x + p * c := by omega
    rw [this, Nat.add_mul_mod_self_left]
  rcases Nat.le_total x y with hl | hl
  · exact key x y hl h
  · exact (key y x hl h.symm).symm
theorem powP_inj {cells : List Nat} (hl : cells.length < 64) {t u : Nat} (e : powP 2147483579 cells t = powP 2147483579 cells u) : t % p1 = u % p1 := by
  have e1 := five_p1 e
  obtain ⟨e', h'⟩ := aff cells 48271 (2147483579 / 53) (fun t => 48271 * t + 2147483579 / 53) fun t => rfl
  have e2 : (cf cells.length 48271 * t + e') % p1 = (cf cells.length 48271 * u + e') % p1 := by rw [← h', ← h']; exact e1
  exact cancel p1_prm (cf_ne _ hl) (add_cancel e2)
theorem blend_inj {cells : List Nat} (hl : cells.length < 64) {t u : Nat} (e : blend cells t = blend cells u) : t % p1 = u % p1 := by
  refine powP_inj hl ?_
  have a1 := powP_lt 2147483629 cells t (by decide)
  have a2 := powP_lt 2147483629 cells u (by decide)
  have a3 := powP_lt 2147483563 cells t (by decide)
  have a4 := powP_lt 2147483563 cells u (by decide)
  unfold blend at e
  omega
theorem blend_sq (cells : List Nat) (t : Nat) : blend cells t * blend cells t < 8 ^ 62 := by
  have a0 := powP_lt 2147483579 cells t (by decide)
  have a1 := powP_lt 2147483629 cells t (by decide)
  have a3 := powP_lt 2147483563 cells t (by decide)
  have h : blend cells t ≤ 9903520300447984150353281023 := by
    unfold blend
    omega
  exact Nat.lt_of_le_of_lt (sq_le h) (by decide +kernel)
/-! ### a run of draws that only meets known words -/
inductive SR (S : List (List Nat)) : List Nat → DS → DS → Prop
  | nil (s) : SR S [] s s
  | letter {c p s u} : (s.draw 26).1 = c → SR S p (s.draw 26).2 u → SR S (c :: p) s u
  | word {s u} (w) : w ∈ S → w.length = (s.draw 8).1 + 1 → SR S w (s.draw 8).2 u → SR S [] s u
theorem fetch_or (s : DS) : (s.fetch.2.turn = s.turn) ∨ (s.fetch.2.turn = s.turn + 1 ∧ s.fetch.2.great = [] ∧ s.fetch.1 = blend s.cells (s.turn + 1)) := by
  unfold DS.fetch
  split
  · split
    · exact .inl rfl
    · rename_i h
      exact .inr ⟨rfl, h, rfl⟩
  · exact .inl rfl
theorem fetch_cells (s : DS) : s.fetch.2.cells = s.cells := by
  unfold DS.fetch
  split
  · split <;> rfl
  · rfl
theorem draw_turn (s : DS) (room : Nat) : (s.draw room).2.turn = s.fetch.2.turn := rfl
theorem draw_fetch {s : DS} {room : Nat} (h : s.fetch.1 / room ≠ 0) : (s.draw room).2.fetch = (s.fetch.1 / room, (s.draw room).2) := by
  rw [DS.fetch, if_neg]
  · rfl
  · exact h
theorem sr_up {S : List (List Nat)} {p : List Nat} {s u : DS} (h : SR S p s u) : s.turn ≤ u.turn ∧ u.cells = s.cells := by
  induction h with
  | nil s => exact ⟨Nat.le_refl _, rfl⟩
  | letter e h ih =>
    rename_i c p s u
    have := fetch_or s
    rw [draw_turn] at ih
    exact ⟨by omega, ih.2.trans (fetch_cells s)⟩
  | word w m e h ih =>
    rename_i s u
    have := fetch_or s
    rw [draw_turn] at ih
    exact ⟨by omega, ih.2.trans (fetch_cells s)⟩
theorem sr_eat {S : List (List Nat)} {p : List Nat} {s u : DS} (h : SR S p s u) : s.fetch.2.turn < u.turn → s.fetch.2.great = [] → Eat S p s.fetch.1 := by
  induction h with
  | nil s =>
    intro h1
    have := fetch_or s
    omega
  | letter e h ih =>
    rename_i c p s u
    intro h1 h2
    by_cases h0 : s.fetch.1 / 26 = 0
    · exact .lend e h0
    · rw [draw_fetch h0] at ih
      exact .lgo e h0 (ih h1 h2)
  | word w m e h ih =>
    rename_i s u
    intro h1 h2
    by_cases h0 : s.fetch.1 / 8 = 0
    · exact .wend w m e h0
    · rw [draw_fetch h0] at ih
      exact .wgo w m e h0 (ih h1 h2)
theorem Sfx.tail {S : List (List Nat)} {c : Nat} {p : List Nat} (h : Sfx S (c :: p)) : Sfx S p := by
  rcases h with z | ⟨w, hw, i, e⟩
  · cases z
  · refine .inr ⟨w, hw, i + 1, ?_⟩
    rw [← List.drop_drop, ← e]
    rfl
theorem sr_blocks {S : List (List Nat)} {p : List Nat} {s u : DS} (h : SR S p s u) : Sfx S p → ∀ j, s.turn < j → j < u.turn → ∃ q, Sfx S q ∧ Eat S q (blend s.cells j) := by
  induction h with
  | nil s => intro _ j h1 h2; omega
  | letter e h ih =>
    rename_i c p s u
    intro hp j h1 h2
    rw [draw_turn] at ih
    by_cases hj : s.fetch.2.turn < j
    · have := ih hp.tail j hj h2
      rw [show (s.draw 26).2.cells = s.cells from fetch_cells s] at this
      exact this
    · rcases fetch_or s with z | ⟨z1, z2, z3⟩
      · omega
      · have hj' : j = s.turn + 1 := by omega
        subst hj'
        rw [← z3]
        exact ⟨_, hp, sr_eat (.letter e h) (by omega) z2⟩
  | word w m e h ih =>
    rename_i s u
    intro hp j h1 h2
    rw [draw_turn] at ih
    by_cases hj : s.fetch.2.turn < j
    · have := ih (.inr ⟨w, m, 0, rfl⟩) j hj h2
      rw [show (s.draw 8).2.cells = s.cells from fetch_cells s] at this
      exact this
    · rcases fetch_or s with z | ⟨z1, z2, z3⟩
      · omega
      · have hj' : j = s.turn + 1 := by omega
        subst hj'
        rw [← z3]
        exact ⟨_, .inl rfl, sr_eat (.word w m e h) (by omega) z2⟩
theorem sr_turns {S : List (List Nat)} (F : Few S) {s u : DS} (h : SR S [] s u) (hc : s.cells.length < 64) : u.turn ≤ s.turn + hT + 1 := by
  obtain ⟨L, hL, mL⟩ := eat_all F
  have hlt := hT_lt
  apply Nat.le_of_not_lt
  intro hgt
  have hn : ((List.range' (s.turn + 1) (hT + 1)).map (blend s.cells)).Nodup := by
    refine nodup_map_of _ _ List.nodup_range' fun x hx y hy e => ?_
    have := blend_inj hc e
    rw [List.mem_range'_1] at hx hy
    have key : ∀ x y : Nat, x ≤ y → y < x + p1 → x % p1 = y % p1 → x = y := fun x y h1 h2 h3 => by
      have h4 : (y - x) % p1 = 0 := Nat.sub_mod_eq_zero_of_mod_eq h3.symm
      rw [Nat.mod_eq_of_lt (by omega)] at h4
      omega
    have hp : p1 = 2147483579 := rfl
    rcases Nat.le_total x y with hl | hl
    · exact key x y hl (by omega) this
    · exact (key y x hl (by omega) this.symm).symm
  have hs : (List.range' (s.turn + 1) (hT + 1)).map (blend s.cells) ⊆ L := fun x hx => by
    obtain ⟨j, hj, rfl⟩ := List.mem_map.mp hx
    rw [List.mem_range'_1] at hj
    obtain ⟨q, hq, he⟩ := sr_blocks h (.inl rfl) j (by omega) (by omega)
    exact mL q _ hq (blend_sq _ _) he
  have := len_sub hn hs
  rw [List.length_map, List.length_range'] at this
  omega
end Pd
end
section
set_option Elab.async false
set_option linter.all false
set_option maxRecDepth 100000
namespace Pd
open PySem PySem.Spec L2 LamX
open PyProof.Rows hiding St
open PySem.W (Datum DatumOrd)
open Enc (enc)
/-! ### words as lists of numbers of letters -/
def DS.letters : Nat → DS → List Nat × DS
  | 0, s => ([], s)
  | n + 1, s => ((s.draw 26).1 :: (DS.letters n (s.draw 26).2).1, (DS.letters n (s.draw 26).2).2)
def DS.word (s : DS) : List Nat × DS := DS.letters ((s.draw 8).1 + 1) (s.draw 8).2
def altW (l : List Nat) (n : Nat) : List Nat := l.take 1 ++ List.replicate n 16
def grow (found : List (List Nat)) (l : List Nat) : List (List Nat) :=
  if l ∈ found then (if altW l found.length ∈ found then found else if found.length < 8 then found ++ [altW l found.length] else found) else found ++ [l]
structure Good (l : List Nat) : Prop where
  l1 : 1 ≤ l.length
  l8 : l.length ≤ 8
  lt : ∀ c ∈ l, c < 26
structure Fnd (found : List (List Nat)) : Prop where
  nd : found.Nodup
  good : ∀ l ∈ found, Good l
theorem letters_len : ∀ (n : Nat) (s : DS), (s.letters n).1.length = n
  | 0, _ => rfl
  | n + 1, s => by simp only [DS.letters, List.length_cons, letters_len n]
theorem letters_lt : ∀ (n : Nat) (s : DS), ∀ c ∈ (s.letters n).1, c < 26
  | 0, _, _, h => by cases h
  | n + 1, s, c, h => by
    simp only [DS.letters, List.mem_cons] at h
    rcases h with rfl | h
    · exact draw_lt 26 (by decide)
    · exact letters_lt n _ c h
theorem word_good (s : DS) : Good s.word.1 := by
  refine ⟨?_, ?_, letters_lt _ _⟩
  · unfold DS.word; rw [letters_len]; omega
  · unfold DS.word
    rw [letters_len]
    have := draw_lt (s := s) 8 (by decide)
    omega
theorem alt_good {l : List Nat} {n : Nat} (h : Good l) (hn : n < 8) : Good (altW l n) := by
  have := h.l1
  refine ⟨?_, ?_, fun c hc => ?_⟩
  · unfold altW; rw [List.length_append, List.length_take, List.length_replicate]; omega
  · unfold altW; rw [List.length_append, List.length_take, List.length_replicate]; omega
  · unfold altW at hc
    rcases List.mem_append.mp hc with z | z
    · exact h.lt c (List.mem_of_mem_take z)
    · have := List.eq_of_mem_replicate z
      omega
theorem nodup_snoc {α : Type} {l : List α} {x : α} (h : l.Nodup) (hx : x ∉ l) : (l ++ [x]).Nodup := by
  rw [List.nodup_append]
  refine ⟨h, by simp, fun a ha b hb e => ?_⟩
  rw [List.mem_singleton] at hb
  subst hb
  subst e
  exact hx ha
theorem grow_fnd {found : List (List Nat)} {l : List Nat} (F : Fnd found) (h : Good l) : Fnd (grow found l) := by
  have snoc : ∀ x, x ∉ found → Good x → Fnd (found ++ [x]) := fun x hx hg => ⟨nodup_snoc F.nd hx, fun y hy => by
    rcases List.mem_append.mp hy with z | z
    · exact F.good y z
    · rw [List.mem_singleton.mp z]; exact hg⟩
  unfold grow
  split
  · split
    · exact F
    · split
      · rename_i h1 h2 h3
        exact snoc _ h2 (alt_good h h3)
      · exact F
  · rename_i h1
    exact snoc _ h1 h
theorem grow_len {found : List (List Nat)} {l : List Nat} (h : grow found l ≠ found) : (grow found l).length = found.length + 1 := by
  unfold grow at h ⊢
  split
  · rename_i h1
    rw [if_pos h1] at h
    split
    · rename_i h2; rw [if_pos h2] at h; exact absurd rfl h
    · rename_i h2
      rw [if_neg h2] at h
      split
      · simp
      · rename_i h3; rw [if_neg h3] at h; exact absurd rfl h
  · simp
/-- the words that bring nothing new -/
def stuckS (found : List (List Nat)) : List (List Nat) := found.filter fun l => decide (altW l found.length ∈ found)
theorem stuck_mem {found : List (List Nat)} {l : List Nat} (hn : found.length < 8) (h : grow found l = found) : l ∈ stuckS found := by
  unfold grow at h
  have hne : ∀ x : List Nat, found ++ [x] ≠ found := fun x e => by
    have := congrArg List.length e
    simp at this
  unfold stuckS
  rw [List.mem_filter, decide_eq_true_eq]
  split at h
  · split at h
    · rename_i h1 h2
      exact ⟨h1, h2⟩
    · first
      | exact absurd h (hne _)
      | (rw [if_pos hn] at h; exact absurd h (hne _))
  · exact absurd h (hne _)
theorem len_subG {α : Type} [DecidableEq α] {l m : List α} (hl : l.Nodup) (hs : l ⊆ m) : l.length ≤ m.length := by
  induction l generalizing m with
  | nil => simp
  | cons x l ih =>
    rw [List.nodup_cons] at hl
    have hx : x ∈ m := hs List.mem_cons_self
    have hm : m.Perm (x :: m.erase x) := List.perm_cons_erase hx
    have := ih (m := m.erase x) hl.2 fun y hy => by
      have hy' : y ∈ x :: m.erase x := hm.mem_iff.mp (hs (List.mem_cons_of_mem _ hy))
      rcases List.mem_cons.mp hy' with z | z
      · exact absurd (z ▸ hy) hl.1
      · exact z
    have h2 := hm.length_eq
    simp only [List.length_cons] at h2 ⊢
    omega
theorem filter_two {α : Type} (p : α → Bool) : ∀ l : List α, (l.filter p).length + (l.filter fun x => !p x).length = l.length
  | [] => rfl
  | x :: l => by
    have := filter_two p l
    rw [List.filter_cons, List.filter_cons]
    cases hp : p x <;> simp [hp] <;> omega
theorem few_stuck {found : List (List Nat)} (F : Fnd found) (h5 : found.length ≤ 5) : Few (stuckS found) := by
  refine ⟨Nat.le_trans (List.length_filter_le _ _) h5, fun w hw => (F.good w (List.mem_filter.mp hw).1).l8, ?_⟩
  have hA : ∀ l ∈ (stuckS found).filter fun w => w.length == 1, l ∈ found ∧ l.length = 1 ∧ altW l found.length ∈ found := fun l hl => by
    have h1 := List.mem_filter.mp hl
    have h2 := List.mem_filter.mp h1.1
    exact ⟨h2.1, by simpa using h1.2, by simpa using h2.2⟩
  have hn : ((stuckS found).filter fun w => w.length == 1).Nodup := (F.nd.filter _).filter _
  have h1 : ((stuckS found).filter fun w => w.length == 1).length ≤ (found.filter fun w => w.length == 1).length := len_subG hn fun l hl => by
    have := hA l hl
    exact List.mem_filter.mpr ⟨this.1, by simp [this.2.1]⟩
  have h2 : (((stuckS found).filter fun w => w.length == 1).map fun l => altW l found.length).length ≤ (found.filter fun w => !(w.length == 1)).length := by
    refine len_subG (nodup_map_of _ _ hn fun x hx y hy e => ?_) fun z hz => ?_
    · have ax := (hA x hx).2.1
      have ay := (hA y hy).2.1
      have e2 := congrArg (List.take 1) e
      unfold altW at e2
      rw [List.take_append_of_le_length (by rw [List.length_take]; omega), List.take_append_of_le_length (by rw [List.length_take]; omega), List.take_take, List.take_take] at e2
      rw [List.take_of_length_le (by omega), List.take_of_length_le (by omega)] at e2
      exact e2
    · obtain ⟨l, hl, rfl⟩ := List.mem_map.mp hz
      have := hA l hl
      refine List.mem_filter.mpr ⟨this.2.2, ?_⟩
      have hp : 0 < found.length := List.length_pos_iff.mpr fun z => by rw [z] at this; exact absurd this.1 (by simp)
      have hlen : (altW l found.length).length = 1 + found.length := by
        unfold altW
        rw [List.length_append, List.length_take, List.length_replicate]
        have := this.2.1
        omega
      have hb : ((altW l found.length).length == 1) = false := by rw [hlen]; exact beq_false_of_ne (by omega)
      rw [hb]
      rfl
  have h3 := filter_two (fun w : List Nat => w.length == 1) found
  rw [List.length_map] at h2
  omega
/-! ### the run of stuck words -/
theorem SR.trans {S : List (List Nat)} {p : List Nat} {s u v : DS} (h : SR S p s u) : SR S [] u v → SR S p s v := by
  induction h with
  | nil s => exact fun h => h
  | letter e _ ih => exact fun h => .letter e (ih h)
  | word w m e _ ih => exact fun h => .word w m e (ih h)
theorem letters_sr {S : List (List Nat)} {u : DS} : ∀ (n : Nat) (s : DS), SR S [] (s.letters n).2 u → SR S (s.letters n).1 s u
  | 0, _, h => h
  | n + 1, s, h => .letter rfl (letters_sr n (s.draw 26).2 h)
theorem word_sr {S : List (List Nat)} {s : DS} (h : s.word.1 ∈ S) : SR S [] s s.word.2 :=
  .word s.word.1 h (letters_len _ _) (letters_sr _ _ (.nil _))
/-- drawing gets on -/
def Adv (s u : DS) : Prop := s.turn + u.great.length < u.turn + s.great.length ∨ (s.turn + u.great.length = u.turn + s.great.length ∧ u.rest < s.rest)
theorem Adv.trans {s u v : DS} (h : Adv s u) (h2 : Adv u v) : Adv s v := by
  unfold Adv at *
  omega
theorem draw_adv (s : DS) (room : Nat) (hr : 2 ≤ room) : Adv s (s.draw room).2 := by
  unfold Adv DS.draw DS.fetch
  by_cases h0 : s.rest = 0
  · rw [if_pos h0]
    cases hg : s.great with
    | nil => simp
    | cons g gs => simp
  · rw [if_neg h0]
    refine .inr ⟨by simp, ?_⟩
    exact Nat.div_lt_self (by omega) (by omega)
theorem letters_adv : ∀ (n : Nat) (s : DS), n = 0 ∧ (s.letters n).2 = s ∨ Adv s (s.letters n).2
  | 0, s => .inl ⟨rfl, rfl⟩
  | n + 1, s => by
    have h1 := draw_adv s 26 (by decide)
    simp only [DS.letters]
    rcases letters_adv n (s.draw 26).2 with ⟨_, z⟩ | z
    · rw [z]; exact .inr h1
    · exact .inr (h1.trans z)
theorem word_adv (s : DS) : Adv s s.word.2 := by
  have h1 := draw_adv s 8 (by decide)
  unfold DS.word
  rcases letters_adv ((s.draw 8).1 + 1) (s.draw 8).2 with ⟨_, z⟩ | z
  · rw [z]; exact h1
  · exact h1.trans z
theorem letters_step : ∀ (n : Nat) (s : DS), Step n s (s.letters n).2
  | 0, s => Step.refl
  | n + 1, s => ((draw_step s 26).trans (letters_step n _)).mono (by omega)
theorem word_step (s : DS) : Step 9 s s.word.2 := by
  have := draw_lt (s := s) 8 (by decide)
  exact ((draw_step s 8).trans (letters_step _ _)).mono (by omega)
inductive Ph (found : List (List Nat)) : DS → List (List Nat) → DS → Prop
  | go {s} : grow found s.word.1 ≠ found → Ph found s (grow found s.word.1) s.word.2
  | stay {s f u} : grow found s.word.1 = found → Ph found s.word.2 f u → Ph found s f u
theorem ph_ex {found : List (List Nat)} (F : Fnd found) (h5 : found.length ≤ 5) {s0 : DS} (hc : s0.cells.length < 64) : ∀ (a r : Nat) (s : DS), SR (stuckS found) [] s0 s → s0.turn + hT + 1 + s.great.length - s.turn = a → s.rest = r →
    ∃ f u, Ph found s f u ∧ f.length = found.length + 1 ∧ Fnd f ∧ Step (hT + 10) s0 u := by
  intro a
  induction a using Nat.strongRecOn with
  | ind a iha =>
    intro r
    induction r using Nat.strongRecOn with
    | ind r ihr =>
      intro s hs ha hr
      by_cases hg : grow found s.word.1 = found
      · have hs' := hs.trans (word_sr (stuck_mem (by omega) hg))
        have ht := sr_turns (few_stuck F h5) hs' hc
        have ht0 := sr_turns (few_stuck F h5) hs hc
        rcases word_adv s with z | ⟨z1, z2⟩
        · obtain ⟨f, u, h1, h2⟩ := iha (s0.turn + hT + 1 + s.word.2.great.length - s.word.2.turn) (by omega) _ s.word.2 hs' rfl rfl
          exact ⟨f, u, .stay hg h1, h2⟩
        · obtain ⟨f, u, h1, h2⟩ := ihr s.word.2.rest (by omega) s.word.2 hs' (by omega) rfl
          exact ⟨f, u, .stay hg h1, h2⟩
      · have ht := sr_turns (few_stuck F h5) hs hc
        have h9 := word_step s
        have hu := h9.up
        exact ⟨_, _, .go hg, grow_len hg, grow_fnd F (word_good s), (h9.cells).trans (sr_up hs).2, by omega⟩
theorem ph_all {found : List (List Nat)} (F : Fnd found) (h5 : found.length ≤ 5) {s : DS} (hc : s.cells.length < 64) : ∃ f u, Ph found s f u ∧ f.length = found.length + 1 ∧ Fnd f ∧ Step (hT + 10) s u :=
  ph_ex F h5 hc _ _ s (.nil s) rfl rfl
theorem letters_up : ∀ (n : Nat) (s : DS), s.turn ≤ (s.letters n).2.turn
  | 0, _ => Nat.le_refl _
  | n + 1, s => by
    have := letters_up n (s.draw 26).2
    have h := fetch_or s
    rw [draw_turn] at this
    simp only [DS.letters]
    omega
theorem word_up (s : DS) : s.turn ≤ s.word.2.turn := by
  have := letters_up ((s.draw 8).1 + 1) (s.draw 8).2
  have h := fetch_or s
  rw [draw_turn] at this
  unfold DS.word
  omega
theorem ph_up {found f : List (List Nat)} {s u : DS} (h : Ph found s f u) : s.turn ≤ u.turn := by
  induction h with
  | go _ => exact word_up _
  | stay _ _ ih => exact Nat.le_trans (word_up _) ih
end Pd
end
section
set_option Elab.async false
set_option linter.all false
set_option maxRecDepth 100000
namespace Pd
open PySem PySem.Spec L2 LamX
open PyProof.Rows hiding St
open PySem.W (Datum DatumOrd)
open Enc (enc)
/-! ### sorting data that are unlike -/
class LinO (α : Type) [DecidableEq α] [DatumOrd α] : Prop where
  irr : ∀ a : α, DatumOrd.lt a a = false
  trans : ∀ a b c : α, DatumOrd.lt a b = true → DatumOrd.lt b c = true → DatumOrd.lt a c = true
  tri : ∀ a b : α, DatumOrd.lt a b = false → DatumOrd.lt b a = false → a = b
instance : LinO Str where
  irr a := by show decide (a.cps.toList < a.cps.toList) = false; simp [List.lt_irrefl]
  trans a b c h1 h2 := by
    have h1 : a.cps.toList < b.cps.toList := of_decide_eq_true h1
    have h2 : b.cps.toList < c.cps.toList := of_decide_eq_true h2
    exact decide_eq_true (List.lt_trans h1 h2)
  tri a b h1 h2 := by
    have h1 : ¬ a.cps.toList < b.cps.toList := of_decide_eq_false h1
    have h2 : ¬ b.cps.toList < a.cps.toList := of_decide_eq_false h2
    have : a.cps.toList = b.cps.toList := List.le_antisymm (List.not_lt.mp h2) (List.not_lt.mp h1)
    exact TL.ext_tl this
instance {α β : Type} [DecidableEq α] [DatumOrd α] [DecidableEq β] [DatumOrd β] [LinO α] [LinO β] : LinO (α × β) where
  irr p := by
    show (if p.1 = p.1 then DatumOrd.lt p.2 p.2 else DatumOrd.lt p.1 p.1) = false
    rw [if_pos rfl, LinO.irr]
  trans p q r h1 h2 := by
    have h1 : (if p.1 = q.1 then DatumOrd.lt p.2 q.2 else DatumOrd.lt p.1 q.1) = true := h1
    have h2 : (if q.1 = r.1 then DatumOrd.lt q.2 r.2 else DatumOrd.lt q.1 r.1) = true := h2
    show (if p.1 = r.1 then DatumOrd.lt p.2 r.2 else DatumOrd.lt p.1 r.1) = true
    by_cases a : p.1 = q.1
    · rw [if_pos a] at h1
      by_cases b : q.1 = r.1
      · rw [if_pos b] at h2
        rw [if_pos (a.trans b)]
        exact LinO.trans _ _ _ h1 h2
      · rw [if_neg b] at h2
        rw [if_neg (by rw [a]; exact b), a]
        exact h2
    · rw [if_neg a] at h1
      by_cases b : q.1 = r.1
      · rw [if_neg (by rw [← b]; exact a), ← b]
        exact h1
      · rw [if_neg b] at h2
        have h3 := LinO.trans _ _ _ h1 h2
        rw [if_neg (fun z => by rw [z, LinO.irr] at h3; cases h3)]
        exact h3
  tri p q h1 h2 := by
    have h1 : (if p.1 = q.1 then DatumOrd.lt p.2 q.2 else DatumOrd.lt p.1 q.1) = false := h1
    have h2 : (if q.1 = p.1 then DatumOrd.lt q.2 p.2 else DatumOrd.lt q.1 p.1) = false := h2
    by_cases a : p.1 = q.1
    · rw [if_pos a] at h1
      rw [if_pos a.symm] at h2
      exact Prod.ext a (LinO.tri _ _ h1 h2)
    · rw [if_neg a] at h1
      rw [if_neg (fun z => a z.symm)] at h2
      exact absurd (LinO.tri _ _ h1 h2) a
section
variable {α : Type} [DecidableEq α] [DatumOrd α] [LinO α]
theorem lin_asym {a b : α} (h : DatumOrd.lt a b = true) : DatumOrd.lt b a = false := by
  cases h2 : DatumOrd.lt b a with
  | false => rfl
  | true =>
    have := LinO.trans _ _ _ h h2
    rw [LinO.irr] at this
    cases this
theorem sortA_perm (xs : List α) : (sortA xs).Perm xs := List.mergeSort_perm _ _
theorem sortA_sorted (xs : List α) (h : xs.Nodup) : (sortA xs).Pairwise fun a b => DatumOrd.lt a b = true := by
  have h1 : (sortA xs).Pairwise fun a b => (!DatumOrd.lt b a) = true := List.pairwise_mergeSort (fun a b c h1 h2 => by
    rw [Bool.not_eq_true'] at h1 h2 ⊢
    cases h3 : DatumOrd.lt c a with
    | false => rfl
    | true =>
      cases h4 : DatumOrd.lt b c with
      | true => rw [LinO.trans _ _ _ h4 h3] at h1; cases h1
      | false =>
        have := LinO.tri _ _ h4 h2
        subst this
        rw [h3] at h1
        cases h1) (fun a b => by
    cases h4 : DatumOrd.lt b a with
    | false => rfl
    | true => rw [lin_asym h4]; rfl) xs
  have h2 : (sortA xs).Nodup := (sortA_perm xs).symm.nodup h
  refine (h1.and h2).imp fun {a b} hab => ?_
  cases h4 : DatumOrd.lt a b with
  | true => rfl
  | false => exact absurd (LinO.tri _ _ h4 (by simpa using hab.1)) hab.2
theorem zip_tail_of {R : α → α → Prop} : ∀ {l : List α}, l.Pairwise R → ∀ p ∈ l.zip l.tail, R p.1 p.2
  | [], _, p, hp => by simp at hp
  | [x], _, p, hp => by simp at hp
  | x :: y :: l, h, p, hp => by
    rw [List.pairwise_cons] at h
    simp only [List.tail_cons, List.zip_cons_cons, List.mem_cons] at hp
    rcases hp with rfl | hp
    · exact h.1 y List.mem_cons_self
    · exact zip_tail_of h.2 p hp
/-- sorted of a list of data that are no tuples -/
theorem fSorted_ok [Enc α] {A : D} {xs : List α} {st : Sto} (cell : Bool) (hA : asL st A = some (xs.map enc)) (hok : ∀ x ∈ xs, Enc.ok x) (hl : xs.length ≤ sizeLine) (hd : Datum.depth α ≤ 64)
    (ht : (∀ x : α, (match Datum.toD x with | .tuple (_ :: _) => true | _ => false) = true) ∨ (∀ x : α, (match Datum.toD x with | .tuple _ => false | .none => false | _ => true) = true)) :
    fSorted cell [A] st = mkL cell ((sortA xs).map enc) st := by
  have hs : okSort (xs.map Datum.toD) = true := by
    unfold okSort
    rw [Bool.and_eq_true, Bool.and_eq_true]
    refine ⟨⟨List.all_eq_true.mpr fun p hp => List.all_eq_true.mpr fun q hq => ?_, List.all_eq_true.mpr fun p hp => ?_⟩, ?_⟩
    · obtain ⟨x, _, rfl⟩ := List.mem_map.mp hp
      obtain ⟨y, _, rfl⟩ := List.mem_map.mp hq
      exact DatumOrd.alike x y
    · obtain ⟨x, hx, rfl⟩ := List.mem_map.mp hp
      exact shaped_one (hok x hx) hd
    · rw [Bool.or_eq_true]
      rcases ht with h | h
      · exact .inl (List.all_eq_true.mpr fun p hp => by obtain ⟨x, _, rfl⟩ := List.mem_map.mp hp; exact h x)
      · exact .inr (List.all_eq_true.mpr fun p hp => by obtain ⟨x, _, rfl⟩ := List.mem_map.mp hp; exact h x)
  unfold fSorted
  simp only [hA, pys_enc, hs, List.length_map, hl, decide_true, Bool.and_self, if_true, sortD_enc]
end
end Pd
end
section
set_option Elab.async false
set_option linter.all false
set_option maxRecDepth 100000
namespace Pd
open PySem PySem.Spec L2 LamX
open PyProof.Rows hiding St
open PySem.W (Datum DatumOrd)
open Enc (enc)
open TL (tl ext_tl tl_append tl_mk tl_join joinL len_tl)
/-! ### words as texts -/
def wordOf (l : List Nat) : Str := ⟨(l.map (97 + ·)).toArray⟩
theorem tl_word (l : List Nat) : tl (wordOf l) = l.map (97 + ·) := rfl
theorem wordOf_inj {a b : List Nat} (h : wordOf a = wordOf b) : a = b := by
  have h1 : tl (wordOf a) = tl (wordOf b) := by rw [h]
  rw [tl_word, tl_word] at h1
  exact (List.map_inj_right (fun x y e => by omega)).mp h1
theorem word_len (l : List Nat) : (wordOf l).length = l.length := by rw [len_tl, tl_word, List.length_map]
theorem ltr_in : ∀ c, c < 26 → 97 + c ∈ ltrs.cps.toList := by
  have h : (List.range 26).all (fun c => decide (97 + c ∈ ltrs.cps.toList)) = true := by decide +kernel
  intro c hc
  exact of_decide_eq_true (List.all_eq_true.mp h c (List.mem_range.mpr hc))
theorem Good.word {l : List Nat} (h : Good l) : WordOk (wordOf l) := by
  refine ⟨by rw [word_len]; exact h.l1, by rw [word_len]; exact h.l8, fun c hc => ?_⟩
  have hc : c ∈ l.map (97 + ·) := hc
  obtain ⟨d, hd, rfl⟩ := List.mem_map.mp hc
  exact ltr_in d (h.lt d hd)
theorem mem_word {l : List Nat} {found : List (List Nat)} : wordOf l ∈ found.map wordOf ↔ l ∈ found := by
  rw [List.mem_map]
  constructor
  · rintro ⟨m, hm, e⟩
    rw [← wordOf_inj e]; exact hm
  · intro h; exact ⟨l, h, rfl⟩
def fw (l : List Nat) : D := .str (wordOf l)
theorem fw_enc (found : List (List Nat)) : found.map fw = (found.map wordOf).map (enc : Str → D) := by rw [List.map_map]; rfl
theorem in_found {st : Sto} {l : List Nat} {found : List (List Nat)} (F : Fnd found) (h : Good l) : opNotIn (.str (wordOf l)) (.lst (found.map fw)) st = some (.ok (.bl (decide (l ∉ found))) st) := by
  have := inD_lst (α := Str) (st := st) (x := wordOf l) (xs := found.map wordOf) (l := .lst (found.map fw)) (by rw [fw_enc]; rfl) h.word.ok (fun x hx => by
    obtain ⟨m, hm, rfl⟩ := List.mem_map.mp hx
    exact (F.good m hm).word.ok)
  unfold opNotIn
  rw [show (D.str (wordOf l)) = enc (wordOf l) from rfl, this]
  simp only [ok1, mem_word]
  by_cases hm : l ∈ found <;> simp [hm]
/-! ### drawing the letters -/
theorem ltr_len : (sgn ltrs).length = 26 := by unfold sgn; rw [List.length_map]; decide +kernel
theorem ltr_at : ∀ c, c < 26 → ltrs.cps[c]? = some (97 + c) := by
  have h : (List.range 26).all (fun c => decide (ltrs.cps[c]? = some (97 + c))) = true := by decide +kernel
  intro c hc
  exact of_decide_eq_true (List.all_eq_true.mp h c (List.mem_range.mpr hc))
theorem ltr_size : ltrs.cps.size ≤ sizeLine := by
  have : ltrs.cps.size = 26 := by decide +kernel
  rw [this]; decide
noncomputable def pickD : Den := dArgs f_l_law_pick (dCons (dVar 0) (dCons (dArgs (fListS false) (dCons (dC (.str "abcdefghijklmnopqrstuvwxyz")) (dNil))) (dNil)))
section
variable {ext : Sto}
theorem pick_letter {env : En} {s : DS} (h0 : env[0]? = some (some (.ref 1))) (ht : s.turn < 2 ^ 39) : pickD env (s.sto ++ ext) = some (.ok (.str ⟨#[97 + (s.draw 26).1]⟩) ((s.draw 26).2.sto ++ ext)) := by
  have hp : 0 < (sgn ltrs).length := by rw [ltr_len]; decide
  have e := f_pick_ok (s := s) (ext := ext) (ds := sgn ltrs) hp (by rw [ltr_len]; decide) ht
  have hd : ∀ (n : Nat) (hn : (s.draw n).1 < (sgn ltrs).length), n = 26 → (sgn ltrs)[(s.draw n).1] = D.str ⟨#[97 + (s.draw 26).1]⟩ := by
    rintro n hn rfl
    have h1 : (sgn ltrs)[(s.draw 26).1]? = some (D.str ⟨#[97 + (s.draw 26).1]⟩) := by rw [sgn_at, ltr_at _ (draw_lt 26 (by decide))]; rfl
    rw [List.getElem?_eq_getElem hn] at h1
    exact Option.some.inj h1
  rw [hd _ _ ltr_len, ltr_len] at e
  have e1 : fListS false [.str "abcdefghijklmnopqrstuvwxyz"] (s.sto ++ ext) = some (.ok (.lst (sgn ltrs)) (s.sto ++ ext)) := by
    have hz := ltr_size
    unfold ltrs at hz ⊢
    simp only [fListS, hz, if_true, mkL, Bool.false_eq_true, if_false]
  unfold pickD
  simp only [dArgs, dCons, dNil, dVar, dC, h0, bindR_ok, e1, e]
theorem lt1000 {r : Nat} (h : r ≤ 1000) : r < 2 ^ 1000 := Nat.lt_of_le_of_lt h (Nat.lt_trans (show 1000 < 2 ^ 10 by decide) (Nat.pow_lt_pow_right (by omega) (by omega)))
def lt1 (c : Nat) : D := .str ⟨#[97 + c]⟩
theorem letters_lc {env : En} (h0 : env[0]? = some (some (.ref 1))) (hl : 4 < env.length) : ∀ (items : List D) (s : DS) (acc : List D), s.turn + items.length < 2 ^ 39 → acc.length + items.length ≤ 100 →
    lcL (gNm 4) dYes pickD env items (s.sto ++ ext) acc = some (acc ++ (s.letters items.length).1.map lt1, (s.letters items.length).2.sto ++ ext)
  | [], s, acc, _, _ => by simp [lcL, DS.letters]
  | d :: items, s, acc, ht, ha => by
    simp only [List.length_cons] at ht ha
    have h0' : (env.set 4 (some d))[0]? = some (some (.ref 1)) := by rw [List.getElem?_set_ne (by decide)]; exact h0
    have e := pick_letter (ext := ext) (s := s) h0' (by omega)
    have h1 := (draw_step s 26).up
    have ih := letters_lc h0 hl items (s.draw 26).2 (acc ++ [lt1 (s.draw 26).1]) (by omega) (by simp only [List.length_append, List.length_cons, List.length_nil]; omega)
    have hs : acc.length < sizeLine := Nat.lt_of_lt_of_le (show acc.length < 101 by omega) (by decide)
    simp only [lcL, gNm, dYes, e, hs, if_true]
    rw [show (D.str ⟨#[97 + (s.draw 26).1]⟩) = lt1 (s.draw 26).1 from rfl, ih]
    simp only [DS.letters, List.length_cons, List.map_cons, List.append_assoc, List.singleton_append]
theorem strs_letters : ∀ l : List Nat, strsD (l.map lt1) = some (l.map fun c => (⟨#[97 + c]⟩ : Str))
  | [] => rfl
  | c :: l => by
    have := strs_letters l
    simp only [List.map_cons, lt1, strsD] at this ⊢
    rw [this]
    rfl
theorem joinL_one : ∀ l : List Nat, joinL [] (l.map fun c => [97 + c]) = l.map (97 + ·)
  | [] => rfl
  | [c] => rfl
  | c :: d :: l => by
    have := joinL_one (d :: l)
    simp only [List.map_cons, joinL, List.nil_append] at this ⊢
    rw [this]
    rfl
theorem join_word (l : List Nat) : Txt.join "" (l.map fun c => (⟨#[97 + c]⟩ : Str)) = wordOf l := by
  unfold Txt.join
  rw [StrLaws.glued_eq_join]
  refine ext_tl ?_
  rw [tl_join, List.map_map]
  have : tl ("" : Str) = [] := by decide +kernel
  rw [this]
  exact joinL_one l
theorem sum_letters (l : List Nat) : ((l.map fun c => (⟨#[97 + c]⟩ : Str)).map (·.length)).sum = l.length := by
  induction l with
  | nil => rfl
  | cons c l ih =>
    simp only [List.map_cons, List.sum_cons, ih, List.length_cons]
    show 1 + l.length = _
    omega
theorem len_empty : ("" : Str).length = 0 := by decide +kernel
theorem hsum (l : List Nat) (hl : l.length ≤ 8) : ((l.map fun c => (⟨#[97 + c]⟩ : Str)).map (·.length)).sum + (l.map fun c => (⟨#[97 + c]⟩ : Str)).length * ("" : Str).length ≤ 16777216 := by
  rw [sum_letters, len_empty, Nat.mul_zero, Nat.add_zero]
  exact Nat.le_trans hl (by decide)
theorem range_lc {env : En} {s : DS} {n : Nat} (h0 : env[0]? = some (some (.ref 1))) (hl : 4 < env.length) (hn : n < 8) (ht : s.turn + 8 < 2 ^ 39) :
    lcL (gNm 4) dYes pickD env (rangeD 0 (n + 1)) (s.sto ++ ext) [] = some ((s.letters (n + 1)).1.map lt1, (s.letters (n + 1)).2.sto ++ ext) := by
  have hlen : (rangeD 0 (n + 1)).length = n + 1 := by unfold rangeD; rw [List.length_map, List.length_range]
  have e2 := letters_lc (ext := ext) h0 hl (rangeD 0 (n + 1)) s [] (by rw [hlen]; omega) (by rw [hlen]; simp; omega)
  rw [hlen, List.nil_append] at e2
  exact e2
theorem p62 : (2 : Int) ^ 62 = 4611686018427387904 := by decide +kernel
theorem in62 {n : Nat} (hn : n < 8) : (1 : Int) + (n : Int) < 2 ^ 62 ∧ -(2 ^ 62 : Int) ≤ 1 + (n : Int) := by
  rw [p62]
  omega
theorem range1_eval {a : DenL} {env : En} {st st1 : Sto} {j : Int} (h : a env st = some (.ok [.int j] st1)) (hr : j < 2 ^ 62 ∧ -(2 ^ 62) ≤ j) : dRange1 a env st = some (.ok (rangeD 0 j.toNat) st1) := by
  unfold dRange1
  rw [h]
  exact if_pos hr
theorem word_draw {env : En} {s : DS} (h0 : env[0]? = some (some (.ref 1))) (hl : 4 < env.length) (ht : s.turn + 9 < 2 ^ 39) :
    dJoin (dC (.str "")) (dLc false [4] (dRange1 (dCons (dBin (opAdd false) (dC (.int 1)) (dArgs f_l_law_draw (dCons (dVar 0) (dCons (dC (.int 8)) (dNil))))) (dNil))) (gNm 4) dYes pickD) env (s.sto ++ ext) =
      some (.ok (fw s.word.1) (s.word.2.sto ++ ext)) := by
  have h8 := draw_lt (s := s) 8 (by decide)
  have hst := (draw_step s 8).up
  have h0' : (wipeE env [4])[0]? = some (some (.ref 1)) := by simp only [wipeE]; rw [List.getElem?_set_ne (by decide)]; exact h0
  have hl' : 4 < (wipeE env [4]).length := by simp only [wipeE, List.length_set]; exact hl
  have e2 := range_lc (ext := ext) (s := (s.draw 8).2) h0' hl' h8 (by omega)
  have e8 : f_l_law_draw [.ref 1, .int 8] (s.sto ++ ext) = some (.ok (.int ((s.draw 8).1 : Nat)) ((s.draw 8).2.sto ++ ext)) := f_draw_ok (room := 8) (by decide) (lt1000 (by omega)) (by omega)
  have hw := word_good s
  have e3 : dRange1 (dCons (dBin (opAdd false) (dC (.int 1)) (dArgs f_l_law_draw (dCons (dVar 0) (dCons (dC (.int 8)) (dNil))))) (dNil)) env (s.sto ++ ext) = some (.ok (rangeD 0 ((s.draw 8).1 + 1)) ((s.draw 8).2.sto ++ ext)) := by
    have hn : ((1 : Int) + (((s.draw 8).1 : Nat) : Int)).toNat = (s.draw 8).1 + 1 := by omega
    rw [range1_eval (st1 := (s.draw 8).2.sto ++ ext) (j := 1 + (((s.draw 8).1 : Nat) : Int)) ?_ (in62 h8), hn]
    simp only [dC, dCons, dBin, dArgs, dVar, h0, dNil, bindR_ok, e8, add_ii]
  unfold DS.word at hw ⊢
  unfold dJoin dLc
  simp only [dC, bindR_ok, e3, e2, mkL, Bool.false_eq_true, if_false, asS, asL, strs_letters, join_word, fw]
  rw [if_pos (hsum _ hw.l8)]
/-! ### the word's first letter and its q's -/
theorem cut_word (l : List Nat) : cutS (wordOf l) none (some 1) = wordOf (l.take 1) := by
  refine ext_tl ?_
  unfold cutS
  rw [tl_mk, tl_word, HT.sIx_none]
  have : HT.sIx (wordOf l).length (wordOf l).length (some 1) = min 1 (wordOf l).length := HT.sIx_nat _ _ 1
  rw [this, word_len, List.drop_zero, Nat.sub_zero]
  show (l.map (97 + ·)).take (min 1 l.length) = (l.take 1).map (97 + ·)
  rw [← List.map_take]
  congr 1
  cases l with
  | nil => rfl
  | cons c l => simp
theorem foldl_app (a : Array Nat) : ∀ (n : Nat) (acc : Array Nat), ((List.replicate n a).foldl (· ++ ·) acc).toList = acc.toList ++ (List.replicate n a.toList).flatten
  | 0, acc => by simp
  | n + 1, acc => by simp only [List.replicate_succ, List.foldl_cons, foldl_app a n, List.flatten_cons, Array.toList_append, List.append_assoc]
theorem rep_word (n : Nat) : repStr "q" n = wordOf (List.replicate n 16) := by
  have hq : tl ("q" : Str) = [113] := by decide +kernel
  refine ext_tl ?_
  unfold repStr
  split
  · rename_i h
    subst h
    exact hq
  · show ((List.replicate n ("q" : Str).cps).foldl (· ++ ·) #[]).toList = _
    rw [foldl_app, tl_word, show ("q" : Str).cps.toList = [113] from hq]
    simp
theorem app_word (a b : List Nat) : wordOf a ++ wordOf b = wordOf (a ++ b) := by
  refine ext_tl ?_
  rw [tl_append, tl_word, tl_word, tl_word, List.map_append]
theorem alt_D {st : Sto} {l : List Nat} {n : Nat} (h : Good l) (hn : n ≤ 1000) :
    bindR (opSl false (.str (wordOf l)) none (some 1) st) (fun x st => bindR (opMul false (.str "q") (.int n) st) fun y st => opAdd false x y st) = some (.ok (fw (altW l n)) st) := by
  have h8 := h.l8
  have hs : (wordOf l).length ≤ sizeLine := by rw [word_len]; exact Nat.le_trans h8 eight_le
  have hq : ("q" : Str).length = 1 := by decide +kernel
  have k1000 : 2000 ≤ sizeLine := by decide
  have hc : (0 : Int) ≤ (n : Int) ∧ (n : Int) ≤ 1000 ∧ 0 < ("q" : Str).length ∧ ("q" : Str).length ≤ 1000 ∧ (repStr "q" ((n : Int)).toNat).length ≤ sizeLine := by
    refine ⟨by omega, by omega, by omega, by omega, ?_⟩
    rw [rep_word, word_len, List.length_replicate]
    omega
  have ha : (wordOf (l.take 1)).length + (wordOf (List.replicate n 16)).length ≤ sizeLine := by
    rw [word_len, word_len, List.length_take, List.length_replicate]
    omega
  have e2 : opMul false (.str "q") (.int n) st = some (.ok (.str (wordOf (List.replicate n 16))) st) := by
    unfold opMul
    dsimp only
    rw [if_pos hc, rep_word]
    rfl
  simp only [opSl, hs, if_true, ok1, bindR_ok, e2, cut_word, opAdd, ha, app_word, fw, altW]
def wCond : DenB := dTruth isBl (dBin opLt (dArgs fLen (dCons (dVar 2) (dNil))) (dVar 1))
def altDn : Den := dBin (opAdd false) (dSlice (opSl false) (dVar 3) dNoPart (dPart (dC (.int 1)))) (dBin (opMul false) (dC (.str "q")) (dArgs fLen (dCons (dVar 2) (dNil))))
noncomputable def wBody : DenS := sSeq (sSet 3 (dJoin (dC (.str "")) (dLc false [4] (dRange1 (dCons (dBin (opAdd false) (dC (.int 1)) (dArgs f_l_law_draw (dCons (dVar 0) (dCons (dC (.int 8)) (dNil))))) (dNil))) (gNm 4) dYes pickD))) (sSet 2 (dBin (opAdd false) (dVar 2) (dIf (dTruth isBl (dBin opNotIn (dVar 3) (dVar 2))) (dArgs (fLst false) (dCons (dVar 3) (dNil))) (dIf (dAnd (dTruth isBl (dBin opNotIn altDn (dVar 2))) (dTruth isBl (dBin opLt (dArgs fLen (dCons (dVar 2) (dNil))) (dC (.int 8))))) (dArgs (fLst false) (dCons altDn (dNil))) (dArgs (fLst false) (dNil))))))
theorem len_found (found : List (List Nat)) (st : Sto) : fLen [.lst (found.map fw)] st = some (.ok (.int found.length) st) := by
  simp only [fLen, asS, asL, ok1, List.length_map]
theorem one_le' : 1 ≤ sizeLine := by decide
theorem wBody_ok {found : List (List Nat)} {s : DS} {M : D} {z3 z4 : Option D} (F : Fnd found) (h8 : found.length < 8) (ht : s.turn + 9 < 2 ^ 39) :
    ∃ z, wBody [some (.ref 1), some M, some (.lst (found.map fw)), z3, z4] (s.sto ++ ext) = some (.nx [some (.ref 1), some M, some (.lst ((grow found s.word.1).map fw)), z, z4] (s.word.2.sto ++ ext)) := by
  have hw := word_good s
  have e1 := word_draw (ext := ext) (s := s) (env := [some (.ref 1), some M, some (.lst (found.map fw)), z3, z4]) rfl (by simp) ht
  have ea := alt_D (st := s.word.2.sto ++ ext) (n := found.length) hw (by omega)
  have en := in_found (st := s.word.2.sto ++ ext) F hw
  have hl9 : found.length + 1 ≤ sizeLine := Nat.le_trans (show found.length + 1 ≤ 9 by omega) (by decide)
  have hl8 : found.length ≤ sizeLine := by omega
  refine ⟨some (fw s.word.1), ?_⟩
  generalize s.word.1 = l at *
  generalize s.word.2.sto ++ ext = st at *
  have e3 : altDn [some (.ref 1), some M, some (.lst (found.map fw)), some (fw l), z4] st = some (.ok (fw (altW l found.length)) st) := by
    simp only [altDn, dBin, dSlice, dVar, dNoPart, dPart, dC, dArgs, dCons, dNil, List.getElem?_cons_zero, List.getElem?_cons_succ, bindR_ok, len_found]
    exact ea
  unfold wBody
  rw [sSeq, sSet, e1]
  simp only [bindS_ok, List.set]
  unfold grow
  by_cases h1 : l ∈ found
  · have h2 := hw
    by_cases ha : altW l found.length ∈ found
    · have en2 : opNotIn (fw (altW l found.length)) (.lst (found.map fw)) st = some (.ok (.bl false) st) := by
        have := in_found (st := st) F (F.good _ ha)
        simpa [ha, fw] using this
      simp only [h1, not_true_eq_false, decide_false] at en
      simp only [sSet, dBin, dVar, dIf, dTruth, List.getElem?_cons_zero, List.getElem?_cons_succ, bindR_ok]
      rw [show (fw l) = .str (wordOf l) from rfl, en]
      simp only [bindR_ok, isBl, Bool.false_eq_true, if_false, dAnd, dTruth]
      rw [show (D.str (wordOf l)) = fw l from rfl]
      simp only [bindR_ok, dBin, dVar, List.getElem?_cons_zero, List.getElem?_cons_succ, e3, en2, isBl, Bool.false_eq_true, if_false, dArgs, dNil, fLst, List.length_nil, Nat.zero_le, if_true, mkL, opAdd, asM, List.length_map, Nat.add_zero, hl8, List.append_nil, bindS_ok, List.set, h1, ha]
    · by_cases h8' : found.length < 8
      · have en2 : opNotIn (fw (altW l found.length)) (.lst (found.map fw)) st = some (.ok (.bl true) st) := by
          have := in_found (st := st) F (alt_good h2 h8')
          simpa [ha, fw] using this
        have hlt : opLt (.int (found.length : Int)) (.int 8) st = some (.ok (.bl true) st) := by
          have : ((found.length : Int) < 8) := by omega
          simp only [opLt, ltD, this, decide_true, ok1]
        simp only [h1, not_true_eq_false, decide_false] at en
        simp only [sSet, dBin, dVar, dIf, dTruth, List.getElem?_cons_zero, List.getElem?_cons_succ, bindR_ok]
        rw [show (fw l) = .str (wordOf l) from rfl, en]
        simp only [bindR_ok, isBl, Bool.false_eq_true, if_false, dAnd, dTruth]
        rw [show (D.str (wordOf l)) = fw l from rfl]
        simp only [bindR_ok, dBin, dVar, List.getElem?_cons_zero, List.getElem?_cons_succ, e3, en2, isBl, if_true, dBin, dArgs, dCons, dNil, dVar, dC, List.getElem?_cons_zero, List.getElem?_cons_succ, len_found, hlt, fLst, List.length_cons, List.length_nil, Nat.zero_add, one_le', if_true, mkL, Bool.false_eq_true, if_false, opAdd, asM, List.length_map, hl9, bindS_ok, List.set, h1, ha, h8', List.map_append, List.map_cons, List.map_nil]
      · exact absurd h8 h8'
  · have en' : opNotIn (.str (wordOf l)) (.lst (found.map fw)) st = some (.ok (.bl true) st) := by simpa [h1] using en
    simp only [sSet, dBin, dVar, dIf, dTruth, List.getElem?_cons_zero, List.getElem?_cons_succ, bindR_ok]
    rw [show (fw l) = .str (wordOf l) from rfl, en']
    simp only [bindR_ok, isBl, if_true, dArgs, dCons, dNil, dVar, List.getElem?_cons_zero, List.getElem?_cons_succ, fLst, List.length_cons, List.length_nil, Nat.zero_add, one_le', mkL, Bool.false_eq_true, if_false, opAdd, asM, List.length_map, hl9, bindS_ok, List.set, h1, List.map_append, List.map_cons, List.map_nil, fw]
/-! ### the loop -/
theorem ph_while {found f : List (List Nat)} {s u : DS} {many : Nat} {z4 : Option D} (F : Fnd found) (hm : found.length < many) (h8 : found.length < 8) (hu : u.turn + 20 < 2 ^ 39) (P : Ph found s f u) (g : List (List Nat)) (v : DS)
    (hv : ∀ z, ∃ z', sWhile wCond wBody [some (.ref 1), some (.int many), some (.lst (f.map fw)), z, z4] (u.sto ++ ext) = some (.nx [some (.ref 1), some (.int many), some (.lst (g.map fw)), z', z4] (v.sto ++ ext))) :
    ∀ z, ∃ z', sWhile wCond wBody [some (.ref 1), some (.int many), some (.lst (found.map fw)), z, z4] (s.sto ++ ext) = some (.nx [some (.ref 1), some (.int many), some (.lst (g.map fw)), z', z4] (v.sto ++ ext)) := by
  have hc : ∀ z st, wCond [some (.ref 1), some (.int many), some (.lst (found.map fw)), z, z4] st = some (.ok true st) := fun z st => by
    have : ((found.length : Int) < (many : Int)) := by omega
    unfold wCond
    simp only [dTruth, dBin, dArgs, dCons, dNil, dVar, List.getElem?_cons_zero, List.getElem?_cons_succ, bindR_ok, len_found, opLt, ltD, this, decide_true, ok1, isBl]
  induction P with
  | go hg =>
    rename_i s
    intro z
    have ht := word_up s
    obtain ⟨z1, e1⟩ := wBody_ok (ext := ext) (s := s) (M := .int many) (z3 := z) (z4 := z4) F h8 (by omega)
    obtain ⟨z2, e2⟩ := hv z1
    exact ⟨z2, m_sWhile_go (hc z _) e1 e2⟩
  | stay hg P ih =>
    rename_i s f u
    intro z
    have ht := word_up s
    have ht2 := ph_up P
    obtain ⟨z1, e1⟩ := wBody_ok (ext := ext) (s := s) (M := .int many) (z3 := z) (z4 := z4) F h8 (by omega)
    rw [hg] at e1
    obtain ⟨z2, e2⟩ := ih hu hv z1
    exact ⟨z2, m_sWhile_go (hc z _) e1 e2⟩
theorem words_loop {many : Nat} {z4 : Option D} (hm : many ≤ 6) : ∀ (k : Nat) (found : List (List Nat)) (s : DS), Fnd found → found.length + k = many → s.cells.length < 64 → s.turn + k * 2 ^ 31 + 20 < 2 ^ 39 →
    ∃ (g : List (List Nat)) (v : DS), (∀ z, ∃ z', sWhile wCond wBody [some (.ref 1), some (.int many), some (.lst (found.map fw)), z, z4] (s.sto ++ ext) = some (.nx [some (.ref 1), some (.int many), some (.lst (g.map fw)), z', z4] (v.sto ++ ext))) ∧ Fnd g ∧ g.length = many ∧ Step (k * 2 ^ 31) s v
  | 0, found, s, F, hl, hc, ht => by
    refine ⟨found, s, fun z => ⟨z, m_sWhile_end ?_⟩, F, by omega, ⟨rfl, by omega⟩⟩
    have : ¬ ((found.length : Int) < (many : Int)) := by omega
    unfold wCond
    simp only [dTruth, dBin, dArgs, dCons, dNil, dVar, List.getElem?_cons_zero, List.getElem?_cons_succ, bindR_ok, len_found, opLt, ltD, this, decide_false, ok1, isBl]
  | k + 1, found, s, F, hl, hc, ht => by
    obtain ⟨f, u, P, fl, F2, st⟩ := ph_all F (by omega) hc
    have hup := st.up
    have hT' := hT_lt
    obtain ⟨g, v, h1, h2, h3, h4⟩ := words_loop hm k f u F2 (by omega) (by rw [st.cells]; exact hc) (by omega)
    have hv := h4.up
    refine ⟨g, v, ph_while F (by omega) (by omega) (by omega) P g v h1, h2, h3, h4.cells.trans st.cells, by omega⟩
theorem words_ok {many : Nat} {s : DS} (hm : many ≤ 6) (hc : s.cells.length < 64) (ht : s.turn + many * 2 ^ 31 + 20 < 2 ^ 39) :
    ∃ (names : List Str) (u : DS), f_l_law_words [.ref 1, .int many] (s.sto ++ ext) = some (.ok (.lst (names.map enc)) (u.sto ++ ext)) ∧ names.length = many ∧ (∀ w ∈ names, WordOk w) ∧ names.Pairwise (fun a b => DatumOrd.lt a b = true) ∧ Step (many * 2 ^ 31) s u := by
  obtain ⟨g, v, h1, F, hl, hs⟩ := words_loop (ext := ext) (z4 := none) hm many [] s ⟨List.nodup_nil, fun _ h => by cases h⟩ (by simp) hc ht
  obtain ⟨z, e⟩ := h1 none
  have hok : ∀ w ∈ g.map wordOf, WordOk w := fun w hw => by
    obtain ⟨l, hl, rfl⟩ := List.mem_map.mp hw
    exact (F.good l hl).word
  have hlen : (v.sto ++ ext).length = (s.sto ++ ext).length := by simp [DS.sto]
  refine ⟨sortA (g.map wordOf), v, ?_, ?_, fun w hw => hok w ((sortA_perm _).mem_iff.mp hw), sortA_sorted _ (nodup_map_of _ _ F.nd fun x _ y _ e => wordOf_inj e), hs⟩
  · have es := fSorted_ok (A := .lst (g.map fw)) (xs := g.map wordOf) (st := v.sto ++ ext) false (by rw [fw_enc]; rfl) (fun x hx => (hok x hx).ok) (by rw [List.length_map]; exact Nat.le_trans (show g.length ≤ 8 by omega) eight_le) (by decide) (.inr fun _ => rfl)
    unfold f_l_law_words runF b_l_law_words
    rw [show (dArgs f_l_law_pick (dCons (dVar 0) (dCons (dArgs (fListS false) (dCons (dC (.str "abcdefghijklmnopqrstuvwxyz")) (dNil))) (dNil)))) = pickD from rfl]
    simp only [List.length_cons, List.length_nil, Nat.zero_add, Nat.reduceAdd, if_true, List.map, List.replicate, Nat.reduceSub, List.cons_append, List.nil_append]
    rw [sSeq]
    simp only [sSet, dArgs, dNil, bindR_ok, fLst, List.length_nil, Nat.zero_le, if_true, mkL, Bool.false_eq_true, if_false, bindS_ok, List.set]
    rw [sSeq]
    have e' : sWhile wCond wBody [some (.ref 1), some (.int many), some (.lst []), none, none] (s.sto ++ ext) = _ := e
    unfold wCond wBody altDn at e'
    rw [e']
    simp only [sRet, dArgs, dCons, dNil, dVar, List.getElem?_cons_zero, List.getElem?_cons_succ, bindR_ok, es, mkL, Bool.false_eq_true, if_false, bindS_ok]
    rw [← hlen, endF_rt]
  · rw [(sortA_perm _).length_eq, List.length_map]
    exact hl
end
end Pd
end
section
set_option Elab.async false
set_option linter.all false
set_option maxRecDepth 100000
namespace Pd
open PySem PySem.Spec L2 LamX
open PyProof.Rows hiding St
open PySem.W (Datum DatumOrd)
open Enc (enc)
/-! ### values that are alike -/
mutual
/-- scalars, tuples and lists of such: how deep they are at most, how many parts they have -/
inductive Pl : D → Nat → Nat → Prop
  | non {k} : Pl .non k 1
  | bl {k} (b : Bool) : Pl (.bl b) k 1
  | int {k} (i : Int) : Pl (.int i) k 1
  | str {k} (x : Str) : PyData.strOk x = true → Pl (.str x) k 1
  | tup {ds k n} : Pls ds k n → Pl (.tup ds) (k + 1) (n + 1)
  | lst {ds k n} : Pls ds k n → Pl (.lst ds) (k + 1) (n + 1)
inductive Pls : List D → Nat → Nat → Prop
  | nil {k} : Pls [] k 0
  | cons {d ds k n m} : Pl d k n → Pls ds k m → Pls (d :: ds) k (n + m)
end
theorem Pl.pos {d : D} {k n : Nat} (h : Pl d k n) : 1 ≤ n := by
  cases h <;> omega
theorem Pls.len : ∀ {ds : List D} {k n : Nat}, Pls ds k n → ds.length ≤ n
  | [], _, _, _ => Nat.zero_le _
  | d :: ds, _, _, .cons h t => by
    have := Pls.len t
    have h1 := h.pos
    rw [List.length_cons]
    omega
theorem Pls.app : ∀ {ds es : List D} {k n m : Nat}, Pls ds k n → Pls es k m → Pls (ds ++ es) k (n + m)
  | [], _, _, _, _, .nil, h => by simpa using h
  | d :: ds, _, _, _, _, .cons h t, h2 => by
    rw [Nat.add_assoc]
    exact .cons h (Pls.app t h2)
mutual
theorem Pl.py {d : D} {k n : Nat} (h : Pl d k n) : ∃ p, D.py d = some p ∧ PyData.canLay0 p = true ∧ PyData.depth p ≤ k := by
  cases h with
  | non => exact ⟨.none, by simp only [D.py], by simp only [PyData.canLay0], by simp [PyData.depth]⟩
  | bl b => exact ⟨.bool b, by simp only [D.py], by simp only [PyData.canLay0], by simp [PyData.depth]⟩
  | int i => exact ⟨.int i, by simp only [D.py], by simp only [PyData.canLay0], by simp [PyData.depth]⟩
  | str x h => exact ⟨.str x, by simp only [D.py], by simp only [PyData.canLay0]; exact h, by simp [PyData.depth]⟩
  | tup h =>
    obtain ⟨ps, e, l, dp⟩ := Pls.py h
    exact ⟨.tuple ps, by simp only [D.py, e, Option.map_some], by simp only [PyData.canLay0]; exact l, by simp only [PyData.depth]; omega⟩
  | lst h =>
    obtain ⟨ps, e, l, dp⟩ := Pls.py h
    exact ⟨.list ps, by simp only [D.py, e, Option.map_some], by simp only [PyData.canLay0]; exact l, by simp only [PyData.depth]; omega⟩
theorem Pls.py {ds : List D} {k n : Nat} (h : Pls ds k n) : ∃ ps, D.pys ds = some ps ∧ PyData.canLayAll0 ps = true ∧ PyData.depthAll ps ≤ k := by
  cases h with
  | nil => exact ⟨[], by simp only [D.pys], by simp only [PyData.canLayAll0], by simp [PyData.depthAll]⟩
  | cons h t =>
    obtain ⟨p, e1, l1, d1⟩ := Pl.py h
    obtain ⟨ps, e2, l2, d2⟩ := Pls.py t
    exact ⟨p :: ps, by simp only [D.pys, e1, e2], by simp only [PyData.canLayAll0, l1, l2, Bool.and_self], by simp only [PyData.depthAll]; omega⟩
end
theorem pys_len : ∀ {ds : List D} {ps : List PyData}, D.pys ds = some ps → ps.length = ds.length
  | [], _, h => by simp only [D.pys] at h; cases h; rfl
  | d :: ds, _, h => by
    simp only [D.pys] at h
    split at h
    · rename_i p ps e1 e2
      cases h
      rw [List.length_cons, List.length_cons, pys_len e2]
    · cases h
theorem one_le0 : 1 ≤ sizeLine := by decide
def dup (d : D) : D := .tup [d, d]
def kids : D → List D
  | .tup ds => ds
  | .lst ds => ds
  | _ => []
def samC : DenB := dTruth isBl (dBin opNe (dVar 2) (dArgs (fLst false) (dNil)))
noncomputable def samB : DenS := sSeq (sAsg (dMethL0 mPop (dVar 2)) (gUnp 2 (gsCons (gNm 3) (gsCons (gNm 4) (gsNil))))) (sIf (dOr (dTruth isBl (dBin opIs (dVar 4) (dC .non))) (dTruth truD (dIsi .bl (dVar 4)))) (sIf (dIfB (dTruth isBl (dBin opIs (dVar 4) (dC .non))) (dTruth isBl (dBin opIsN (dVar 3) (dC .non))) (dNot (dTruth truD (dArgs f_l_law_is_truth (dCons (dVar 3) (dCons (dVar 4) (dNil))))))) (sRet (dC (.bl false))) (sSkip)) (sIf (dTruth truD (dIsi2 .int .str (dVar 4))) (sIf (dOr (dTruth truD (dIsi .bl (dVar 3))) (dOr (dTruth isBl (dBin opNe (dIsi .int (dVar 3)) (dIsi .int (dVar 4)))) (dTruth isBl (dBin opNe (dVar 3) (dVar 4))))) (sRet (dC (.bl false))) (sSkip)) (sIf (dTruth truD (dIsi .dct (dVar 4))) (sDead) (sSeq (sSet 6 (dArgs (fLst false) (dCons (dAndV (dIsi .tup (dVar 3)) (dIsi .tup (dVar 4))) (dCons (dAndV (dIsi .lst (dVar 3)) (dIsi .lst (dVar 4))) (dNil))))) (sSeq (sIf (dOr (dTruth isBl (dBin opNotIn (dC (.bl true)) (dVar 6))) (dTruth isBl (dBin opNe (dArgs fLen (dCons (dVar 3) (dNil))) (dArgs fLen (dCons (dVar 4) (dNil)))))) (sRet (dC (.bl false))) (sSkip)) (sExpr (dMethL mExtend (dVar 2) (dCons (dLc false [7, 8] (dZip (dCons (dVar 3) (dCons (dVar 4) (dNil)))) (gUnp 2 (gsCons (gNm 7) (gsCons (gNm 8) (gsNil)))) dYes (dArgs fTup (dCons (dVar 7) (dCons (dVar 8) (dNil))))) (dNil)))))))))
section
variable {B : Sto}
theorem get_end (o : Ob) : (B ++ [o])[B.length]? = some o := by simp
theorem set_end (o p : Ob) : (B ++ [o]).set B.length p = B ++ [p] := by simp
theorem zipD_dup : ∀ ds : List D, zipD ds ds = ds.map dup
  | [] => by simp [zipD]
  | d :: ds => by simp only [zipD, List.map_cons, zipD_dup ds, dup]
theorem dup_lc {env : En} {st : Sto} (hl : 8 < env.length) (ds : List D) (h : ds.length ≤ sizeLine) : lcL (gUnp 2 (gsCons (gNm 7) (gsCons (gNm 8) (gsNil)))) dYes (dArgs fTup (dCons (dVar 7) (dCons (dVar 8) (dNil)))) env (ds.map dup) st [] = some (ds.map dup, st) := by
  refine lcL_all (e := dup) (g := dup) ds (fun d _ => ⟨(env.set 7 (some d)).set 8 (some d), ?_, ?_⟩) h
  · simp [gUnp, dup, gsCons, gNm, gsNil, bindR_ok]
  · have e7 : ((env.set 7 (some d)).set 8 (some d))[7]? = some (some d) := by rw [List.getElem?_set_ne (by decide), List.getElem?_set_self (by omega)]
    have e8 : ((env.set 7 (some d)).set 8 (some d))[8]? = some (some d) := by rw [List.getElem?_set_self (by simp; omega)]
    simp only [dArgs, dCons, dNil, dVar, e7, e8, bindR_ok, fTup, List.length_cons, List.length_nil, Nat.zero_add, Nat.reduceAdd, two_le, if_true, dup]
theorem pop_dup (ws : List D) (x : D) : mPop (.ref B.length) [] (B ++ [.lst (ws ++ [dup x])]) = some (.ok (dup x) (B ++ [.lst ws])) := by
  have h1 : (ws ++ [dup x])[(ws ++ [dup x]).length - 1]? = some (dup x) := by simp
  simp only [mPop, cellL, get_end, h1, set_end, List.dropLast_concat]
theorem isL_end (ws : List D) : isL (.ref B.length) (B ++ [.lst ws]) = true := by simp [isL, asM]
theorem ext_dup (ws ds : List D) (h : ws.length + ds.length ≤ sizeLine) : mExtend (.ref B.length) [.lst (ds.map dup)] (B ++ [.lst ws]) = some (.ok .non (B ++ [.lst (ws ++ ds.map dup)])) := by
  simp only [mExtend, cellL, get_end, asM, List.length_map, h, if_true, set_end]
theorem samB_ok {A1 A2 z3 z4 z5 z6 z7 z8 : Option D} {ws : List D} {x : D} {n : Nat} {k : Nat} (h : Pl x k n) (hl : ws.length + n ≤ sizeLine) :
    ∃ z6', samB [A1, A2, some (.ref B.length), z3, z4, z5, z6, z7, z8] (B ++ [.lst (ws ++ [dup x])]) = some (.nx [A1, A2, some (.ref B.length), some x, some x, z5, z6', z7, z8] (B ++ [.lst (ws ++ (kids x).map dup)])) := by
  unfold samB
  rw [sSeq]
  simp only [sAsg, dMethL0, dVar, List.getElem?_cons_zero, List.getElem?_cons_succ, bindR_ok, isL_end, if_true, pop_dup, bindS_ok]
  cases h with
  | non =>
    refine ⟨z6, ?_⟩
    simp [gUnp, dup, gsCons, gNm, gsNil, bindR_ok, sIf, dOr, dTruth, dBin, opIs, dC, dVar, ok1, isBl, bindSB_ok, dIsi, kindD, K7.sub, truD, dIsi2, opNe, eqD, sSkip, kids, dIfB, opIsN]
  | bl b =>
    refine ⟨z6, ?_⟩
    have et : f_l_law_is_truth [.bl b, .bl b] (B ++ [.lst ws]) = some (.ok (.bl true) (B ++ [.lst ws])) := by
      unfold f_l_law_is_truth runF b_l_law_is_truth
      have hl : B.length + 1 = (B ++ [Ob.lst ws]).length := by simp
      cases b <;> simp [sRet, dIf, dTruth, truD, dVar, bindR_ok, dBin, opIs, dC, ok1, bindS_ok] <;> rw [hl, endF_rt]
    simp [gUnp, dup, gsCons, gNm, gsNil, bindR_ok, sIf, dOr, dTruth, dBin, opIs, dC, dVar, ok1, isBl, bindSB_ok, dIsi, kindD, K7.sub, truD, dIsi2, opNe, eqD, sSkip, kids, dIfB, opIsN, dNot, dArgs, dCons, dNil, et]
  | str x hx =>
    refine ⟨z6, ?_⟩
    simp [gUnp, dup, gsCons, gNm, gsNil, bindR_ok, sIf, dOr, dTruth, dBin, opIs, dC, dVar, ok1, isBl, bindSB_ok, dIsi, kindD, K7.sub, truD, dIsi2, opNe, eqD, sSkip, kids]
  | int i =>
    refine ⟨z6, ?_⟩
    simp [gUnp, dup, gsCons, gNm, gsNil, bindR_ok, sIf, dOr, dTruth, dBin, opIs, dC, dVar, ok1, isBl, bindSB_ok, dIsi, kindD, K7.sub, truD, dIsi2, opNe, eqD, sSkip, kids]
  | tup hs =>
    rename_i ds k m
    have hlen := hs.len
    have hn : opNotIn (.bl true) (.lst [.bl true, .bl false]) (B ++ [.lst ws]) = some (.ok (.bl false) (B ++ [.lst ws])) := rfl
    refine ⟨some (.lst [.bl true, .bl false]), ?_⟩
    have hd : zipD ds ds = ds.map dup := zipD_dup ds
    have e2 := dup_lc (st := B ++ [.lst ws]) (env := wipeE [A1, A2, some (.ref B.length), some (.tup ds), some (.tup ds), z5, some (.lst [.bl true, .bl false]), z7, z8] [7, 8]) (by simp [wipeE]) ds (by omega)
    have e3 := ext_dup (B := B) ws ds (by omega)
    simp [gUnp, dup, gsCons, gNm, gsNil, bindR_ok, sIf, dOr, dTruth, dBin, opIs, dC, dVar, ok1, isBl, bindSB_ok, dIsi, kindD, K7.sub, truD, dIsi2, sSeq, sSet, dArgs, dCons, dNil, dAndV, fLst, two_le, mkL, bindS_ok, hn, fLen, asS, opNe, eqD, sSkip, sExpr, dMethL, isL_end, dLc, dZip, itemsV, hd, kids]
    rw [e2]
    simp [mkL, bindR_ok, e3, bindS_ok]
  | lst hs =>
    rename_i ds k m
    have hlen := hs.len
    have hn : opNotIn (.bl true) (.lst [.bl false, .bl true]) (B ++ [.lst ws]) = some (.ok (.bl false) (B ++ [.lst ws])) := rfl
    refine ⟨some (.lst [.bl false, .bl true]), ?_⟩
    have hd : zipD ds ds = ds.map dup := zipD_dup ds
    have e2 := dup_lc (st := B ++ [.lst ws]) (env := wipeE [A1, A2, some (.ref B.length), some (.lst ds), some (.lst ds), z5, some (.lst [.bl false, .bl true]), z7, z8] [7, 8]) (by simp [wipeE]) ds (by omega)
    have e3 := ext_dup (B := B) ws ds (by omega)
    simp [gUnp, dup, gsCons, gNm, gsNil, bindR_ok, sIf, dOr, dTruth, dBin, opIs, dC, dVar, ok1, isBl, bindSB_ok, dIsi, kindD, K7.sub, truD, dIsi2, sSeq, sSet, dArgs, dCons, dNil, dAndV, fLst, two_le, mkL, bindS_ok, hn, fLen, asS, asL, opNe, eqD, sSkip, sExpr, dMethL, isL_end, dLc, dZip, itemsV, hd, kids]
    rw [e2]
    simp [mkL, bindR_ok, e3, bindS_ok]
theorem ne_stack {ws : List D} {k n : Nat} (h : Pls ws k n) (hk : k ≤ 50) : opNe (.ref B.length) (.lst []) (B ++ [.lst (ws.map dup)]) = some (.ok (.bl (!decide (ws = []))) (B ++ [.lst (ws.map dup)])) := by
  have hd : ∀ {ws : List D} {n : Nat}, Pls ws k n → ∃ n, Pls (ws.map dup) (k + 1) n := fun {ws} => by
    induction ws with
    | nil => intro _ _; exact ⟨0, .nil⟩
    | cons w ws ih =>
      intro n h
      cases h with
      | cons h t =>
        obtain ⟨m, hm⟩ := ih t
        exact ⟨_, .cons (.tup (.cons h (.cons h .nil))) hm⟩
  obtain ⟨m, hm⟩ := hd h
  obtain ⟨ps, e1, l1, d1⟩ := hm.py
  have hp : pyOf (B ++ [.lst (ws.map dup)]) (.ref B.length) = some (.list ps) := by simp only [pyOf, get_end, e1, Option.map_some]
  have hq : pyOf (B ++ [.lst (ws.map dup)]) (.lst []) = some (.list []) := by simp only [pyOf, D.py, D.pys, Option.map_some]
  have s1 : SeqAt.shaped (.list ps) = true := by
    simp only [SeqAt.shaped, PyData.canLay0, l1, Bool.true_and, PyData.depth]
    exact decide_eq_true (Nat.le_trans (Nat.succ_le_succ d1) (by omega : k + 1 + 1 ≤ 64))
  have s2 : SeqAt.shaped (.list []) = true := by
    simp only [SeqAt.shaped, PyData.canLay0, PyData.canLayAll0, Bool.true_and, PyData.depth, PyData.depthAll]
    exact decide_eq_true (by decide)
  have e : eqD (B ++ [.lst (ws.map dup)]) (.ref B.length) (.lst []) = match pyOf (B ++ [.lst (ws.map dup)]) (.ref B.length), pyOf (B ++ [.lst (ws.map dup)]) (.lst []) with | some p, some q => if SeqAt.shaped p && SeqAt.shaped q then some (PyData.eqv p q) else none | _, _ => none := rfl
  unfold opNe
  rw [e, hp, hq]
  simp only [s1, s2, Bool.and_self, if_true, PyData.eqv]
  have hlen := pys_len e1
  cases ps with
  | nil =>
    have : ws = [] := List.eq_nil_of_length_eq_zero (by rw [List.length_map] at hlen; exact hlen.symm)
    subst this
    simp [PyData.eqvAll, ok1]
  | cons p ps =>
    have : ws ≠ [] := by rintro rfl; simp at hlen
    simp [PyData.eqvAll, ok1, this]
theorem samC_ok {A1 A2 z3 z4 z5 z6 z7 z8 : Option D} {ws : List D} {k n : Nat} (h : Pls ws k n) (hk : k ≤ 50) : samC [A1, A2, some (.ref B.length), z3, z4, z5, z6, z7, z8] (B ++ [.lst (ws.map dup)]) = some (.ok (!decide (ws = [])) (B ++ [.lst (ws.map dup)])) := by
  unfold samC
  simp only [dTruth, dBin, dVar, dArgs, dNil, fLst, List.length_nil, Nat.zero_le, if_true, mkL, Bool.false_eq_true, if_false, List.getElem?_cons_zero, List.getElem?_cons_succ, bindR_ok, ne_stack h hk, isBl]
theorem Pls.kids {x : D} {k n : Nat} (h : Pl x k n) : ∃ m, Pls (kids x) k m ∧ m < n := by
  have up : ∀ {ds : List D} {k n : Nat}, Pls ds k n → Pls ds (k + 1) n := fun {ds k n} h => by
    have upAll : (∀ (d : D) (k n : Nat), Pl d k n → Pl d (k + 1) n) := fun d k n h => by
      exact Pl.rec (motive_1 := fun d k n _ => Pl d (k + 1) n) (motive_2 := fun ds k n _ => Pls ds (k + 1) n) .non .bl .int (fun x h => .str x h) (fun _ i => .tup i) (fun _ i => .lst i) .nil (fun _ _ i j => .cons i j) h
    induction ds generalizing n with
    | nil => cases h; exact .nil
    | cons d ds ih => cases h with | cons h t => exact .cons (upAll _ _ _ h) (ih t)
  cases h with
  | non => exact ⟨0, .nil, by omega⟩
  | bl b => exact ⟨0, .nil, by omega⟩
  | int i => exact ⟨0, .nil, by omega⟩
  | str x h => exact ⟨0, .nil, by omega⟩
  | tup h => exact ⟨_, up h, by omega⟩
  | lst h => exact ⟨_, up h, by omega⟩
theorem Pls.snoc_inv : ∀ {ws : List D} {x : D} {k n : Nat}, Pls (ws ++ [x]) k n → ∃ a b, Pls ws k a ∧ Pl x k b ∧ n = a + b
  | [], x, k, n, h => by
    cases h with
    | cons h t => cases t; exact ⟨0, _, .nil, h, by omega⟩
  | w :: ws, x, k, n, h => by
    cases h with
    | cons h t =>
      obtain ⟨a, b, h1, h2, e⟩ := Pls.snoc_inv t
      exact ⟨_, b, .cons h h1, h2, by omega⟩
theorem sam_loop {A1 A2 : Option D} {k : Nat} (hk : k ≤ 50) : ∀ (n : Nat) (ws : List D) (z3 z4 z5 z6 z7 z8 : Option D), Pls ws k n → n ≤ sizeLine →
    ∃ e, sWhile samC samB [A1, A2, some (.ref B.length), z3, z4, z5, z6, z7, z8] (B ++ [.lst (ws.map dup)]) = some (.nx e (B ++ [.lst []])) := by
  intro n
  induction n using Nat.strongRecOn with
  | ind n ih =>
    intro ws z3 z4 z5 z6 z7 z8 h hn
    rcases List.eq_nil_or_concat ws with rfl | ⟨ws', x, e⟩
    · exact ⟨_, m_sWhile_end (by have := samC_ok (B := B) (A1 := A1) (A2 := A2) (z3 := z3) (z4 := z4) (z5 := z5) (z6 := z6) (z7 := z7) (z8 := z8) h hk; simpa using this)⟩
    · rw [List.concat_eq_append] at e
      subst e
      obtain ⟨a, b, h1, h2, rfl⟩ := Pls.snoc_inv h
      obtain ⟨m, h3, hm⟩ := Pls.kids h2
      have hc := samC_ok (B := B) (A1 := A1) (A2 := A2) (z3 := z3) (z4 := z4) (z5 := z5) (z6 := z6) (z7 := z7) (z8 := z8) h hk
      have hl := h1.len
      obtain ⟨z6', hb⟩ := samB_ok (B := B) (A1 := A1) (A2 := A2) (z3 := z3) (z4 := z4) (z5 := z5) (z6 := z6) (z7 := z7) (z8 := z8) (ws := ws'.map dup) h2 (by rw [List.length_map]; omega)
      rw [← List.map_append] at hb
      obtain ⟨e, he⟩ := ih (a + m) (by omega) (ws' ++ kids x) (some x) (some x) z5 z6' z7 z8 (h1.app h3) (by omega)
      refine ⟨e, m_sWhile_go (st1 := B ++ [.lst ((ws' ++ [x]).map dup)]) ?_ ?_ he⟩
      · rw [hc]; simp
      · rw [List.map_append]; exact hb
theorem same_ok {x : D} {k n : Nat} (h : Pl x k n) (hk : k ≤ 50) (hn : n ≤ sizeLine) (hc : B.all (Ob.cl B.length) = true) : f_l_law_same [x, x] B = some (.ok (.bl true) B) := by
  obtain ⟨e, he⟩ := sam_loop (B := B) (A1 := some x) (A2 := some x) hk n [x] none none none none none none (by have := Pls.cons h .nil; simpa using this) hn
  unfold f_l_law_same runF b_l_law_same
  simp only [List.length_cons, List.length_nil, Nat.zero_add, Nat.reduceAdd, if_true, List.map, List.replicate, Nat.reduceSub, List.cons_append, List.nil_append]
  simp only [sSeq, sSet, dArgs, dCons, dNil, dVar, List.getElem?_cons_zero, List.getElem?_cons_succ, bindR_ok, fTup, List.length_cons, List.length_nil, Nat.zero_add, Nat.reduceAdd, two_le, if_true, fLst, one_le0, mkL, bindS_ok, List.set]
  unfold samC samB at he
  simp only [sSeq, sSet, dArgs, dCons, dNil, dVar, dup, List.map_cons, List.map_nil] at he
  rw [he]
  simp only [sRet, dC, bindS_ok, endF, finK, Bool.false_eq_true, if_false]
  refine fin_cut (by simp) hc ?_
  simp only [fz, D.cl, if_true]
end
end Pd
end
section
set_option Elab.async false
set_option linter.all false
set_option maxRecDepth 100000
namespace Pd
open PySem PySem.Spec L2 LamX
open PyProof.Rows hiding St
open PySem.W (Datum DatumOrd)
open Enc (enc)
/-! ### pairs led on through each third -/
abbrev Pr := Str × Str
def step (t a : Str) (fl : List Pr) (b : Str) : List Pr := if a ≠ b ∧ (a, t) ∈ fl ∧ (t, b) ∈ fl ∧ (a, b) ∉ fl then fl ++ [(a, b)] else fl
def row (names : List Str) (t : Str) (fl : List Pr) (a : Str) : List Pr := names.foldl (step t a) fl
def third (names : List Str) (fl : List Pr) (t : Str) : List Pr := names.foldl (row names t) fl
def clo (names : List Str) (fl : List Pr) : List Pr := names.foldl (third names) fl
/-- what holds while a third is worked at -/
structure Ph3 (names : List Str) (t : Str) (fl g : List Pr) : Prop where
  nd : g.Nodup
  sub : ∀ p ∈ fl, p ∈ g
  new : ∀ p ∈ g, p ∈ fl ∨ (p.1 ≠ p.2 ∧ p.1 ∈ names ∧ p.2 ∈ names ∧ (p.1, t) ∈ fl ∧ (t, p.2) ∈ fl)
theorem Ph3.left {names : List Str} {t a : Str} {fl g : List Pr} (h : Ph3 names t fl g) (m : (a, t) ∈ g) : (a, t) ∈ fl := by
  rcases h.new _ m with z | ⟨_, _, _, z, _⟩
  · exact z
  · exact z
theorem Ph3.right {names : List Str} {t b : Str} {fl g : List Pr} (h : Ph3 names t fl g) (m : (t, b) ∈ g) : (t, b) ∈ fl := by
  rcases h.new _ m with z | ⟨_, _, _, _, z⟩
  · exact z
  · exact z
theorem ph3_step {names : List Str} {t a b : Str} {fl g : List Pr} (ha : a ∈ names) (hb : b ∈ names) (h : Ph3 names t fl g) : Ph3 names t fl (step t a g b) ∧ (∀ p ∈ g, p ∈ step t a g b) ∧ (a ≠ b → (a, t) ∈ fl → (t, b) ∈ fl → (a, b) ∈ step t a g b) := by
  unfold step
  split
  · rename_i hc
    refine ⟨⟨?_, fun p hp => List.mem_append_left _ (h.sub p hp), fun p hp => ?_⟩, fun p hp => List.mem_append_left _ hp, fun _ _ _ => List.mem_append_right _ (List.mem_singleton.mpr rfl)⟩
    · rw [List.nodup_append]
      refine ⟨h.nd, by simp, fun x hx y hy e => ?_⟩
      rw [List.mem_singleton] at hy
      subst hy
      subst e
      exact hc.2.2.2 hx
    · rcases List.mem_append.mp hp with z | z
      · exact h.new p z
      · rw [List.mem_singleton] at z
        subst z
        exact .inr ⟨hc.1, ha, hb, h.left hc.2.1, h.right hc.2.2.1⟩
  · rename_i hc
    refine ⟨h, fun p hp => hp, fun h1 h2 h3 => ?_⟩
    apply Classical.byContradiction
    intro h4
    exact hc ⟨h1, h.sub _ h2, h.sub _ h3, h4⟩
theorem ph3_row {names : List Str} {t a : Str} {fl : List Pr} (ha : a ∈ names) : ∀ (bs : List Str) (g : List Pr), (∀ b ∈ bs, b ∈ names) → Ph3 names t fl g →
    Ph3 names t fl (bs.foldl (step t a) g) ∧ (∀ p ∈ g, p ∈ bs.foldl (step t a) g) ∧ (∀ b ∈ bs, a ≠ b → (a, t) ∈ fl → (t, b) ∈ fl → (a, b) ∈ bs.foldl (step t a) g)
  | [], g, _, h => ⟨h, fun p hp => hp, fun b hb => by cases hb⟩
  | b :: bs, g, hs, h => by
    obtain ⟨h1, h2, h3⟩ := ph3_step ha (hs b List.mem_cons_self) h
    obtain ⟨k1, k2, k3⟩ := ph3_row ha bs (step t a g b) (fun c hc => hs c (List.mem_cons_of_mem _ hc)) h1
    refine ⟨k1, fun p hp => k2 p (h2 p hp), fun c hc e1 e2 e3 => ?_⟩
    rcases List.mem_cons.mp hc with rfl | hc
    · exact k2 _ (h3 e1 e2 e3)
    · exact k3 c hc e1 e2 e3
theorem ph3_rows {names : List Str} {t : Str} {fl : List Pr} : ∀ (as : List Str) (g : List Pr), (∀ a ∈ as, a ∈ names) → Ph3 names t fl g →
    Ph3 names t fl (as.foldl (row names t) g) ∧ (∀ p ∈ g, p ∈ as.foldl (row names t) g) ∧ (∀ a ∈ as, ∀ b ∈ names, a ≠ b → (a, t) ∈ fl → (t, b) ∈ fl → (a, b) ∈ as.foldl (row names t) g)
  | [], g, _, h => ⟨h, fun p hp => hp, fun b hb => by cases hb⟩
  | a :: as, g, hs, h => by
    obtain ⟨h1, h2, h3⟩ := ph3_row (hs a List.mem_cons_self) names g (fun b hb => hb) h
    obtain ⟨k1, k2, k3⟩ := ph3_rows as (row names t g a) (fun c hc => hs c (List.mem_cons_of_mem _ hc)) h1
    refine ⟨k1, fun p hp => k2 p (h2 p hp), fun c hc b hb e1 e2 e3 => ?_⟩
    rcases List.mem_cons.mp hc with rfl | hc
    · exact k2 _ (h3 b hb e1 e2 e3)
    · exact k3 c hc b hb e1 e2 e3
/-- sound pairs -/
structure PrOk (names : List Str) (fl : List Pr) : Prop where
  nd : fl.Nodup
  ne : ∀ p ∈ fl, p.1 ≠ p.2
  inn : ∀ p ∈ fl, p.1 ∈ names ∧ p.2 ∈ names
theorem third_mem {names : List Str} {t : Str} {fl : List Pr} (h : PrOk names fl) : PrOk names (third names fl t) ∧ ∀ p, p ∈ third names fl t ↔ p ∈ fl ∨ (p.1 ≠ p.2 ∧ p.1 ∈ names ∧ p.2 ∈ names ∧ (p.1, t) ∈ fl ∧ (t, p.2) ∈ fl) := by
  obtain ⟨k1, k2, k3⟩ := ph3_rows (t := t) (fl := fl) names fl (fun a ha => ha) ⟨h.nd, fun p hp => hp, fun p hp => .inl hp⟩
  refine ⟨⟨k1.nd, fun p hp => ?_, fun p hp => ?_⟩, fun p => ⟨k1.new p, fun hp => ?_⟩⟩
  · rcases k1.new p hp with z | z
    · exact h.ne p z
    · exact z.1
  · rcases k1.new p hp with z | z
    · exact h.inn p z
    · exact ⟨z.2.1, z.2.2.1⟩
  · rcases hp with z | z
    · exact k2 p z
    · exact k3 p.1 z.2.1 p.2 z.2.2.1 z.1 z.2.2.2.1 z.2.2.2.2
/-- led on through the thirds of a list -/
def Led (ts : List Str) (fl : List Pr) : Prop := ∀ t ∈ ts, ∀ a c, a ≠ c → (a, t) ∈ fl → (t, c) ∈ fl → (a, c) ∈ fl
theorem led_third {names ts : List Str} {t : Str} {fl : List Pr} (h : PrOk names fl) (l : Led ts fl) : Led (ts ++ [t]) (third names fl t) := by
  obtain ⟨h1, h2⟩ := third_mem (t := t) h
  have hl : ∀ a, (a, t) ∈ third names fl t → (a, t) ∈ fl := fun a m => by
    rcases (h2 _).mp m with z | z
    · exact z
    · exact z.2.2.2.1
  have hr : ∀ b, (t, b) ∈ third names fl t → (t, b) ∈ fl := fun b m => by
    rcases (h2 _).mp m with z | z
    · exact z
    · exact z.2.2.2.2
  intro u hu a c hac m1 m2
  have hin1 := (h1.inn _ m1).1
  have hin2 := (h1.inn _ m2).2
  have via : (a, t) ∈ fl → (t, c) ∈ fl → (a, c) ∈ third names fl t := fun z1 z2 => (h2 _).mpr (.inr ⟨hac, hin1, hin2, z1, z2⟩)
  rcases List.mem_append.mp hu with hu | hu
  · rcases (h2 _).mp m1 with z1 | z1 <;> rcases (h2 _).mp m2 with z2 | z2
    · exact (h2 _).mpr (.inl (l u hu a c hac z1 z2))
    · -- (a, u) old; (u, t), (t, c)
      by_cases e : a = t
      · subst e; exact (h2 _).mpr (.inl z2.2.2.2.2)
      · exact via (l u hu a t e z1 z2.2.2.2.1) z2.2.2.2.2
    · by_cases e : t = c
      · subst e; exact (h2 _).mpr (.inl z1.2.2.2.1)
      · exact via z1.2.2.2.1 (l u hu t c e z1.2.2.2.2 z2)
    · exact via z1.2.2.2.1 z2.2.2.2.2
  · rw [List.mem_singleton] at hu
    subst hu
    exact via (hl _ m1) (hr _ m2)
theorem led_all {names : List Str} : ∀ (us ts : List Str) (fl : List Pr), PrOk names fl → Led ts fl → PrOk names (us.foldl (third names) fl) ∧ Led (ts ++ us) (us.foldl (third names) fl)
  | [], ts, fl, h, l => ⟨h, by rw [List.append_nil]; exact l⟩
  | u :: us, ts, fl, h, l => by
    have := led_all us (ts ++ [u]) (third names fl u) (third_mem h).1 (led_third h l)
    rw [List.append_assoc] at this
    exact this
theorem clo_ok {names : List Str} {fl : List Pr} (h : PrOk names fl) : PrOk names (clo names fl) ∧ Led names (clo names fl) :=
  led_all names [] fl h (fun t ht => by cases ht)
/-! ### how many -/
theorem step_len (t a : Str) (fl : List Pr) (b : Str) : (step t a fl b).length ≤ fl.length + 1 := by
  unfold step
  split <;> simp
theorem fold_len {α : Type} (f : List Pr → α → List Pr) (n : Nat) (h : ∀ fl b, (f fl b).length ≤ fl.length + n) : ∀ (bs : List α) (fl : List Pr), (bs.foldl f fl).length ≤ fl.length + bs.length * n
  | [], fl => by simp
  | b :: bs, fl => by
    have h1 := fold_len f n h bs (f fl b)
    have h2 := h fl b
    simp only [List.foldl_cons, List.length_cons, Nat.succ_mul]
    omega
theorem row_len (names : List Str) (t : Str) (fl : List Pr) (a : Str) : (row names t fl a).length ≤ fl.length + names.length := by
  have := fold_len (step t a) 1 (step_len t a) names fl
  unfold row
  omega
theorem third_len (names : List Str) (fl : List Pr) (t : Str) : (third names fl t).length ≤ fl.length + names.length * names.length :=
  fold_len (row names t) names.length (row_len names t) names fl
theorem clo_len (names : List Str) (fl : List Pr) : (clo names fl).length ≤ fl.length + names.length * (names.length * names.length) :=
  fold_len (third names) _ (third_len names) names fl
/-! ### each thing once -/
def once : List Pr → List Pr
  | [] => []
  | d :: ds => d :: (once ds).filter fun e => !decide (e = d)
theorem once_nd : ∀ ds : List Pr, (once ds).Nodup
  | [] => List.nodup_nil
  | d :: ds => by
    unfold once
    rw [List.nodup_cons]
    refine ⟨fun m => ?_, (once_nd ds).filter _⟩
    have := (List.mem_filter.mp m).2
    simp at this
theorem once_in : ∀ {ds : List Pr} {p : Pr}, p ∈ once ds ↔ p ∈ ds
  | [], p => by simp [once]
  | d :: ds, p => by
    unfold once
    rw [List.mem_cons, List.mem_cons, List.mem_filter, once_in (ds := ds)]
    by_cases h : p = d <;> simp [h]
theorem once_len : ∀ ds : List Pr, (once ds).length ≤ ds.length
  | [] => Nat.le_refl _
  | d :: ds => by
    unfold once
    have h1 := once_len ds
    have h2 := List.length_filter_le (fun e => !decide (e = d)) (once ds)
    rw [List.length_cons, List.length_cons]
    omega
def kP (p : Pr) : Nk := .tup [.text p.1, .text p.2]
theorem keyN_pr (p : Pr) : keyN (enc p) = some (kP p) := by
  show keyN (.tup [.str p.1, .str p.2]) = _
  simp only [keyN, keyNs, Option.map_some, kP]
theorem keyNs_pr : ∀ ps : List Pr, keyNs (ps.map enc) = some (ps.map kP)
  | [] => by simp only [List.map_nil, keyNs]
  | p :: ps => by simp only [List.map_cons, keyNs, keyN_pr, keyNs_pr ps]
theorem kP_inj {p q : Pr} (h : kP p = kP q) : p = q := by
  unfold kP at h
  simp at h
  exact Prod.ext h.1 h.2
theorem onceD_pr : ∀ ps : List Pr, onceD (ps.map enc) = (once ps).map enc
  | [] => by simp [onceD, once]
  | p :: ps => by
    simp only [List.map_cons, onceD, once, onceD_pr ps, List.filter_map]
    congr 2
    refine List.filter_congr fun q _ => ?_
    simp only [Function.comp, keyN_pr]
    by_cases h : q = p
    · subst h; simp
    · have : ¬ (some (kP q) = some (kP p)) := fun z => h (kP_inj (Option.some.inj z))
      simp [h, this]
theorem datas_pr : ∀ ps : List Pr, NestedKey.datas (ps.map kP) = ps.map Datum.toD
  | [] => by simp only [List.map_nil, NestedKey.datas]
  | p :: ps => by
    simp only [List.map_cons, NestedKey.datas, datas_pr ps]
    congr 1
theorem okSort_pr {ps : List Pr} (h : ∀ p ∈ ps, Enc.ok p) : okSort (ps.map Datum.toD) = true := by
  unfold okSort
  rw [Bool.and_eq_true, Bool.and_eq_true]
  refine ⟨⟨List.all_eq_true.mpr fun p hp => List.all_eq_true.mpr fun q hq => ?_, List.all_eq_true.mpr fun p hp => ?_⟩, ?_⟩
  · obtain ⟨x, _, rfl⟩ := List.mem_map.mp hp
    obtain ⟨y, _, rfl⟩ := List.mem_map.mp hq
    exact DatumOrd.alike x y
  · obtain ⟨x, hx, rfl⟩ := List.mem_map.mp hp
    exact shaped_one (h x hx)
  · rw [Bool.or_eq_true]
    exact .inl (List.all_eq_true.mpr fun p hp => by obtain ⟨x, _, rfl⟩ := List.mem_map.mp hp; rfl)
theorem tupN_pr (p : Pr) : tupN (kP p) = true := by
  unfold tupN kP
  simp only [decide_eq_true_eq]
  simp [NestedKey.depth, NestedKey.depthAll]
theorem sortSet_ok {cell : Bool} {a : Den} {env : En} {st st1 : Sto} {x : D} {ps : List Pr} (ha : a env st = some (.ok x st1)) (hx : asL st1 x = some (ps.map enc)) (h : ∀ p ∈ ps, Enc.ok p) (hl : ps.length < 64) :
    dSortSet cell a env st = mkL cell ((sortA (once ps)).map enc) st1 := by
  have h1 : (ps.map kP).all tupN = true := List.all_eq_true.mpr fun k hk => by obtain ⟨p, _, rfl⟩ := List.mem_map.mp hk; exact tupN_pr p
  unfold dSortSet
  simp only [ha, bindR_ok, hx, keyNs_pr, h1, datas_pr, okSort_pr h, List.length_map, hl, decide_true, Bool.and_self, if_true, onceD_pr, sortD_enc]
end Pd
end
section
set_option Elab.async false
set_option linter.all false
set_option maxRecDepth 100000
namespace Pd
open PySem PySem.Spec L2 LamX
open PyProof.Rows hiding St
open PySem.W (Datum DatumOrd)
open Enc (enc)
/-! ### the closing loops -/
def cloB : DenS := sIf (dAnd (dTruth isBl (dBin opNe (dVar 4) (dVar 5))) (dAnd (dTruth isBl (dBin opIn (dArgs fTup (dCons (dVar 4) (dCons (dVar 3) (dNil)))) (dVar 2))) (dAnd (dTruth isBl (dBin opIn (dArgs fTup (dCons (dVar 3) (dCons (dVar 5) (dNil)))) (dVar 2))) (dTruth isBl (dBin opNotIn (dArgs fTup (dCons (dVar 4) (dCons (dVar 5) (dNil)))) (dVar 2)))))) (sExpr (dMethL mAppend (dVar 2) (dCons (dArgs fTup (dCons (dVar 4) (dCons (dVar 5) (dNil)))) (dNil)))) (sSkip)
section
variable {B : Sto}
theorem in_pr {fl : List Pr} {a b : Str} (ha : PyData.strOk a = true) (hb : PyData.strOk b = true) (h : ∀ p ∈ fl, Enc.ok p) : inD (B ++ [.lst (fl.map enc)]) (.tup [.str a, .str b]) (.ref B.length) = some (decide ((a, b) ∈ fl)) :=
  (inD_lst (x := (a, b)) (by simp only [asM, get_end]) (show PyData.strOk a = true ∧ PyData.strOk b = true from ⟨ha, hb⟩) h).trans (congrArg some (decide_eq_decide.mpr Iff.rfl))
theorem cloB_ok {W S : Option D} {t a b : Str} {fl : List Pr} (ht : PyData.strOk t = true) (ha : PyData.strOk a = true) (hb : PyData.strOk b = true) (h : ∀ p ∈ fl, Enc.ok p) (hl : fl.length < 10000) :
    cloB [W, S, some (.ref B.length), some (.str t), some (.str a), some (.str b)] (B ++ [.lst (fl.map enc)]) = some (.nx [W, S, some (.ref B.length), some (.str t), some (.str a), some (.str b)] (B ++ [.lst ((step t a fl b).map enc)])) := by
  have hs : fl.length < sizeLine := Nat.lt_of_lt_of_le hl (by decide)
  have hap : mAppend (.ref B.length) [.tup [.str a, .str b]] (B ++ [.lst (fl.map enc)]) = some (.ok .non (B ++ [.lst ((fl ++ [(a, b)]).map enc)])) := by
    simp only [mAppend, cellL, get_end, List.length_map, hs, if_true, set_end, List.map_append, List.map_cons, List.map_nil]
    rfl
  unfold cloB step
  have e1 := in_pr (B := B) ha ht h
  have e2 := in_pr (B := B) ht hb h
  have e3 := in_pr (B := B) ha hb h
  have eL : isL (.ref B.length) (B ++ [.lst (fl.map enc)]) = true := isL_end _
  generalize hst : B ++ [.lst (fl.map enc)] = st at *
  by_cases h1 : a = b <;> by_cases h2 : (a, t) ∈ fl <;> by_cases h3 : (t, b) ∈ fl <;> by_cases h4 : (a, b) ∈ fl <;>
    simp only [sIf, dAnd, dTruth, dBin, dVar, List.getElem?_cons_zero, List.getElem?_cons_succ, bindR_ok, bindSB_ok, opNe, eqD, ok1, isBl, h1, decide_true, decide_false, Bool.not_true, Bool.not_false, Bool.false_eq_true, if_true, if_false, sSkip, ne_eq, not_true_eq_false, not_false_eq_true, false_and, and_false, true_and,
      dArgs, dCons, dNil, fTup, List.length_cons, List.length_nil, Nat.zero_add, Nat.reduceAdd, two_le, opIn, opNotIn, e1, e2, e3, h2, h3, h4, sExpr, dMethL, eL, hap, bindS_ok] <;> first | rfl | rw [hst] | (subst h1; simp; rw [hst])
theorem cloB_one {W S z5 : Option D} {t a : Str} (ht : PyData.strOk t = true) (ha : PyData.strOk a = true) : ∀ (bs : List Str) (fl : List Pr) (z5 : Option D), (∀ b ∈ bs, PyData.strOk b = true) → (∀ p ∈ fl, Enc.ok p) → fl.length + bs.length < 10000 →
    ∃ z, forL (gNm 5) cloB (bs.map enc) [W, S, some (.ref B.length), some (.str t), some (.str a), z5] (B ++ [.lst (fl.map enc)]) = some (.nx [W, S, some (.ref B.length), some (.str t), some (.str a), z] (B ++ [.lst ((bs.foldl (step t a) fl).map enc)])) ∧ ∀ p ∈ bs.foldl (step t a) fl, Enc.ok p
  | [], fl, z5, _, h, _ => ⟨z5, rfl, h⟩
  | b :: bs, fl, z5, hb, h, hl => by
    have hb1 := hb b List.mem_cons_self
    have e := cloB_ok (B := B) (W := W) (S := S) ht ha hb1 h (by simp only [List.length_cons] at hl; omega)
    have hs : ∀ p ∈ step t a fl b, Enc.ok p := fun p hp => by
      unfold step at hp
      split at hp
      · rcases List.mem_append.mp hp with z | z
        · exact h p z
        · rw [List.mem_singleton.mp z]; exact ⟨ha, hb1⟩
      · exact h p hp
    have h1 := step_len t a fl b
    obtain ⟨z, e2, h2⟩ := cloB_one (W := W) (S := S) (z5 := z5) ht ha bs (step t a fl b) (some (.str b)) (fun c hc => hb c (List.mem_cons_of_mem _ hc)) hs (by simp only [List.length_cons] at hl; omega)
    refine ⟨z, ?_, h2⟩
    simp only [List.map_cons, forL, gNm, List.set]
    rw [show (enc b : D) = .str b from rfl, e]
    exact e2
def cloB2 : DenS := sFor (dIt (dVar 0)) (gNm 5) cloB
def cloB3 : DenS := sFor (dIt (dVar 0)) (gNm 4) cloB2
theorem cloB2_ok {S z5 : Option D} {t a : Str} {names : List Str} {fl : List Pr} (ht : PyData.strOk t = true) (ha : PyData.strOk a = true) (hn : ∀ b ∈ names, PyData.strOk b = true) (h : ∀ p ∈ fl, Enc.ok p) (hl : fl.length + names.length < 10000) :
    ∃ z, cloB2 [some (.lst (names.map enc)), S, some (.ref B.length), some (.str t), some (.str a), z5] (B ++ [.lst (fl.map enc)]) = some (.nx [some (.lst (names.map enc)), S, some (.ref B.length), some (.str t), some (.str a), z] (B ++ [.lst ((row names t fl a).map enc)])) ∧ ∀ p ∈ row names t fl a, Enc.ok p := by
  obtain ⟨z, e, h2⟩ := cloB_one (B := B) (W := some (.lst (names.map enc))) (S := S) (z5 := z5) ht ha names fl z5 hn h hl
  refine ⟨z, ?_, h2⟩
  unfold cloB2
  simp only [sFor, dIt, dVar, List.getElem?_cons_zero, bindR_ok, itemsA, itemsW]
  exact e
theorem cloB3_one {S : Option D} {t : Str} {names : List Str} (ht : PyData.strOk t = true) (hn : ∀ b ∈ names, PyData.strOk b = true) : ∀ (as : List Str) (fl : List Pr) (z4 z5 : Option D), (∀ b ∈ as, PyData.strOk b = true) → (∀ p ∈ fl, Enc.ok p) → fl.length + (as.length + 1) * names.length < 10000 →
    ∃ y z, forL (gNm 4) cloB2 (as.map enc) [some (.lst (names.map enc)), S, some (.ref B.length), some (.str t), z4, z5] (B ++ [.lst (fl.map enc)]) = some (.nx [some (.lst (names.map enc)), S, some (.ref B.length), some (.str t), y, z] (B ++ [.lst ((as.foldl (row names t) fl).map enc)])) ∧ ∀ p ∈ as.foldl (row names t) fl, Enc.ok p
  | [], fl, z4, z5, _, h, _ => ⟨z4, z5, rfl, h⟩
  | a :: as, fl, z4, z5, ha, h, hl => by
    simp only [List.length_cons, Nat.succ_mul] at hl
    obtain ⟨z, e, hs⟩ := cloB2_ok (B := B) (S := S) (z5 := z5) ht (ha a List.mem_cons_self) hn h (by omega)
    have h1 := row_len names t fl a
    obtain ⟨y, z', e2, h2⟩ := cloB3_one (S := S) ht hn as (row names t fl a) (some (.str a)) z (fun c hc => ha c (List.mem_cons_of_mem _ hc)) hs (by simp only [Nat.succ_mul]; omega)
    refine ⟨y, z', ?_, h2⟩
    simp only [List.map_cons, forL, gNm, List.set]
    rw [show (enc a : D) = .str a from rfl, e]
    exact e2
theorem cloB3_ok {S z4 z5 : Option D} {t : Str} {names : List Str} {fl : List Pr} (ht : PyData.strOk t = true) (hn : ∀ b ∈ names, PyData.strOk b = true) (h : ∀ p ∈ fl, Enc.ok p) (hl : fl.length + (names.length + 1) * names.length < 10000) :
    ∃ y z, cloB3 [some (.lst (names.map enc)), S, some (.ref B.length), some (.str t), z4, z5] (B ++ [.lst (fl.map enc)]) = some (.nx [some (.lst (names.map enc)), S, some (.ref B.length), some (.str t), y, z] (B ++ [.lst ((third names fl t).map enc)])) ∧ ∀ p ∈ third names fl t, Enc.ok p := by
  obtain ⟨y, z, e, h2⟩ := cloB3_one (B := B) (S := S) ht hn names fl z4 z5 hn h hl
  refine ⟨y, z, ?_, h2⟩
  unfold cloB3
  simp only [sFor, dIt, dVar, List.getElem?_cons_zero, bindR_ok, itemsA, itemsW]
  exact e
theorem cloB4_one {S : Option D} {names : List Str} (hn : ∀ b ∈ names, PyData.strOk b = true) (h6 : names.length ≤ 6) : ∀ (ts : List Str) (fl : List Pr) (z3 z4 z5 : Option D), (∀ b ∈ ts, PyData.strOk b = true) → (∀ p ∈ fl, Enc.ok p) → fl.length + (ts.length + 1) * 42 < 10000 →
    ∃ x y z, forL (gNm 3) cloB3 (ts.map enc) [some (.lst (names.map enc)), S, some (.ref B.length), z3, z4, z5] (B ++ [.lst (fl.map enc)]) = some (.nx [some (.lst (names.map enc)), S, some (.ref B.length), x, y, z] (B ++ [.lst ((ts.foldl (third names) fl).map enc)])) ∧ ∀ p ∈ ts.foldl (third names) fl, Enc.ok p
  | [], fl, z3, z4, z5, _, h, _ => ⟨z3, z4, z5, rfl, h⟩
  | a :: as, fl, z3, z4, z5, ha, h, hl => by
    simp only [List.length_cons, Nat.succ_mul] at hl
    have h42 : (names.length + 1) * names.length ≤ 42 := Nat.mul_le_mul (show names.length + 1 ≤ 7 by omega) h6
    have h36 : names.length * names.length ≤ 36 := Nat.mul_le_mul h6 h6
    obtain ⟨y, z, e, hs⟩ := cloB3_ok (B := B) (S := S) (z4 := z4) (z5 := z5) (ha a List.mem_cons_self) hn h (by omega)
    have h1 := third_len names fl a
    obtain ⟨x, y', z', e2, h2⟩ := cloB4_one (S := S) hn h6 as (third names fl a) (some (.str a)) y z (fun c hc => ha c (List.mem_cons_of_mem _ hc)) hs (by simp only [Nat.succ_mul]; omega)
    refine ⟨x, y', z', ?_, h2⟩
    simp only [List.map_cons, forL, gNm, List.set]
    rw [show (enc a : D) = .str a from rfl, e]
    exact e2
theorem closed_ok {names : List Str} {x : D} {ps : List Pr} (hn : ∀ b ∈ names, PyData.strOk b = true) (h6 : names.length ≤ 6) (hp : ∀ p ∈ ps, p.1 ≠ p.2 ∧ p.1 ∈ names ∧ p.2 ∈ names) (hl : ps.length < 64) (hx : asL B x = some (ps.map enc)) (hc : B.all (Ob.cl B.length) = true) :
    ∃ passes : List Pr, f_l_law_pp_closed [.lst (names.map enc), x] B = some (.ok (.tup (passes.map enc)) B) ∧ PassOk names passes := by
  have hok : ∀ p ∈ ps, Enc.ok p := fun p h => ⟨hn _ (hp p h).2.1, hn _ (hp p h).2.2⟩
  have hsm : ∀ p, p ∈ sortA (once ps) ↔ p ∈ ps := fun p => by rw [(sortA_perm _).mem_iff, once_in]
  have P0 : PrOk names (sortA (once ps)) := ⟨(sortA_perm _).symm.nodup (once_nd _), fun p h => (hp p ((hsm p).mp h)).1, fun p h => (hp p ((hsm p).mp h)).2⟩
  obtain ⟨P1, L1⟩ := clo_ok P0
  have hlen0 : (sortA (once ps)).length < 64 := by rw [(sortA_perm _).length_eq]; exact Nat.lt_of_le_of_lt (once_len _) hl
  have hlen : (clo names (sortA (once ps))).length ≤ 280 := by
    have := clo_len names (sortA (once ps))
    have : names.length * (names.length * names.length) ≤ 6 * 36 := Nat.mul_le_mul h6 (Nat.mul_le_mul h6 h6)
    omega
  have h280 : 280 ≤ sizeLine := by decide
  obtain ⟨u, y, z, e, hok2⟩ := cloB4_one (B := B) (S := some x) hn h6 names (sortA (once ps)) none none none hn (fun p h => hok p ((hsm p).mp h)) (by
    have : (names.length + 1) * 42 ≤ 7 * 42 := Nat.mul_le_mul (by omega) (Nat.le_refl _)
    omega)
  rw [show names.foldl (third names) (sortA (once ps)) = clo names (sortA (once ps)) from rfl] at e hok2
  have es := fSorted_ok (A := .ref B.length) (xs := clo names (sortA (once ps))) (st := B ++ [.lst ((clo names (sortA (once ps))).map enc)]) false (by simp only [asL, get_end]) hok2 (by omega) (by decide) (.inl fun _ => rfl)
  have e0 := sortSet_ok (cell := true) (a := dVar 1) (env := [some (.lst (names.map enc)), some x, none, none, none, none]) (st := B) (st1 := B) (x := x) (ps := ps) rfl hx hok hl
  have sm : ∀ p, p ∈ sortA (clo names (sortA (once ps))) ↔ p ∈ clo names (sortA (once ps)) := fun p => (sortA_perm _).mem_iff
  refine ⟨sortA (clo names (sortA (once ps))), ?_, ⟨?_, h6, hn, fun p h => P1.ne p ((sm p).mp h), fun p h => P1.inn p ((sm p).mp h), zip_tail_of (sortA_sorted _ P1.nd), fun p h t ht h2 hne => ?_⟩⟩
  · unfold f_l_law_pp_closed runF b_l_law_pp_closed
    rw [show (sIf (dAnd (dTruth isBl (dBin opNe (dVar 4) (dVar 5))) (dAnd (dTruth isBl (dBin opIn (dArgs fTup (dCons (dVar 4) (dCons (dVar 3) (dNil)))) (dVar 2))) (dAnd (dTruth isBl (dBin opIn (dArgs fTup (dCons (dVar 3) (dCons (dVar 5) (dNil)))) (dVar 2))) (dTruth isBl (dBin opNotIn (dArgs fTup (dCons (dVar 4) (dCons (dVar 5) (dNil)))) (dVar 2)))))) (sExpr (dMethL mAppend (dVar 2) (dCons (dArgs fTup (dCons (dVar 4) (dCons (dVar 5) (dNil)))) (dNil)))) (sSkip)) = cloB from rfl]
    rw [show (sFor (dIt (dVar 0)) (gNm 4) (sFor (dIt (dVar 0)) (gNm 5) cloB)) = cloB3 from rfl]
    simp only [List.length_cons, List.length_nil, Nat.zero_add, Nat.reduceAdd, if_true, List.map, List.replicate, Nat.reduceSub, List.cons_append, List.nil_append]
    rw [sSeq, sSet, e0]
    simp only [mkL, if_true, bindS_ok, List.set]
    rw [sSeq, sFor]
    simp only [dIt, dVar, List.getElem?_cons_zero, bindR_ok, itemsA, itemsW]
    rw [e]
    simp only [sRet, dArgs, dCons, dNil, dVar, List.getElem?_cons_zero, List.getElem?_cons_succ, bindR_ok, es, mkL, Bool.false_eq_true, if_false, fTuple, asL, ok1, bindS_ok, endF, finK]
    refine fin_cut (by simp) hc ?_
    have hcl : ∀ (n : Nat) (l : List Pr), D.cls n (l.map enc) = true := fun n l => by
      induction l with
      | nil => simp [D.cls]
      | cons p l ih =>
        have h1 : D.cl n (enc p) = true := by
          show D.cl n (.tup [.str p.1, .str p.2]) = true
          simp [D.cl, D.cls]
        simp [D.cls, ih, h1]
    simp only [fz, D.cl, hcl, if_true]
  · rw [(sortA_perm _).length_eq]; omega
  · rw [sm] at h h2 ⊢
    exact L1 p.2 (P1.inn p h).2 p.1 t (Ne.symm hne) h h2
end
end Pd
end
section
set_option Elab.async false
set_option linter.all false
set_option maxRecDepth 100000
namespace Pd
open PySem PySem.Spec L2 LamX
open PyProof.Rows hiding St
open PySem.W (Datum DatumOrd)
open Enc (enc)
/-! ### comprehensions that draw -/
section
variable {ext : Sto}
theorem lc_draws {α β : Type} {dg : DenG} {de : Den} {env : En} (e : α → D) (g : α → β → D) (Q : α → β → Prop) (b T : Nat) : ∀ (xs : List α) (s : DS) (acc : List D),
    (∀ x ∈ xs, ∀ s : DS, s.turn + b ≤ T → ∃ env2 y u, dg (e x) env (s.sto ++ ext) = some (.ok env2 (s.sto ++ ext)) ∧ de env2 (s.sto ++ ext) = some (.ok (g x y) (u.sto ++ ext)) ∧ Q x y ∧ Step b s u) →
    s.turn + b * xs.length ≤ T → acc.length + xs.length ≤ 1000 →
    ∃ (zs : List (α × β)) (u : DS), lcL dg dYes de env (xs.map e) (s.sto ++ ext) acc = some (acc ++ zs.map (fun z => g z.1 z.2), u.sto ++ ext) ∧ zs.map (·.1) = xs ∧ (∀ z ∈ zs, Q z.1 z.2) ∧ Step (b * xs.length) s u
  | [], s, acc, _, _, _ => ⟨[], s, by simp [lcL], rfl, (fun z hz => by cases hz), by simpa using Step.refl⟩
  | x :: xs, s, acc, h, ht, ha => by
    simp only [List.length_cons, Nat.mul_succ] at ht ha
    obtain ⟨env2, y, u, e1, e2, q, st⟩ := h x List.mem_cons_self s (by omega)
    have := st.up
    obtain ⟨zs, v, e3, h1, h2, h3⟩ := lc_draws e g Q b T xs u (acc ++ [g x y]) (fun z hz => h z (List.mem_cons_of_mem _ hz)) (by omega) (by simp only [List.length_append, List.length_cons, List.length_nil]; omega)
    have hs : acc.length < sizeLine := Nat.lt_of_lt_of_le (show acc.length < 1001 by omega) (by decide)
    refine ⟨(x, y) :: zs, v, ?_, by rw [List.map_cons, h1], fun z hz => ?_, (st.trans h3).mono (by simp only [List.length_cons, Nat.mul_succ]; omega)⟩
    · simp only [List.map_cons, lcL, e1, dYes, e2, hs, if_true, e3, List.append_assoc, List.singleton_append]
    · rcases List.mem_cons.mp hz with rfl | hz
      · exact q
      · exact h2 z hz
/-! ### weights -/
theorem eqI (i j : Int) (st : Sto) : opEq (.int i) (.int j) st = some (.ok (.bl (decide (i = j))) st) := rfl
theorem lt200 {r : Nat} (h : r ≤ 1000) : r < 2 ^ 200 := Nat.lt_of_le_of_lt h (Nat.lt_trans (show 1000 < 2 ^ 10 by decide) (Nat.pow_lt_pow_right (by omega) (by omega)))
theorem pick_nat {s : DS} {ns : List Nat} (hn : 0 < ns.length) (hl : ns.length ≤ 1000) (ht : s.turn < 2 ^ 39) : ∃ (n : Nat) (u : DS), f_l_law_pick [.ref 1, .lst (ns.map natD)] (s.sto ++ ext) = some (.ok (natD n) (u.sto ++ ext)) ∧ n ∈ ns ∧ Step 1 s u := by
  obtain ⟨d, u, e, m, st⟩ := pick_ok (s := s) (ext := ext) (ds := ns.map natD) (by simpa using hn) (by simpa using hl) ht
  obtain ⟨n, hn, rfl⟩ := List.mem_map.mp m
  exact ⟨n, u, e, hn, st⟩
theorem weights_ok {env : En} {names : List Str} {s : DS} (h0 : env[0]? = some (some (.ref 1))) (h2 : env[2]? = some (some (.lst (names.map enc)))) (hl : names.length ≤ 6) (ht : s.turn + 20 < 2 ^ 39) :
    ∃ (ws : List Nat) (u : DS), dLc false [5] (dIt (dVar 2)) (gNm 5) dYes (dBin (opAdd false) (dC (.int 1)) (dArgs f_l_law_draw (dCons (dVar 0) (dCons (dArgs f_l_law_pick (dCons (dVar 0) (dCons (dArgs (fLst false) (dCons (dC (.int 1)) (dCons (dC (.int 5)) (dNil)))) (dNil)))) (dNil))))) env (s.sto ++ ext) = some (.ok (.lst (ws.map natD)) (u.sto ++ ext)) ∧
      ws.length = names.length ∧ (∀ w ∈ ws, 1 ≤ w ∧ w ≤ 5) ∧ Step 12 s u := by
  have := lc_draws (ext := ext) (dg := gNm 5) (de := dBin (opAdd false) (dC (.int 1)) (dArgs f_l_law_draw (dCons (dVar 0) (dCons (dArgs f_l_law_pick (dCons (dVar 0) (dCons (dArgs (fLst false) (dCons (dC (.int 1)) (dCons (dC (.int 5)) (dNil)))) (dNil)))) (dNil))))) (env := wipeE env [5]) (enc : Str → D) (fun _ (n : Nat) => natD n) (fun _ n => 1 ≤ n ∧ n ≤ 5) 2 (2 ^ 39 - 2) names s [] (fun w _ s hs => by
    obtain ⟨r, u, e1, m1, s1⟩ := pick_nat (ext := ext) (s := s) (ns := [1, 5]) (by simp) (by simp) (by omega)
    have := s1.up
    have hr : r = 1 ∨ r = 5 := by simpa using m1
    obtain ⟨n, v, e2, l2, s2⟩ := draw_ok (ext := ext) (s := u) r (by omega) (lt200 (by omega)) (by omega)
    refine ⟨(wipeE env [5]).set 5 (some (enc w)), n + 1, v, rfl, ?_, by omega, s1.trans s2⟩
    have h0' : ((wipeE env [5]).set 5 (some (enc w)))[0]? = some (some (.ref 1)) := by simp only [wipeE]; rw [List.getElem?_set_ne (by decide), List.getElem?_set_ne (by decide)]; exact h0
    have e1' : f_l_law_pick [.ref 1, .lst [.int 1, .int 5]] (s.sto ++ ext) = some (.ok (.int (r : Int)) (u.sto ++ ext)) := e1
    have hc : (1 : Int) + (n : Int) = ((n + 1 : Nat) : Int) := by omega
    simp only [dBin, dC, dArgs, dCons, dNil, dVar, h0', bindR_ok, fLst, List.length_cons, List.length_nil, Nat.zero_add, Nat.reduceAdd, two_le, if_true, mkL, Bool.false_eq_true, if_false, e1', e2, add_ii, hc, natD]) (by omega) (by simpa using Nat.le_trans hl (by decide))
  obtain ⟨zs, u, e, h1, h3, h4⟩ := this
  refine ⟨zs.map (·.2), u, ?_, ?_, fun w hw => ?_, h4.mono (by omega)⟩
  · simp only [dLc, dIt, dVar, h2, bindR_ok, itemsA, itemsW, e, List.nil_append, mkL, Bool.false_eq_true, if_false, List.map_map, Function.comp_def]
  · rw [List.length_map, ← List.length_map (f := (·.1)), h1]
  · obtain ⟨z, hz, rfl⟩ := List.mem_map.mp hw
    exact h3 z hz
theorem sum_nat (ws : List Nat) (st : Sto) : fSum [.lst (ws.map natD)] st = some (.ok (.int (ws.sum : Nat)) st) := by
  have h1 : ∀ ws : List Nat, intsD (ws.map natD) = some (ws.map fun n : Nat => (n : Int)) := fun ws => by
    induction ws with
    | nil => rfl
    | cons w ws ih => simp only [List.map_cons, natD, intsD] at ih ⊢; rw [ih]; rfl
  have h2 : ∀ ws : List Nat, (ws.map fun n : Nat => (n : Int)).sum = ((ws.sum : Nat) : Int) := fun ws => by
    induction ws with
    | nil => rfl
    | cons w ws ih => simp only [List.map_cons, List.sum_cons, ih]; omega
  simp only [fSum, asL, h1, h2, ok1]
theorem rows_ok {env : En} {names : List Str} {ws : List Nat} {reach : Nat} {s : DS} (h0 : env[0]? = some (some (.ref 1))) (h2 : env[2]? = some (some (.lst (names.map enc)))) (h3 : env[3]? = some (some (.lst (ws.map natD)))) (h4 : env[4]? = some (some (natD reach))) (h8 : 7 < env.length)
    (hr0 : 0 < reach) (hr : reach ≤ 1000) (hl : names.length ≤ 6) (hw : ws.length = names.length) (h1w : ∀ w ∈ ws, 1 ≤ w ∧ w ≤ 5) (hn0 : 0 < names.length) (ht : s.turn + 40 < 2 ^ 39) :
    ∃ (rows : List (Str × Rat × Rat)) (u : DS), dLc false [5, 7] (dZip (dCons (dVar 2) (dCons (dVar 3) (dNil)))) (gUnp 2 (gsCons (gNm 5) (gsCons (gNm 7) (gsNil)))) dYes (dArgs fTup (dCons (dVar 5) (dCons (dArgs f_l_law_q (dCons (dVar 7) (dCons (dArgs fSum (dCons (dVar 3) (dNil))) (dNil)))) (dCons (dArgs f_l_law_number (dCons (dVar 0) (dCons (dVar 4) (dNil)))) (dNil))))) env (s.sto ++ ext) =
      some (.ok (.lst (rows.map eRow)) (u.sto ++ ext)) ∧ rows.map (·.1) = names ∧ rows.map (·.2.1) = ws.map (fun w : Nat => Rat.divInt w ws.sum) ∧ (∀ r ∈ rows, Bd 21 r.2.2) ∧ Step 24 s u := by
  have hsum : ∀ ws : List Nat, (∀ w ∈ ws, 1 ≤ w ∧ w ≤ 5) → ws.length ≤ ws.sum ∧ ws.sum ≤ ws.length * 5 := fun ws h => by
    induction ws with
    | nil => simp
    | cons w ws ih =>
      have a := h w List.mem_cons_self
      have b := ih fun x hx => h x (List.mem_cons_of_mem _ hx)
      simp only [List.length_cons, List.sum_cons, Nat.succ_mul]
      omega
  have hS := hsum ws h1w
  have hS0 : ((ws.sum : Nat) : Int) ≠ 0 := by omega
  have hSl : ((ws.sum : Nat) : Int).natAbs.log2 < 9000 := by
    have : ws.sum < 2 ^ 10 := by omega
    have := lt_log this
    rw [Int.natAbs_natCast]
    omega
  have := lc_draws (ext := ext) (dg := gUnp 2 (gsCons (gNm 5) (gsCons (gNm 7) (gsNil)))) (de := dArgs fTup (dCons (dVar 5) (dCons (dArgs f_l_law_q (dCons (dVar 7) (dCons (dArgs fSum (dCons (dVar 3) (dNil))) (dNil)))) (dCons (dArgs f_l_law_number (dCons (dVar 0) (dCons (dVar 4) (dNil)))) (dNil))))) (env := wipeE env [5, 7])
    (fun p : Str × Nat => .tup [enc p.1, natD p.2]) (fun p (q : Rat) => eRow (p.1, Rat.divInt p.2 ws.sum, q)) (fun _ q => Bd 21 q) 4 (2 ^ 39 - 2) (names.zip ws) s [] (fun p hp s hs => by
    obtain ⟨q, u, e1, b1, s1⟩ := number_ok (ext := ext) (s := s) reach hr0 (by omega) (by omega)
    have gt : ∀ (i : Nat) (x : Option D), i ≠ 5 → i ≠ 7 → env[i]? = some x → (((wipeE env [5, 7]).set 5 (some (enc p.1))).set 7 (some (natD p.2)))[i]? = some x := fun i x h5 h7 hx => by
      simp only [wipeE]
      rw [List.getElem?_set_ne (Ne.symm h7), List.getElem?_set_ne (Ne.symm h5), List.getElem?_set_ne (Ne.symm h5), List.getElem?_set_ne (Ne.symm h7)]
      exact hx
    have g5 : (((wipeE env [5, 7]).set 5 (some (enc p.1))).set 7 (some (natD p.2)))[5]? = some (some (enc p.1)) := by
      rw [List.getElem?_set_ne (by decide), List.getElem?_set_self]
      simp [wipeE]; omega
    have g7 : (((wipeE env [5, 7]).set 5 (some (enc p.1))).set 7 (some (natD p.2)))[7]? = some (some (natD p.2)) := by
      rw [List.getElem?_set_self]
      simp [wipeE]; omega
    refine ⟨((wipeE env [5, 7]).set 5 (some (enc p.1))).set 7 (some (natD p.2)), q, u, by simp [gUnp, gsCons, gNm, gsNil, bindR_ok], ?_, b1, s1⟩
    have e2 := f_q_ok (n := (p.2 : Int)) (s.sto ++ ext) hS0 hSl
    have e3 := sum_nat ws (s.sto ++ ext)
    simp only [dArgs, dCons, dNil, dVar, gt 0 _ (by decide) (by decide) h0, gt 3 _ (by decide) (by decide) h3, gt 4 _ (by decide) (by decide) h4, g5, g7, bindR_ok, e3]
    rw [show natD p.2 = .int (p.2 : Int) from rfl, e2]
    simp only [bindR_ok]
    rw [show natD reach = .int (reach : Int) from rfl, e1]
    simp only [bindR_ok, fTup, List.length_cons, List.length_nil, Nat.zero_add, Nat.reduceAdd, three_le, if_true, eRow]
    rfl) (by rw [List.length_zip]; omega) (by rw [List.length_zip]; simp; omega)
  obtain ⟨zs, u, e, e1, e2, e3⟩ := this
  have hz1 : zs.map (fun z => z.1.1) = names := by
    have : zs.map (fun z => z.1.1) = (zs.map (·.1)).map (·.1) := by rw [List.map_map]; rfl
    rw [this, e1, List.map_fst_zip (by omega)]
  have hz2 : zs.map (fun z => z.1.2) = ws := by
    have : zs.map (fun z => z.1.2) = (zs.map (·.1)).map (·.2) := by rw [List.map_map]; rfl
    rw [this, e1, List.map_snd_zip (by omega)]
  refine ⟨zs.map fun z => (z.1.1, Rat.divInt z.1.2 ws.sum, z.2), u, ?_, ?_, ?_, fun r hr => ?_, e3.mono (by rw [List.length_zip]; omega)⟩
  · have hzip : dZip (dCons (dVar 2) (dCons (dVar 3) (dNil))) env (s.sto ++ ext) = some (.ok ((names.zip ws).map fun p => .tup [enc p.1, natD p.2]) (s.sto ++ ext)) := by
      simp only [dZip, dCons, dNil, dVar, h2, h3, bindR_ok, itemsV, zipD_map]
    simp only [dLc, hzip, bindR_ok, e, List.nil_append, mkL, Bool.false_eq_true, if_false, List.map_map, Function.comp_def]
  · rw [List.map_map]; exact hz1
  · rw [List.map_map, ← hz2, List.map_map]
    rw [hz2]
    rfl
  · obtain ⟨z, hz, rfl⟩ := List.mem_map.mp hr
    exact e2 z hz
end
end Pd
end
section
set_option Elab.async false
set_option linter.all false
set_option maxRecDepth 100000
namespace Pd
open PySem PySem.Spec L2 LamX
open PyProof.Rows hiding St
open PySem.W (Datum DatumOrd)
open Enc (enc)
/-! ### the drawn passes: a list that is made anew now and then -/
structure Cell (ext e : Sto) (m : Nat) (ps : List Pr) : Prop where
  pre : ∃ more, more ≠ [] ∧ e = ext ++ more ∧ ∀ o ∈ more, ∃ qs : List Pr, o = .lst (qs.map enc)
  lo : 2 + ext.length ≤ m
  at_ : e[m - 2]? = some (.lst (ps.map enc))
theorem Cell.get {ext e : Sto} {m : Nat} {ps : List Pr} (c : Cell ext e m ps) (s : DS) : (s.sto ++ e)[m]? = some (.lst (ps.map enc)) := by
  have h2 : (s.sto).length = 2 := rfl
  have := c.lo
  rw [List.getElem?_append_right (by omega), h2]
  exact c.at_
theorem Cell.set {ext e : Sto} {m : Nat} {ps : List Pr} (c : Cell ext e m ps) (s : DS) (qs : List Pr) : (s.sto ++ e).set m (.lst (qs.map enc)) = s.sto ++ e.set (m - 2) (.lst (qs.map enc)) ∧ Cell ext (e.set (m - 2) (.lst (qs.map enc))) m qs := by
  have h2 : (s.sto).length = 2 := rfl
  have hlo := c.lo
  obtain ⟨more, hne, he, hp⟩ := c.pre
  have hlt : m - 2 < e.length := (List.getElem?_eq_some_iff.mp c.at_).1
  refine ⟨by rw [List.set_append_right _ _ (by omega), h2], ⟨more.set (m - 2 - ext.length) (.lst (qs.map enc)), ?_, ?_, ?_⟩, hlo, ?_⟩
  · intro z
    have := congrArg List.length z
    rw [List.length_set] at this
    exact hne (List.eq_nil_of_length_eq_zero this)
  · rw [he, List.set_append_right _ _ (by omega)]
  · intro o ho
    rcases List.mem_or_eq_of_mem_set ho with z | z
    · exact hp o z
    · exact ⟨qs, z⟩
  · rw [List.getElem?_set_self hlt]
theorem Cell.fresh {ext e : Sto} {m : Nat} {ps : List Pr} (c : Cell ext e m ps) (qs : List Pr) : Cell ext (e ++ [.lst (qs.map enc)]) (2 + e.length) qs := by
  obtain ⟨more, hne, he, hp⟩ := c.pre
  refine ⟨⟨more ++ [.lst (qs.map enc)], by simp, by rw [he, List.append_assoc], fun o ho => (List.mem_append.mp ho).elim (hp o) fun z => ⟨qs, List.mem_singleton.mp z⟩⟩, by rw [he, List.length_append]; omega, ?_⟩
  rw [show 2 + e.length - 2 = e.length by omega]
  simp
noncomputable def pasB : DenS := sIf (dAnd (dTruth isBl (dBin opGt (dVar 9) (dC (.int 0)))) (dTruth isBl (dBin opEq (dArgs f_l_law_draw (dCons (dVar 0) (dCons (dArgs f_l_law_pick (dCons (dVar 0) (dCons (dArgs (fLst false) (dCons (dC (.int 1)) (dCons (dC (.int 2)) (dCons (dC (.int 3)) (dNil))))) (dNil)))) (dNil)))) (dC (.int 0))))) (sSeq (sExpr (dMethL mAppend (dVar 8) (dCons (dArgs fTup (dCons (dVar 12) (dCons (dVar 13) (dNil)))) (dNil)))) (sSet 8 (dBin (opAdd true) (dVar 8) (dIf (dTruth isBl (dBin opEq (dArgs f_l_law_draw (dCons (dVar 0) (dCons (dC (.int 6)) (dNil)))) (dC (.int 0)))) (dArgs (fLst false) (dCons (dArgs fTup (dCons (dVar 13) (dCons (dVar 12) (dNil)))) (dNil))) (dArgs (fLst false) (dNil)))))) (sSkip)
section
variable {ext e : Sto}
theorem pasB_ok {a1 a2 a3 a4 a5 a6 a7 a10 a11 : Option D} {way m : Nat} {one other : Str} {s : DS} {ps : List Pr} (c : Cell ext e m ps) (hl : ps.length < 1000) (ht : s.turn + 3 < 2 ^ 39) :
    ∃ (m' : Nat) (e' : Sto) (qs : List Pr) (u : DS), pasB [some (.ref 1), a1, a2, a3, a4, a5, a6, a7, some (.ref m), some (.int way), a10, a11, some (.str one), some (.str other)] (s.sto ++ e) =
        some (.nx [some (.ref 1), a1, a2, a3, a4, a5, a6, a7, some (.ref m'), some (.int way), a10, a11, some (.str one), some (.str other)] (u.sto ++ e')) ∧
      Cell ext e' m' (ps ++ qs) ∧ qs.length ≤ 2 ∧ (∀ q ∈ qs, q = (one, other) ∨ q = (other, one)) ∧ Step 3 s u := by
  unfold pasB
  by_cases hw : way = 0
  · subst hw
    refine ⟨m, e, [], s, ?_, by rw [List.append_nil]; exact c, by simp, fun q hq => (by cases hq), Step.refl.mono (by omega)⟩
    simp [sIf, dAnd, dTruth, dBin, dVar, dC, bindR_ok, opCmp, ok1, isBl, bindSB_ok, sSkip]
  · have hw' : (0 : Int) < (way : Int) := by omega
    obtain ⟨r, s1, e1, m1, t1⟩ := pick_nat (ext := e) (s := s) (ns := [1, 2, 3]) (by simp) (by simp) (by omega)
    have := t1.up
    have hr : r = 1 ∨ r = 2 ∨ r = 3 := by simpa using m1
    obtain ⟨n, s2, e2, l2, t2⟩ := draw_ok (ext := e) (s := s1) r (by omega) (lt200 (by omega)) (by omega)
    have := t2.up
    have e1' : f_l_law_pick [.ref 1, .lst [.int 1, .int 2, .int 3]] (s.sto ++ e) = some (.ok (.int (r : Int)) (s1.sto ++ e)) := e1
    by_cases hn : n = 0
    · subst hn
      obtain ⟨q1, c1⟩ := c.set s2 (ps ++ [(one, other)])
      obtain ⟨k, s3, e3, l3, t3⟩ := draw_ok (ext := e.set (m - 2) (.lst ((ps ++ [(one, other)]).map enc))) (s := s2) 6 (by omega) (lt200 (by omega)) (by omega)
      have e3' : f_l_law_draw [.ref 1, .int 6] (s2.sto ++ e.set (m - 2) (.lst ((ps ++ [(one, other)]).map enc))) = some (.ok (.int (k : Int)) (s3.sto ++ e.set (m - 2) (.lst ((ps ++ [(one, other)]).map enc)))) := e3
      have hs : ps.length < sizeLine := Nat.lt_of_lt_of_le (show ps.length < 1001 by omega) (by decide)
      have hs2 : ps.length + 2 ≤ sizeLine := Nat.le_trans (show ps.length + 2 ≤ 1002 by omega) (by decide)
      have hap : mAppend (.ref m) [.tup [.str one, .str other]] (s2.sto ++ e) = some (.ok .non (s2.sto ++ e.set (m - 2) (.lst ((ps ++ [(one, other)]).map enc)))) := by
        have : (ps.map enc ++ [D.tup [.str one, .str other]]) = (ps ++ [(one, other)]).map (enc : Pr → D) := by rw [List.map_append]; rfl
        simp only [mAppend, cellL, c.get s2, List.length_map, hs, if_true, this, q1]
      have hL : isL (.ref m) (s2.sto ++ e) = true := by simp only [isL, asM, c.get s2, Option.isSome_some]
      have hM : asM (s3.sto ++ e.set (m - 2) (.lst ((ps ++ [(one, other)]).map enc))) (.ref m) = some ((ps ++ [(one, other)]).map enc) := by simp only [asM, c1.get s3]
      have hlen : (s3.sto ++ e.set (m - 2) (.lst ((ps ++ [(one, other)]).map enc))).length = 2 + (e.set (m - 2) (.lst ((ps ++ [(one, other)]).map enc))).length := by rw [List.length_append]; rfl
      by_cases hk : k = 0
      · subst hk
        have hadd : opAdd true (.ref m) (.lst [.tup [.str other, .str one]]) (s3.sto ++ e.set (m - 2) (.lst ((ps ++ [(one, other)]).map enc))) = some (.ok (.ref (2 + (e.set (m - 2) (.lst ((ps ++ [(one, other)]).map enc))).length)) (s3.sto ++ (e.set (m - 2) (.lst ((ps ++ [(one, other)]).map enc)) ++ [.lst ((ps ++ [(one, other), (other, one)]).map enc)]))) := by
          have h1 : ((ps ++ [(one, other)]).map (enc : Pr → D)) ++ [D.tup [.str other, .str one]] = (ps ++ [(one, other), (other, one)]).map enc := by simp only [List.map_append, List.append_assoc]; rfl
          have h2 : ((ps ++ [(one, other)]).map (enc : Pr → D)).length + [D.tup [.str other, .str one]].length ≤ sizeLine := by simp; omega
          simp only [opAdd, hM, show asM (s3.sto ++ e.set (m - 2) (.lst ((ps ++ [(one, other)]).map enc))) (.lst [.tup [.str other, .str one]]) = some [.tup [.str other, .str one]] from rfl, h2, if_true, mkL, h1, hlen, List.append_assoc]
        refine ⟨_, _, [(one, other), (other, one)], s3, ?_, c1.fresh _, by simp, fun q hq => by simpa using hq, ((t1.trans t2).trans t3).mono (by omega)⟩
        simp only [sIf, dAnd, dTruth, dBin, dVar, dC, List.getElem?_cons_zero, List.getElem?_cons_succ, bindR_ok, opCmp, hw', decide_true, ok1, isBl, bindSB_ok, if_true, dArgs, dCons, dNil, fLst, List.length_cons, List.length_nil, Nat.zero_add, Nat.reduceAdd, three_le, mkL, Bool.false_eq_true, if_false, e1', e2, eqI, Int.natCast_zero, sSeq, sExpr, dMethL, hL, fTup, two_le, hap, bindS_ok, sSet, dIf, e3', one_le0, hadd, List.set]
      · have hk' : ¬ ((k : Int) = 0) := by omega
        have hadd : opAdd true (.ref m) (.lst []) (s3.sto ++ e.set (m - 2) (.lst ((ps ++ [(one, other)]).map enc))) = some (.ok (.ref (2 + (e.set (m - 2) (.lst ((ps ++ [(one, other)]).map enc))).length)) (s3.sto ++ (e.set (m - 2) (.lst ((ps ++ [(one, other)]).map enc)) ++ [.lst ((ps ++ [(one, other)]).map enc)]))) := by
          have h2 : ((ps ++ [(one, other)]).map (enc : Pr → D)).length + ([] : List D).length ≤ sizeLine := by simp; omega
          simp only [opAdd, hM, show asM (s3.sto ++ e.set (m - 2) (.lst ((ps ++ [(one, other)]).map enc))) (.lst []) = some [] from rfl, h2, if_true, mkL, hlen, List.append_assoc, List.append_nil]
        refine ⟨_, _, [(one, other)], s3, ?_, c1.fresh _, by simp, fun q hq => by simp at hq; exact .inl hq, ((t1.trans t2).trans t3).mono (by omega)⟩
        simp only [sIf, dAnd, dTruth, dBin, dVar, dC, List.getElem?_cons_zero, List.getElem?_cons_succ, bindR_ok, opCmp, hw', decide_true, ok1, isBl, bindSB_ok, if_true, dArgs, dCons, dNil, fLst, List.length_cons, List.length_nil, Nat.zero_add, Nat.reduceAdd, three_le, mkL, Bool.false_eq_true, if_false, e1', e2, eqI, Int.natCast_zero, sSeq, sExpr, dMethL, hL, fTup, two_le, hap, bindS_ok, sSet, dIf, e3', one_le0, hadd, List.set, hk', decide_false, Nat.zero_le]
    · have hn' : ¬ ((n : Int) = 0) := by omega
      refine ⟨m, e, [], s2, ?_, by rw [List.append_nil]; exact c, by simp, fun q hq => (by cases hq), (t1.trans t2).mono (by omega)⟩
      simp only [sIf, dAnd, dTruth, dBin, dVar, dC, List.getElem?_cons_zero, List.getElem?_cons_succ, bindR_ok, opCmp, hw', decide_true, ok1, isBl, bindSB_ok, if_true, dArgs, dCons, dNil, fLst, List.length_cons, List.length_nil, Nat.zero_add, Nat.reduceAdd, three_le, mkL, Bool.false_eq_true, if_false, e1', e2, eqI, hn', decide_false, sSkip]
theorem pas_inner {a1 a2 a3 a4 a5 a6 a7 a10 a11 : Option D} {way : Nat} {one : Str} : ∀ (os : List Str) (s : DS) (e : Sto) (m : Nat) (ps : List Pr) (z : Option D), Cell ext e m ps → ps.length + 2 * os.length < 1000 → s.turn + 3 * os.length + 3 < 2 ^ 39 →
    ∃ (m' : Nat) (e' : Sto) (qs : List Pr) (u : DS) (z' : Option D), forL (gNm 13) pasB (os.map enc) [some (.ref 1), a1, a2, a3, a4, a5, a6, a7, some (.ref m), some (.int way), a10, a11, some (.str one), z] (s.sto ++ e) =
        some (.nx [some (.ref 1), a1, a2, a3, a4, a5, a6, a7, some (.ref m'), some (.int way), a10, a11, some (.str one), z'] (u.sto ++ e')) ∧
      Cell ext e' m' (ps ++ qs) ∧ qs.length ≤ 2 * os.length ∧ (∀ q ∈ qs, ∃ o ∈ os, q = (one, o) ∨ q = (o, one)) ∧ Step (3 * os.length) s u
  | [], s, e, m, ps, z, c, _, _ => ⟨m, e, [], s, z, rfl, by rw [List.append_nil]; exact c, by simp, fun q hq => (by cases hq), Step.refl⟩
  | o :: os, s, e, m, ps, z, c, hl, ht => by
    simp only [List.length_cons] at hl ht
    obtain ⟨m1, e1, q1, u1, h1, c1, l1, i1, t1⟩ := pasB_ok (a1 := a1) (a2 := a2) (a3 := a3) (a4 := a4) (a5 := a5) (a6 := a6) (a7 := a7) (a10 := a10) (a11 := a11) (way := way) (one := one) (other := o) (s := s) c (by omega) (by omega)
    have := t1.up
    obtain ⟨m2, e2, q2, u2, z2, h2, c2, l2, i2, t2⟩ := pas_inner os u1 e1 m1 (ps ++ q1) (some (.str o)) c1 (by rw [List.length_append]; omega) (by omega)
    refine ⟨m2, e2, q1 ++ q2, u2, z2, ?_, by rw [← List.append_assoc]; exact c2, by simp only [List.length_append, List.length_cons]; omega, fun q hq => ?_, (t1.trans t2).mono (by simp only [List.length_cons]; omega)⟩
    · simp only [List.map_cons, forL, gNm, List.set]
      rw [show (enc o : D) = .str o from rfl, h1]
      exact h2
    · rcases List.mem_append.mp hq with z | z
      · exact ⟨o, List.mem_cons_self, i1 q z⟩
      · obtain ⟨o', ho, h⟩ := i2 q z
        exact ⟨o', List.mem_cons_of_mem _ ho, h⟩
noncomputable def pasB2 : DenS := sFor (dIt (dSlice (opSl false) (dVar 10) (dPart (dBin (opAdd false) (dVar 11) (dC (.int 1)))) dNoPart)) (gNm 13) pasB
theorem cutD_from (xs : List D) (n : Nat) : cutD xs (some (n : Int)) none = xs.drop n := by
  unfold cutD
  rw [HT.sIx_nat, HT.sIx_none]
  rw [List.take_of_length_le (by rw [List.length_drop]; omega)]
  by_cases h : n ≤ xs.length
  · rw [Nat.min_eq_left h]
  · rw [Nat.min_eq_right (by omega), List.drop_eq_nil_of_le (Nat.le_refl _), List.drop_eq_nil_of_le (by omega)]
theorem pas_outer {a1 a2 a3 a4 a5 a6 a7 : Option D} {way : Nat} {order : List Str} (h6 : order.length ≤ 6) : ∀ (os : List Str) (at_ : Nat) (s : DS) (e : Sto) (m : Nat) (ps : List Pr) (z11 z12 z13 : Option D), order.drop at_ = os → Cell ext e m ps → ps.length + 10 * os.length < 1000 → s.turn + 20 * os.length + 20 < 2 ^ 39 →
    ∃ (m' : Nat) (e' : Sto) (qs : List Pr) (u : DS) (y11 y12 y13 : Option D), forL (gUnp 2 (gsCons (gNm 11) (gsCons (gNm 12) (gsNil)))) pasB2 (enumD at_ (os.map enc)) [some (.ref 1), a1, a2, a3, a4, a5, a6, a7, some (.ref m), some (.int way), some (.lst (order.map enc)), z11, z12, z13] (s.sto ++ e) =
        some (.nx [some (.ref 1), a1, a2, a3, a4, a5, a6, a7, some (.ref m'), some (.int way), some (.lst (order.map enc)), y11, y12, y13] (u.sto ++ e')) ∧
      Cell ext e' m' (ps ++ qs) ∧ qs.length ≤ 10 * os.length ∧ (order.Nodup → ∀ q ∈ qs, q.1 ≠ q.2 ∧ q.1 ∈ order ∧ q.2 ∈ order) ∧ Step (20 * os.length) s u
  | [], at_, s, e, m, ps, z11, z12, z13, _, c, _, _ => ⟨m, e, [], s, z11, z12, z13, rfl, by rw [List.append_nil]; exact c, by simp, fun _ q hq => (by cases hq), Step.refl⟩
  | o :: os, at_, s, e, m, ps, z11, z12, z13, ho, c, hl, ht => by
    simp only [List.length_cons] at hl ht
    have hos : order.drop (at_ + 1) = os := by rw [← List.drop_drop, ho]; rfl
    have hol : os.length ≤ 5 := by
      have h := congrArg List.length ho
      rw [List.length_drop, List.length_cons] at h
      omega
    obtain ⟨m1, e1, q1, u1, z1, h1, c1, l1, i1, t1⟩ := pas_inner (a1 := a1) (a2 := a2) (a3 := a3) (a4 := a4) (a5 := a5) (a6 := a6) (a7 := a7) (a10 := some (.lst (order.map enc))) (a11 := some (.int at_)) (way := way) (one := o) os s e m ps z13 c (by omega) (by omega)
    have := t1.up
    obtain ⟨m2, e2, q2, u2, y11, y12, y13, h2, c2, l2, i2, t2⟩ := pas_outer h6 os (at_ + 1) u1 e1 m1 (ps ++ q1) (some (.int at_)) (some (.str o)) z1 hos c1 (by rw [List.length_append]; omega) (by omega)
    refine ⟨m2, e2, q1 ++ q2, u2, y11, y12, y13, ?_, by rw [← List.append_assoc]; exact c2, by simp only [List.length_append, List.length_cons]; omega, fun hn q hq => ?_, (t1.trans t2).mono (by simp only [List.length_cons]; omega)⟩
    · have hc : ((at_ : Int) + 1) = ((at_ + 1 : Nat) : Int) := by omega
      simp only [List.map_cons, enumD, forL, gUnp, gsCons, gNm, gsNil, List.length_cons, List.length_nil, Nat.zero_add, Nat.reduceAdd, if_true, bindR_ok, List.set]
      have hb : pasB2 [some (.ref 1), a1, a2, a3, a4, a5, a6, a7, some (.ref m), some (.int way), some (.lst (order.map enc)), some (.int (at_ : Int)), some (.str o), z13] (s.sto ++ e) = some (.nx [some (.ref 1), a1, a2, a3, a4, a5, a6, a7, some (.ref m1), some (.int way), some (.lst (order.map enc)), some (.int at_), some (.str o), z1] (u1.sto ++ e1)) := by
        unfold pasB2
        simp only [sFor, dIt, dSlice, dVar, dPart, dNoPart, dBin, dC, List.getElem?_cons_zero, List.getElem?_cons_succ, bindR_ok, add_ii, hc, opSl, asL, cutD_from, mkL, Bool.false_eq_true, if_false, itemsA, itemsW]
        rw [← List.map_drop, hos]
        exact h1
      rw [show (enc o : D) = .str o from rfl, hb]
      exact h2
    · rcases List.mem_append.mp hq with z | z
      · obtain ⟨o', ho', h⟩ := i1 q z
        have m1 : o ∈ order := by
          have : o ∈ order.drop at_ := by rw [ho]; exact List.mem_cons_self
          exact List.mem_of_mem_drop this
        have m2 : o' ∈ order := by
          have : o' ∈ order.drop at_ := by rw [ho]; exact List.mem_cons_of_mem _ ho'
          exact List.mem_of_mem_drop this
        have hne : o ≠ o' := by
          have hd : (order.drop at_).Nodup := hn.sublist (List.drop_sublist _ _)
          rw [ho, List.nodup_cons] at hd
          exact fun z => hd.1 (z ▸ ho')
        rcases h with rfl | rfl
        · exact ⟨hne, m1, m2⟩
        · exact ⟨Ne.symm hne, m2, m1⟩
      · exact i2 hn q z
end
end Pd
end
section
set_option Elab.async false
set_option linter.all false
set_option maxRecDepth 100000
namespace Pd
open PySem PySem.Spec L2 LamX
open PyProof.Rows hiding St
open PySem.W (Datum DatumOrd)
open Enc (enc)
/-! ### drawn holders -/
noncomputable def wgtD : Den := dLc false [5] (dIt (dVar 2)) (gNm 5) dYes (dBin (opAdd false) (dC (.int 1)) (dArgs f_l_law_draw (dCons (dVar 0) (dCons (dArgs f_l_law_pick (dCons (dVar 0) (dCons (dArgs (fLst false) (dCons (dC (.int 1)) (dCons (dC (.int 5)) (dNil)))) (dNil)))) (dNil)))))
noncomputable def rowD : Den := dLc false [5, 7] (dZip (dCons (dVar 2) (dCons (dVar 3) (dNil)))) (gUnp 2 (gsCons (gNm 5) (gsCons (gNm 7) (gsNil)))) dYes (dArgs fTup (dCons (dVar 5) (dCons (dArgs f_l_law_q (dCons (dVar 7) (dCons (dArgs fSum (dCons (dVar 3) (dNil))) (dNil)))) (dCons (dArgs f_l_law_number (dCons (dVar 0) (dCons (dVar 4) (dNil)))) (dNil)))))
theorem hol_eq : b_l_law_pp_holders = sSeq (sSet 2 (dArgs f_l_law_words (dCons (dVar 0) (dCons (dBin (opAdd false) (dC (.int 2)) (dArgs f_l_law_draw (dCons (dVar 0) (dCons (dBin opSub (dVar 1) (dC (.int 1))) (dNil))))) (dNil))))) (sSeq (sAsg (dArgs fTup (dCons wgtD (dCons (dArgs f_l_law_pick (dCons (dVar 0) (dCons (dArgs (fLst false) (dCons (dC (.int 2)) (dCons (dC (.int 5)) (dCons (dC (.int 30)) (dNil))))) (dNil)))) (dNil)))) (gUnp 2 (gsCons (gNm 3) (gsCons (gNm 4) (gsNil))))) (sSeq (sSet 6 (dArgs fTuple (dCons rowD (dNil)))) (sSeq (sPar 8 9 (dCons (dArgs (fLst true) (dNil)) (dCons (dArgs f_l_law_draw (dCons (dVar 0) (dCons (dC (.int 5)) (dNil)))) (dNil)))) (sSeq (sSet 10 (dArgs f_l_law_shuffled (dCons (dVar 0) (dCons (dVar 2) (dNil))))) (sSeq (sFor (dEnum (dCons (dVar 10) (dNil))) (gUnp 2 (gsCons (gNm 11) (gsCons (gNm 12) (gsNil)))) pasB2) (sRet (dArgs fTup (dCons (dC (.str "holders")) (dCons (dVar 6) (dCons (dArgs f_l_law_pp_closed (dCons (dVar 2) (dCons (dVar 8) (dNil)))) (dNil))))))))))) := rfl

theorem sum_div (S : Int) (hS : S ≠ 0) : ∀ (ws : List Nat) (a : Int), (ws.map fun w : Nat => Rat.divInt w S).foldl (· + ·) (Rat.divInt a S) = Rat.divInt (a + (ws.sum : Nat)) S
  | [], a => by simp
  | w :: ws, a => by
    have h : Rat.divInt a S + Rat.divInt w S = Rat.divInt (a + w) S := by
      rw [Rat.divInt_eq_div, Rat.divInt_eq_div, Rat.divInt_eq_div, Rat.div_def, Rat.div_def, Rat.div_def, ← Rat.add_mul, Rat.intCast_add]
    rw [List.map_cons, List.foldl_cons, h, sum_div S hS ws (a + w), List.sum_cons]
    congr 1
    omega
theorem sum_one {ws : List Nat} (h : 0 < ws.sum) : sumR (ws.map fun w : Nat => Rat.divInt w (ws.sum : Nat)) = 1 := by
  have hS : ((ws.sum : Nat) : Int) ≠ 0 := by omega
  have := sum_div (ws.sum : Nat) hS ws 0
  rw [Rat.zero_divInt] at this
  unfold sumR
  rw [this, Int.zero_add, Rat.divInt_self' hS]
theorem mem_le_sum : ∀ (ws : List Nat), ∀ w ∈ ws, w ≤ ws.sum
  | [], _, h => by cases h
  | x :: ws, w, h => by
    rw [List.sum_cons]
    rcases List.mem_cons.mp h with rfl | h
    · omega
    · have := mem_le_sum ws w h
      omega
theorem divInt_pos' {w S : Nat} (hw : 0 < w) (hS : 0 < S) : (0 : Rat) < Rat.divInt w S := by
  have key : (0 : Int) < (Rat.divInt w S).num := by
    rw [divInt_num (by omega), if_pos (by omega)]
    have hg : ((w : Int).gcd S : Nat) ≠ 0 := fun z => by have := (Int.gcd_eq_zero_iff.mp z).2; omega
    have h1 : (((w : Int).gcd S : Nat) : Int) ∣ (w : Int) := Int.gcd_dvd_left _ _
    rw [Int.fdiv_eq_ediv_of_dvd h1]
    exact Int.ediv_pos_of_pos_of_dvd (by omega) (by omega) h1
  exact (Rat.lt_iff _ _).mpr (by simpa using key)
theorem zip_tail' {α : Type} {R : α → α → Prop} : ∀ {l : List α}, l.Pairwise R → ∀ p ∈ l.zip l.tail, R p.1 p.2
  | [], _, p, hp => by simp at hp
  | [x], _, p, hp => by simp at hp
  | x :: y :: l, h, p, hp => by
    rw [List.pairwise_cons] at h
    simp only [List.tail_cons, List.zip_cons_cons, List.mem_cons] at hp
    rcases hp with rfl | hp
    · exact h.1 y List.mem_cons_self
    · exact zip_tail' h.2 p hp
theorem divInt_le_one {w S : Nat} (hw : w ≤ S) (hS : 0 < S) : Rat.divInt w S ≤ 1 := by
  have hne : (S : Int) ≠ 0 := by omega
  rw [Rat.le_iff, divInt_num hne, divInt_den hne, if_pos (by omega)]
  have h1 : (((w : Int).gcd S : Nat) : Int) ∣ (w : Int) := Int.gcd_dvd_left _ _
  have h2 : (((w : Int).gcd S : Nat) : Int) ∣ (S : Int) := Int.gcd_dvd_right _ _
  rw [Int.fdiv_eq_ediv_of_dvd h1, Int.fdiv_eq_ediv_of_dvd h2]
  have h3 : (w : Int) / (((w : Int).gcd S : Nat) : Int) ≤ (S : Int) / (((w : Int).gcd S : Nat) : Int) := Int.ediv_le_ediv (by
    have hg : ((w : Int).gcd S : Nat) ≠ 0 := fun z => by have := (Int.gcd_eq_zero_iff.mp z).2; omega
    omega) (by omega)
  have e1 : (1 : Rat).num = 1 := rfl
  have e2 : ((1 : Rat).den : Int) = 1 := rfl
  rw [e1, e2]
  omega
section
variable {ext : Sto}
theorem cls_pr (n : Nat) (l : List Pr) : D.cls n (l.map enc) = true := by
  induction l with
  | nil => simp [D.cls]
  | cons p l ih =>
    have h1 : D.cl n (enc p) = true := by
      show D.cl n (.tup [.str p.1, .str p.2]) = true
      simp [D.cl, D.cls]
    simp [D.cls, ih, h1]
mutual
theorem cl_mono {n m : Nat} (h : n ≤ m) : ∀ d : D, D.cl n d = true → D.cl m d = true
  | .non, h => by simp [D.cl]
  | .bl _, h => by simp [D.cl]
  | .int _, h => by simp [D.cl]
  | .str _, h => by simp [D.cl]
  | .tup ds, c => by unfold D.cl at c ⊢; exact cls_mono h ds c
  | .lst ds, c => by unfold D.cl at c ⊢; exact cls_mono h ds c
  | .scr ds, c => by unfold D.cl at c ⊢; exact cls_mono h ds c
  | .dct ks ds, c => by unfold D.cl at c ⊢; exact cls_mono h ds c
  | .ref k, c => by
    unfold D.cl at c ⊢
    simp at c ⊢
    omega
  | .fn _, c => by unfold D.cl at c ⊢; exact c
  | .exc _, c => by unfold D.cl at c ⊢; exact c
theorem cls_mono {n m : Nat} (h : n ≤ m) : ∀ ds : List D, D.cls n ds = true → D.cls m ds = true
  | [], _ => by simp [D.cls]
  | d :: ds, c => by
    unfold D.cls at c ⊢
    rw [Bool.and_eq_true] at c ⊢
    exact ⟨cl_mono h d c.1, cls_mono h ds c.2⟩
end
theorem ob_mono {n m : Nat} (h : n ≤ m) (o : Ob) (c : Ob.cl n o = true) : Ob.cl m o = true := by
  cases o with
  | lst ds => exact cls_mono h ds c
  | dct ks ds => exact cls_mono h ds c
theorem Cell.clE {e : Sto} {m : Nat} {ps : List Pr} (c : Cell ext e m ps) (h : ClE ext) : ClE e := by
  obtain ⟨more, _, he, hp⟩ := c.pre
  intro o ho
  rw [he] at ho
  rcases List.mem_append.mp ho with z | z
  · exact ob_mono (by rw [he, List.length_append]; omega) o (h o z)
  · obtain ⟨qs, rfl⟩ := hp o z
    exact cls_pr _ qs
theorem cls_rows (n : Nat) : ∀ l : List (Str × Rat × Rat), D.cls n (l.map eRow) = true
  | [] => by simp [D.cls]
  | r :: l => by
    have h1 : D.cl n (eRow r) = true := by simp [eRow, eR, D.cl, D.cls]
    simp [D.cls, h1, cls_rows n l]
theorem cl_eH (n : Nat) (h : Hs) : D.cl n (eH h) = true := by
  unfold eH
  simp [D.cl, D.cls, cls_rows, cls_pr]
theorem holders_ok {many : Nat} {s : DS} (h2 : 2 ≤ many) (h6 : many ≤ 6) (hc : s.cells.length < 64) (ht : s.turn + 7 * 2 ^ 31 < 2 ^ 39) (hcl : ClE ext) :
    ∃ (h : Hs) (u : DS), f_l_law_pp_holders [.ref 1, .int many] (s.sto ++ ext) = some (.ok (eH h) (u.sto ++ ext)) ∧ h.Ok 21 ∧ Step (7 * 2 ^ 31) s u := by
  obtain ⟨k, s1, e1, l1, t1⟩ := draw_ok (ext := ext) (s := s) (many - 1) (by omega) (lt200 (by omega)) (by omega)
  have u1 := t1.up
  obtain ⟨names, s2, e2, n2, w2, p2, t2⟩ := words_ok (ext := ext) (many := 2 + k) (s := s1) (by omega) (by rw [t1.cells]; exact hc) (by omega)
  have u2 := t2.up
  have hnl : names.length ≤ 6 := by omega
  have hnok : ∀ b ∈ names, PyData.strOk b = true := fun b hb => (w2 b hb).ok
  have hnd : names.Nodup := p2.imp fun {a b} hab z => by subst z; rw [LinO.irr] at hab; cases hab
  let E0 : En := [some (.ref 1), some (.int many), some (.lst (names.map enc)), none, none, none, none, none, none, none, none, none, none, none]
  obtain ⟨ws, s3, e3, wl, wb, t3⟩ := weights_ok (ext := ext) (env := E0) (names := names) (s := s2) rfl rfl hnl (by omega)
  have u3 := t3.up
  obtain ⟨reach, s4, e4, m4, t4⟩ := pick_nat (ext := ext) (s := s3) (ns := [2, 5, 30]) (by simp) (by simp) (by omega)
  have u4 := t4.up
  have hreach : reach = 2 ∨ reach = 5 ∨ reach = 30 := by simpa using m4
  let E1 : En := [some (.ref 1), some (.int many), some (.lst (names.map enc)), some (.lst (ws.map natD)), some (natD reach), none, none, none, none, none, none, none, none, none]
  obtain ⟨rows, s5, e5, r1, r2, r3, t5⟩ := rows_ok (ext := ext) (env := E1) (names := names) (ws := ws) (reach := reach) (s := s4) rfl rfl rfl rfl (by simp [E1]) (by omega) (by omega) hnl wl wb (by omega) (by omega)
  have u5 := t5.up
  obtain ⟨way, s6, e6, l6, t6⟩ := draw_ok (ext := ext ++ [.lst []]) (s := s5) 5 (by omega) (lt200 (by omega)) (by omega)
  have u6 := t6.up
  have hcl1 : ClE (ext ++ [.lst []]) := fun o ho => by
    rcases List.mem_append.mp ho with z | z
    · exact ob_mono (by simp) o (hcl o z)
    · rw [List.mem_singleton.mp z]; simp [Ob.cl, D.cls]
  obtain ⟨order, s7, e7, pm, t7⟩ := shuffled_ok (α := Str) (ext := ext ++ [.lst []]) (s := s6) (xs := names) (by decide) hnok (by omega) (by omega) hcl1 (fun x _ => by show D.cl _ (.str x) = true; simp [D.cl])
  have u7 := t7.up
  have hol : order.length ≤ 6 := by rw [pm.length_eq]; exact hnl
  have c0 : Cell ext (ext ++ [.lst []]) (2 + ext.length) [] := ⟨⟨[.lst []], by simp, rfl, fun o ho => ⟨[], List.mem_singleton.mp ho⟩⟩, Nat.le_refl _, by rw [show 2 + ext.length - 2 = ext.length by omega]; simp⟩
  obtain ⟨m, e, qs, s8, y11, y12, y13, e8, c8, ql, qin, t8⟩ := pas_outer (a1 := some (.int many)) (a2 := some (.lst (names.map enc))) (a3 := some (.lst (ws.map natD))) (a4 := some (natD reach)) (a5 := none) (a6 := some (.tup (rows.map eRow))) (a7 := none) (way := way) hol order 0 s7 (ext ++ [.lst []]) (2 + ext.length) [] none none none rfl c0 (by simp; omega) (by omega)
  have u8 := t8.up
  rw [List.nil_append] at c8
  have hx : asL (s8.sto ++ e) (.ref m) = some (qs.map enc) := by simp only [asL, c8.get s8]
  obtain ⟨passes, e9, hp⟩ := closed_ok (B := s8.sto ++ e) (names := names) (x := .ref m) (ps := qs) hnok hnl (fun q hq => by
    have hon : order.Nodup := pm.symm.nodup hnd
    obtain ⟨a, b, c⟩ := qin hon q hq
    exact ⟨a, pm.mem_iff.mp b, pm.mem_iff.mp c⟩) (by omega) hx (cl_sto (c8.clE hcl))
  obtain ⟨more, hne, hem, _⟩ := c8.pre
  let h : Hs := ⟨rows, passes⟩
  have hn : h.names = names := r1
  have hrl : rows.length = names.length := by rw [← r1, List.length_map]
  have hsum : 0 < ws.sum := by
    cases hws : ws with
    | nil => rw [hws] at wl; simp at wl; omega
    | cons w ws' => have := wb w (by rw [hws]; exact List.mem_cons_self); rw [List.sum_cons]; omega
  have hr2 : ∀ r ∈ rows, ∃ w ∈ ws, r.2.1 = Rat.divInt w (ws.sum : Nat) := fun r hr => by
    have : r.2.1 ∈ rows.map (·.2.1) := List.mem_map.mpr ⟨r, hr, rfl⟩
    rw [r2] at this
    obtain ⟨w, hw, e⟩ := List.mem_map.mp this
    exact ⟨w, hw, e.symm⟩
  have hw30 : ws.sum ≤ 30 := by
    have : ∀ ws : List Nat, (∀ w ∈ ws, 1 ≤ w ∧ w ≤ 5) → ws.sum ≤ ws.length * 5 := fun ws h => by
      induction ws with
      | nil => simp
      | cons w ws ih =>
        have a := h w List.mem_cons_self
        have b := ih fun x hx => h x (List.mem_cons_of_mem _ hx)
        simp only [List.length_cons, List.sum_cons, Nat.succ_mul]
        omega
    have := this ws wb
    omega
  have hOk : h.Ok 21 := by
    refine ⟨⟨by show 2 ≤ rows.length; omega, by show rows.length ≤ 6; omega, fun r hr => ?_, fun r hr => ?_, by omega, ?_, ?_⟩, hn ▸ hp, r3⟩
    · obtain ⟨w, hw, e⟩ := hr2 r hr
      have hw1 := wb w hw
      refine ⟨w2 r.1 (by rw [← r1]; exact List.mem_map.mpr ⟨r, hr, rfl⟩), ?_, ?_⟩
      · rw [e]; exact divInt_pos' (by omega) hsum
      · rw [e]; exact divInt_le_one (mem_le_sum ws w hw) hsum
    · obtain ⟨w, hw, e⟩ := hr2 r hr
      have hw1 := wb w hw
      rw [e]
      have p21 : 32 ≤ 2 ^ 21 := by decide
      exact bd_divInt (by omega) (by rw [Int.natAbs_natCast]; omega) (by rw [Int.natAbs_natCast]; omega)
    · show sumR (rows.map (·.2.1)) = 1
      rw [r2]
      exact sum_one hsum
    · intro p hp
      have hpw : rows.Pairwise fun a b => DatumOrd.lt a.1 b.1 = true := by
        rw [← r1, List.pairwise_map] at p2
        exact p2
      exact of_decide_eq_true (zip_tail' hpw p hp)
  refine ⟨h, s8, ?_, hOk, ?_⟩
  · have z : ∀ (a b : Sto) (s : DS), s.sto ++ a ++ b = s.sto ++ (a ++ b) := fun a b s => List.append_assoc _ _ _
    have e1' : f_l_law_draw [.ref 1, .int ((many : Int) - 1)] (s.sto ++ ext) = some (.ok (.int (k : Int)) (s1.sto ++ ext)) := by
      rw [show ((many : Int) - 1) = ((many - 1 : Nat) : Int) by omega]
      exact e1
    have hck : (2 : Int) + (k : Int) = ((2 + k : Nat) : Int) := by omega
    have e4' : f_l_law_pick [.ref 1, .lst [.int 2, .int 5, .int 30]] (s3.sto ++ ext) = some (.ok (natD reach) (s4.sto ++ ext)) := e4
    have e6' : f_l_law_draw [.ref 1, .int 5] (s5.sto ++ (ext ++ [.lst []])) = some (.ok (.int (way : Int)) (s6.sto ++ (ext ++ [.lst []]))) := e6
    unfold f_l_law_pp_holders runF
    rw [hol_eq]
    simp only [List.length_cons, List.length_nil, Nat.zero_add, Nat.reduceAdd, if_true, List.map, List.replicate, Nat.reduceSub, List.cons_append, List.nil_append]
    rw [sSeq]
    simp only [sSet, dArgs, dCons, dNil, dVar, dBin, dC, List.getElem?_cons_zero, List.getElem?_cons_succ, bindR_ok, sub_ii, e1', add_ii, hck, e2, bindS_ok, List.set]
    have e3' : wgtD [some (.ref 1), some (.int many), some (.lst (names.map enc)), none, none, none, none, none, none, none, none, none, none, none] (s2.sto ++ ext) = some (.ok (.lst (ws.map natD)) (s3.sto ++ ext)) := e3
    have e5' : rowD [some (.ref 1), some (.int many), some (.lst (names.map enc)), some (.lst (ws.map natD)), some (natD reach), none, none, none, none, none, none, none, none, none] (s4.sto ++ ext) = some (.ok (.lst (rows.map eRow)) (s5.sto ++ ext)) := e5
    have hR : (s5.sto ++ ext).length = 2 + ext.length := by rw [List.length_append]; rfl
    rw [sSeq, sAsg]
    simp only [dArgs, dCons, dNil, dVar, dC, List.getElem?_cons_zero, List.getElem?_cons_succ, bindR_ok, e3', fLst, List.length_cons, List.length_nil, Nat.zero_add, Nat.reduceAdd, three_le, two_le, if_true, mkL, Bool.false_eq_true, if_false, e4', fTup, bindS_ok, gUnp, gsCons, gNm, gsNil, List.set]
    rw [sSeq]
    simp only [sSet, dArgs, dCons, dNil, bindR_ok, e5', fTuple, asL, ok1, bindS_ok, List.set]
    rw [sSeq]
    simp only [sPar, dCons, dArgs, dNil, bindR_ok, fLst, List.length_nil, Nat.zero_le, if_true, mkL, hR, z, dVar, dC, List.getElem?_cons_zero, List.getElem?_cons_succ, e6', List.set]
    rw [sSeq]
    simp only [sSet, dArgs, dCons, dNil, dVar, List.getElem?_cons_zero, List.getElem?_cons_succ, bindR_ok, e7, bindS_ok, List.set]
    rw [sSeq, sFor]
    simp only [dEnum, dCons, dNil, dVar, List.getElem?_cons_zero, List.getElem?_cons_succ, bindR_ok, itemsL]
    rw [e8]
    simp only [sRet, dArgs, dCons, dNil, dVar, dC, List.getElem?_cons_zero, List.getElem?_cons_succ, bindR_ok, e9, fTup, List.length_cons, List.length_nil, Nat.zero_add, Nat.reduceAdd, three_le, if_true, bindS_ok, endF, finK, Bool.false_eq_true, if_false]
    have hl0 : (s.sto ++ ext).length = (s8.sto ++ ext).length := by rw [List.length_append, List.length_append]; rfl
    rw [hl0, hem, ← List.append_assoc]
    refine fin_cut hne (cl_sto hcl) ?_
    have := cl_eH (s8.sto ++ ext).length h
    unfold eH at this
    unfold fz
    exact if_pos this
  · exact (((((((t1.trans t2).trans t3).trans t4).trans t5).trans t6).trans t7).trans t8).mono (by omega)
end
end Pd
end
section
set_option Elab.async false
set_option linter.all false
set_option maxRecDepth 100000
namespace Pd
open PySem PySem.Spec L2 LamX
open PyProof.Rows hiding St
open PySem.W (Datum DatumOrd)
open Enc (enc)
/-! ### the greatest and the least of some ratios -/
theorem maxR_ok : ∀ (qs : List Rat) (q : Rat), maxR q qs ∈ q :: qs ∧ ∀ x ∈ q :: qs, x ≤ maxR q qs
  | [], q => ⟨by simp [maxR], fun x hx => by simp at hx; subst hx; simp [maxR, Rat.le_refl]⟩
  | r :: qs, q => by
    have e : maxR q (r :: qs) = maxR (if q < r then r else q) qs := rfl
    obtain ⟨h1, h2⟩ := maxR_ok qs (if q < r then r else q)
    rw [e]
    refine ⟨?_, fun x hx => ?_⟩
    · rcases List.mem_cons.mp h1 with z | z
      · rw [z]
        split <;> simp
      · exact List.mem_cons_of_mem _ (List.mem_cons_of_mem _ z)
    · have hm := h2 _ List.mem_cons_self
      rcases List.mem_cons.mp hx with rfl | hx
      · refine Rat.le_trans ?_ hm
        split
        · rename_i h; exact Rat.le_of_lt h
        · exact Rat.le_refl
      · rcases List.mem_cons.mp hx with rfl | hx
        · refine Rat.le_trans ?_ hm
          split
          · exact Rat.le_refl
          · rename_i h; exact Rat.not_lt.mp h
        · exact h2 x (List.mem_cons_of_mem _ hx)
theorem minR_ok : ∀ (qs : List Rat) (q : Rat), minR q qs ∈ q :: qs ∧ ∀ x ∈ q :: qs, minR q qs ≤ x
  | [], q => ⟨by simp [minR], fun x hx => by simp at hx; subst hx; simp [minR, Rat.le_refl]⟩
  | r :: qs, q => by
    have e : minR q (r :: qs) = minR (if r < q then r else q) qs := rfl
    obtain ⟨h1, h2⟩ := minR_ok qs (if r < q then r else q)
    rw [e]
    refine ⟨?_, fun x hx => ?_⟩
    · rcases List.mem_cons.mp h1 with z | z
      · rw [z]
        split <;> simp
      · exact List.mem_cons_of_mem _ (List.mem_cons_of_mem _ z)
    · have hm := h2 _ List.mem_cons_self
      rcases List.mem_cons.mp hx with rfl | hx
      · refine Rat.le_trans hm ?_
        split
        · rename_i h; exact Rat.le_of_lt h
        · exact Rat.le_refl
      · rcases List.mem_cons.mp hx with rfl | hx
        · refine Rat.le_trans hm ?_
          split
          · exact Rat.le_refl
          · rename_i h; exact Rat.not_lt.mp h
        · exact h2 x (List.mem_cons_of_mem _ hx)
theorem headMax_ok {qs : List Rat} (h : qs ≠ []) : headMax qs ∈ qs ∧ ∀ x ∈ qs, x ≤ headMax qs := by
  cases qs with
  | nil => exact absurd rfl h
  | cons q qs => exact maxR_ok qs q
theorem headMin_ok {qs : List Rat} (h : qs ≠ []) : headMin qs ∈ qs ∧ ∀ x ∈ qs, headMin qs ≤ x := by
  cases qs with
  | nil => exact absurd rfl h
  | cons q qs => exact minR_ok qs q
section
variable {h : Hs} {told : List Rat} {k : Nat}
theorem can_refl (a : Str) : h.can a a = true := by simp [Hs.can]
theorem can_iff {a b : Str} : h.can a b = true ↔ a = b ∨ (a, b) ∈ h.passes := by simp [Hs.can]
theorem can_trans (o : h.Ok k) {a b c : Str} (h1 : h.can a b = true) (h2 : h.can b c = true) : h.can a c = true := by
  rw [can_iff] at h1 h2 ⊢
  rcases h1 with rfl | h1
  · exact h2
  · rcases h2 with rfl | h2
    · exact .inr h1
    · by_cases e : c = a
      · exact .inl e.symm
      · exact .inr (o.pas.clo (a, b) h1 c (o.pas.inn _ h2).2 h2 e)
theorem top_ge {w : Str} {p : Rat × Str} (hp : p ∈ told.zip h.names) (hc : h.can w p.2 = true) : p.1 ≤ h.top told w := by
  have hm : p.1 ∈ ((told.zip h.names).filter fun p => h.can w p.2).map (·.1) := List.mem_map.mpr ⟨p, List.mem_filter.mpr ⟨hp, hc⟩, rfl⟩
  exact (headMax_ok (List.ne_nil_of_mem hm)).2 _ hm
theorem top_get {w : Str} (hw : w ∈ h.names) (hl : told.length = h.names.length) : ∃ p ∈ told.zip h.names, h.can w p.2 = true ∧ p.1 = h.top told w := by
  obtain ⟨q, qs, e⟩ := top_ne hw hl
  have hm := (headMax_ok (qs := ((told.zip h.names).filter fun p => h.can w p.2).map (·.1)) (by rw [e]; simp)).1
  obtain ⟨p, hp, e2⟩ := List.mem_map.mp hm
  have := List.mem_filter.mp hp
  exact ⟨p, this.1, this.2, e2⟩
theorem top_mono (o : h.Ok k) {a b : Str} (hb : b ∈ h.names) (hl : told.length = h.names.length) (hc : h.can a b = true) : h.top told b ≤ h.top told a := by
  obtain ⟨p, hp, h1, h2⟩ := top_get hb hl
  rw [← h2]
  exact top_ge hp (can_trans o hc h1)
/-- the least of what the takers of a paper have -/
def Hs.low (h : Hs) (told : List Rat) (w : Str) : Rat := headMin ((h.names.filter fun o => h.can o w).map (h.top told))
theorem zip_self {β : Type} (f : Str → β) : ∀ ns : List Str, (ns.map f).zip ns = ns.map fun n => (f n, n)
  | [] => rfl
  | n :: ns => by simp [zip_self f ns]
theorem again_ok (o : h.Ok k) (hl : told.length = h.names.length) : h.out (h.names.map (h.low told)) = h.out told := by
  unfold Hs.out
  refine List.map_congr_left fun w hw => ?_
  have hl2 : (h.names.map (h.low told)).length = h.names.length := by rw [List.length_map]
  have hlow : ∀ p, ∀ o, o ∈ h.names → h.can o p = true → h.low told p ≤ h.top told o := fun p o ho hc => by
    have hm : h.top told o ∈ (h.names.filter fun o => h.can o p).map (h.top told) := List.mem_map.mpr ⟨o, List.mem_filter.mpr ⟨ho, hc⟩, rfl⟩
    exact (headMin_ok (List.ne_nil_of_mem hm)).2 _ hm
  have hzip : ∀ p, p ∈ (h.names.map (h.low told)).zip h.names ↔ p.2 ∈ h.names ∧ p.1 = h.low told p.2 := fun p => by
    rw [zip_self, List.mem_map]
    constructor
    · rintro ⟨n, hn, rfl⟩; exact ⟨hn, rfl⟩
    · rintro ⟨h1, h2⟩; exact ⟨p.2, h1, Prod.ext h2.symm rfl⟩
  refine Rat.le_antisymm ?_ ?_
  · obtain ⟨p, hp, h1, h2⟩ := top_get hw hl2
    rw [← h2, ((hzip p).mp hp).2]
    exact hlow _ _ hw h1
  · obtain ⟨p, hp, h1, h2⟩ := top_get hw hl
    have hpn : p.2 ∈ h.names := (List.of_mem_zip hp).2
    have hm : h.top told p.2 ∈ (h.names.filter fun o => h.can o p.2).map (h.top told) := List.mem_map.mpr ⟨p.2, List.mem_filter.mpr ⟨hpn, can_refl _⟩, rfl⟩
    have h3 := (headMin_ok (List.ne_nil_of_mem hm)).1
    obtain ⟨o', ho', e⟩ := List.mem_map.mp h3
    have ho2 := List.mem_filter.mp ho'
    rw [← h2]
    refine Rat.le_trans (top_ge hp ho2.2) ?_
    rw [e]
    exact top_ge (p := (h.low told p.2, p.2)) ((hzip _).mpr ⟨hpn, rfl⟩) h1
end
end Pd
end
section
set_option Elab.async false
set_option linter.all false
set_option maxRecDepth 100000
namespace Pd
open PySem PySem.Spec L2 LamX
open PyProof.Rows hiding St
open PySem.W (Datum DatumOrd)
open Enc (enc)
/-! ### the state at first -/
def p18 : Nat := 1000000000000000000
def begun (ns : List Int) : DS := ⟨(ns.filter fun n => decide ((1000000000000000000 : Int) ≤ (n.natAbs : Int))).map fun n => n.natAbs - 1000000000000000000, ns.map Int.natAbs, 0, 0⟩
theorem abs_D (n : Int) (st : Sto) : fAbs [.int n] st = some (.ok (natD n.natAbs) st) := by
  have : (if n < 0 then -n else n) = (n.natAbs : Int) := by split <;> omega
  simp only [fAbs, ok1, this, natD]
theorem pow18 (st : Sto) : opPow (.int 10) (.int 18) st = some (.ok (.int 1000000000000000000) st) := by
  have h : (10 : Int) ^ (18 : Int).toNat = 1000000000000000000 := by decide +kernel
  unfold opPow
  simp only [h]
  rfl
theorem begun_ok {A : D} {ns : List Int} (hA : itemsA A = some (ns.map D.int)) (hl : ns.length ≤ 63) : f_l_law_begun [A] [] = some (.ok (.ref 1) (begun ns).sto) := by
  have h63 : 63 ≤ sizeLine := by decide
  have e1 : ∀ st, lcL (gNm 2) (dTruth isBl (dBin opGe (dArgs fAbs (dCons (dVar 2) (dNil))) (dBin opPow (dC (.int 10)) (dC (.int 18))))) (dBin opSub (dArgs fAbs (dCons (dVar 2) (dNil))) (dBin opPow (dC (.int 10)) (dC (.int 18)))) (wipeE [some A, none, none] [2]) (ns.map D.int) st [] =
      some ((begun ns).great.map natD, st) := fun st => by
    have := lcL_pure (dg := gNm 2) (dt := dTruth isBl (dBin opGe (dArgs fAbs (dCons (dVar 2) (dNil))) (dBin opPow (dC (.int 10)) (dC (.int 18))))) (de := dBin opSub (dArgs fAbs (dCons (dVar 2) (dNil))) (dBin opPow (dC (.int 10)) (dC (.int 18)))) (env := wipeE [some A, none, none] [2]) (st := st)
      D.int (fun n => decide ((1000000000000000000 : Int) ≤ (n.natAbs : Int))) (fun n => natD (n.natAbs - 1000000000000000000)) ns [] (fun n _ => by
        refine ⟨[some A, none, some (.int n)], rfl, ?_, fun hn => ?_⟩
        · simp only [dTruth, dBin, dArgs, dCons, dNil, dVar, dC, List.getElem?_cons_zero, List.getElem?_cons_succ, bindR_ok, abs_D, pow18, natD, opCmp, ok1, isBl]
        · have hn := of_decide_eq_true hn
          have : (n.natAbs : Int) - 1000000000000000000 = ((n.natAbs - 1000000000000000000 : Nat) : Int) := by omega
          simp only [dBin, dArgs, dCons, dNil, dVar, dC, List.getElem?_cons_zero, List.getElem?_cons_succ, bindR_ok, abs_D, pow18, natD, sub_ii, this]) (by simp only [List.length_nil]; omega)
    rw [this]
    simp [begun, Function.comp_def]
  have e2 : ∀ z st, lcL (gNm 2) dYes (dArgs fAbs (dCons (dVar 2) (dNil))) (wipeE [some A, some (.ref 0), z] [2]) (ns.map D.int) st [] = some ((begun ns).cells.map natD, st) := fun z st => by
    have := lcL_all (dg := gNm 2) (de := dArgs fAbs (dCons (dVar 2) (dNil))) (env := wipeE [some A, some (.ref 0), z] [2]) (st := st) D.int (fun n => natD n.natAbs) ns (fun n _ => ⟨[some A, some (.ref 0), some (.int n)], rfl, by
      simp only [dArgs, dCons, dNil, dVar, List.getElem?_cons_zero, List.getElem?_cons_succ, bindR_ok, abs_D]⟩) (by omega)
    rw [this]
    simp [begun, Function.comp_def]
  unfold f_l_law_begun runF b_l_law_begun
  simp only [List.length_cons, List.length_nil, Nat.zero_add, if_true, List.map, List.replicate, Nat.reduceSub, List.cons_append, List.nil_append]
  rw [sSeq, sSet]
  simp only [dLc, dIt, dVar, List.getElem?_cons_zero, bindR_ok, hA]
  rw [e1]
  simp only [mkL, if_true, bindS_ok, List.set, List.length_nil, List.nil_append]
  simp only [sRet, dDisp, dpL, dCons, dNil, dVar, dC, dLc, dIt, List.getElem?_cons_zero, List.getElem?_cons_succ, bindR_ok, hA]
  rw [e2]
  simp only [mkL, Bool.false_eq_true, if_false, bindR_ok, mkDc, if_true, bindS_ok, endF, finK]
  rfl
/-! ### values that are no holders -/
def oddsL : List D := [.non, .bl true, .int 0, .int 5, .str "", .str "telling", .tup [], .lst [], .dct [] [], .tup [.tup [.int 0, .int 1], .tup [.int 1, .int 1], .tup [.int 1, .int 1]], .tup [.str "telling"], .tup [.str "telling", .tup []], .tup [.str "deeds", .tup []], .tup [.str "deeds"]] ++
  [.tup [.tup [.int 1, .int 2], .tup [.int 1, .int 3]], .tup [.tup [.int 3, .int 2], .tup [.int (-1), .int 2]], .tup [.str "telling", .tup [.tup [.str "a", .tup [.tup [.int 1, .int 1]]]]], .tup [.tup [.int 1, .int 1]]]
theorem odd_ok {s : DS} {ext : Sto} (ht : s.turn < 2 ^ 39) : ∃ (d : D) (u : DS), f_l_law_odd [.ref 1] (s.sto ++ ext) = some (.ok d (u.sto ++ ext)) ∧ d ∈ oddsL ∧ Step 1 s u := by
  obtain ⟨d, u, e, m, t⟩ := pick_ok (s := s) (ext := ext) (ds := oddsL) (by simp [oddsL]) (by simp [oddsL]) ht
  have h14 : 14 ≤ sizeLine := by decide
  have h18 : 14 + 4 ≤ sizeLine := by decide
  have hlen : (u.sto ++ ext).length = (s.sto ++ ext).length := by rw [List.length_append, List.length_append]; rfl
  refine ⟨d, u, ?_, m, t⟩
  unfold f_l_law_odd runF b_l_law_odd
  simp only [List.length_cons, List.length_nil, Nat.zero_add, if_true, List.map, List.replicate, Nat.reduceSub, List.cons_append, List.nil_append]
  simp only [sSeq, sSet, dArgs, dCons, dNil, dC, dNewD, mkDc, Bool.false_eq_true, if_false, bindR_ok, fTup, List.length_cons, List.length_nil, Nat.zero_add, Nat.reduceAdd, Nat.zero_le, one_le0, two_le, three_le, four_le, h14, if_true, fLst, mkL, bindS_ok, List.set]
  have ha : ∀ l r st, l.length = 14 → r.length = 4 → opAdd false (.lst l) (.lst r) st = some (.ok (.lst (l ++ r)) st) := fun l r st h1 h2 => by
    have : l.length + r.length ≤ sizeLine := by omega
    simp only [opAdd, asM, this, if_true, mkL, Bool.false_eq_true, if_false]
  simp only [sRet, dArgs, dCons, dNil, dC, dVar, dBin, dUn, opNeg, ok1, List.getElem?_cons_zero, List.getElem?_cons_succ, bindR_ok, fTup, List.length_cons, List.length_nil, Nat.zero_add, Nat.reduceAdd, Nat.zero_le, one_le0, two_le, three_le, four_le, if_true, fLst, mkL, Bool.false_eq_true, if_false]
  rw [ha _ _ _ rfl rfl]
  simp only [bindR_ok]
  have e' : f_l_law_pick [.ref 1, .lst oddsL] (s.sto ++ ext) = some (.ok d (u.sto ++ ext)) := e
  unfold oddsL at e'
  rw [e']
  simp only [bindS_ok]
  rw [← hlen, endF_rt]
theorem odd_not {d : D} (h : d ∈ oddsL) (st : Sto) : f_is_holders [d] st = some (.ok (.bl false) st) := by
  have nt : ∀ d κ, kindD st d = some κ → κ ≠ .tup → f_is_holders [d] st = some (.ok (.bl false) st) := fun d κ hk hne => by
    unfold f_is_holders runF b_is_holders
    cases κ <;> simp [sSeq, sIf, dOr, dNot, dTruth, dIsi, dVar, hk, K7.sub, bindR_ok, bindSB_ok, truD, sRet, dC, bindS_ok, endF_rt] at hne ⊢
  have n3 : ∀ ds : List D, ds.length ≠ 3 → f_is_holders [.tup ds] st = some (.ok (.bl false) st) := fun ds hl => by
    have hl' : ¬ ((ds.length : Int) = 3) := by omega
    unfold f_is_holders runF b_is_holders
    simp [sSeq, sIf, dOr, dNot, dTruth, dIsi, dVar, kindD, K7.sub, bindR_ok, bindSB_ok, truD, dBin, dArgs, dCons, dNil, fLen, asS, ok1, dC, opNe, eqD, isBl, hl', sRet, bindS_ok, endF_rt]
  have n0 : ∀ a b c : List D, f_is_holders [.tup [.tup a, .tup b, .tup c]] st = some (.ok (.bl false) st) := fun a b c => by
    have : opIx (.tup [.tup a, .tup b, .tup c]) (.int 0) st = some (.ok (.tup a) st) := rfl
    unfold f_is_holders runF b_is_holders
    simp [sSeq, sIf, dOr, dNot, dTruth, dIsi, dVar, kindD, K7.sub, bindR_ok, bindSB_ok, truD, dBin, dArgs, dCons, dNil, fLen, asS, ok1, dC, opNe, eqD, isBl, this, sRet, bindS_ok, endF_rt]
  simp only [oddsL, List.cons_append, List.nil_append, List.mem_cons, List.mem_nil_iff, or_false] at h
  rcases h with rfl | rfl | rfl | rfl | rfl | rfl | rfl | rfl | rfl | rfl | rfl | rfl | rfl | rfl | rfl | rfl | rfl | rfl
  · exact nt _ .non rfl (by decide)
  · exact nt _ .bl rfl (by decide)
  · exact nt _ .int rfl (by decide)
  · exact nt _ .int rfl (by decide)
  · exact nt _ .str rfl (by decide)
  · exact nt _ .str rfl (by decide)
  · exact n3 _ (by decide)
  · exact nt _ .lst rfl (by decide)
  · exact nt _ .dct rfl (by decide)
  · exact n0 _ _ _
  · exact n3 _ (by simp)
  · exact n3 _ (by simp)
  · exact n3 _ (by simp)
  · exact n3 _ (by simp)
  · exact n3 _ (by simp)
  · exact n3 _ (by simp)
  · exact n3 _ (by simp)
  · exact n3 _ (by simp)
theorem need_bad {d : D} {st : Sto} (h : f_is_holders [d] st = some (.ok (.bl false) st)) : f_need_holders [d] st = some (.ex "BadHolders" st) := by
  unfold f_need_holders runF b_need_holders
  simp [sIf, dNot, dTruth, dArgs, dCons, dNil, dVar, bindR_ok, h, truD, bindSB_ok, sRaise, endF, cutSt]
theorem outcome_bad1 {d w : D} {st : Sto} (h : f_is_holders [d] st = some (.ok (.bl false) st)) : f_outcome [d, w] st = some (.ex "BadHolders" st) := by
  unfold f_outcome runF b_outcome
  simp [sSeq, sExpr, dArgs, dCons, dNil, dVar, bindR_ok, need_bad h, bindS, endF, cutSt]
theorem loss_bad1 {d w : D} {st : Sto} (h : f_is_holders [d] st = some (.ok (.bl false) st)) : f_loss [d, w] st = some (.ex "BadHolders" st) := by
  unfold f_loss runF b_loss
  simp [sSeq, sExpr, dArgs, dCons, dNil, dVar, bindR_ok, need_bad h, bindS, endF, cutSt]
theorem outcome_bad2 {h : Hs} {w : D} {st : Sto} (hh : f_is_holders [eH h] st = some (.ok (.bl true) st)) (hw : f_are_ratios [eH h, w] st = some (.ok (.bl false) st)) : f_outcome [eH h, w] st = some (.ex "BadPromise" st) := by
  unfold f_outcome runF b_outcome
  simp [sSeq, sExpr, dArgs, dCons, dNil, dVar, bindR_ok, f_need_ok st hh, bindS_ok, sIf, dNot, dTruth, hw, truD, bindSB_ok, sRaise, endF, cutSt]
theorem loss_bad2 {h : Hs} {w : D} {st : Sto} (hh : f_is_holders [eH h] st = some (.ok (.bl true) st)) (hw : f_are_ratios [eH h, w] st = some (.ok (.bl false) st)) : f_loss [eH h, w] st = some (.ex "BadOutcome" st) := by
  unfold f_loss runF b_loss
  simp [sSeq, sExpr, dArgs, dCons, dNil, dVar, bindR_ok, f_need_ok st hh, bindS_ok, sIf, dNot, dTruth, hw, truD, bindSB_ok, sRaise, endF, cutSt]
/-! ### values that are no ratios for holders -/
section
variable {h : Hs} {st : Sto}
theorem wr_kind {w : D} {κ : K7} (hk : kindD st w = some κ) (hne : κ ≠ .tup) : f_are_ratios [eH h, w] st = some (.ok (.bl false) st) := by
  unfold f_are_ratios runF b_are_ratios
  cases κ <;> simp [sRet, dAndV, dIsi, dVar, hk, K7.sub, bindR_ok, bindS_ok, endF_rt] at hne ⊢
theorem wr_len {ds : List D} (hl : ds.length ≠ h.rows.length) : f_are_ratios [eH h, .tup ds] st = some (.ok (.bl false) st) := by
  unfold f_are_ratios runF b_are_ratios
  simp [sRet, dAndV, dIsi, dVar, kindD, K7.sub, bindR_ok, bindS_ok, dBin, dArgs, dCons, dNil, fLen, asS, ok1, dC, eH1, opEq, eqD]
  have : ¬ ((ds.length : Int) = h.rows.length) := by omega
  simp [this, bindR_ok, bindS_ok, endF_rt]
theorem wr_all {x : D} {n : Nat} (hx : f_is_ratio [x] st = some (.ok (.bl false) st)) (hn : n = h.rows.length) (h1 : 1 ≤ n) (h6 : n ≤ 6) : f_are_ratios [eH h, .tup (List.replicate n x)] st = some (.ok (.bl false) st) := by
  have e : lcL (gNm 2) dYes (dArgs f_is_ratio (dCons (dVar 2) dNil)) (wipeE [some (eH h), some (.tup (List.replicate n x)), none] [2]) (List.replicate n x) st [] = some ((List.range n).map fun _ => .bl false, st) := by
    have := lcL_all (dg := gNm 2) (de := dArgs f_is_ratio (dCons (dVar 2) dNil)) (env := wipeE [some (eH h), some (.tup (List.replicate n x)), none] [2]) (st := st) (e := fun _ => x) (g := fun _ => .bl false) (List.range n) (fun _ _ => ⟨[some (eH h), some (.tup (List.replicate n x)), some x], rfl, by simp [dArgs, dCons, dNil, dVar, bindR_ok, hx]⟩) (by rw [List.length_range]; have := six_le; omega)
    rw [← this]
    congr 1
    rw [List.map_const']
    simp
  have eb : ∀ l : List Nat, bls (l.map fun _ => D.bl false) = some (l.map fun _ => false) := fun l => by
    induction l with
    | nil => rfl
    | cons q qs ih => simp [bls, ih]
  have ea : ((List.range n).map fun _ => false).all id = false := by
    cases n with
    | zero => omega
    | succ n => simp [List.range_succ]
  unfold f_are_ratios runF b_are_ratios
  simp only [List.length_cons, List.length_nil, Nat.zero_add, Nat.reduceAdd, if_true, List.map, List.replicate, Nat.reduceSub, List.cons_append, List.nil_append]
  simp only [sRet, dAndV, dIsi, dVar, List.getElem?_cons_zero, List.getElem?_cons_succ, kindD, K7.sub, decide_true, Bool.true_or, bindR_ok, dBin, dArgs, dCons, dNil, fLen, asS, asL, ok1, dC, eH1, opEq, eqD, List.length_replicate, List.length_map, hn, dLc, dIt, itemsA, itemsW]
  rw [← hn, e]
  simp only [mkL, Bool.false_eq_true, if_false, bindR_ok, fAll, asL, eb, ok1, ea, bindS_ok, endF_rt]
theorem rat_kind {w : D} {κ : K7} (hk : kindD st w = some κ) (hne : κ ≠ .tup) : f_is_ratio [w] st = some (.ok (.bl false) st) := by
  unfold f_is_ratio runF b_is_ratio
  cases κ <;> simp [sSeq, sIf, dOr, dNot, dTruth, dIsi, dVar, hk, K7.sub, bindR_ok, bindSB_ok, truD, sRet, dC, bindS_ok, endF_rt] at hne ⊢
theorem rat_bad {a b : Int} (hb : ¬ (0 < b ∧ Nat.gcd a.natAbs b.natAbs = 1)) : f_is_ratio [.tup [.int a, .int b]] st = some (.ok (.bl false) st) := by
  have e : lcL (gNm 1) dYes (dArgs f_is_whole (dCons (dVar 1) dNil)) (wipeE [some (.tup [.int a, .int b]), none] [1]) [.int a, .int b] st [] = some ([.bl true, .bl true], st) :=
    lcL_all (e := D.int) (g := fun _ => .bl true) [a, b] (fun x hx => ⟨[some (.tup [.int a, .int b]), some (.int x)], rfl, by simp [dArgs, dCons, dNil, dVar, bindR_ok, f_is_whole_ok]⟩) (show 2 ≤ sizeLine from two_le)
  have k0 : opIx (.tup [.int a, .int b]) (.int 0) st = some (.ok (.int a) st) := rfl
  have k1 : opIx (.tup [.int a, .int b]) (.int 1) st = some (.ok (.int b) st) := rfl
  unfold f_is_ratio runF b_is_ratio
  simp [sSeq, sIf, dOr, dNot, dTruth, dIsi, dVar, dBin, dC, dArgs, dCons, dNil, kindD, K7.sub, bindR_ok, bindS_ok, bindSB_ok, truD, isBl, fLen, asS, opNe, eqD, ok1, dLc, dIt, itemsA, itemsW]
  rw [e]
  simp [mkL, bindR_ok, bindS_ok, bindSB_ok, fAll, asL, bls, ok1, truD, sSkip, sRet, dAndV, opCmp, k0, k1, dBin, dVar, dC, dArgs, dCons, dNil, fGcd, opEq, eqD]
  by_cases h0 : 0 < b
  · have hg : ¬ (Nat.gcd a.natAbs b.natAbs = 1) := fun z => hb ⟨h0, z⟩
    have hg' : ¬ (((Nat.gcd a.natAbs b.natAbs : Nat) : Int) = 1) := by omega
    simp [h0, bindR_ok, hg', bindS_ok, endF_rt, hg]
  · simp [h0, bindR_ok, bindS_ok, endF_rt]
end
/-! ### dict(zip(..)) -/
theorem put_new {α : Type} (f : Str → D) : ∀ (ns : List Str) (w : Str) (d : D), w ∉ ns → putD (ns.map Sum.inr) (ns.map f) (Sum.inr w) d = ((ns ++ [w]).map Sum.inr, ns.map f ++ [d])
  | [], w, d, _ => by simp [putD]
  | n :: ns, w, d, h => by
    have h1 : ¬ ((Sum.inr n : Key) = Sum.inr w) := fun z => h (by cases z; exact List.mem_cons_self)
    simp only [List.map_cons, putD, h1, if_false, put_new (α := α) f ns w d fun m => h (List.mem_cons_of_mem _ m), List.cons_append]
theorem dct_zip (f : Str → D) : ∀ (ns ms : List Str), (ms ++ ns).Nodup → (ns.map fun n => ((Sum.inr n : Key), f n)).foldl (fun acc kd => putD acc.1 acc.2 kd.1 kd.2) (ms.map Sum.inr, ms.map f) = ((ms ++ ns).map Sum.inr, (ms ++ ns).map f)
  | [], ms, _ => by simp
  | n :: ns, ms, h => by
    have hn : n ∉ ms := by
      rw [List.nodup_append] at h
      exact fun m => h.2.2 n m n List.mem_cons_self rfl
    have e := put_new (α := Unit) f ms n (f n) hn
    rw [List.map_cons, List.foldl_cons]
    dsimp only
    rw [e, show ms.map f ++ [f n] = (ms ++ [n]).map f by simp, dct_zip f ns (ms ++ [n]) (by rw [List.append_assoc]; exact h), List.append_assoc]
    rfl
theorem pairs_zip (f : Str → D) : ∀ ns : List Str, pairsD (ns.map fun n => .tup [enc n, f n]) = some (ns.map fun n => ((Sum.inr n : Key), f n))
  | [] => rfl
  | n :: ns => by
    simp only [List.map_cons, pairsD, pairs_zip f ns]
    rfl
theorem dict_ok (f : Str → D) {ns : List Str} (h : ns.Nodup) (st : Sto) : fDict false [.lst (ns.map fun n => .tup [enc n, f n])] st = some (.ok (.dct (ns.map Sum.inr) (ns.map f)) st) := by
  have := dct_zip f ns [] (by simpa using h)
  simp only [List.map_nil, List.nil_append] at this
  simp only [fDict, asM, pairs_zip, dctL, this, mkDc, Bool.false_eq_true, if_false]
theorem look_ns (f : Str → D) : ∀ (ns : List Str) (w : Str), w ∈ ns → look (ns.map Sum.inr) (ns.map f) (Sum.inr w) = some (f w)
  | n :: ns, w, h => by
    simp only [List.map_cons, look]
    by_cases e : (Sum.inr n : Key) = Sum.inr w
    · cases e; simp
    · rw [if_neg e]
      rcases List.mem_cons.mp h with rfl | h
      · exact absurd rfl e
      · exact look_ns f ns w h
theorem ix_dct (f : Str → D) {ns : List Str} {w : Str} (h : w ∈ ns) (st : Sto) : opIx (.dct (ns.map Sum.inr) (ns.map f)) (.str w) st = some (.ok (f w) st) := by
  simp only [opIx, asL, asD, keyD, look_ns f ns w h, ok1]
end Pd
end
section
set_option Elab.async false
set_option linter.all false
set_option maxRecDepth 100000
namespace Pd
open PySem PySem.Spec L2 LamX
open PyProof.Rows hiding St
/-! ### one step of evaluation each, with nothing unfolded within -/
section
variable {env env' : En} {st st1 st2 : Sto} {a b : Den} {al bl : DenL} {x y d : D} {xs ds : List D} {tb : DenB} {k : Bool}
theorem ev_var {i : Nat} (h : env[i]? = some (some d)) : dVar i env st = some (.ok d st) := by unfold dVar; rw [h]
theorem ev_c : dC d env st = some (.ok d st) := rfl
theorem ev_nil : dNil env st = some (.ok [] st) := rfl
theorem ev_cons (h1 : a env st = some (.ok x st1)) (h2 : al env st1 = some (.ok xs st2)) : dCons a al env st = some (.ok (x :: xs) st2) := by unfold dCons; rw [h1]; show bindR (al env st1) _ = _; rw [h2]; rfl
theorem ev_one (h1 : a env st = some (.ok x st1)) : dCons a dNil env st = some (.ok [x] st1) := ev_cons h1 ev_nil
theorem ev_two (h1 : a env st = some (.ok x st1)) (h2 : b env st1 = some (.ok y st2)) : dCons a (dCons b dNil) env st = some (.ok [x, y] st2) := ev_cons h1 (ev_one h2)
theorem ev_args {f : List D → Sto → Option (R D)} (h : al env st = some (.ok xs st1)) : dArgs f al env st = f xs st1 := by unfold dArgs; rw [h]; rfl
theorem ev_argsK {pl : List Nat} {f : List D → Sto → Option (R D)} (h : al env st = some (.ok xs st1)) (hl : xs.length = pl.length) : dArgsK pl f al env st = f (permL pl xs) st1 := by
  unfold dArgsK; rw [h]; exact if_pos hl
theorem ev_bin {f : D → D → Sto → Option (R D)} (h1 : a env st = some (.ok x st1)) (h2 : b env st1 = some (.ok y st2)) : dBin f a b env st = f x y st2 := by unfold dBin; rw [h1]; show bindR (b env st1) _ = _; rw [h2]; rfl
theorem ev_un {f : D → Sto → Option (R D)} (h1 : a env st = some (.ok x st1)) : dUn f a env st = f x st1 := by unfold dUn; rw [h1]; rfl
theorem ev_truth {f : D → Sto → Option Bool} (h : a env st = some (.ok x st1)) (hk : f x st1 = some k) : dTruth f a env st = some (.ok k st1) := by unfold dTruth; rw [h]; show (match f x st1 with | some k => _ | none => _) = _; rw [hk]
theorem ev_not (h : tb env st = some (.ok k st1)) : dNot tb env st = some (.ok (!k) st1) := by unfold dNot; rw [h]; rfl
theorem ev_it (h : a env st = some (.ok x st1)) (hx : itemsA x = some ds) : dIt a env st = some (.ok ds st1) := by unfold dIt; rw [h]; show (match itemsA x with | some ds => _ | none => _) = _; rw [hx]
theorem ev_lc {cell : Bool} {vs : List Nat} {dg : DenG} {dt : DenB} {de : Den} {acc : List D} (hi : al env st = some (.ok ds st1)) (hl : lcL dg dt de (wipeE env vs) ds st1 [] = some (acc, st2)) : dLc cell vs al dg dt de env st = mkL cell acc st2 := by
  unfold dLc; rw [hi]; show (match lcL dg dt de (wipeE env vs) ds st1 [] with | some (acc, st) => mkL cell acc st | none => none) = _; rw [hl]
theorem ev_set {i : Nat} (h : a env st = some (.ok x st1)) : sSet i a env st = some (.nx (env.set i (some x)) st1) := by unfold sSet; rw [h]; rfl
theorem ev_asg {dg : DenG} (h : a env st = some (.ok x st1)) (h2 : dg x env st1 = some (.ok env' st2)) : sAsg a dg env st = some (.nx env' st2) := by unfold sAsg; rw [h, bindS_ok, h2]
theorem ev_for {dg : DenG} {db : DenS} (h : al env st = some (.ok ds st1)) : sFor al dg db env st = forL dg db ds env st1 := by unfold sFor; rw [h]
theorem ev_ret (h : a env st = some (.ok x st1)) : sRet a env st = some (.rt x st1) := by unfold sRet; rw [h]; rfl
theorem ev_expr (h : a env st = some (.ok x st1)) : sExpr a env st = some (.nx env st1) := by unfold sExpr; rw [h]; rfl
theorem ev_zip {us : List D} (h : al env st = some (.ok [x, y] st1)) (hx : itemsV x = some ds) (hy : itemsV y = some us) : dZip al env st = some (.ok (zipD ds us) st1) := by
  unfold dZip; rw [h, bindR_ok]; dsimp only; rw [hx, hy]
theorem seq_go {s1 s2 : DenS} (h : s1 env st = some (.nx env' st1)) : sSeq s1 s2 env st = s2 env' st1 := by unfold sSeq; rw [h]
theorem if_yes {s1 s2 : DenS} (h : tb env st = some (.ok true st1)) : sIf tb s1 s2 env st = s1 env st1 := by unfold sIf; rw [h]; rfl
theorem if_no {s1 s2 : DenS} (h : tb env st = some (.ok false st1)) : sIf tb s1 s2 env st = s2 env st1 := by unfold sIf; rw [h]; rfl
theorem ev_if_t {a b : Den} (h : tb env st = some (.ok true st1)) : dIf tb a b env st = a env st1 := by unfold dIf; rw [h]; rfl
theorem ev_if_f {a b : Den} (h : tb env st = some (.ok false st1)) : dIf tb a b env st = b env st1 := by unfold dIf; rw [h]; rfl
theorem ev_and_t {t2 : DenB} (h : tb env st = some (.ok true st1)) : dAnd tb t2 env st = t2 env st1 := by unfold dAnd; rw [h]; rfl
theorem ev_and_f {t2 : DenB} (h : tb env st = some (.ok false st1)) : dAnd tb t2 env st = some (.ok false st1) := by unfold dAnd; rw [h]; rfl
theorem ev_or_t {t2 : DenB} (h : tb env st = some (.ok true st1)) : dOr tb t2 env st = some (.ok true st1) := by unfold dOr; rw [h]; rfl
theorem ev_or_f {t2 : DenB} (h : tb env st = some (.ok false st1)) : dOr tb t2 env st = t2 env st1 := by unfold dOr; rw [h]; rfl
theorem ev_caught {cs : List Str} {c : Str} (h : a env st = some (.ex c st1)) (hc : c ∈ cs) : dCaught cs a env st = some (.ok (.exc c) st1) := by unfold dCaught; rw [h]; exact if_pos hc
theorem ev_isX {c : Str} (h : a env st = some (.ok (.exc c) st1)) : dIsX c a env st = some (.ok (.bl true) st1) := by unfold dIsX; rw [h]; exact if_pos rfl
theorem ev_slice {f : D → Option Int → Option Int → Sto → Option (R D)} {l u : DenO} {i j : Option Int} {st3 : Sto} (h : a env st = some (.ok x st1)) (hl : l env st1 = some (.ok i st2)) (hu : u env st2 = some (.ok j st3)) : dSlice f a l u env st = f x i j st3 := by
  unfold dSlice; rw [h]; show bindR (l env st1) _ = _; rw [hl]; show bindR (u env st2) _ = _; rw [hu]; rfl
theorem ev_part {i : Int} (h : a env st = some (.ok (.int i) st1)) : dPart a env st = some (.ok (some i) st1) := by unfold dPart; rw [h]; rfl
end
end Pd
end
section
set_option Elab.async false
set_option linter.all false
set_option maxRecDepth 100000
namespace Pd
open PySem PySem.Spec L2 LamX
open PyProof.Rows hiding St
open PySem.W (Datum DatumOrd)
open Enc (enc)
/-! ### the law, part by part -/
noncomputable def lp0 : DenS := sSet 3 (dArgs f_l_law_pp_holders (dCons (dVar 1) (dCons (dC (.int 6)) (dNil))))
noncomputable def lp1 : DenS := sAsg (dArgs fTup (dCons (dArgs fLen (dCons (dBin opIx (dVar 3) (dC (.int 1))) (dNil))) (dCons (dArgs f_l_law_pp_words (dCons (dVar 3) (dNil))) (dNil)))) (gUnp 2 (gsCons (gNm 4) (gsCons (gNm 5) (gsNil))))
noncomputable def lp2 : DenS := sSet 6 (dArgs fTuple (dCons (dLc false [7] (dRange1 (dCons (dVar 4) (dNil))) (gNm 7) dYes (dArgs f_l_law_number (dCons (dVar 1) (dCons (dC (.int 9)) (dNil))))) (dNil)))
noncomputable def lp3 : DenS := sSet 8 (dArgs f_l_law_pp_outcome (dCons (dVar 3) (dCons (dVar 6) (dNil))))
noncomputable def lp4 : DenS := sIf (dNot (dTruth truD (dArgs f_l_law_same (dCons (dArgs (fLst false) (dCons (dArgs f_outcome (dCons (dVar 3) (dCons (dVar 6) (dNil)))) (dCons (dArgsK [1, 0] f_outcome (dCons (dVar 6) (dCons (dVar 3) (dNil)))) (dNil)))) (dCons (dArgs (fLst false) (dCons (dVar 8) (dCons (dVar 8) (dNil)))) (dNil)))))) (sRet (dC (.bl false))) (sSkip)
noncomputable def lp5 : DenS := sSet 9 (dArgs (fDict false) (dCons (dListZip false (dCons (dVar 5) (dCons (dVar 8) (dNil)))) (dNil)))
noncomputable def lp6 : DenS := sIf (dTruth isBl (dBin opNe (dLc false [10, 11] (dIt (dBin opIx (dVar 3) (dC (.int 2)))) (gUnp 2 (gsCons (gNm 10) (gsCons (gNm 11) (gsNil)))) (dTruth truD (dArgs f_l_law_less (dCons (dBin opIx (dVar 9) (dVar 10)) (dCons (dBin opIx (dVar 9) (dVar 11)) (dNil))))) (dC (.int 1))) (dArgs (fLst false) (dNil)))) (sRet (dC (.bl false))) (sSkip)
noncomputable def lp7 : DenS := sSet 12 (dArgs fTuple (dCons (dLc false [13] (dIt (dVar 5)) (gNm 13) dYes (dArgs f_l_law_pp_least (dCons (dLc false [11] (dIt (dVar 5)) (gNm 11) (dTruth truD (dArgs f_l_law_pp_can (dCons (dVar 3) (dCons (dVar 11) (dCons (dVar 13) (dNil)))))) (dBin opIx (dVar 9) (dVar 11))) (dNil)))) (dNil)))
noncomputable def lp8 : DenS := sIf (dNot (dTruth truD (dArgs f_l_law_same (dCons (dArgs f_outcome (dCons (dVar 3) (dCons (dVar 12) (dNil)))) (dCons (dVar 8) (dNil)))))) (sRet (dC (.bl false))) (sSkip)
noncomputable def lp9 : DenS := sFor (dIt (dArgs (fLst false) (dCons (dVar 8) (dCons (dVar 6) (dNil))))) (gNm 14) (sSeq (sSet 15 (dArgs f_l_law_pp_loss (dCons (dVar 3) (dCons (dVar 14) (dNil))))) (sIf (dNot (dTruth truD (dArgs f_l_law_same (dCons (dArgs (fLst false) (dCons (dArgs f_loss (dCons (dVar 3) (dCons (dVar 14) (dNil)))) (dCons (dArgsK [1, 0] f_loss (dCons (dVar 14) (dCons (dVar 3) (dNil)))) (dNil)))) (dCons (dArgs (fLst false) (dCons (dVar 15) (dCons (dVar 15) (dNil)))) (dNil)))))) (sRet (dC (.bl false))) (sSkip)))
noncomputable def lp10 : DenS := sAsg (dArgs fTup (dCons (dArgs f_l_law_odd (dCons (dVar 1) (dNil))) (dCons (dArgs f_l_law_pick (dCons (dVar 1) (dCons (dArgs (fLst false) (dCons (dC .non) (dCons (dArgs (fList false) (dCons (dVar 6) (dNil))) (dCons (dSlice (opSl false) (dVar 6) (dPart (dC (.int 1))) dNoPart) (dCons (dBin (opAdd false) (dVar 6) (dArgs fTup (dCons (dArgs fTup (dCons (dC (.int 0)) (dCons (dC (.int 1)) (dNil)))) (dNil)))) (dCons (dBin (opMul false) (dArgs fTup (dCons (dC (.int 0)) (dNil))) (dVar 4)) (dCons (dBin (opMul false) (dArgs fTup (dCons (dArgs fTup (dCons (dC (.int 2)) (dCons (dC (.int 4)) (dNil)))) (dNil))) (dVar 4)) (dCons (dBin (opMul false) (dArgs fTup (dCons (dArgs fTup (dCons (dC (.int 1)) (dCons (dC (.int 0)) (dNil)))) (dNil))) (dVar 4)) (dCons (dBin (opMul false) (dArgs fTup (dCons (dC (.bl true)) (dNil))) (dVar 4)) (dNil)))))))))) (dNil)))) (dNil)))) (gUnp 2 (gsCons (gNm 16) (gsCons (gNm 17) (gsNil))))
noncomputable def lp11 : DenS := sFor (dIt (dArgs (fLst false) (dCons (dC (.fn "outcome")) (dCons (dC (.fn "loss")) (dNil))))) (gNm 18) (sIf (dNot (dTruth truD (dIsX "BadHolders" (dCaught clsN (dCallV 18 fs_law_ask (dCons (dVar 16) (dCons (dVar 17) (dNil)))))))) (sRet (dC (.bl false))) (sSkip))
noncomputable def lp12 : DenS := sIf (dNot (dTruth truD (dIsX "BadPromise" (dCaught clsN (dArgs f_outcome (dCons (dVar 3) (dCons (dVar 17) (dNil)))))))) (sRet (dC (.bl false))) (sSkip)
noncomputable def lp13 : DenS := sIf (dNot (dTruth truD (dIsX "BadOutcome" (dCaught clsN (dArgs f_loss (dCons (dVar 3) (dCons (dVar 17) (dNil)))))))) (sRet (dC (.bl false))) (sSkip)
theorem not_same {x y : Den} {env : En} {d : D} {k n : Nat} {B : Sto} (hx : x env B = some (.ok d B)) (hy : y env B = some (.ok d B)) (hp : Pl d k n) (hk : k ≤ 50) (hn : n ≤ sizeLine) (hc : B.all (Ob.cl B.length) = true) :
    dNot (dTruth truD (dArgs f_l_law_same (dCons x (dCons y (dNil))))) env B = some (.ok false B) := by
  simp only [dNot, dTruth, dArgs, dCons, dNil, hx, hy, bindR_ok, same_ok hp hk hn hc, truD, Bool.not_true]
def partD (h : Hs) (ps : List Rat) : D := .dct (h.names.map Sum.inr) (h.names.map fun n => eR (h.top ps n))
theorem pl_eR (q : Rat) : Pl (eR q) 1 3 := .tup (k := 0) (.cons (.int _) (.cons (.int _) .nil))
theorem pls_eR : ∀ qs : List Rat, Pls (qs.map eR) 1 (3 * qs.length)
  | [] => .nil
  | q :: qs => by
    have := Pls.cons (pl_eR q) (pls_eR qs)
    rw [List.length_cons, Nat.mul_succ, Nat.add_comm]
    exact this
theorem pl_qs (qs : List Rat) : Pl (.tup (qs.map eR)) 2 (3 * qs.length + 1) := .tup (pls_eR qs)
theorem pl_two {d : D} {k n : Nat} (h : Pl d k n) : Pl (.lst [d, d]) (k + 1) (n + n + 1) := .lst (by have := Pls.cons h (.cons h .nil); simpa using this)
theorem size_ok {n : Nat} (h : n ≤ 1000) : n ≤ sizeLine := Nat.le_trans h (by decide)
section
variable {ext : Sto} {h : Hs} {ps : List Rat} {s : DS} {A z2 z3 z4 z5 z6 z7 z8 z9 z10 z11 z12 z13 z14 z15 z16 z17 z18 : Option D}
theorem lp0_ok (hc : s.cells.length < 64) (ht : s.turn + 7 * 2 ^ 31 < 2 ^ 39) (hcl : ClE ext) : ∃ (h : Hs) (u : DS), lp0 [A, some (.ref 1), z2, z3, z4, z5, z6, z7, z8, z9, z10, z11, z12, z13, z14, z15, z16, z17, z18] (s.sto ++ ext) = some (.nx [A, some (.ref 1), z2, some (eH h), z4, z5, z6, z7, z8, z9, z10, z11, z12, z13, z14, z15, z16, z17, z18] (u.sto ++ ext)) ∧ h.Ok 21 ∧ Step (7 * 2 ^ 31) s u := by
  obtain ⟨h, u, e, o, t⟩ := holders_ok (ext := ext) (s := s) (many := 6) (by decide) (by decide) hc ht hcl
  have e' : f_l_law_pp_holders [.ref 1, .int 6] (s.sto ++ ext) = some (.ok (eH h) (u.sto ++ ext)) := e
  refine ⟨h, u, ?_, o, t⟩
  unfold lp0
  simp only [sSet, dArgs, dCons, dNil, dVar, dC, List.getElem?_cons_zero, List.getElem?_cons_succ, bindR_ok, e', bindS_ok, List.set]
theorem lp1_ok (o : h.Ok 21) : lp1 [A, some (.ref 1), z2, some (eH h), z4, z5, z6, z7, z8, z9, z10, z11, z12, z13, z14, z15, z16, z17, z18] (s.sto ++ ext) = some (.nx [A, some (.ref 1), z2, some (eH h), some (.int h.rows.length), some (.lst (h.names.map enc)), z6, z7, z8, z9, z10, z11, z12, z13, z14, z15, z16, z17, z18] (s.sto ++ ext)) := by
  unfold lp1
  simp only [sAsg, dArgs, dCons, dNil, dBin, dVar, dC, List.getElem?_cons_zero, List.getElem?_cons_succ, bindR_ok, eH1, fLen, asS, ok1, List.length_map, f_lwords_ok h _ o.rows.n6, fTup, List.length_cons, List.length_nil, Nat.zero_add, Nat.reduceAdd, two_le, if_true, bindS_ok, gUnp, gsCons, gNm, gsNil, List.set]
theorem lp2_ok (o : h.Ok 21) (ht : s.turn + 40 < 2 ^ 39) : ∃ (ps : List Rat) (u : DS), lp2 [A, some (.ref 1), z2, some (eH h), some (.int h.rows.length), some (.lst (h.names.map enc)), z6, z7, z8, z9, z10, z11, z12, z13, z14, z15, z16, z17, z18] (s.sto ++ ext) = some (.nx [A, some (.ref 1), z2, some (eH h), some (.int h.rows.length), some (.lst (h.names.map enc)), some (.tup (ps.map eR)), z7, z8, z9, z10, z11, z12, z13, z14, z15, z16, z17, z18] (u.sto ++ ext)) ∧ ps.length = h.names.length ∧ (∀ q ∈ ps, Bd 21 q) ∧ Step 24 s u := by
  have hn6 := o.rows.n6
  have := lc_draws (ext := ext) (dg := gNm 7) (de := dArgs f_l_law_number (dCons (dVar 1) (dCons (dC (.int 9)) (dNil)))) (env := wipeE [A, some (.ref 1), z2, some (eH h), some (.int h.rows.length), some (.lst (h.names.map enc)), z6, z7, z8, z9, z10, z11, z12, z13, z14, z15, z16, z17, z18] [7]) (fun i : Nat => .int (0 + (i : Int))) (fun _ (q : Rat) => eR q) (fun _ q => Bd 21 q) 4 (2 ^ 39 - 2) (List.range h.rows.length) s [] (fun i _ s hs => by
    obtain ⟨q, u, e1, b1, s1⟩ := number_ok (ext := ext) (s := s) 9 (by decide) (by omega) (by omega)
    have e1' : f_l_law_number [.ref 1, .int 9] (s.sto ++ ext) = some (.ok (eR q) (u.sto ++ ext)) := e1
    refine ⟨_, q, u, rfl, ?_, b1, s1⟩
    simp only [wipeE, List.set, dArgs, dCons, dNil, dVar, dC, List.getElem?_cons_zero, List.getElem?_cons_succ, bindR_ok, e1']) (by rw [List.length_range]; omega) (by rw [List.length_range]; simp; omega)
  obtain ⟨zs, u, e, e1, e2, e3⟩ := this
  have hl : zs.length = h.rows.length := by
    have := congrArg List.length e1
    simpa using this
  refine ⟨zs.map (·.2), u, ?_, by rw [List.length_map, hl]; simp [Hs.names], fun q hq => by obtain ⟨z, hz, rfl⟩ := List.mem_map.mp hq; exact e2 z hz, e3.mono (by rw [List.length_range]; omega)⟩
  have hr : (h.rows.length : Int) < 2 ^ 62 ∧ -(2 ^ 62 : Int) ≤ (h.rows.length : Int) := by
    rw [p62]
    omega
  have e0 : dRange1 (dCons (dVar 4) (dNil)) [A, some (.ref 1), z2, some (eH h), some (.int h.rows.length), some (.lst (h.names.map enc)), z6, z7, z8, z9, z10, z11, z12, z13, z14, z15, z16, z17, z18] (s.sto ++ ext) = some (.ok (rangeD 0 h.rows.length) (s.sto ++ ext)) := by
    have := range1_eval (a := dCons (dVar 4) (dNil)) (env := [A, some (.ref 1), z2, some (eH h), some (.int h.rows.length), some (.lst (h.names.map enc)), z6, z7, z8, z9, z10, z11, z12, z13, z14, z15, z16, z17, z18]) (st := s.sto ++ ext) (st1 := s.sto ++ ext) (j := (h.rows.length : Int)) (by simp only [dCons, dNil, dVar, List.getElem?_cons_zero, List.getElem?_cons_succ, bindR_ok]) hr
    rw [Int.toNat_natCast] at this
    exact this
  have e4 : dLc false [7] (dRange1 (dCons (dVar 4) (dNil))) (gNm 7) dYes (dArgs f_l_law_number (dCons (dVar 1) (dCons (dC (.int 9)) (dNil)))) [A, some (.ref 1), z2, some (eH h), some (.int h.rows.length), some (.lst (h.names.map enc)), z6, z7, z8, z9, z10, z11, z12, z13, z14, z15, z16, z17, z18] (s.sto ++ ext) = some (.ok (.lst ((zs.map (·.2)).map eR)) (u.sto ++ ext)) := by
    unfold dLc
    rw [e0]
    simp only [bindR_ok]
    rw [show rangeD 0 h.rows.length = (List.range h.rows.length).map fun i : Nat => D.int (0 + (i : Int)) from rfl, e]
    simp only [List.nil_append, mkL, Bool.false_eq_true, if_false, List.map_map, Function.comp_def]
  unfold lp2
  rw [sSet]
  unfold dArgs
  rw [dCons]
  have e5 := e4
  unfold dArgs at e5
  rw [e5]
  simp only [dNil, bindR_ok, fTuple, asL, ok1, bindS_ok, List.set]
theorem lp3_ok (o : h.Ok 21) (hl : ps.length = h.names.length) (hb : ∀ q ∈ ps, Bd 21 q) : lp3 [A, some (.ref 1), z2, some (eH h), some (.int h.rows.length), some (.lst (h.names.map enc)), some (.tup (ps.map eR)), z7, z8, z9, z10, z11, z12, z13, z14, z15, z16, z17, z18] (s.sto ++ ext) = some (.nx [A, some (.ref 1), z2, some (eH h), some (.int h.rows.length), some (.lst (h.names.map enc)), some (.tup (ps.map eR)), z7, some (.tup ((h.out ps).map eR)), z9, z10, z11, z12, z13, z14, z15, z16, z17, z18] (s.sto ++ ext)) := by
  unfold lp3
  simp only [sSet, dArgs, dCons, dNil, dVar, List.getElem?_cons_zero, List.getElem?_cons_succ, bindR_ok, f_lout_ok _ o.fit hl (show 21 + 21 < 9000 by decide) hb, bindS_ok, List.set]
theorem out_len : (h.out ps).length = h.names.length := by simp [Hs.out]
theorem lp4_ok (o : h.Ok 21) (hl : ps.length = h.names.length) (hb : ∀ q ∈ ps, Bd 21 q) (hcl : ClE ext) : lp4 [A, some (.ref 1), z2, some (eH h), some (.int h.rows.length), some (.lst (h.names.map enc)), some (.tup (ps.map eR)), z7, some (.tup ((h.out ps).map eR)), z9, z10, z11, z12, z13, z14, z15, z16, z17, z18] (s.sto ++ ext) = some (.nx [A, some (.ref 1), z2, some (eH h), some (.int h.rows.length), some (.lst (h.names.map enc)), some (.tup (ps.map eR)), z7, some (.tup ((h.out ps).map eR)), z9, z10, z11, z12, z13, z14, z15, z16, z17, z18] (s.sto ++ ext)) := by
  have hf := f_outcome_ok (h := h) (told := ps) (s.sto ++ ext) o.fit (f_is_holders_ok o _) hl (show 21 + 21 < 9000 by decide) hb
  have h6 := o.fit.names_len
  have hol := out_len (h := h) (ps := ps)
  unfold lp4
  rw [if_no (st1 := s.sto ++ ext)]
  · rfl
  · refine not_same (d := .lst [.tup ((h.out ps).map eR), .tup ((h.out ps).map eR)]) ?_ ?_ (pl_two (pl_qs _)) (by decide) (size_ok (by omega)) (cl_sto hcl)
    · simp only [dArgs, dArgsK, dCons, dNil, dVar, List.getElem?_cons_zero, List.getElem?_cons_succ, bindR_ok, hf, List.length_cons, List.length_nil, Nat.zero_add, Nat.reduceAdd, if_true, permL, List.filterMap_cons, List.filterMap_nil, fLst, two_le, mkL, Bool.false_eq_true, if_false]
    · simp only [dArgs, dCons, dNil, dVar, List.getElem?_cons_zero, List.getElem?_cons_succ, bindR_ok, List.length_cons, List.length_nil, Nat.zero_add, Nat.reduceAdd, fLst, two_le, if_true, mkL, Bool.false_eq_true, if_false]
theorem zip_out : zipD (h.names.map (enc : Str → D)) ((h.out ps).map eR) = h.names.map fun n => .tup [enc n, eR (h.top ps n)] := by
  unfold Hs.out
  rw [List.map_map]
  generalize h.names = ns
  induction ns with
  | nil => simp [zipD]
  | cons n ns ih => simp only [List.map_cons, zipD, ih, Function.comp]
theorem names_nd (o : h.Ok 21) : h.names.Nodup := by
  have := o.rows.srt
  have key : ∀ l : List (Str × Rat × Rat), (∀ p ∈ l.zip l.tail, p.1.1.cps.toList < p.2.1.cps.toList) → (l.map (·.1)).Pairwise fun a b => a.cps.toList < b.cps.toList := fun l => by
    induction l with
    | nil => intro _; exact List.Pairwise.nil
    | cons x l ih =>
      intro hz
      cases l with
      | nil => simp
      | cons y l =>
        have h1 := hz (x, y) (by simp)
        have h2 := ih fun p hp => hz p (by simp only [List.tail_cons, List.zip_cons_cons, List.mem_cons]; exact .inr hp)
        rw [List.map_cons, List.pairwise_cons]
        refine ⟨fun b hb => ?_, h2⟩
        rw [List.map_cons, List.pairwise_cons] at h2
        rw [List.map_cons] at hb
        rcases List.mem_cons.mp hb with rfl | hb
        · exact h1
        · exact List.lt_trans h1 (h2.1 b hb)
  exact (key h.rows this).imp fun {a b} hab z => by subst z; exact List.lt_irrefl _ hab
theorem lp5_ok (o : h.Ok 21) : lp5 [A, some (.ref 1), z2, some (eH h), some (.int h.rows.length), some (.lst (h.names.map enc)), some (.tup (ps.map eR)), z7, some (.tup ((h.out ps).map eR)), z9, z10, z11, z12, z13, z14, z15, z16, z17, z18] (s.sto ++ ext) = some (.nx [A, some (.ref 1), z2, some (eH h), some (.int h.rows.length), some (.lst (h.names.map enc)), some (.tup (ps.map eR)), z7, some (.tup ((h.out ps).map eR)), some (partD h ps), z10, z11, z12, z13, z14, z15, z16, z17, z18] (s.sto ++ ext)) := by
  have hd := dict_ok (fun n => eR (h.top ps n)) (names_nd o) (s.sto ++ ext)
  have hl : (h.names.map fun n => D.tup [enc n, eR (h.top ps n)]).length ≤ sizeLine := by rw [List.length_map]; exact size_ok (by have := o.fit.names_len; omega)
  unfold lp5
  simp only [sSet, dArgs, dCons, dNil, dListZip, dVar, List.getElem?_cons_zero, List.getElem?_cons_succ, bindR_ok, itemsV, zip_out, hl, if_true, mkL, Bool.false_eq_true, if_false, hd, bindS_ok, List.set, partD]
theorem top_in {w : Str} (hw : w ∈ h.names) (hl : ps.length = h.names.length) : h.top ps w ∈ ps := by
  obtain ⟨p, hp, _, e⟩ := top_get hw hl
  rw [← e]
  exact (List.of_mem_zip hp).1
theorem part_ix {w : Str} (hw : w ∈ h.names) (st : Sto) : opIx (partD h ps) (.str w) st = some (.ok (eR (h.top ps w)) st) := ix_dct (fun n => eR (h.top ps n)) hw st
theorem lp6_ok (o : h.Ok 21) (hl : ps.length = h.names.length) (hb : ∀ q ∈ ps, Bd 21 q) : lp6 [A, some (.ref 1), z2, some (eH h), some (.int h.rows.length), some (.lst (h.names.map enc)), some (.tup (ps.map eR)), z7, some (.tup ((h.out ps).map eR)), some (partD h ps), z10, z11, z12, z13, z14, z15, z16, z17, z18] (s.sto ++ ext) = some (.nx [A, some (.ref 1), z2, some (eH h), some (.int h.rows.length), some (.lst (h.names.map enc)), some (.tup (ps.map eR)), z7, some (.tup ((h.out ps).map eR)), some (partD h ps), z10, z11, z12, z13, z14, z15, z16, z17, z18] (s.sto ++ ext)) := by
  have e1 := lcL_pure (dg := gUnp 2 (gsCons (gNm 10) (gsCons (gNm 11) (gsNil)))) (dt := dTruth truD (dArgs f_l_law_less (dCons (dBin opIx (dVar 9) (dVar 10)) (dCons (dBin opIx (dVar 9) (dVar 11)) (dNil))))) (de := dC (.int 1)) (env := wipeE [A, some (.ref 1), z2, some (eH h), some (.int h.rows.length), some (.lst (h.names.map enc)), some (.tup (ps.map eR)), z7, some (.tup ((h.out ps).map eR)), some (partD h ps), z10, z11, z12, z13, z14, z15, z16, z17, z18] [10, 11]) (st := s.sto ++ ext) (enc : Pr → D) (fun _ => false) (fun _ => .int 1) h.passes [] (fun p hp => by
    have hi := o.pas.inn p hp
    have b1 := hb _ (top_in (ps := ps) hi.1 hl)
    have b2 := hb _ (top_in (ps := ps) hi.2 hl)
    have hle := top_mono (told := ps) o (a := p.1) hi.2 hl (can_iff.mpr (.inr hp))
    refine ⟨((wipeE [A, some (.ref 1), z2, some (eH h), some (.int h.rows.length), some (.lst (h.names.map enc)), some (.tup (ps.map eR)), z7, some (.tup ((h.out ps).map eR)), some (partD h ps), z10, z11, z12, z13, z14, z15, z16, z17, z18] [10, 11]).set 10 (some (.str p.1))).set 11 (some (.str p.2)), rfl, ?_, fun z => by cases z⟩
    simp only [wipeE, List.set, dTruth, dArgs, dCons, dNil, dBin, dVar, List.getElem?_cons_zero, List.getElem?_cons_succ, bindR_ok, part_ix hi.1, part_ix hi.2, f_lless_ok _ b1 b2 (show 21 + 21 < 9000 by decide), truD, Rat.not_lt.mpr hle, decide_false]) (by have := o.pas.few; simpa using this)
  have e2 : opNe (.lst []) (.lst []) (s.sto ++ ext) = some (.ok (.bl false) (s.sto ++ ext)) := by
    have := eqD_lst (α := Int) (st := s.sto ++ ext) (l := .lst []) (m := .lst []) (xs := []) (ys := []) rfl rfl (fun _ h => (nomatch h)) (fun _ h => (nomatch h))
    unfold opNe
    rw [this]
    rfl
  rw [List.filter_eq_nil_iff.mpr (fun _ _ => by simp)] at e1
  unfold lp6
  rw [if_no (st1 := s.sto ++ ext)]
  · rfl
  · refine ev_truth (x := .bl false) ?_ rfl
    refine (ev_bin ((ev_lc (ev_it ((ev_bin (ev_var rfl) ev_c).trans (eH2 h _)) rfl) e1).trans rfl) ((ev_args ev_nil).trans rfl)).trans e2
theorem lp7_ok (o : h.Ok 21) (hl : ps.length = h.names.length) (hb : ∀ q ∈ ps, Bd 21 q) : lp7 [A, some (.ref 1), z2, some (eH h), some (.int h.rows.length), some (.lst (h.names.map enc)), some (.tup (ps.map eR)), z7, some (.tup ((h.out ps).map eR)), some (partD h ps), z10, z11, z12, z13, z14, z15, z16, z17, z18] (s.sto ++ ext) = some (.nx [A, some (.ref 1), z2, some (eH h), some (.int h.rows.length), some (.lst (h.names.map enc)), some (.tup (ps.map eR)), z7, some (.tup ((h.out ps).map eR)), some (partD h ps), z10, z11, some (.tup ((h.names.map (h.low ps)).map eR)), z13, z14, z15, z16, z17, z18] (s.sto ++ ext)) := by
  have h6 := o.fit.names_len
  have hn6 : h.names.length ≤ sizeLine := size_ok (by omega)
  have e1 : ∀ w ∈ h.names, dArgs f_l_law_pp_least (dCons (dLc false [11] (dIt (dVar 5)) (gNm 11) (dTruth truD (dArgs f_l_law_pp_can (dCons (dVar 3) (dCons (dVar 11) (dCons (dVar 13) (dNil)))))) (dBin opIx (dVar 9) (dVar 11))) (dNil)) ((wipeE [A, some (.ref 1), z2, some (eH h), some (.int h.rows.length), some (.lst (h.names.map enc)), some (.tup (ps.map eR)), z7, some (.tup ((h.out ps).map eR)), some (partD h ps), z10, z11, z12, z13, z14, z15, z16, z17, z18] [13]).set 13 (some (enc w))) (s.sto ++ ext) = some (.ok (eR (h.low ps w)) (s.sto ++ ext)) := fun w hw => by
    have e2 := lcL_pure (dg := gNm 11) (dt := dTruth truD (dArgs f_l_law_pp_can (dCons (dVar 3) (dCons (dVar 11) (dCons (dVar 13) (dNil)))))) (de := dBin opIx (dVar 9) (dVar 11)) (env := wipeE ((wipeE [A, some (.ref 1), z2, some (eH h), some (.int h.rows.length), some (.lst (h.names.map enc)), some (.tup (ps.map eR)), z7, some (.tup ((h.out ps).map eR)), some (partD h ps), z10, z11, z12, z13, z14, z15, z16, z17, z18] [13]).set 13 (some (enc w))) [11]) (st := s.sto ++ ext) (enc : Str → D) (fun x => h.can x w) (fun x => eR (h.top ps x)) h.names [] (fun x hx => by
      refine ⟨_, rfl, ?_, fun _ => ?_⟩
      · simp only [wipeE, List.set, dTruth, dArgs, dCons, dNil, dVar, List.getElem?_cons_zero, List.getElem?_cons_succ, bindR_ok]
        rw [show (enc x : D) = .str x from rfl, show (enc w : D) = .str w from rfl, f_lcan_ok h _ (o.fit.ws x hx) (o.fit.ws w hw) o.fit.ps]
        simp only [bindR_ok, truD]
      · simp only [wipeE, List.set, dBin, dVar, List.getElem?_cons_zero, List.getElem?_cons_succ, bindR_ok]
        rw [show (enc x : D) = .str x from rfl, part_ix hx]) (by simpa using hn6)
    have hmem : h.top ps w ∈ (h.names.filter fun x => h.can x w).map (h.top ps) := List.mem_map.mpr ⟨w, List.mem_filter.mpr ⟨hw, can_refl w⟩, rfl⟩
    have hbd : ∀ x ∈ (h.names.filter fun x => h.can x w).map (h.top ps), Bd 21 x := fun x hx => by
      obtain ⟨y, hy, rfl⟩ := List.mem_map.mp hx
      exact hb _ (top_in (List.mem_filter.mp hy).1 hl)
    have e3 : f_l_law_pp_least [.lst (((h.names.filter fun x => h.can x w).map (h.top ps)).map eR)] (s.sto ++ ext) = some (.ok (eR (h.low ps w)) (s.sto ++ ext)) := by
      unfold Hs.low
      cases hq : (h.names.filter fun x => h.can x w).map (h.top ps) with
      | nil => rw [hq] at hmem; cases hmem
      | cons q qs =>
        rw [hq] at hbd
        exact f_least_ok (qs := qs) (q := q) _ (show 21 + 21 < 9000 by decide) hbd
    rw [List.map_map] at e3
    exact (ev_args (ev_one ((ev_lc (ev_it (ev_var rfl) rfl) e2).trans rfl))).trans e3
  have e4 := lcL_all (dg := gNm 13) (de := dArgs f_l_law_pp_least (dCons (dLc false [11] (dIt (dVar 5)) (gNm 11) (dTruth truD (dArgs f_l_law_pp_can (dCons (dVar 3) (dCons (dVar 11) (dCons (dVar 13) (dNil)))))) (dBin opIx (dVar 9) (dVar 11))) (dNil))) (env := wipeE [A, some (.ref 1), z2, some (eH h), some (.int h.rows.length), some (.lst (h.names.map enc)), some (.tup (ps.map eR)), z7, some (.tup ((h.out ps).map eR)), some (partD h ps), z10, z11, z12, z13, z14, z15, z16, z17, z18] [13]) (st := s.sto ++ ext) (enc : Str → D) (fun w => eR (h.low ps w)) h.names (fun w hw => ⟨_, rfl, e1 w hw⟩) hn6
  unfold lp7
  have e5 := ev_set (i := 12) ((ev_args (f := fTuple) (ev_one ((ev_lc (cell := false) (ev_it (a := dVar 5) (ev_var rfl) rfl) e4).trans rfl))).trans (show fTuple [.lst (h.names.map fun w => eR (h.low ps w))] (s.sto ++ ext) = some (.ok (.tup (h.names.map fun w => eR (h.low ps w))) (s.sto ++ ext)) from rfl))
  refine e5.trans ?_
  simp only [List.set, List.map_map, Function.comp_def]
end
end Pd
end
section
set_option Elab.async false
set_option linter.all false
set_option maxRecDepth 100000
namespace Pd
open PySem PySem.Spec L2 LamX
open PyProof.Rows hiding St
open PySem.W (Datum DatumOrd)
open Enc (enc)
section
variable {ext : Sto} {h : Hs} {ps : List Rat} {s : DS} {A z2 z3 z4 z5 z6 z7 z8 z9 z10 z11 z12 z13 z14 z15 z16 z17 z18 : Option D}
theorem lp8_ok (o : h.Ok 21) (hl : ps.length = h.names.length) (hb : ∀ q ∈ ps, Bd 21 q) (hcl : ClE ext) : lp8 [A, some (.ref 1), z2, some (eH h), some (.int h.rows.length), some (.lst (h.names.map enc)), some (.tup (ps.map eR)), z7, some (.tup ((h.out ps).map eR)), some (partD h ps), z10, z11, some (.tup ((h.names.map (h.low ps)).map eR)), z13, z14, z15, z16, z17, z18] (s.sto ++ ext) = some (.nx [A, some (.ref 1), z2, some (eH h), some (.int h.rows.length), some (.lst (h.names.map enc)), some (.tup (ps.map eR)), z7, some (.tup ((h.out ps).map eR)), some (partD h ps), z10, z11, some (.tup ((h.names.map (h.low ps)).map eR)), z13, z14, z15, z16, z17, z18] (s.sto ++ ext)) := by
  have hl2 : (h.names.map (h.low ps)).length = h.names.length := by rw [List.length_map]
  have hb2 : ∀ q ∈ h.names.map (h.low ps), Bd 21 q := fun q hq => by
    obtain ⟨w, hw, rfl⟩ := List.mem_map.mp hq
    have hmem : h.top ps w ∈ (h.names.filter fun x => h.can x w).map (h.top ps) := List.mem_map.mpr ⟨w, List.mem_filter.mpr ⟨hw, can_refl w⟩, rfl⟩
    have h1 := (headMin_ok (List.ne_nil_of_mem hmem)).1
    obtain ⟨y, hy, e⟩ := List.mem_map.mp h1
    show Bd 21 (headMin _)
    rw [← e]
    exact hb _ (top_in (List.mem_filter.mp hy).1 hl)
  have hf := f_outcome_ok (h := h) (told := h.names.map (h.low ps)) (s.sto ++ ext) o.fit (f_is_holders_ok o _) hl2 (show 21 + 21 < 9000 by decide) hb2
  rw [again_ok o hl] at hf
  have h6 := o.fit.names_len
  have hol := out_len (h := h) (ps := ps)
  unfold lp8
  refine (if_no (st1 := s.sto ++ ext) (not_same (d := .tup ((h.out ps).map eR)) ?_ (ev_var rfl) (pl_qs _) (by decide) (size_ok (by omega)) (cl_sto hcl))).trans rfl
  exact (ev_args (ev_two (ev_var rfl) (ev_var rfl))).trans hf
noncomputable def lp9b : DenS := sSeq (sSet 15 (dArgs f_l_law_pp_loss (dCons (dVar 3) (dCons (dVar 14) (dNil))))) (sIf (dNot (dTruth truD (dArgs f_l_law_same (dCons (dArgs (fLst false) (dCons (dArgs f_loss (dCons (dVar 3) (dCons (dVar 14) (dNil)))) (dCons (dArgsK [1, 0] f_loss (dCons (dVar 14) (dCons (dVar 3) (dNil)))) (dNil)))) (dCons (dArgs (fLst false) (dCons (dVar 15) (dCons (dVar 15) (dNil)))) (dNil)))))) (sRet (dC (.bl false))) (sSkip))
theorem lst2 (x y : D) (st : Sto) : fLst false [x, y] st = some (.ok (.lst [x, y]) st) := by
  unfold fLst
  rw [if_pos (show [x, y].length ≤ sizeLine from two_le)]
  rfl
theorem lp9b_ok {qs : List Rat} (o : h.Ok 21) (hl : qs.length = h.names.length) (hb : ∀ q ∈ qs, Bd 21 q) (hcl : ClE ext) : lp9b [A, some (.ref 1), z2, some (eH h), some (.int h.rows.length), some (.lst (h.names.map enc)), some (.tup (ps.map eR)), z7, some (.tup ((h.out ps).map eR)), some (partD h ps), z10, z11, some (.tup ((h.names.map (h.low ps)).map eR)), z13, some (.tup (qs.map eR)), z15, z16, z17, z18] (s.sto ++ ext) = some (.nx [A, some (.ref 1), z2, some (eH h), some (.int h.rows.length), some (.lst (h.names.map enc)), some (.tup (ps.map eR)), z7, some (.tup ((h.out ps).map eR)), some (partD h ps), z10, z11, some (.tup ((h.names.map (h.low ps)).map eR)), z13, some (.tup (qs.map eR)), some (eR (h.loss qs)), z16, z17, z18] (s.sto ++ ext)) := by
  have hf := f_loss_ok (h := h) (told := qs) (s.sto ++ ext) o.fit (f_is_holders_ok o _) hl (show 21 ≤ 200 by decide) hb o.bds
  have hg := f_lloss_ok (h := h) (told := qs) (s.sto ++ ext) o.fit hl (show 21 ≤ 200 by decide) hb o.bds
  unfold lp9b
  refine (seq_go (ev_set ((ev_args (ev_two (ev_var rfl) (ev_var rfl))).trans hg))).trans ?_
  simp only [List.set]
  refine (if_no (st1 := s.sto ++ ext) (not_same (d := .lst [eR (h.loss qs), eR (h.loss qs)]) ?_ ?_ (pl_two (pl_eR _)) (by decide) (size_ok (by omega)) (cl_sto hcl))).trans rfl
  · exact (ev_args (ev_two ((ev_args (ev_two (ev_var rfl) (ev_var rfl))).trans hf) ((ev_argsK (ev_two (ev_var rfl) (ev_var rfl)) rfl).trans hf))).trans (lst2 _ _ _)
  · exact (ev_args (ev_two (ev_var rfl) (ev_var rfl))).trans (lst2 _ _ _)
theorem lp9_ok (o : h.Ok 21) (hl : ps.length = h.names.length) (hb : ∀ q ∈ ps, Bd 21 q) (hcl : ClE ext) : ∃ y14 y15, lp9 [A, some (.ref 1), z2, some (eH h), some (.int h.rows.length), some (.lst (h.names.map enc)), some (.tup (ps.map eR)), z7, some (.tup ((h.out ps).map eR)), some (partD h ps), z10, z11, some (.tup ((h.names.map (h.low ps)).map eR)), z13, z14, z15, z16, z17, z18] (s.sto ++ ext) = some (.nx [A, some (.ref 1), z2, some (eH h), some (.int h.rows.length), some (.lst (h.names.map enc)), some (.tup (ps.map eR)), z7, some (.tup ((h.out ps).map eR)), some (partD h ps), z10, z11, some (.tup ((h.names.map (h.low ps)).map eR)), z13, y14, y15, z16, z17, z18] (s.sto ++ ext)) := by
  have hb2 : ∀ q ∈ h.out ps, Bd 21 q := fun q hq => by
    obtain ⟨w, hw, rfl⟩ := List.mem_map.mp hq
    exact hb _ (top_in hw hl)
  have e1 := lp9b_ok (ext := ext) (s := s) (ps := ps) (A := A) (z2 := z2) (z7 := z7) (z10 := z10) (z11 := z11) (z13 := z13) (z15 := z15) (z16 := z16) (z17 := z17) (z18 := z18) o out_len hb2 hcl
  have e2 := lp9b_ok (ext := ext) (s := s) (ps := ps) (A := A) (z2 := z2) (z7 := z7) (z10 := z10) (z11 := z11) (z13 := z13) (z15 := some (eR (h.loss (h.out ps)))) (z16 := z16) (z17 := z17) (z18 := z18) o hl hb hcl
  refine ⟨some (.tup (ps.map eR)), some (eR (h.loss ps)), ?_⟩
  · unfold lp9
    refine (ev_for (ev_it ((ev_args (ev_two (ev_var rfl) (ev_var rfl))).trans (lst2 _ _ _)) rfl)).trans ?_
    simp only [forL, gNm, List.set]
    rw [show (sSeq (sSet 15 (dArgs f_l_law_pp_loss (dCons (dVar 3) (dCons (dVar 14) (dNil))))) (sIf (dNot (dTruth truD (dArgs f_l_law_same (dCons (dArgs (fLst false) (dCons (dArgs f_loss (dCons (dVar 3) (dCons (dVar 14) (dNil)))) (dCons (dArgsK [1, 0] f_loss (dCons (dVar 14) (dCons (dVar 3) (dNil)))) (dNil)))) (dCons (dArgs (fLst false) (dCons (dVar 15) (dCons (dVar 15) (dNil)))) (dNil)))))) (sRet (dC (.bl false))) (sSkip))) = lp9b from rfl, e1]
    simp only [List.set]
    rw [e2]
def wrongs (ps : List Rat) (n : Nat) : List D := [.non, .lst (ps.map eR), .tup (ps.map eR).tail, .tup (ps.map eR ++ [.tup [.int 0, .int 1]]), .tup (List.replicate n (.int 0)), .tup (List.replicate n (.tup [.int 2, .int 4])), .tup (List.replicate n (.tup [.int 1, .int 0])), .tup (List.replicate n (.bl true))]
theorem wrong_bad {w : D} {st : Sto} (o : h.Ok 21) (hl : ps.length = h.names.length) (hw : w ∈ wrongs ps h.rows.length) : f_are_ratios [eH h, w] st = some (.ok (.bl false) st) := by
  have hn : h.rows.length = h.names.length := by simp [Hs.names]
  have h2 := o.rows.n2
  have h6 := o.rows.n6
  simp only [wrongs, List.mem_cons, List.mem_nil_iff, or_false] at hw
  rcases hw with rfl | rfl | rfl | rfl | rfl | rfl | rfl | rfl
  · exact wr_kind (κ := .non) rfl (by decide)
  · exact wr_kind (κ := .lst) rfl (by decide)
  · exact wr_len (by rw [List.length_tail, List.length_map]; omega)
  · exact wr_len (by rw [List.length_append, List.length_map]; simp; omega)
  · exact wr_all (rat_kind (κ := .int) rfl (by decide)) rfl (by omega) h6
  · exact wr_all (rat_bad (by decide)) rfl (by omega) h6
  · exact wr_all (rat_bad (by decide)) rfl (by omega) h6
  · exact wr_all (rat_kind (κ := .bl) rfl (by decide)) rfl (by omega) h6
theorem mul_rep {x : D} {n : Nat} {st : Sto} (h2 : 2 ≤ n) (h6 : n ≤ 6) : opMul false (.tup [x]) (.int n) st = some (.ok (.tup (List.replicate n x)) st) := by
  have hc : [x] ≠ [] ∧ (2 : Int) ≤ (n : Int) ∧ (n : Int) ≤ 1000 ∧ [x].length ≤ 1000 := ⟨by simp, by omega, by omega, by simp⟩
  have hf : ∀ n : Nat, (List.replicate n [x]).flatten = List.replicate n x := fun n => by
    induction n with
    | zero => rfl
    | succ n ih => rw [List.replicate_succ, List.flatten_cons, ih]; rfl
  unfold opMul
  dsimp only
  rw [if_pos hc, Int.toNat_natCast, hf]
  rfl
theorem tup1 (x : D) (st : Sto) : fTup [x] st = some (.ok (.tup [x]) st) := by
  unfold fTup
  exact if_pos (show [x].length ≤ sizeLine from one_le0)
theorem tup2 (x y : D) (st : Sto) : fTup [x, y] st = some (.ok (.tup [x, y]) st) := by
  unfold fTup
  exact if_pos (show [x, y].length ≤ sizeLine from two_le)
theorem lp10_ok (o : h.Ok 21) (hl : ps.length = h.names.length) (ht : s.turn + 10 < 2 ^ 39) : ∃ (d w : D) (u : DS), lp10 [A, some (.ref 1), z2, some (eH h), some (.int h.rows.length), some (.lst (h.names.map enc)), some (.tup (ps.map eR)), z7, some (.tup ((h.out ps).map eR)), some (partD h ps), z10, z11, some (.tup ((h.names.map (h.low ps)).map eR)), z13, z14, z15, z16, z17, z18] (s.sto ++ ext) = some (.nx [A, some (.ref 1), z2, some (eH h), some (.int h.rows.length), some (.lst (h.names.map enc)), some (.tup (ps.map eR)), z7, some (.tup ((h.out ps).map eR)), some (partD h ps), z10, z11, some (.tup ((h.names.map (h.low ps)).map eR)), z13, z14, z15, some d, some w, z18] (u.sto ++ ext)) ∧ d ∈ oddsL ∧ w ∈ wrongs ps h.rows.length ∧ Step 2 s u := by
  obtain ⟨d, s1, e1, m1, t1⟩ := odd_ok (ext := ext) (s := s) (by omega)
  have := t1.up
  obtain ⟨w, s2, e2, m2, t2⟩ := pick_ok (ext := ext) (s := s1) (ds := wrongs ps h.rows.length) (by simp [wrongs]) (by simp [wrongs]) (by omega)
  refine ⟨d, w, s2, ?_, m1, m2, t1.trans t2⟩
  have h2 := o.rows.n2
  have h6 := o.rows.n6
  have hn : h.rows.length = h.names.length := by simp [Hs.names]
  have ha : opAdd false (.tup (ps.map eR)) (.tup [.tup [.int 0, .int 1]]) (s1.sto ++ ext) = some (.ok (.tup (ps.map eR ++ [.tup [.int 0, .int 1]])) (s1.sto ++ ext)) := by
    have : (ps.map eR).length + [D.tup [.int 0, .int 1]].length ≤ sizeLine := by rw [List.length_map]; simp only [List.length_cons, List.length_nil]; exact size_ok (by omega)
    unfold opAdd
    exact if_pos this
  have hsl : opSl false (.tup (ps.map eR)) (some 1) none (s1.sto ++ ext) = some (.ok (.tup (ps.map eR).tail) (s1.sto ++ ext)) := by
    unfold opSl
    dsimp only
    rw [cutD_tail]
    rfl
  have h8 : fLst false (wrongs ps h.rows.length) (s1.sto ++ ext) = some (.ok (.lst (wrongs ps h.rows.length)) (s1.sto ++ ext)) := by
    unfold fLst
    rw [if_pos (size_ok (by simp [wrongs]))]
    rfl
  unfold lp10
  have eW : (dCons (dC .non) (dCons (dArgs (fList false) (dCons (dVar 6) (dNil))) (dCons (dSlice (opSl false) (dVar 6) (dPart (dC (.int 1))) dNoPart) (dCons (dBin (opAdd false) (dVar 6) (dArgs fTup (dCons (dArgs fTup (dCons (dC (.int 0)) (dCons (dC (.int 1)) (dNil)))) (dNil)))) (dCons (dBin (opMul false) (dArgs fTup (dCons (dC (.int 0)) (dNil))) (dVar 4)) (dCons (dBin (opMul false) (dArgs fTup (dCons (dArgs fTup (dCons (dC (.int 2)) (dCons (dC (.int 4)) (dNil)))) (dNil))) (dVar 4)) (dCons (dBin (opMul false) (dArgs fTup (dCons (dArgs fTup (dCons (dC (.int 1)) (dCons (dC (.int 0)) (dNil)))) (dNil))) (dVar 4)) (dCons (dBin (opMul false) (dArgs fTup (dCons (dC (.bl true)) (dNil))) (dVar 4)) (dNil))))))))) [A, some (.ref 1), z2, some (eH h), some (.int h.rows.length), some (.lst (h.names.map enc)), some (.tup (ps.map eR)), z7, some (.tup ((h.out ps).map eR)), some (partD h ps), z10, z11, some (.tup ((h.names.map (h.low ps)).map eR)), z13, z14, z15, z16, z17, z18] (s1.sto ++ ext) = some (.ok (wrongs ps h.rows.length) (s1.sto ++ ext)) :=
    ev_cons ev_c (ev_cons ((ev_args (ev_one (ev_var rfl))).trans rfl) (ev_cons ((ev_slice (ev_var rfl) (ev_part ev_c) rfl).trans hsl)
      (ev_cons ((ev_bin (ev_var rfl) ((ev_args (ev_one ((ev_args (ev_two ev_c ev_c)).trans (tup2 _ _ _)))).trans (tup1 _ _))).trans ha)
      (ev_cons ((ev_bin ((ev_args (ev_one ev_c)).trans (tup1 _ _)) (ev_var rfl)).trans (mul_rep h2 h6))
      (ev_cons ((ev_bin ((ev_args (ev_one ((ev_args (ev_two ev_c ev_c)).trans (tup2 _ _ _)))).trans (tup1 _ _)) (ev_var rfl)).trans (mul_rep h2 h6))
      (ev_cons ((ev_bin ((ev_args (ev_one ((ev_args (ev_two ev_c ev_c)).trans (tup2 _ _ _)))).trans (tup1 _ _)) (ev_var rfl)).trans (mul_rep h2 h6))
      (ev_one ((ev_bin ((ev_args (ev_one ev_c)).trans (tup1 _ _)) (ev_var rfl)).trans (mul_rep h2 h6)))))))))
  have eP := (ev_args (f := f_l_law_pick) (ev_two (a := dVar 1) (env := [A, some (.ref 1), z2, some (eH h), some (.int h.rows.length), some (.lst (h.names.map enc)), some (.tup (ps.map eR)), z7, some (.tup ((h.out ps).map eR)), some (partD h ps), z10, z11, some (.tup ((h.names.map (h.low ps)).map eR)), z13, z14, z15, z16, z17, z18]) (ev_var rfl) ((ev_args (f := fLst false) eW).trans h8))).trans e2
  have eO := (ev_args (f := f_l_law_odd) (ev_one (a := dVar 1) (env := [A, some (.ref 1), z2, some (eH h), some (.int h.rows.length), some (.lst (h.names.map enc)), some (.tup (ps.map eR)), z7, some (.tup ((h.out ps).map eR)), some (partD h ps), z10, z11, some (.tup ((h.names.map (h.low ps)).map eR)), z13, z14, z15, z16, z17, z18]) (ev_var rfl))).trans e1
  exact ev_asg ((ev_args (ev_two eO eP)).trans (tup2 _ _ _)) rfl
theorem lp11_ok {d w : D} (hd : d ∈ oddsL) : ∃ y18, lp11 [A, some (.ref 1), z2, some (eH h), some (.int h.rows.length), some (.lst (h.names.map enc)), some (.tup (ps.map eR)), z7, some (.tup ((h.out ps).map eR)), some (partD h ps), z10, z11, some (.tup ((h.names.map (h.low ps)).map eR)), z13, z14, z15, some d, some w, z18] (s.sto ++ ext) = some (.nx [A, some (.ref 1), z2, some (eH h), some (.int h.rows.length), some (.lst (h.names.map enc)), some (.tup (ps.map eR)), z7, some (.tup ((h.out ps).map eR)), some (partD h ps), z10, z11, some (.tup ((h.names.map (h.low ps)).map eR)), z13, z14, z15, some d, some w, y18] (s.sto ++ ext)) := by
  have b := odd_not hd (s.sto ++ ext)
  have hm : ("BadHolders" : Str) ∈ clsN := List.mem_cons_self
  have f1 : fs_law_ask "outcome" = some f_outcome := if_pos rfl
  have f2 : fs_law_ask "loss" = some f_loss := by
    unfold fs_law_ask
    rw [if_neg (by decide +kernel), if_pos rfl]
  have c1 : ∀ (f : Str) (F : List D → Sto → Option (R D)), fs_law_ask f = some F → F [d, w] (s.sto ++ ext) = some (.ex "BadHolders" (s.sto ++ ext)) →
      sIf (dNot (dTruth truD (dIsX "BadHolders" (dCaught clsN (dCallV 18 fs_law_ask (dCons (dVar 16) (dCons (dVar 17) (dNil)))))))) (sRet (dC (.bl false))) (sSkip) [A, some (.ref 1), z2, some (eH h), some (.int h.rows.length), some (.lst (h.names.map enc)), some (.tup (ps.map eR)), z7, some (.tup ((h.out ps).map eR)), some (partD h ps), z10, z11, some (.tup ((h.names.map (h.low ps)).map eR)), z13, z14, z15, some d, some w, some (.fn f)] (s.sto ++ ext) = some (.nx [A, some (.ref 1), z2, some (eH h), some (.int h.rows.length), some (.lst (h.names.map enc)), some (.tup (ps.map eR)), z7, some (.tup ((h.out ps).map eR)), some (partD h ps), z10, z11, some (.tup ((h.names.map (h.low ps)).map eR)), z13, z14, z15, some d, some w, some (.fn f)] (s.sto ++ ext)) := fun f F hf hF => by
    have hcall : dCallV 18 fs_law_ask (dCons (dVar 16) (dCons (dVar 17) (dNil))) [A, some (.ref 1), z2, some (eH h), some (.int h.rows.length), some (.lst (h.names.map enc)), some (.tup (ps.map eR)), z7, some (.tup ((h.out ps).map eR)), some (partD h ps), z10, z11, some (.tup ((h.names.map (h.low ps)).map eR)), z13, z14, z15, some d, some w, some (.fn f)] (s.sto ++ ext) = some (.ex "BadHolders" (s.sto ++ ext)) := by
      unfold dCallV
      simp only [List.getElem?_cons_zero, List.getElem?_cons_succ]
      rw [hf]
      dsimp only
      rw [ev_two (ev_var rfl) (ev_var rfl), bindR_ok]
      exact hF
    exact (if_no (ev_not (k := true) (ev_truth (ev_isX (ev_caught hcall hm)) rfl))).trans rfl
  refine ⟨some (.fn "loss"), ?_⟩
  unfold lp11
  refine (ev_for (ev_it ((ev_args (ev_two ev_c ev_c)).trans (lst2 _ _ _)) rfl)).trans ?_
  simp only [forL, gNm, List.set]
  rw [c1 "outcome" f_outcome f1 (outcome_bad1 b)]
  simp only [List.set]
  rw [c1 "loss" f_loss f2 (loss_bad1 b)]
theorem lp12_ok {w : D} (o : h.Ok 21) (hw : ∀ st, f_are_ratios [eH h, w] st = some (.ok (.bl false) st)) : lp12 [A, some (.ref 1), z2, some (eH h), some (.int h.rows.length), some (.lst (h.names.map enc)), some (.tup (ps.map eR)), z7, some (.tup ((h.out ps).map eR)), some (partD h ps), z10, z11, some (.tup ((h.names.map (h.low ps)).map eR)), z13, z14, z15, z16, some w, z18] (s.sto ++ ext) = some (.nx [A, some (.ref 1), z2, some (eH h), some (.int h.rows.length), some (.lst (h.names.map enc)), some (.tup (ps.map eR)), z7, some (.tup ((h.out ps).map eR)), some (partD h ps), z10, z11, some (.tup ((h.names.map (h.low ps)).map eR)), z13, z14, z15, z16, some w, z18] (s.sto ++ ext)) := by
  unfold lp12
  exact (if_no (ev_not (k := true) (ev_truth (ev_isX (ev_caught ((ev_args (ev_two (ev_var rfl) (ev_var rfl))).trans (outcome_bad2 (f_is_holders_ok o _) (hw _))) (show _ ∈ clsN from List.mem_cons_of_mem _ List.mem_cons_self))) rfl))).trans rfl
theorem lp13_ok {w : D} (o : h.Ok 21) (hw : ∀ st, f_are_ratios [eH h, w] st = some (.ok (.bl false) st)) : lp13 [A, some (.ref 1), z2, some (eH h), some (.int h.rows.length), some (.lst (h.names.map enc)), some (.tup (ps.map eR)), z7, some (.tup ((h.out ps).map eR)), some (partD h ps), z10, z11, some (.tup ((h.names.map (h.low ps)).map eR)), z13, z14, z15, z16, some w, z18] (s.sto ++ ext) = some (.nx [A, some (.ref 1), z2, some (eH h), some (.int h.rows.length), some (.lst (h.names.map enc)), some (.tup (ps.map eR)), z7, some (.tup ((h.out ps).map eR)), some (partD h ps), z10, z11, some (.tup ((h.names.map (h.low ps)).map eR)), z13, z14, z15, z16, some w, z18] (s.sto ++ ext)) := by
  unfold lp13
  exact (if_no (ev_not (k := true) (ev_truth (ev_isX (ev_caught ((ev_args (ev_two (ev_var rfl) (ev_var rfl))).trans (loss_bad2 (f_is_holders_ok o _) (hw _))) (show _ ∈ clsN from List.mem_cons_of_mem _ (List.mem_cons_of_mem _ List.mem_cons_self)))) rfl))).trans rfl
noncomputable def lapB : DenS := sSeq lp0 (sSeq lp1 (sSeq lp2 (sSeq lp3 (sSeq lp4 (sSeq lp5 (sSeq lp6 (sSeq lp7 (sSeq lp8 (sSeq lp9 (sSeq lp10 (sSeq lp11 (sSeq lp12 lp13))))))))))))
theorem lap_ok (hc : s.cells.length < 64) (ht : s.turn + 8 * 2 ^ 31 < 2 ^ 39) (hcl : ClE ext) : ∃ (y3 y4 y5 y6 y8 y9 y12 y14 y15 y16 y17 y18 : Option D) (u : DS), lapB [A, some (.ref 1), z2, z3, z4, z5, z6, z7, z8, z9, z10, z11, z12, z13, z14, z15, z16, z17, z18] (s.sto ++ ext) = some (.nx [A, some (.ref 1), z2, y3, y4, y5, y6, z7, y8, y9, z10, z11, y12, z13, y14, y15, y16, y17, y18] (u.sto ++ ext)) ∧ Step (8 * 2 ^ 31) s u := by
  obtain ⟨h, s1, e0, o, t0⟩ := lp0_ok (ext := ext) (s := s) (A := A) (z2 := z2) (z3 := z3) (z4 := z4) (z5 := z5) (z6 := z6) (z7 := z7) (z8 := z8) (z9 := z9) (z10 := z10) (z11 := z11) (z12 := z12) (z13 := z13) (z14 := z14) (z15 := z15) (z16 := z16) (z17 := z17) (z18 := z18) hc (by omega) hcl
  have u0 := t0.up
  obtain ⟨ps, s2, e2, hl, hb, t2⟩ := lp2_ok (ext := ext) (s := s1) (h := h) (A := A) (z2 := z2) (z6 := z6) (z7 := z7) (z8 := z8) (z9 := z9) (z10 := z10) (z11 := z11) (z12 := z12) (z13 := z13) (z14 := z14) (z15 := z15) (z16 := z16) (z17 := z17) (z18 := z18) o (by omega)
  have u2 := t2.up
  obtain ⟨y14, y15, e9⟩ := lp9_ok (ext := ext) (s := s2) (h := h) (ps := ps) (A := A) (z2 := z2) (z7 := z7) (z10 := z10) (z11 := z11) (z13 := z13) (z14 := z14) (z15 := z15) (z16 := z16) (z17 := z17) (z18 := z18) o hl hb hcl
  obtain ⟨d, w, s3, e10, hd, hw, t3⟩ := lp10_ok (ext := ext) (s := s2) (h := h) (ps := ps) (A := A) (z2 := z2) (z7 := z7) (z10 := z10) (z11 := z11) (z13 := z13) (z14 := y14) (z15 := y15) (z16 := z16) (z17 := z17) (z18 := z18) o hl (by omega)
  have u3 := t3.up
  obtain ⟨y18, e11⟩ := lp11_ok (ext := ext) (s := s3) (h := h) (ps := ps) (A := A) (z2 := z2) (z7 := z7) (z10 := z10) (z11 := z11) (z13 := z13) (z14 := y14) (z15 := y15) (z18 := z18) (d := d) (w := w) hd
  have hw' : ∀ st, f_are_ratios [eH h, w] st = some (.ok (.bl false) st) := fun st => wrong_bad o hl hw
  refine ⟨some (eH h), some (.int h.rows.length), some (.lst (h.names.map enc)), some (.tup (ps.map eR)), some (.tup ((h.out ps).map eR)), some (partD h ps), some (.tup ((h.names.map (h.low ps)).map eR)), y14, y15, some d, some w, y18, s3, ?_, ((t0.trans t2).trans t3).mono (by omega)⟩
  unfold lapB
  refine (seq_go e0).trans ((seq_go (lp1_ok o)).trans ((seq_go e2).trans ((seq_go (lp3_ok o hl hb)).trans ((seq_go (lp4_ok o hl hb hcl)).trans ((seq_go (lp5_ok o)).trans ((seq_go (lp6_ok o hl hb)).trans ((seq_go (lp7_ok o hl hb)).trans ((seq_go (lp8_ok o hl hb hcl)).trans ((seq_go e9).trans ((seq_go e10).trans ((seq_go e11).trans ((seq_go (lp12_ok o hw')).trans (lp13_ok o hw')))))))))))))
theorem laps_ok (hcl : ClE ext) : ∀ (items : List D) (s : DS) (z2 z3 z4 z5 z6 z7 z8 z9 z10 z11 z12 z13 z14 z15 z16 z17 z18 : Option D), s.cells.length < 64 → s.turn + items.length * (8 * 2 ^ 31) + 8 * 2 ^ 31 < 2 ^ 39 →
    ∃ (env' : En) (u : DS), forL (gNm 2) lapB items [A, some (.ref 1), z2, z3, z4, z5, z6, z7, z8, z9, z10, z11, z12, z13, z14, z15, z16, z17, z18] (s.sto ++ ext) = some (.nx env' (u.sto ++ ext))
  | [], s, _, _, _, _, _, _, _, _, _, _, _, _, _, _, _, _, _, _, _ => ⟨_, s, rfl⟩
  | i :: items, s, z2, z3, z4, z5, z6, z7, z8, z9, z10, z11, z12, z13, z14, z15, z16, z17, z18, hc, ht => by
    simp only [List.length_cons, Nat.succ_mul] at ht
    obtain ⟨y3, y4, y5, y6, y8, y9, y12, y14, y15, y16, y17, y18, u, e, t⟩ := lap_ok (ext := ext) (s := s) (A := A) (z2 := some i) (z3 := z3) (z4 := z4) (z5 := z5) (z6 := z6) (z7 := z7) (z8 := z8) (z9 := z9) (z10 := z10) (z11 := z11) (z12 := z12) (z13 := z13) (z14 := z14) (z15 := z15) (z16 := z16) (z17 := z17) (z18 := z18) hc (by omega) hcl
    have := t.up
    obtain ⟨env', v, e2⟩ := laps_ok hcl items u (some i) y3 y4 y5 y6 z7 y8 y9 z10 z11 y12 z13 y14 y15 y16 y17 y18 (by rw [t.cells]; exact hc) (by omega)
    refine ⟨env', v, ?_⟩
    simp only [forL, gNm, List.set]
    rw [e]
    exact e2
end
theorem law_eq : b_law = sSeq (sSet 1 (dArgs f_l_law_begun (dCons (dVar 0) (dNil)))) (sSeq (sFor (dRange1 (dCons (dBin (opAdd false) (dC (.int 3)) (dArgs fMin2 (dCons (dArgs fLen (dCons (dVar 0) (dNil))) (dCons (dC (.int 5)) (dNil))))) (dNil))) (gNm 2) lapB) (sRet (dC (.bl true)))) := rfl
theorem law70_ok {A : D} {ns : List Int} (hA : itemsA A = some (ns.map D.int)) (hB : ∀ st, fLen [A] st = some (.ok (.int ns.length) st)) (hl : ns.length ≤ 63) : f_law [A] [] = some (.ok (.bl true) []) := by
  have e1 := begun_ok hA hl
  have hmin : ∀ st, fMin2 [.int (ns.length : Int), .int 5] st = some (.ok (.int ((min ns.length 5 : Nat) : Int)) st) := fun st => by
    have : (if (5 : Int) < (ns.length : Int) then (5 : Int) else (ns.length : Int)) = ((min ns.length 5 : Nat) : Int) := by split <;> omega
    simp only [fMin2, ok1, this]
  have hr : ((3 + min ns.length 5 : Nat) : Int) < 2 ^ 62 ∧ -(2 ^ 62 : Int) ≤ ((3 + min ns.length 5 : Nat) : Int) := by
    rw [p62]
    omega
  have hlen : (rangeD 0 (3 + min ns.length 5)).length = 3 + min ns.length 5 := by unfold rangeD; rw [List.length_map, List.length_range]
  obtain ⟨env', u, e2⟩ := laps_ok (ext := []) (A := some A) (fun o h => by cases h) (rangeD 0 (3 + min ns.length 5)) (begun ns) none none none none none none none none none none none none none none none none none (by simp [begun]; omega) (by
    rw [hlen]
    have h0 : (begun ns).turn = 0 := rfl
    have : (3 + min ns.length 5) * (8 * 2 ^ 31) ≤ 8 * (8 * 2 ^ 31) := Nat.mul_le_mul_right _ (by omega)
    omega)
  rw [List.append_nil, List.append_nil] at e2
  unfold f_law runF
  rw [law_eq]
  simp only [List.length_cons, List.length_nil, Nat.zero_add, Nat.reduceAdd, if_true, List.map, List.replicate, Nat.reduceSub, List.cons_append, List.nil_append]
  rw [seq_go (ev_set ((ev_args (ev_one (ev_var rfl))).trans e1))]
  simp only [List.set]
  have e3 : dRange1 (dCons (dBin (opAdd false) (dC (.int 3)) (dArgs fMin2 (dCons (dArgs fLen (dCons (dVar 0) (dNil))) (dCons (dC (.int 5)) (dNil))))) (dNil)) [some A, some (.ref 1), none, none, none, none, none, none, none, none, none, none, none, none, none, none, none, none, none] (begun ns).sto = some (.ok (rangeD 0 (3 + min ns.length 5)) (begun ns).sto) := by
    have := range1_eval (j := ((3 + min ns.length 5 : Nat) : Int)) (a := dCons (dBin (opAdd false) (dC (.int 3)) (dArgs fMin2 (dCons (dArgs fLen (dCons (dVar 0) (dNil))) (dCons (dC (.int 5)) (dNil))))) (dNil)) (env := [some A, some (.ref 1), none, none, none, none, none, none, none, none, none, none, none, none, none, none, none, none, none]) (st := (begun ns).sto) (st1 := (begun ns).sto)
      (ev_one ((ev_bin ev_c ((ev_args (ev_two ((ev_args (ev_one (ev_var rfl))).trans (hB _)) ev_c)).trans (hmin _))).trans ((add_ii false 3 _ _).trans (by rw [show (3 : Int) + ((min ns.length 5 : Nat) : Int) = ((3 + min ns.length 5 : Nat) : Int) by omega])))) hr
    rw [Int.toNat_natCast] at this
    exact this
  rw [seq_go ((ev_for e3).trans e2), ev_ret ev_c]
  simp only [endF, finK, Bool.false_eq_true, if_false]
  exact fin_cut (st := []) (more := u.sto) (by simp [DS.sto]) rfl rfl
end Pd
open PySem PySem.W PyProof.Rows
theorem plain_law : ∀ ns : List Int, ns.length ≤ 63 → (∀ z ∈ ns, Builtin.Int.intBits z ≤ 1048576) → Pd.f_law [.scr (ns.map Pd.D.int)] [] = some (.ok (.bl true) []) ∧ Pd.f_law [.lst (ns.map Pd.D.int)] [] = some (.ok (.bl true) []) :=
  fun ns hl _ => ⟨Pd.law70_ok rfl (fun st => by simp only [Pd.fLen, Pd.asS, Pd.asL, Pd.ok1, List.length_map]) hl, Pd.law70_ok rfl (fun st => by simp only [Pd.fLen, Pd.asS, Pd.asL, Pd.ok1, List.length_map]) hl⟩
end
section
set_option Elab.async false
set_option linter.all false
set_option maxRecDepth 100000
set_option maxHeartbeats 4000000
namespace Pd
open PySem PySem.Spec L2 LamX
open PyProof.Rows hiding St
variable {P : Program} {w : World} {C : Ct} {base : Heap}
theorem fd_law {fa c T0 CS gA : Addr} {fd fdc : FuncData} {a y n en : Str} (h : Hy P w C base) (F : LawD C "law" s_law ["script"] fa fd c) (hcf : CF P w C "_law_caught" clsN CS gA s_l_law_caught fdc a y n en) (L : LamD C base c T0 ((envOfC "law" (defScope s_law) 0 0 (.ref c)).qual ++ "<lambda>")) :
    FnOk P w C.K C.mg base (L2.CX P w) 11 fa fd ["script"] (spD C 1 f_law) :=
  law_ok F sc_law (by decide) fun A outer s H E ha => (psd_cons (psd_set (i := 1) (pd_call (fd_l_law_begun h) (pdl_cons (pd_var 0) (pdl_nil)))) (psd_cons (psd_for (pid_range1 h.z_range (pdl_cons (pd_op op_addA (sem_add false) (pd_int) (pd_callB (call_min2 rfl) sem_min2 h.z_min (pdl_cons (pd_callB call_lenA sem_len h.z_len (pdl_cons (pd_var 0) (pdl_nil))) (pdl_cons (pd_int) (pdl_nil))))) (pdl_nil))) (pgd_name 2) (psd_cons (psd_set (i := 3) (pd_call (fd_l_law_pp_holders h) (pdl_cons (pd_var 1) (pdl_cons (pd_int) (pdl_nil))))) (psd_cons (psd_asg (pd_tup (pdl_cons (pd_callB call_lenA sem_len h.z_len (pdl_cons (pd_ix (ix_any gu1) sem_ix (pd_var 3) (pd_int)) (pdl_nil))) (pdl_cons (pd_call (fd_l_law_pp_words h) (pdl_cons (pd_var 3) (pdl_nil))) (pdl_nil)))) (pgd_tup (pgsd_cons (pgd_name 4) (pgsd_cons (pgd_name 5) (pgsd_nil))))) (psd_cons (psd_set (i := 6) (pd_callTy call_tuple_of sem_tuple h.z_tuple (pdl_cons (pd_lc false [("lap", 7)] (blk_by (by rfl)) (pid_range1 h.z_range (pdl_cons (pd_var 4) (pdl_nil))) (fun _ _ _ _ _ => pgd_name 7) (fun _ _ _ _ _ => ptsd_nil) (fun _ _ _ _ _ => pd_call (fd_l_law_number h) (pdl_cons (pd_var 1) (pdl_cons (pd_int) (pdl_nil))))) (pdl_nil)))) (psd_cons (psd_set (i := 8) (pd_call (fd_l_law_pp_outcome h) (pdl_cons (pd_var 3) (pdl_cons (pd_var 6) (pdl_nil))))) (psd_cons (psd_if (pdb_not (pdb_truth (pd_call (fd_l_law_same h) (pdl_cons (pd_lst false (pdl_cons (pd_call (fd_outcome h) (pdl_cons (pd_var 3) (pdl_cons (pd_var 6) (pdl_nil)))) (pdl_cons (pd_callK [1, 0] (fd_outcome h) (pkd_cons (pd_var 6) (pkd_cons (pd_var 3) (pkd_nil))) (fun _ _ _ _ _ _ ws hl => match ws, hl with | [_, _], _ => rfl)) (pdl_nil)))) (pdl_cons (pd_lst false (pdl_cons (pd_var 8) (pdl_cons (pd_var 8) (pdl_nil)))) (pdl_nil)))))) (psd_one (psd_ret (pd_bl))) (psd_nil)) (psd_cons (psd_set (i := 9) (pd_callTy (call_dictP rfl) (sem_dict false) h.z_dict (pdl_cons (pd_listZip false h.z_list h.z_zip (pdl_cons (pd_var 5) (pdl_cons (pd_var 8) (pdl_nil)))) (pdl_nil)))) (psd_cons (psd_if (pdb_cmp (op_neA gu64) sem_ne (pd_lc false [("one", 10), ("other", 11)] (blk_by (by rfl)) (pid_it (pd_ix (ix_any gu1) sem_ix (pd_var 3) (pd_int))) (fun _ _ _ _ _ => pgd_tup (pgsd_cons (pgd_name 10) (pgsd_cons (pgd_name 11) (pgsd_nil)))) (fun _ _ _ _ _ => ptsd_one (pdb_truth (pd_call (fd_l_law_less h) (pdl_cons (pd_ix (ix_any gu1) sem_ix (pd_var 9) (pd_var 10)) (pdl_cons (pd_ix (ix_any gu1) sem_ix (pd_var 9) (pd_var 11)) (pdl_nil)))))) (fun _ _ _ _ _ => pd_int)) (pd_lst false (pdl_nil)) (nomark _)) (psd_one (psd_ret (pd_bl))) (psd_nil)) (psd_cons (psd_set (i := 12) (pd_callTy call_tuple_of sem_tuple h.z_tuple (pdl_cons (pd_lc false [("word", 13)] (blk_by (by rfl)) (pid_it (pd_var 5)) (fun _ _ _ _ _ => pgd_name 13) (fun _ _ _ _ _ => ptsd_nil) (fun _ _ _ _ _ => pd_call (fd_l_law_pp_least h) (pdl_cons (pd_lc false [("other", 11)] (blk_by (by rfl)) (pid_it (pd_var 5)) (fun _ _ _ _ _ => pgd_name 11) (fun _ _ _ _ _ => ptsd_one (pdb_truth (pd_call (fd_l_law_pp_can h) (pdl_cons (pd_var 3) (pdl_cons (pd_var 11) (pdl_cons (pd_var 13) (pdl_nil))))))) (fun _ _ _ _ _ => pd_ix (ix_any gu1) sem_ix (pd_var 9) (pd_var 11))) (pdl_nil)))) (pdl_nil)))) (psd_cons (psd_if (pdb_not (pdb_truth (pd_call (fd_l_law_same h) (pdl_cons (pd_call (fd_outcome h) (pdl_cons (pd_var 3) (pdl_cons (pd_var 12) (pdl_nil)))) (pdl_cons (pd_var 8) (pdl_nil)))))) (psd_one (psd_ret (pd_bl))) (psd_nil)) (psd_cons (psd_for (pid_it (pd_lst false (pdl_cons (pd_var 8) (pdl_cons (pd_var 6) (pdl_nil))))) (pgd_name 14) (psd_cons (psd_set (i := 15) (pd_call (fd_l_law_pp_loss h) (pdl_cons (pd_var 3) (pdl_cons (pd_var 14) (pdl_nil))))) (psd_one (psd_if (pdb_not (pdb_truth (pd_call (fd_l_law_same h) (pdl_cons (pd_lst false (pdl_cons (pd_call (fd_loss h) (pdl_cons (pd_var 3) (pdl_cons (pd_var 14) (pdl_nil)))) (pdl_cons (pd_callK [1, 0] (fd_loss h) (pkd_cons (pd_var 14) (pkd_cons (pd_var 3) (pkd_nil))) (fun _ _ _ _ _ _ ws hl => match ws, hl with | [_, _], _ => rfl)) (pdl_nil)))) (pdl_cons (pd_lst false (pdl_cons (pd_var 15) (pdl_cons (pd_var 15) (pdl_nil)))) (pdl_nil)))))) (psd_one (psd_ret (pd_bl))) (psd_nil))))) (psd_cons (psd_asg (pd_tup (pdl_cons (pd_call (fd_l_law_odd h) (pdl_cons (pd_var 1) (pdl_nil))) (pdl_cons (pd_call (fd_l_law_pick h) (pdl_cons (pd_var 1) (pdl_cons (pd_lst false (pdl_cons (pd_non) (pdl_cons (pd_callTy call_list_of (sem_list false) h.z_list (pdl_cons (pd_var 6) (pdl_nil))) (pdl_cons (pd_slice sl_all (sem_sl false) (pd_var 6) (pdo_some (pd_int)) pdo_none) (pdl_cons (pd_op op_addA (sem_add false) (pd_var 6) (pd_tup (pdl_cons (pd_tup (pdl_cons (pd_int) (pdl_cons (pd_int) (pdl_nil)))) (pdl_nil)))) (pdl_cons (pd_op op_mulA (sem_mul false) (pd_tup (pdl_cons (pd_int) (pdl_nil))) (pd_var 4)) (pdl_cons (pd_op op_mulA (sem_mul false) (pd_tup (pdl_cons (pd_tup (pdl_cons (pd_int) (pdl_cons (pd_int) (pdl_nil)))) (pdl_nil))) (pd_var 4)) (pdl_cons (pd_op op_mulA (sem_mul false) (pd_tup (pdl_cons (pd_tup (pdl_cons (pd_int) (pdl_cons (pd_int) (pdl_nil)))) (pdl_nil))) (pd_var 4)) (pdl_cons (pd_op op_mulA (sem_mul false) (pd_tup (pdl_cons (pd_bl) (pdl_nil))) (pd_var 4)) (pdl_nil)))))))))) (pdl_nil)))) (pdl_nil)))) (pgd_tup (pgsd_cons (pgd_name 16) (pgsd_cons (pgd_name 17) (pgsd_nil))))) (psd_cons (psd_for (pid_it (pd_lst false (pdl_cons (pd_glob h.f_outcome.gv) (pdl_cons (pd_glob h.f_loss.gv) (pdl_nil))))) (pgd_name 18) (psd_one (psd_if (pdb_not (pdb_truth (pd_isXD (pd_caught hcf L.tb rfl L.tm L.tu (lamS_by (by rfl)) (fun _ _ _ _ _ _ _ _ => pd_callV 18 fs_law_ask (ok_fs_law_ask h) (pdl_cons (pd_var 16) (pdl_cons (pd_var 17) (pdl_nil))))) h.z_isinstance h.c_BadHolders))) (psd_one (psd_ret (pd_bl))) (psd_nil)))) (psd_cons (psd_if (pdb_not (pdb_truth (pd_isXD (pd_caught hcf L.tb rfl L.tm L.tu (lamS_by (by rfl)) (fun _ _ _ _ _ _ _ _ => pd_call (fd_outcome h) (pdl_cons (pd_var 3) (pdl_cons (pd_var 17) (pdl_nil))))) h.z_isinstance h.c_BadPromise))) (psd_one (psd_ret (pd_bl))) (psd_nil)) (psd_one (psd_if (pdb_not (pdb_truth (pd_isXD (pd_caught hcf L.tb rfl L.tm L.tu (lamS_by (by rfl)) (fun _ _ _ _ _ _ _ _ => pd_call (fd_loss h) (pdl_cons (pd_var 3) (pdl_cons (pd_var 17) (pdl_nil))))) h.z_isinstance h.c_BadOutcome))) (psd_one (psd_ret (pd_bl))) (psd_nil))))))))))))))))) (psd_one (psd_ret (pd_bl)))))
end Pd
end
set_option Elab.async false
set_option linter.all false
set_option maxRecDepth 100000
set_option maxHeartbeats 4000000
namespace Pd
open PySem PySem.Spec L2 LamX
open PyProof.Rows hiding St
theorem end_law {l : PySem.W.OpenLaw} {w : World} {K : PySem.W.Frag} {mg : Str → Option Value} {fa : Addr} {h : Heap} {c T0 : Addr} (X : K.In h) (G : h.Ns mainGlobals mg) (hfa : mg "law" = some (.ref fa))
    (tab : h.get? T0 = some { cls := .none, data := .fields #[] }) (nT : K.lookup T0 = none) (ch : PySem.W.codeHdIn K c T0 = true) (HY : ∀ T base, Hy l.prog w ⟨K, mg, T⟩ base)
    (CFh : ∀ T, ∃ CS g fdc a y n en, CF l.prog w ⟨K, mg, T⟩ "_law_caught" clsN CS g s_l_law_caught fdc a y n en)
    (LD : ∃ f fd, PySem.W.nsIn K mainGlobals "law" = some (some (.ref f)) ∧ ∀ T, LawD ⟨K, mg, T⟩ "law" s_law ["script"] f fd c)
    (plain : ∀ ns : List Int, ns.length ≤ 63 → (∀ z ∈ ns, Builtin.Int.intBits z ≤ 1048576) → f_law [.scr (ns.map D.int)] [] = some (.ok (.bl true) []) ∧ f_law [.lst (ns.map D.int)] [] = some (.ok (.bl true) [])) :
    LawAtS l w K (L2.CX l.prog w) 11 63 "script" mg fa h := by
  obtain ⟨f, fd, e, F⟩ := LD
  have e2 := hfa.symm.trans (PySem.W.mg_of X G e)
  cases e2
  obtain ⟨CS, g, fdc, a, y, n, en, hcf⟩ := CFh [(T0, (envOfC "law" (defScope s_law) 0 0 (.ref c)).qual ++ "<lambda>")]
  refine ⟨fd, [(c, T0)], spD ⟨K, mg, [(T0, (envOfC "law" (defScope s_law) 0 0 (.ref c)).qual ++ "<lambda>")]⟩ 1 f_law, ?_, ?_, ?_, ?_, ?_, ?_⟩
  · intro p hp
    cases List.mem_singleton.mp hp
    exact tab
  · intro p hp
    cases List.mem_singleton.mp hp
    exact nT
  · intro p hp
    cases List.mem_singleton.mp hp
    exact PySem.W.codeHd_of_K X ch
  · intro s u
    obtain ⟨oc, od, kV, doc, pm, an, ct, osl, rfl, lk, hcd⟩ := (F []).ex
    exact .of_eq rfl
  · intro H a ns hl hb hT hS
    have p := plain ns hl hb
    refine ask_law (fun q hq => ?_) hS p.1 p.2
    cases List.mem_singleton.mp hq
    exact hT (c, T0) (List.mem_singleton.mpr rfl)
  · intro base _ _ hTB
    refine fd_law (HY _ base) (F _) hcf ⟨hTB (c, T0) (List.mem_singleton.mpr rfl), List.mem_singleton.mpr rfl, fun p hp _ => ?_⟩
    cases List.mem_singleton.mp hp
    rfl
theorem ld_mk {K : PySem.W.Frag} {mg : Str → Option Value} {f c : Addr} {oc : Value} {od an : Option Addr} {osl : Array (Option Value)} {kV doc pm ct : Value}
    (e : PySem.W.nsIn K mainGlobals "law" = some (some (.ref f))) (l : K.lookup f = some ⟨oc, od, .func (PySem.W.fnOf "law" "law" (defArgs s_law) (defBody s_law) (defScope s_law) .none kV doc pm an (.ref c) ct), osl⟩)
    (cd : PySem.W.codeIn K (.ref c) "law" = true) : ∃ f fd, PySem.W.nsIn K mainGlobals "law" = some (some (.ref f)) ∧ ∀ T, LawD ⟨K, mg, T⟩ "law" s_law ["script"] f fd c :=
  ⟨f, _, e, fun _ => ⟨_, _, _, _, _, _, _, _, rfl, l, cd⟩⟩
theorem caught_mk {P : Program} {w : World} {K : PySem.W.Frag} {h : Heap} {mg : Str → Option Value} {T : List (Addr × Str)} (X : K.In h) (G : h.Ns mainGlobals mg) {f CS : Addr} {oc : Value} {od an : Option Addr} {osl : Array (Option Value)} {kV doc pm cdv ct : Value}
    (e : PySem.W.nsIn K mainGlobals "_law_caught" = some (some (.ref f))) (l : K.lookup f = some ⟨oc, od, .func (PySem.W.fnOf "_law_caught" "_law_caught" (defArgs s_l_law_caught) (defBody s_l_law_caught) (defScope s_l_law_caught) .none kV doc pm an cdv ct), osl⟩)
    (c : PySem.W.codeIn K cdv "_law_caught" = true) (k : PySem.W.keepIn K (.ref f) = true) (eC : PySem.W.nsIn K mainGlobals "SwayError" = some (some (.ref CS)))
    (cls : ∀ c, c ∈ clsN → ∀ cls, mg c = some (.ref cls) → PySem.W.exmOne K (.ref cls) (.ref CS) = some true) :
    ∃ CS g fdc a y n en, CF P w ⟨K, mg, T⟩ "_law_caught" clsN CS g s_l_law_caught fdc a y n en :=
  ⟨CS, f, _, "action", "found", "error", "SwayError", {
    fu := fun_mk l c k
    m := PySem.W.mg_of X G e
    b := (fun_mk l c k).binds fun _ _ _ _ _ _ us hl => match us, hl with | [_], _ => rfl
    sc := ⟨rfl, rfl, rfl, by decide +kernel, rfl, by decide +kernel, by decide +kernel⟩
    body := ⟨_, _, _, _, _, _, _, _, _, _, _, _, _, _, _, rfl, fun X h => by unfold swapsWith; first | rfl | (simp only [h]; rfl), fun X h => by unfold swapsWith; first | rfl | (simp only [h]; rfl), fun X h => by unfold swapsWith; first | rfl | (simp only [h]; rfl)⟩
    hy := rfl
    hn := rfl
    hge := rfl
    hme := PySem.W.mg_of X G eC
    hva := by first | exact .inl rfl | exact .inr (.inl rfl) | exact .inr (.inr rfl)
    dx := by decide
    da := by decide
    ca := by decide
    de := by decide
    d1 := by decide
    d2 := by decide
    d3 := by decide
    d4 := by decide
    cls := cls }⟩
end Pd
open PySem PySem.W PyProof.Rows
set_option maxRecDepth 100000 in
set_option maxHeartbeats 0 in
theorem PySem.Challenge.cw_swaytold_k70_outcomes_and_losses_holds : PySem.Challenge.rw_swaytold_k70_outcomes_and_losses.Holds := by
  w_on; o_law; k_head; (case hw => w_witness2)
  k_fill
  refine LamX.walk_ofTs (l := PySem.Challenge.rw_swaytold_k70_outcomes_and_losses) (n := 63) (k := 11) (x := "script") (CX := fun w => L2.CX (PySem.Challenge.rw_swaytold_k70_outcomes_and_losses).prog w) rfl (by decide) rfl ⟨rfl, by decide, by decide⟩ (fun w h Y => km_in_of Y) ?F (fun _ _ _ _ _ h => by obtain ⟨_, _, _, _, _, _, _, _, _, _, _, _, h⟩ := h; exact h)
  case F =>
    intro w mg fa h Y X G hmg
    have hT8 := km_tabs_of Y
    refine' Pd.end_law X G hmg (hT8 _ (List.mem_singleton.mpr rfl)) ?nT ?ch (fun T base => ?hy) (fun T => ?cf) ?ld plain_law
    rotate_left 4
    case ld =>
      refine' Pd.ld_mk ?eL ?lL ?cL; (case eL => k_is); (case lL => k_is); (case cL => k_is)
    case nT => first | k_is | kernel_rfl
    case ch => kernel_rfl
    case cf =>
      refine' Pd.caught_mk X G ?eK ?lK ?cK ?kK ?eC ?cls; (case eK => k_is); (case lK => k_is); (case cK => k_is); (case kK => k_is); (case eC => k_is)
      case cls =>
        refine' Pd.cls_cons X G ?e_k0 ?h1_k0 ?hd_k0 ?ht_k0 ?h4_k0 ?r_k0; (case e_k0 => k_is); (case h1_k0 => k_is); (case hd_k0 => k_is); (case ht_k0 => k_is); (case h4_k0 => k_is)
        refine' Pd.cls_cons X G ?e_k1 ?h1_k1 ?hd_k1 ?ht_k1 ?h4_k1 ?r_k1; (case e_k1 => k_is); (case h1_k1 => k_is); (case hd_k1 => k_is); (case ht_k1 => k_is); (case h4_k1 => k_is)
        refine' Pd.cls_cons X G ?e_k2 ?h1_k2 ?hd_k2 ?ht_k2 ?h4_k2 ?r_k2; (case e_k2 => k_is); (case h1_k2 => k_is); (case hd_k2 => k_is); (case ht_k2 => k_is); (case h4_k2 => k_is)
        exact Pd.cls_nil
    case hy =>
      refine' { z_abs := ?z_abs, z_all := ?z_all, z_bool := ?z_bool, z_dict := ?z_dict, z_enumerate := ?z_enumerate, z_int := ?z_int, z_isinstance := ?z_isinstance, z_len := ?z_len, z_list := ?z_list, z_min := ?z_min, z_range := ?z_range, z_set := ?z_set, z_sorted := ?z_sorted, z_str := ?z_str, z_sum := ?z_sum, z_tuple := ?z_tuple, z_zip := ?z_zip, g_LEAST_HOLDERS := ?g_LEAST_HOLDERS, g_LETTERS := ?g_LETTERS, g_MOST_HOLDERS := ?g_MOST_HOLDERS, g_ONE := ?g_ONE, g_ZERO := ?g_ZERO, b_gcd := ?b_gcd, c_BadHolders := ?c_BadHolders, c_BadOutcome := ?c_BadOutcome, c_BadPromise := ?c_BadPromise, f_is_whole := ?f_is_whole, f_is_ratio := ?f_is_ratio, f_is_chance := ?f_is_chance, f_lowest := ?f_lowest, f_plus := ?f_plus, f_minus := ?f_minus, f_times := ?f_times, f_is_less := ?f_is_less, f_total := ?f_total, f_greatest_of := ?f_greatest_of, f_is_word := ?f_is_word, f_is_holder := ?f_is_holder, f_are_rows := ?f_are_rows, f_are_passes := ?f_are_passes, f_is_holders := ?f_is_holders, f_need_holders := ?f_need_holders, f_words_of := ?f_words_of, f_can_show := ?f_can_show, f_top_for := ?f_top_for, f_are_ratios := ?f_are_ratios, f_outcome := ?f_outcome, f_loss_of := ?f_loss_of, f_loss := ?f_loss, f_l_law_begun := ?f_l_law_begun, f_l_law_blended := ?f_l_law_blended, f_l_law_draw := ?f_l_law_draw, f_l_law_pick := ?f_l_law_pick, f_l_law_shuffled := ?f_l_law_shuffled, f_l_law_is_truth := ?f_l_law_is_truth, f_l_law_same := ?f_l_law_same, f_l_law_q := ?f_l_law_q, f_l_law_plus := ?f_l_law_plus, f_l_law_minus := ?f_l_law_minus, f_l_law_times := ?f_l_law_times, f_l_law_less := ?f_l_law_less, f_l_law_sum := ?f_l_law_sum, f_l_law_words := ?f_l_law_words, f_l_law_number := ?f_l_law_number, f_l_law_odd := ?f_l_law_odd, f_l_law_pp_holders := ?f_l_law_pp_holders, f_l_law_pp_closed := ?f_l_law_pp_closed, f_l_law_pp_words := ?f_l_law_pp_words, f_l_law_pp_can := ?f_l_law_pp_can, f_l_law_pp_least := ?f_l_law_pp_least, f_l_law_pp_most := ?f_l_law_pp_most, f_l_law_pp_outcome := ?f_l_law_pp_outcome, f_l_law_pp_loss := ?f_l_law_pp_loss, f_law := ?f_law }
      case z_abs => exact mg_none_of X G (by k_is)
      case z_all => exact mg_none_of X G (by k_is)
      case z_bool => exact mg_none_of X G (by k_is)
      case z_dict => exact mg_none_of X G (by k_is)
      case z_enumerate => exact mg_none_of X G (by k_is)
      case z_int => exact mg_none_of X G (by k_is)
      case z_isinstance => exact mg_none_of X G (by k_is)
      case z_len => exact mg_none_of X G (by k_is)
      case z_list => exact mg_none_of X G (by k_is)
      case z_min => exact mg_none_of X G (by k_is)
      case z_range => exact mg_none_of X G (by k_is)
      case z_set => exact mg_none_of X G (by k_is)
      case z_sorted => exact mg_none_of X G (by k_is)
      case z_str => exact mg_none_of X G (by k_is)
      case z_sum => exact mg_none_of X G (by k_is)
      case z_tuple => exact mg_none_of X G (by k_is)
      case z_zip => exact mg_none_of X G (by k_is)
      case g_LEAST_HOLDERS => refine' Pd.gvI_mk X G ?e_17; (case e_17 => k_is)
      case g_LETTERS => refine' Pd.gvS_mk X G ?e_18; (case e_18 => k_is)
      case g_MOST_HOLDERS => refine' Pd.gvI_mk X G ?e_19; (case e_19 => k_is)
      case g_ONE => refine' Pd.gvT_mk (vs := [.int 1, .int 1]) X G ?e_20 ?l_20 ?s_20 ?v_20 ?r_20; (case e_20 => k_is); (case l_20 => k_is); (case s_20 => decide); (case v_20 => exact .cons ⟨_, rfl⟩ (.cons ⟨_, rfl⟩ (.nil))); (case r_20 => exact fun ρ Z H => Pd.rvs_ints (C := ⟨_, _, _⟩) [1, 1])
      case g_ZERO => refine' Pd.gvT_mk (vs := [.int 0, .int 1]) X G ?e_21 ?l_21 ?s_21 ?v_21 ?r_21; (case e_21 => k_is); (case l_21 => k_is); (case s_21 => decide); (case v_21 => exact .cons ⟨_, rfl⟩ (.cons ⟨_, rfl⟩ (.nil))); (case r_21 => exact fun ρ Z H => Pd.rvs_ints (C := ⟨_, _, _⟩) [0, 1])
      case b_gcd => refine' mg_of X G ?e_22; (case e_22 => k_is)
      case c_BadHolders => refine' Pd.excD_mk X G ?e_23 ?h1_23 ?h2_23 ?h3_23 ?h4_23 ?hg_23 ?hk_23 ?hd_23 ?ha_23 ?hn_23 ?ht_23 ?hm_23 ?kt_23; (case e_23 => k_is); (case h1_23 => kernel_rfl); (case h2_23 => k_is); (case h3_23 => k_is); (case h4_23 => k_is); (case hg_23 => k_is); (case hk_23 => k_is); (case hd_23 => k_is); (case ha_23 => k_is); (case hn_23 => k_is); (case ht_23 => k_is); (case hm_23 => k_is); (case kt_23 => first | k_is | kit_is | rfl)
      case c_BadOutcome => refine' Pd.excD_mk X G ?e_24 ?h1_24 ?h2_24 ?h3_24 ?h4_24 ?hg_24 ?hk_24 ?hd_24 ?ha_24 ?hn_24 ?ht_24 ?hm_24 ?kt_24; (case e_24 => k_is); (case h1_24 => kernel_rfl); (case h2_24 => k_is); (case h3_24 => k_is); (case h4_24 => k_is); (case hg_24 => k_is); (case hk_24 => k_is); (case hd_24 => k_is); (case ha_24 => k_is); (case hn_24 => k_is); (case ht_24 => k_is); (case hm_24 => k_is); (case kt_24 => first | k_is | kit_is | rfl)
      case c_BadPromise => refine' Pd.excD_mk X G ?e_25 ?h1_25 ?h2_25 ?h3_25 ?h4_25 ?hg_25 ?hk_25 ?hd_25 ?ha_25 ?hn_25 ?ht_25 ?hm_25 ?kt_25; (case e_25 => k_is); (case h1_25 => kernel_rfl); (case h2_25 => k_is); (case h3_25 => k_is); (case h4_25 => k_is); (case hg_25 => k_is); (case hk_25 => k_is); (case hd_25 => k_is); (case ha_25 => k_is); (case hn_25 => k_is); (case ht_25 => k_is); (case hm_25 => k_is); (case kt_25 => first | k_is | kit_is | rfl)
      case f_is_whole => refine' Pd.defD_mk X G ?e_26 ?l_26 ?c_26 ?k_26 ?b_26; (case e_26 => k_is); (case l_26 => k_is); (case c_26 => k_is); (case k_26 => k_is); (case b_26 => exact fun _ _ _ _ _ _ us hl => match us, hl with | [_], _ => rfl)
      case f_is_ratio => refine' Pd.defD_mk X G ?e_27 ?l_27 ?c_27 ?k_27 ?b_27; (case e_27 => k_is); (case l_27 => k_is); (case c_27 => k_is); (case k_27 => k_is); (case b_27 => exact fun _ _ _ _ _ _ us hl => match us, hl with | [_], _ => rfl)
      case f_is_chance => refine' Pd.defD_mk X G ?e_28 ?l_28 ?c_28 ?k_28 ?b_28; (case e_28 => k_is); (case l_28 => k_is); (case c_28 => k_is); (case k_28 => k_is); (case b_28 => exact fun _ _ _ _ _ _ us hl => match us, hl with | [_], _ => rfl)
      case f_lowest => refine' Pd.defD_mk X G ?e_29 ?l_29 ?c_29 ?k_29 ?b_29; (case e_29 => k_is); (case l_29 => k_is); (case c_29 => k_is); (case k_29 => k_is); (case b_29 => exact fun _ _ _ _ _ _ us hl => match us, hl with | [_, _], _ => rfl)
      case f_plus => refine' Pd.defD_mk X G ?e_30 ?l_30 ?c_30 ?k_30 ?b_30; (case e_30 => k_is); (case l_30 => k_is); (case c_30 => k_is); (case k_30 => k_is); (case b_30 => exact fun _ _ _ _ _ _ us hl => match us, hl with | [_, _], _ => rfl)
      case f_minus => refine' Pd.defD_mk X G ?e_31 ?l_31 ?c_31 ?k_31 ?b_31; (case e_31 => k_is); (case l_31 => k_is); (case c_31 => k_is); (case k_31 => k_is); (case b_31 => exact fun _ _ _ _ _ _ us hl => match us, hl with | [_, _], _ => rfl)
      case f_times => refine' Pd.defD_mk X G ?e_32 ?l_32 ?c_32 ?k_32 ?b_32; (case e_32 => k_is); (case l_32 => k_is); (case c_32 => k_is); (case k_32 => k_is); (case b_32 => exact fun _ _ _ _ _ _ us hl => match us, hl with | [_, _], _ => rfl)
      case f_is_less => refine' Pd.defD_mk X G ?e_33 ?l_33 ?c_33 ?k_33 ?b_33; (case e_33 => k_is); (case l_33 => k_is); (case c_33 => k_is); (case k_33 => k_is); (case b_33 => exact fun _ _ _ _ _ _ us hl => match us, hl with | [_, _], _ => rfl)
      case f_total => refine' Pd.defD_mk X G ?e_34 ?l_34 ?c_34 ?k_34 ?b_34; (case e_34 => k_is); (case l_34 => k_is); (case c_34 => k_is); (case k_34 => k_is); (case b_34 => exact fun _ _ _ _ _ _ us hl => match us, hl with | [_], _ => rfl)
      case f_greatest_of => refine' Pd.defD_mk X G ?e_35 ?l_35 ?c_35 ?k_35 ?b_35; (case e_35 => k_is); (case l_35 => k_is); (case c_35 => k_is); (case k_35 => k_is); (case b_35 => exact fun _ _ _ _ _ _ us hl => match us, hl with | [_], _ => rfl)
      case f_is_word => refine' Pd.defD_mk X G ?e_36 ?l_36 ?c_36 ?k_36 ?b_36; (case e_36 => k_is); (case l_36 => k_is); (case c_36 => k_is); (case k_36 => k_is); (case b_36 => exact fun _ _ _ _ _ _ us hl => match us, hl with | [_], _ => rfl)
      case f_is_holder => refine' Pd.defD_mk X G ?e_37 ?l_37 ?c_37 ?k_37 ?b_37; (case e_37 => k_is); (case l_37 => k_is); (case c_37 => k_is); (case k_37 => k_is); (case b_37 => exact fun _ _ _ _ _ _ us hl => match us, hl with | [_], _ => rfl)
      case f_are_rows => refine' Pd.defD_mk X G ?e_38 ?l_38 ?c_38 ?k_38 ?b_38; (case e_38 => k_is); (case l_38 => k_is); (case c_38 => k_is); (case k_38 => k_is); (case b_38 => exact fun _ _ _ _ _ _ us hl => match us, hl with | [_], _ => rfl)
      case f_are_passes => refine' Pd.defD_mk X G ?e_39 ?l_39 ?c_39 ?k_39 ?b_39; (case e_39 => k_is); (case l_39 => k_is); (case c_39 => k_is); (case k_39 => k_is); (case b_39 => exact fun _ _ _ _ _ _ us hl => match us, hl with | [_, _], _ => rfl)
      case f_is_holders => refine' Pd.defD_mk X G ?e_40 ?l_40 ?c_40 ?k_40 ?b_40; (case e_40 => k_is); (case l_40 => k_is); (case c_40 => k_is); (case k_40 => k_is); (case b_40 => exact fun _ _ _ _ _ _ us hl => match us, hl with | [_], _ => rfl)
      case f_need_holders => refine' Pd.defD_mk X G ?e_41 ?l_41 ?c_41 ?k_41 ?b_41; (case e_41 => k_is); (case l_41 => k_is); (case c_41 => k_is); (case k_41 => k_is); (case b_41 => exact fun _ _ _ _ _ _ us hl => match us, hl with | [_], _ => rfl)
      case f_words_of => refine' Pd.defD_mk X G ?e_42 ?l_42 ?c_42 ?k_42 ?b_42; (case e_42 => k_is); (case l_42 => k_is); (case c_42 => k_is); (case k_42 => k_is); (case b_42 => exact fun _ _ _ _ _ _ us hl => match us, hl with | [_], _ => rfl)
      case f_can_show => refine' Pd.defD_mk X G ?e_43 ?l_43 ?c_43 ?k_43 ?b_43; (case e_43 => k_is); (case l_43 => k_is); (case c_43 => k_is); (case k_43 => k_is); (case b_43 => exact fun _ _ _ _ _ _ us hl => match us, hl with | [_, _, _], _ => rfl)
      case f_top_for => refine' Pd.defD_mk X G ?e_44 ?l_44 ?c_44 ?k_44 ?b_44; (case e_44 => k_is); (case l_44 => k_is); (case c_44 => k_is); (case k_44 => k_is); (case b_44 => exact fun _ _ _ _ _ _ us hl => match us, hl with | [_, _, _], _ => rfl)
      case f_are_ratios => refine' Pd.defD_mk X G ?e_45 ?l_45 ?c_45 ?k_45 ?b_45; (case e_45 => k_is); (case l_45 => k_is); (case c_45 => k_is); (case k_45 => k_is); (case b_45 => exact fun _ _ _ _ _ _ us hl => match us, hl with | [_, _], _ => rfl)
      case f_outcome => refine' Pd.defD_mk X G ?e_46 ?l_46 ?c_46 ?k_46 ?b_46; (case e_46 => k_is); (case l_46 => k_is); (case c_46 => k_is); (case k_46 => k_is); (case b_46 => exact fun _ _ _ _ _ _ us hl => match us, hl with | [_, _], _ => rfl)
      case f_loss_of => refine' Pd.defD_mk X G ?e_47 ?l_47 ?c_47 ?k_47 ?b_47; (case e_47 => k_is); (case l_47 => k_is); (case c_47 => k_is); (case k_47 => k_is); (case b_47 => exact fun _ _ _ _ _ _ us hl => match us, hl with | [_, _], _ => rfl)
      case f_loss => refine' Pd.defD_mk X G ?e_48 ?l_48 ?c_48 ?k_48 ?b_48; (case e_48 => k_is); (case l_48 => k_is); (case c_48 => k_is); (case k_48 => k_is); (case b_48 => exact fun _ _ _ _ _ _ us hl => match us, hl with | [_, _], _ => rfl)
      case f_l_law_begun => refine' Pd.defD_mk X G ?e_49 ?l_49 ?c_49 ?k_49 ?b_49; (case e_49 => k_is); (case l_49 => k_is); (case c_49 => k_is); (case k_49 => k_is); (case b_49 => exact fun _ _ _ _ _ _ us hl => match us, hl with | [_], _ => rfl)
      case f_l_law_blended => refine' Pd.defD_mk X G ?e_50 ?l_50 ?c_50 ?k_50 ?b_50; (case e_50 => k_is); (case l_50 => k_is); (case c_50 => k_is); (case k_50 => k_is); (case b_50 => exact fun _ _ _ _ _ _ us hl => match us, hl with | [_], _ => rfl)
      case f_l_law_draw => refine' Pd.defD_mk X G ?e_51 ?l_51 ?c_51 ?k_51 ?b_51; (case e_51 => k_is); (case l_51 => k_is); (case c_51 => k_is); (case k_51 => k_is); (case b_51 => exact fun _ _ _ _ _ _ us hl => match us, hl with | [_, _], _ => rfl)
      case f_l_law_pick => refine' Pd.defD_mk X G ?e_52 ?l_52 ?c_52 ?k_52 ?b_52; (case e_52 => k_is); (case l_52 => k_is); (case c_52 => k_is); (case k_52 => k_is); (case b_52 => exact fun _ _ _ _ _ _ us hl => match us, hl with | [_, _], _ => rfl)
      case f_l_law_shuffled => refine' Pd.defD_mk X G ?e_53 ?l_53 ?c_53 ?k_53 ?b_53; (case e_53 => k_is); (case l_53 => k_is); (case c_53 => k_is); (case k_53 => k_is); (case b_53 => exact fun _ _ _ _ _ _ us hl => match us, hl with | [_, _], _ => rfl)
      case f_l_law_is_truth => refine' Pd.defD_mk X G ?e_54 ?l_54 ?c_54 ?k_54 ?b_54; (case e_54 => k_is); (case l_54 => k_is); (case c_54 => k_is); (case k_54 => k_is); (case b_54 => exact fun _ _ _ _ _ _ us hl => match us, hl with | [_, _], _ => rfl)
      case f_l_law_same => refine' Pd.defD_mk X G ?e_55 ?l_55 ?c_55 ?k_55 ?b_55; (case e_55 => k_is); (case l_55 => k_is); (case c_55 => k_is); (case k_55 => k_is); (case b_55 => exact fun _ _ _ _ _ _ us hl => match us, hl with | [_, _], _ => rfl)
      case f_l_law_q => refine' Pd.defD_mk X G ?e_56 ?l_56 ?c_56 ?k_56 ?b_56; (case e_56 => k_is); (case l_56 => k_is); (case c_56 => k_is); (case k_56 => k_is); (case b_56 => exact fun _ _ _ _ _ _ us hl => match us, hl with | [_, _], _ => rfl)
      case f_l_law_plus => refine' Pd.defD_mk X G ?e_57 ?l_57 ?c_57 ?k_57 ?b_57; (case e_57 => k_is); (case l_57 => k_is); (case c_57 => k_is); (case k_57 => k_is); (case b_57 => exact fun _ _ _ _ _ _ us hl => match us, hl with | [_, _], _ => rfl)
      case f_l_law_minus => refine' Pd.defD_mk X G ?e_58 ?l_58 ?c_58 ?k_58 ?b_58; (case e_58 => k_is); (case l_58 => k_is); (case c_58 => k_is); (case k_58 => k_is); (case b_58 => exact fun _ _ _ _ _ _ us hl => match us, hl with | [_, _], _ => rfl)
      case f_l_law_times => refine' Pd.defD_mk X G ?e_59 ?l_59 ?c_59 ?k_59 ?b_59; (case e_59 => k_is); (case l_59 => k_is); (case c_59 => k_is); (case k_59 => k_is); (case b_59 => exact fun _ _ _ _ _ _ us hl => match us, hl with | [_, _], _ => rfl)
      case f_l_law_less => refine' Pd.defD_mk X G ?e_60 ?l_60 ?c_60 ?k_60 ?b_60; (case e_60 => k_is); (case l_60 => k_is); (case c_60 => k_is); (case k_60 => k_is); (case b_60 => exact fun _ _ _ _ _ _ us hl => match us, hl with | [_, _], _ => rfl)
      case f_l_law_sum => refine' Pd.defD_mk X G ?e_61 ?l_61 ?c_61 ?k_61 ?b_61; (case e_61 => k_is); (case l_61 => k_is); (case c_61 => k_is); (case k_61 => k_is); (case b_61 => exact fun _ _ _ _ _ _ us hl => match us, hl with | [_], _ => rfl)
      case f_l_law_words => refine' Pd.defD_mk X G ?e_62 ?l_62 ?c_62 ?k_62 ?b_62; (case e_62 => k_is); (case l_62 => k_is); (case c_62 => k_is); (case k_62 => k_is); (case b_62 => exact fun _ _ _ _ _ _ us hl => match us, hl with | [_, _], _ => rfl)
      case f_l_law_number => refine' Pd.defD_mk X G ?e_63 ?l_63 ?c_63 ?k_63 ?b_63; (case e_63 => k_is); (case l_63 => k_is); (case c_63 => k_is); (case k_63 => k_is); (case b_63 => exact fun _ _ _ _ _ _ us hl => match us, hl with | [_, _], _ => rfl)
      case f_l_law_odd => refine' Pd.defD_mk X G ?e_64 ?l_64 ?c_64 ?k_64 ?b_64; (case e_64 => k_is); (case l_64 => k_is); (case c_64 => k_is); (case k_64 => k_is); (case b_64 => exact fun _ _ _ _ _ _ us hl => match us, hl with | [_], _ => rfl)
      case f_l_law_pp_holders => refine' Pd.defD_mk X G ?e_65 ?l_65 ?c_65 ?k_65 ?b_65; (case e_65 => k_is); (case l_65 => k_is); (case c_65 => k_is); (case k_65 => k_is); (case b_65 => exact fun _ _ _ _ _ _ us hl => match us, hl with | [_, _], _ => rfl)
      case f_l_law_pp_closed => refine' Pd.defD_mk X G ?e_66 ?l_66 ?c_66 ?k_66 ?b_66; (case e_66 => k_is); (case l_66 => k_is); (case c_66 => k_is); (case k_66 => k_is); (case b_66 => exact fun _ _ _ _ _ _ us hl => match us, hl with | [_, _], _ => rfl)
      case f_l_law_pp_words => refine' Pd.defD_mk X G ?e_67 ?l_67 ?c_67 ?k_67 ?b_67; (case e_67 => k_is); (case l_67 => k_is); (case c_67 => k_is); (case k_67 => k_is); (case b_67 => exact fun _ _ _ _ _ _ us hl => match us, hl with | [_], _ => rfl)
      case f_l_law_pp_can => refine' Pd.defD_mk X G ?e_68 ?l_68 ?c_68 ?k_68 ?b_68; (case e_68 => k_is); (case l_68 => k_is); (case c_68 => k_is); (case k_68 => k_is); (case b_68 => exact fun _ _ _ _ _ _ us hl => match us, hl with | [_, _, _], _ => rfl)
      case f_l_law_pp_least => refine' Pd.defD_mk X G ?e_69 ?l_69 ?c_69 ?k_69 ?b_69; (case e_69 => k_is); (case l_69 => k_is); (case c_69 => k_is); (case k_69 => k_is); (case b_69 => exact fun _ _ _ _ _ _ us hl => match us, hl with | [_], _ => rfl)
      case f_l_law_pp_most => refine' Pd.defD_mk X G ?e_70 ?l_70 ?c_70 ?k_70 ?b_70; (case e_70 => k_is); (case l_70 => k_is); (case c_70 => k_is); (case k_70 => k_is); (case b_70 => exact fun _ _ _ _ _ _ us hl => match us, hl with | [_], _ => rfl)
      case f_l_law_pp_outcome => refine' Pd.defD_mk X G ?e_71 ?l_71 ?c_71 ?k_71 ?b_71; (case e_71 => k_is); (case l_71 => k_is); (case c_71 => k_is); (case k_71 => k_is); (case b_71 => exact fun _ _ _ _ _ _ us hl => match us, hl with | [_, _], _ => rfl)
      case f_l_law_pp_loss => refine' Pd.defD_mk X G ?e_72 ?l_72 ?c_72 ?k_72 ?b_72; (case e_72 => k_is); (case l_72 => k_is); (case c_72 => k_is); (case k_72 => k_is); (case b_72 => exact fun _ _ _ _ _ _ us hl => match us, hl with | [_, _], _ => rfl)
      case f_law => refine' Pd.defD_mk X G ?e_73 ?l_73 ?c_73 ?k_73 ?b_73; (case e_73 => k_is); (case l_73 => k_is); (case c_73 => k_is); (case k_73 => k_is); (case b_73 => exact fun _ _ _ _ _ _ us hl => match us, hl with | [_], _ => rfl)
